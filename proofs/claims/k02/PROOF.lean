import PyProof.Rows.All
import Wide.All
import OpenK.AllK
import Wide.FinOn
import HandS.ForMost
import HandS.Exc
import HandS.TryOnly
import HandS.ExcOwn
import HandS.WordsExc
import HandS.CallSlots
import HandS.Defaults
import HandS.Flow
import HandS.Walk
import HandS.Wide
import HandS.IsInst
import HandS.MakeKw
import HandS.Lambda
import HandS.ListEq
import HandS.DictEq
import HandS.RaiseMore
import PyProof.ReprRoads
import HandS.TupAny
import HandS.WordsDict
import HandS.Text
import HandS.WideBits
import HandS.Comp
import HandS.OwnEq
import HandS.Ends
import HandS.Words
import HandS.EndTab
import HandS.ExcInit
import HandS.Nested
import HandS.ExcIs
import HandS.ExcField
import KE.KExcSuper
import HandS.Property
import HandS.Gcd
import HandS.FStr
import HandS.Small
import KE.KCallOwn
import KE.KNest
import PySem.Challenge.RW_creditturns_k02_ratios_made
set_option Elab.async false
set_option linter.all false
set_option maxRecDepth 100000
set_option maxHeartbeats 0
/-! EL0 (v2): a layer of plain data over the abstract heap: D, what bears it (Rep), what can change (Cell, Z), a frame's state (S, Rel). -/
namespace DL
open PySem L2

inductive D where
  | non | bl (b : Bool) | int (i : Int) | str (s : Str)
  | tup (xs : List D) | lst (xs : List D) | dct (kvs : List (Key × D))
  | ins (C : Addr) (fs : List (Str × D))
  | exc (cls : Value) (fs : List (Str × D))
  | ref (a : Addr) | ty (n : String) | pen | obj (o : HO)

/-- G grows to G' -/
def Le (G G' : Hp) : Prop := ∀ a o, G a = some o → G' a = some o
theorem Le.refl (G : Hp) : Le G G := fun _ _ h => h
theorem Le.trans {G G1 G2 : Hp} (a : Le G G1) (b : Le G1 G2) : Le G G2 := fun x o h => b x o (a x o h)
theorem Le.new {G : Hp} {p : Addr} {o : HO} (h : G p = none) : Le G (upd G p o) := fun a u e => by
  rw [upd_ne (ne_of_none e h)]; exact e
theorem le_rd {G G' : Hp} {a : Addr} {u : HO} (e : Le G G') (h : Rd G a u) : Rd G' a u := by
  rcases h with h | ⟨o, h⟩
  · exact .inl (e a _ h)
  · exact .inr ⟨o, e a _ h⟩
theorem le_l {K : PySem.W.Frag} {G G' : Hp} {a : Addr} {xs : List V} (e : Le G G') (h : SqL K G a xs) : SqL K G' a xs := by
  rcases h with h | h
  · exact .inl (le_rd e h)
  · exact .inr h
theorem le_t {K : PySem.W.Frag} {G G' : Hp} {a : Addr} {xs : List V} (e : Le G G') (h : SqT K G a xs) : SqT K G' a xs := by
  rcases h with h | h
  · exact .inl (le_rd e h)
  · exact .inr h

/-- at a: an exception object of the class cls with the dict d -/
def ExV (cls : Value) (d : Option Addr) (a : Addr) : HO := .ext fun h => ∃ (oe : Obj) (vs : Array Value), h.get? a = some oe ∧ Zc cls d oe ∧ oe.data = .fields vs

mutual
/-- v bears d in the part G of the heap that never changes -/
inductive Rep (K : PySem.W.Frag) (p0 : Addr) (G : Hp) : V → D → Prop
  | non : Rep K p0 G .non .non
  | bl (b : Bool) : Rep K p0 G (.bl b) (.bl b)
  | int (i : Int) : Rep K p0 G (.int i) (.int i)
  | str (s : Str) : Rep K p0 G (.str s) (.str s)
  | ref (a : Addr) : Rep K p0 G (.ref a) (.ref a)
  | ty (n : String) : Rep K p0 G (.ty n) (.ty n)
  | pen : Rep K p0 G (.ref p0) .pen
  | obj {a : Addr} {o : HO} : G a = some o → Rep K p0 G (.ref a) (.obj o)
  | lst {a : Addr} {vs : List V} {xs : List D} : Rd G a (.lst vs) → RepL K p0 G vs xs → Rep K p0 G (.ref a) (.lst xs)
  | tup {a : Addr} {vs : List V} {xs : List D} : SqT K G a vs → RepL K p0 G vs xs → Rep K p0 G (.ref a) (.tup xs)
  | dct {a : Addr} {vs : List (Key × V)} {xs : List (Key × D)} : Rd G a (.dK vs) → RepK K p0 G vs xs → Rep K p0 G (.ref a) (.dct xs)
  | ins {a C dx : Addr} {vs : List (Str × V)} {xs : List (Str × D)} : G a = some (.ins C dx vs) → RepF K p0 G vs xs → Rep K p0 G (.ref a) (.ins C xs)
  | exc0 {a : Addr} {cls : Value} : G a = some (ExV cls none a) → Rep K p0 G (.ref a) (.exc cls [])
  | exc {a d : Addr} {cls : Value} {vs : List (Str × V)} {xs : List (Str × D)} : G a = some (ExV cls (some d) a) → G d = some (.xd vs) → RepF K p0 G vs xs → Rep K p0 G (.ref a) (.exc cls xs)
inductive RepL (K : PySem.W.Frag) (p0 : Addr) (G : Hp) : List V → List D → Prop
  | nil : RepL K p0 G [] []
  | cons {v : V} {d : D} {vs : List V} {ds : List D} : Rep K p0 G v d → RepL K p0 G vs ds → RepL K p0 G (v :: vs) (d :: ds)
inductive RepK (K : PySem.W.Frag) (p0 : Addr) (G : Hp) : List (Key × V) → List (Key × D) → Prop
  | nil : RepK K p0 G [] []
  | cons {k : Key} {v : V} {d : D} {vs : List (Key × V)} {ds : List (Key × D)} : Rep K p0 G v d → RepK K p0 G vs ds → RepK K p0 G ((k, v) :: vs) ((k, d) :: ds)
inductive RepF (K : PySem.W.Frag) (p0 : Addr) (G : Hp) : List (Str × V) → List (Str × D) → Prop
  | nil : RepF K p0 G [] []
  | cons {k : Str} {v : V} {d : D} {vs : List (Str × V)} {ds : List (Str × D)} : Rep K p0 G v d → RepF K p0 G vs ds → RepF K p0 G ((k, v) :: vs) ((k, d) :: ds)
end

section
variable {K : PySem.W.Frag} {p0 : Addr} {G G' : Hp}
theorem Rep.mono (e : Le G G') {v : V} {d : D} (h : Rep K p0 G v d) : Rep K p0 G' v d :=
  Rep.rec (motive_1 := fun v d _ => Rep K p0 G' v d) (motive_2 := fun v d _ => RepL K p0 G' v d) (motive_3 := fun v d _ => RepK K p0 G' v d) (motive_4 := fun v d _ => RepF K p0 G' v d)
    .non .bl .int .str .ref .ty .pen (fun h => .obj (e _ _ h)) (fun h _ ih => .lst (le_rd e h) ih) (fun h _ ih => .tup (le_t e h) ih) (fun h _ ih => .dct (le_rd e h) ih) (fun h _ ih => .ins (e _ _ h) ih) (fun h => .exc0 (e _ _ h)) (fun h h2 _ ih => .exc (e _ _ h) (e _ _ h2) ih)
    .nil (fun _ _ a b => .cons a b) .nil (fun _ _ a b => .cons a b) .nil (fun _ _ a b => .cons a b) h
theorem RepL.mono (e : Le G G') : ∀ {v : List V} {d : List D}, RepL K p0 G v d → RepL K p0 G' v d
  | _, _, .nil => .nil
  | _, _, .cons a b => .cons (a.mono e) (RepL.mono e b)
theorem RepK.mono (e : Le G G') : ∀ {v : List (Key × V)} {d : List (Key × D)}, RepK K p0 G v d → RepK K p0 G' v d
  | _, _, .nil => .nil
  | _, _, .cons a b => .cons (a.mono e) (RepK.mono e b)
theorem RepF.mono (e : Le G G') : ∀ {v : List (Str × V)} {d : List (Str × D)}, RepF K p0 G v d → RepF K p0 G' v d
  | _, _, .nil => .nil
  | _, _, .cons a b => .cons (a.mono e) (RepF.mono e b)
theorem RepL.len : ∀ {v : List V} {d : List D}, RepL K p0 G v d → v.length = d.length
  | _, _, .nil => rfl
  | _, _, .cons _ b => congrArg Nat.succ b.len
theorem RepL.get : ∀ {v : List V} {d : List D} {i : Nat} {x : D}, RepL K p0 G v d → d[i]? = some x → ∃ u, v[i]? = some u ∧ Rep K p0 G u x
  | _, _, i, x, .nil, h => by simp at h
  | _, _, 0, x, .cons a b, h => by simp at h; subst h; exact ⟨_, rfl, a⟩
  | _, _, i + 1, x, .cons a b, h => by
    obtain ⟨u, h1, h2⟩ := RepL.get (i := i) b (by simpa using h)
    exact ⟨u, by simpa using h1, h2⟩
theorem RepL.app : ∀ {v w : List V} {d e : List D}, RepL K p0 G v d → RepL K p0 G w e → RepL K p0 G (v ++ w) (d ++ e)
  | _, _, _, _, .nil, h => h
  | _, _, _, _, .cons a b, h => .cons a (RepL.app b h)
theorem RepL.drop : ∀ (n : Nat) {v : List V} {d : List D}, RepL K p0 G v d → RepL K p0 G (v.drop n) (d.drop n)
  | 0, _, _, h => h
  | n + 1, _, _, .nil => .nil
  | n + 1, _, _, .cons _ b => RepL.drop n b
theorem RepL.take : ∀ (n : Nat) {v : List V} {d : List D}, RepL K p0 G v d → RepL K p0 G (v.take n) (d.take n)
  | 0, _, _, _ => .nil
  | n + 1, _, _, .nil => .nil
  | n + 1, _, _, .cons a b => .cons a (RepL.take n b)
theorem RepF.look {f : Str} {x : D} : ∀ {v : List (Str × V)} {d : List (Str × D)}, RepF K p0 G v d → d.lookup f = some x → ∃ u, v.lookup f = some u ∧ Rep K p0 G u x
  | _, _, .nil, h => by simp at h
  | _, _, .cons (k := k) a b, h => by
    rw [List.lookup_cons] at h ⊢
    cases e : f == k with
    | true => rw [e] at h; cases h; exact ⟨_, rfl, a⟩
    | false => rw [e] at h; exact RepF.look b h
theorem RepF.look_none {f : Str} : ∀ {v : List (Str × V)} {d : List (Str × D)}, RepF K p0 G v d → d.lookup f = none → v.lookup f = none
  | _, _, .nil, h => rfl
  | _, _, .cons (k := k) a b, h => by
    rw [List.lookup_cons] at h ⊢
    cases e : f == k with
    | true => rw [e] at h; cases h
    | false => rw [e] at h; exact RepF.look_none b h
theorem RepF.len : ∀ {v : List (Str × V)} {d : List (Str × D)}, RepF K p0 G v d → v.length = d.length
  | _, _, .nil => rfl
  | _, _, .cons _ b => congrArg Nat.succ b.len
end

/-! ### what can change -/
/-- an object that may change and that all may know: a list, a dict, an instance -/
inductive Cell where
  | lst (xs : List D) | dct (kvs : List (Key × D)) | ins (C : Addr) (fs : List (Str × D))
/-- the fuel of the pen; the objects that are known to be there and may change -/
structure Z where
  fu : Nat
  ms : Addr → Option Cell
/-- what stands in a slot: nothing that is known; data; a list, a dict, an instance that this frame owns -/
inductive Sl where
  | un | d (x : D) | own (xs : List D) | ownK (kvs : List (Key × D)) | self (C : Addr) (fs : List (Str × D))
structure S where
  sl : List Sl
  z : Z
/-- fixed things: the written part, the pen's place and cells, the tables of code objects -/
structure Wd where
  P : Program
  w : World
  K : PySem.W.Frag
  mg : Str → Option Value
  base : Heap
  p0 : Addr
  cs : List Int
  tb : List (Addr × Str)
/-- a frame: what stood at its entry; mu: what else may change -/
structure Fr extends Wd where
  G0 : Hp
  H0 : Hp
  z0 : Z
  mu : List Addr

/-- the pen: its cells never change -/
def PenOk (K : PySem.W.Frag) (cs0 : List Int) (G H : Hp) (p0 : Addr) (n : Nat) : Prop :=
  ∃ (c : Addr) (b : Nat) (r : Int) (cs : List Int), H p0 = some (.lst [.ref c, .int (b : Int), .int r]) ∧ (Rd G c (.lst (cs.map V.int)) ∧ cs = cs0) ∧ b + n ≤ 1000000 ∧ cs.length ≤ 63
theorem PenOk.mono {K : PySem.W.Frag} {cs : List Int} {G G' H H' : Hp} {p0 : Addr} {n : Nat} (p : PenOk K cs G H p0 n) (e : Le G G') (h : H' p0 = H p0) : PenOk K cs G' H' p0 n := by
  obtain ⟨c, b, r, cs, h1, h2, h3, h4⟩ := p
  exact ⟨c, b, r, cs, h.trans h1, ⟨le_rd e h2.1, h2.2⟩, h3, h4⟩
theorem PenOk.less {K : PySem.W.Frag} {cs : List Int} {G H : Hp} {p0 : Addr} {n m : Nat} (p : PenOk K cs G H p0 n) (h : m ≤ n) : PenOk K cs G H p0 m := by
  obtain ⟨c, b, r, cs, h1, h2, h3, h4⟩ := p
  exact ⟨c, b, r, cs, h1, h2, by omega, h4⟩
def CellOk (c : Wd) (G H : Hp) (a : Addr) : Cell → Prop
  | .lst xs => ∃ vs, H a = some (.lst vs) ∧ RepL c.K c.p0 G vs xs
  | .dct xs => ∃ vs, H a = some (.dK vs) ∧ RepK c.K c.p0 G vs xs
  | .ins C fs => ∃ dx vs, H a = some (.ins C dx vs) ∧ RepF c.K c.p0 G vs fs
theorem CellOk.at {c : Wd} {G H : Hp} {a : Addr} {cl : Cell} (h : CellOk c G H a cl) : ∃ o, H a = some o := by
  cases cl with
  | lst xs => obtain ⟨vs, h, _⟩ := h; exact ⟨_, h⟩
  | dct xs => obtain ⟨vs, h, _⟩ := h; exact ⟨_, h⟩
  | ins C fs => obtain ⟨dx, vs, h, _⟩ := h; exact ⟨_, h⟩
theorem CellOk.mono {c : Wd} {G H G' H' : Hp} {a : Addr} {cl : Cell} (h : CellOk c G H a cl) (g : Le G G') (e : H' a = H a) : CellOk c G' H' a cl := by
  cases cl with
  | lst xs => obtain ⟨vs, h, r⟩ := h; exact ⟨_, e.trans h, r.mono g⟩
  | dct xs => obtain ⟨vs, h, r⟩ := h; exact ⟨_, e.trans h, r.mono g⟩
  | ins C fs => obtain ⟨dx, vs, h, r⟩ := h; exact ⟨_, _, e.trans h, r.mono g⟩
/-- what may change at the state z, from any frame: the pen, the objects of ms, the tables -/
def Spc (c : Wd) (z : Z) (a : Addr) : Prop := a = c.p0 ∨ z.ms a ≠ none ∨ a ∈ c.tb.map (·.1)
/-- the state as it stands -/
structure StOk (c : Wd) (G H : Hp) (z : Z) : Prop where
  le : Le G H
  pn : PenOk c.K c.cs G H c.p0 z.fu
  tb : LamX.Tabs c.tb H
  sg : ∀ a, Spc c z a → G a = none
  ms : ∀ a cl, z.ms a = some cl → CellOk c G H a cl ∧ a ≠ c.p0 ∧ a ∉ c.tb.map (·.1)
  nt : ∀ a ps, G a ≠ some (.tbl ps)
/-- from (G, H) on to (G', H'); S: what may change there, S': what may change now -/
structure Go (S S' : Addr → Prop) (G H G' H' : Hp) : Prop where
  g : Le G G'
  h : ∀ a o, H a = some o → ¬ S a → H' a = some o
  ht : ∀ a o, H a = some o → ∃ u, H' a = some u
  nw : ∀ a o, G' a = some o → G a = some o ∨ H a = none ∨ S a
  ks : ∀ a, S' a → S a ∨ H a = none
theorem Go.refl {S : Addr → Prop} {G H : Hp} : Go S S G H G H := ⟨Le.refl _, fun _ _ h _ => h, fun _ o h => ⟨o, h⟩, fun _ _ h => .inl h, fun _ h => .inl h⟩
theorem Go.old {S S' : Addr → Prop} {G H G' H' : Hp} (a : Go S S' G H G' H') {x : Addr} (e : H' x = none) : H x = none := by
  cases q : H x with
  | none => rfl
  | some o => obtain ⟨u, hu⟩ := a.ht x o q; rw [e] at hu; cases hu
theorem Go.trans {S S1 S2 : Addr → Prop} {G H G1 H1 G2 H2 : Hp} (a : Go S S1 G H G1 H1) (b : Go S1 S2 G1 H1 G2 H2) : Go S S2 G H G2 H2 := by
  refine ⟨a.g.trans b.g, fun x o h n => b.h x o (a.h x o h n) fun s => ?_, fun x o h => ?_, fun x o h => ?_, fun x h => ?_⟩
  · rcases a.ks x s with y | y
    · exact n y
    · rw [h] at y; cases y
  · obtain ⟨u, hu⟩ := a.ht x o h; exact b.ht x u hu
  · rcases b.nw x o h with y | y | y
    · exact a.nw x o y
    · exact .inr (.inl (a.old y))
    · rcases a.ks x y with q | q
      · exact .inr (.inr q)
      · exact .inr (.inl q)
  · rcases b.ks x h with y | y
    · exact a.ks x y
    · exact .inr (a.old y)
/-- fewer may change at first, more later are not told -/
theorem Go.imp {S S' T T' : Addr → Prop} {G H G' H' : Hp} (a : Go S S' G H G' H') (h1 : ∀ x, S x → T x) (h2 : ∀ x, T' x → S' x ∨ T x ∨ H x = none) : Go T T' G H G' H' :=
  ⟨a.g, fun x o h n => a.h x o h fun s => n (h1 x s), a.ht, fun x o h => (a.nw x o h).imp id (fun y => y.imp id (h1 x)), fun x h => by
    rcases h2 x h with y | y | y
    · exact (a.ks x y).imp (h1 x) id
    · exact .inl y
    · exact .inr y⟩
/-- a slot's value -/
def at_ (σ : L2.St) (i : Nat) : Option V := (σ[i]?).join
theorem at_some {σ : L2.St} {i : Nat} {v : V} (h : at_ σ i = some v) : σ[i]? = some (some v) := by
  unfold at_ at h
  cases e : σ[i]? with
  | none => rw [e] at h; cases h
  | some o =>
    rw [e] at h
    cases o with
    | none => cases h
    | some u => cases h; rfl
theorem at_set {σ : L2.St} {i j : Nat} {o : Option V} (hi : i < σ.length) : at_ (σ.set i o) j = if j = i then o else at_ σ j := by
  unfold at_
  by_cases e : j = i
  · subst e; rw [if_pos rfl, List.getElem?_set_self hi]; rfl
  · rw [if_neg e, List.getElem?_set_ne (Ne.symm e)]
def isOwn : Sl → Bool
  | .own _ => true
  | .ownK _ => true
  | .self _ _ => true
  | _ => false
/-- what the frame's slots own -/
def Own (δ : S) (σ : L2.St) (a : Addr) : Prop := ∃ i s, δ.sl[i]? = some s ∧ isOwn s = true ∧ at_ σ i = some (.ref a)
/-- what may change, seen from the frame -/
def Spf (c : Wd) (δ : S) (σ : L2.St) (a : Addr) : Prop := Spc c δ.z a ∨ Own δ σ a
def SlOk (c : Wd) (mu : List Addr) (G H : Hp) (z : Z) (ov : Option V) : Sl → Prop
  | .un => True
  | .d x => ∃ v, ov = some v ∧ Rep c.K c.p0 G v x
  | .own xs => ∃ a vs, ov = some (.ref a) ∧ H a = some (.lst vs) ∧ G a = none ∧ ¬ Spc c z a ∧ RepL c.K c.p0 G vs xs
  | .ownK xs => ∃ a vs, ov = some (.ref a) ∧ H a = some (.dK vs) ∧ G a = none ∧ ¬ Spc c z a ∧ RepK c.K c.p0 G vs xs
  | .self C fs => ∃ a dx vs, ov = some (.ref a) ∧ H a = some (.ins C dx vs) ∧ G a = none ∧ ¬ Spc c z a ∧ a ∈ mu ∧ RepF c.K c.p0 G vs fs
/-- the frame's state as it stands -/
structure Rel (c : Fr) (G H : Hp) (σ : L2.St) (δ : S) : Prop where
  st : StOk c.toWd G H δ.z
  go : Go (fun a => Spc c.toWd c.z0 a ∨ a ∈ c.mu) (Spf c.toWd δ σ) c.G0 c.H0 G H
  len : σ.length = δ.sl.length
  sl : ∀ i s, δ.sl[i]? = some s → SlOk c.toWd c.mu G H δ.z (at_ σ i) s
  uq : ∀ i j a s t, i ≠ j → δ.sl[i]? = some s → δ.sl[j]? = some t → isOwn s = true → isOwn t = true → at_ σ i = some (.ref a) → at_ σ j = some (.ref a) → False
/-- a step: new things, changes of what may change; the new state stands -/
structure Post (c : Wd) (z : Z) (G H G' H' : Hp) (z' : Z) : Prop where
  st : StOk c G' H' z'
  go : Go (Spc c z) (Spc c z') G H G' H'
theorem SlOk.own_at {c : Wd} {mu : List Addr} {G H : Hp} {z : Z} {ov : Option V} {s : Sl} (h : SlOk c mu G H z ov s) (o : isOwn s = true) : ∃ a u, ov = some (.ref a) ∧ H a = some u ∧ G a = none ∧ ¬ Spc c z a := by
  cases s with
  | un => cases o
  | d x => cases o
  | own xs => obtain ⟨a, vs, h1, h2, h3, h4, _⟩ := h; exact ⟨a, _, h1, h2, h3, h4⟩
  | ownK xs => obtain ⟨a, vs, h1, h2, h3, h4, _⟩ := h; exact ⟨a, _, h1, h2, h3, h4⟩
  | self C fs => obtain ⟨a, dx, vs, h1, h2, h3, h4, _⟩ := h; exact ⟨a, _, h1, h2, h3, h4⟩
theorem SlOk.mono {c : Wd} {mu : List Addr} {G H G' H' : Hp} {z z' : Z} {ov : Option V} {s : Sl} (h : SlOk c mu G H z ov s) (g : Le G G') (k : ∀ a u, isOwn s = true → ov = some (.ref a) → H a = some u → G a = none → ¬ Spc c z a → H' a = some u ∧ G' a = none ∧ ¬ Spc c z' a) : SlOk c mu G' H' z' ov s := by
  cases s with
  | un => trivial
  | d x => obtain ⟨v, h1, h2⟩ := h; exact ⟨v, h1, h2.mono g⟩
  | own xs => obtain ⟨a, vs, h1, h2, h3, h4, h5⟩ := h; obtain ⟨k1, k2, k3⟩ := k a _ rfl h1 h2 h3 h4; exact ⟨a, vs, h1, k1, k2, k3, h5.mono g⟩
  | ownK xs => obtain ⟨a, vs, h1, h2, h3, h4, h5⟩ := h; obtain ⟨k1, k2, k3⟩ := k a _ rfl h1 h2 h3 h4; exact ⟨a, vs, h1, k1, k2, k3, h5.mono g⟩
  | self C fs => obtain ⟨a, dx, vs, h1, h2, h3, h4, hm, h5⟩ := h; obtain ⟨k1, k2, k3⟩ := k a _ rfl h1 h2 h3 h4; exact ⟨a, dx, vs, h1, k1, k2, k3, hm, h5.mono g⟩
section
variable {c : Fr} {G H G' H' : Hp} {σ : L2.St} {δ : S} {z' : Z}
theorem Rel.le (R : Rel c G H σ δ) : Le G H := R.st.le
theorem Rel.pn (R : Rel c G H σ δ) : PenOk c.K c.cs G H c.p0 δ.z.fu := R.st.pn
theorem Rel.pg (R : Rel c G H σ δ) : G c.p0 = none := R.st.sg _ (.inl rfl)
/-- a step of a callee's, seen from the frame -/
theorem Post.spf (R : Rel c G H σ δ) (p : Post c.toWd δ.z G H G' H' z') : Go (Spf c.toWd δ σ) (Spf c.toWd { δ with z := z' } σ) G H G' H' :=
  p.go.imp (fun _ s => .inl s) fun x s => s.elim .inl fun o => .inr (.inl (.inr o))
theorem Rel.post (R : Rel c G H σ δ) (p : Post c.toWd δ.z G H G' H' z') : Rel c G' H' σ { δ with z := z' } := by
  refine ⟨p.st, R.go.trans (p.spf R), R.len, fun i s h => (R.sl i s h).mono p.go.g fun a u o e ha hg hs => ⟨p.go.h a u ha hs, ?_, fun q => ?_⟩, R.uq⟩
  · cases e2 : G' a with
    | none => rfl
    | some v =>
      rcases p.go.nw a v e2 with y | y | y
      · rw [hg] at y; cases y
      · rw [ha] at y; cases y
      · exact absurd y hs
  · rcases p.go.ks a q with y | y
    · exact hs y
    · rw [ha] at y; cases y
theorem Post.refl {c : Wd} {z : Z} (st : StOk c G H z) : Post c z G H G H z := ⟨st, Go.refl⟩
theorem Post.trans {c : Wd} {z z1 z2 : Z} {G1 H1 G2 H2 : Hp} (a : Post c z G H G1 H1 z1) (b : Post c z1 G1 H1 G2 H2 z2) : Post c z G H G2 H2 z2 := ⟨b.st, a.go.trans b.go⟩
theorem StOk.gnone {c : Wd} {z : Z} (s : StOk c G H z) {p : Addr} (h : H p = none) : G p = none := by
  cases e : G p with
  | none => rfl
  | some u => rw [s.le p u e] at h; cases h
theorem Rel.gnone (R : Rel c G H σ δ) {p : Addr} (h : H p = none) : G p = none := R.st.gnone h
theorem StOk.pne {c : Wd} {z : Z} (s : StOk c G H z) {p : Addr} (h : H p = none) : ¬ Spc c z p := fun e => by
  rcases e with e | e | e
  · obtain ⟨_, _, _, _, q, _⟩ := s.pn
    rw [e, q] at h; cases h
  · cases q : z.ms p with
    | none => exact e q
    | some cl =>
      obtain ⟨o, y⟩ := (s.ms _ _ q).1.at
      rw [y] at h; cases h
  · obtain ⟨q, m, rfl⟩ := List.mem_map.mp e
    obtain ⟨ps, y, _⟩ := s.tb q m
    rw [y] at h; cases h
/-- a new thing laid, known from then on -/
theorem StOk.laidG {c : Wd} {z : Z} (s : StOk c G H z) {p : Addr} {o : HO} (h : H p = none) : Go (Spc c z) (Spc c z) G H (upd G p o) (upd H p o) := by
  have gp := s.gnone h
  have nk : ∀ {b u}, H b = some u → upd H p o b = H b := fun {b u} e => by rw [upd_ne (ne_of_none e h)]
  refine ⟨Le.new gp, fun a u e _ => (nk e).trans e, fun a u e => ⟨u, (nk e).trans e⟩, fun a u e => ?_, fun a m => .inl m⟩
  by_cases q : a = p
  · subst q; exact .inr (.inl h)
  · rw [upd_ne q] at e; exact .inl e
theorem StOk.laid {c : Wd} {z : Z} (s : StOk c G H z) {p : Addr} {o : HO} (h : H p = none) (nt : ∀ ps, o ≠ .tbl ps := by intro _ q; first | cases q | (unfold ExV at q; cases q)) : Post c z G H (upd G p o) (upd H p o) z := by
  have gp := s.gnone h
  have nk : ∀ {b u}, H b = some u → upd H p o b = H b := fun {b u} e => by rw [upd_ne (ne_of_none e h)]
  have np := s.pne h
  refine ⟨⟨fun a u e => ?_, s.pn.mono (Le.new gp) (by rw [upd_ne (fun q => np (.inl q.symm))]), s.tb.ext fun b u e => (nk e).trans e, fun a m => ?_, fun a cl m => ?_, fun a ps e => ?_⟩, s.laidG h⟩
  · by_cases q : a = p
    · subst q; rw [upd_same] at e ⊢; exact e
    · rw [upd_ne q] at e ⊢; exact s.le a u e
  · rw [upd_ne (show a ≠ p from fun q => np (q ▸ m))]; exact s.sg a m
  · obtain ⟨k1, k2⟩ := s.ms a cl m
    obtain ⟨u, q⟩ := k1.at
    exact ⟨k1.mono (Le.new gp) (nk q), k2⟩
  · by_cases q : a = p
    · subst q; rw [upd_same] at e; exact nt ps (Option.some.inj e)
    · rw [upd_ne q] at e; exact s.nt a ps e
theorem Rel.laid (R : Rel c G H σ δ) {p : Addr} {o : HO} (h : H p = none) (nt : ∀ ps, o ≠ .tbl ps := by intro _ q; first | cases q | (unfold ExV at q; cases q)) : Post c.toWd δ.z G H (upd G p o) (upd H p o) δ.z := R.st.laid h nt
theorem Rel.laid' (R : Rel c G H σ δ) {p : Addr} {o : HO} (h : H p = none) (nt : ∀ ps, o ≠ .tbl ps := by intro _ q; first | cases q | (unfold ExV at q; cases q)) : Rel c (upd G p o) (upd H p o) σ δ := R.post (R.laid h nt)
/-- a new thing laid that is not known -/
theorem StOk.laidH {c : Wd} {z : Z} (s : StOk c G H z) {p : Addr} {o : HO} (h : H p = none) : Post c z G H G (upd H p o) z := by
  have nk : ∀ {b u}, H b = some u → upd H p o b = H b := fun {b u} e => by rw [upd_ne (ne_of_none e h)]
  refine ⟨⟨fun a u e => (nk (s.le a u e)).trans (s.le a u e), s.pn.mono (Le.refl _) (by rw [upd_ne (fun q => s.pne h (.inl q.symm))]), s.tb.ext fun b u e => (nk e).trans e, s.sg, fun a cl m => ?_, s.nt⟩, ⟨Le.refl _, fun a u e _ => (nk e).trans e, fun a u e => ⟨u, (nk e).trans e⟩, fun a u e => .inl e, fun a m => .inl m⟩⟩
  obtain ⟨k1, k2⟩ := s.ms a cl m
  obtain ⟨u, q⟩ := k1.at
  exact ⟨k1.mono (Le.refl _) (nk q), k2⟩
theorem Rel.laidH (R : Rel c G H σ δ) {p : Addr} {o : HO} (h : H p = none) : Post c.toWd δ.z G H G (upd H p o) δ.z := R.st.laidH h
end
/-- a slot gets data -/
theorem Rel.set {c : Fr} {G H : Hp} {σ : L2.St} {δ : S} (R : Rel c G H σ δ) {i : Nat} {v : V} {x : D} (hi : i < δ.sl.length) (r : Rep c.K c.p0 G v x) : Rel c G H (σ.set i (some v)) { δ with sl := δ.sl.set i (.d x) } := by
  have hs : i < σ.length := by rw [R.len]; exact hi
  have back : ∀ {j s a}, (δ.sl.set i (.d x))[j]? = some s → isOwn s = true → at_ (σ.set i (some v)) j = some (.ref a) → δ.sl[j]? = some s ∧ at_ σ j = some (.ref a) := fun {j s a} h o h2 => by
    have nj : j ≠ i := fun e => by subst e; rw [List.getElem?_set_self hi] at h; cases h; cases o
    rw [List.getElem?_set_ne (Ne.symm nj)] at h
    rw [at_set hs, if_neg nj] at h2
    exact ⟨h, h2⟩
  refine ⟨R.st, R.go.imp (fun _ s => s) fun a s => .inl (s.imp id fun ⟨j, s, h1, o, h2⟩ => ⟨j, s, (back h1 o h2).1, o, (back h1 o h2).2⟩), by simp [R.len], fun j s h => ?_, fun j k a s t ne h1 h2 o1 o2 a1 a2 => ?_⟩
  · rw [at_set hs]
    by_cases e : j = i
    · subst e
      rw [List.getElem?_set_self hi] at h; cases h
      rw [if_pos rfl]; exact ⟨v, rfl, r⟩
    · rw [List.getElem?_set_ne (Ne.symm e)] at h
      rw [if_neg e]; exact R.sl j s h
  · obtain ⟨h1, a1⟩ := back h1 o1 a1
    obtain ⟨h2, a2⟩ := back h2 o2 a2
    exact R.uq j k a s t ne h1 h2 o1 o2 a1 a2
/-- a slot is told less of -/
theorem Rel.forget {c : Fr} {G H : Hp} {σ : L2.St} {δ : S} (R : Rel c G H σ δ) (i : Nat) : Rel c G H σ { δ with sl := δ.sl.set i .un } := by
  have g : ∀ {j s}, (δ.sl.set i .un)[j]? = some s → isOwn s = true → δ.sl[j]? = some s := fun {j s} h o => by
    by_cases e : j = i
    · subst e
      by_cases hi : j < δ.sl.length
      · rw [List.getElem?_set_self hi] at h; cases h; cases o
      · rw [List.getElem?_eq_none (by simpa using hi)] at h; cases h
    · rw [List.getElem?_set_ne (Ne.symm e)] at h; exact h
  refine ⟨R.st, R.go.imp (fun _ s => s) fun a s => .inl (s.imp id fun ⟨j, s, h1, o, h2⟩ => ⟨j, s, g h1 o, o, h2⟩), by simp [R.len], fun j s h => ?_, fun j k a s t ne h1 h2 o1 o2 a1 a2 => R.uq j k a s t ne (g h1 o1) (g h2 o2) o1 o2 a1 a2⟩
  by_cases e : j = i
  · subst e
    by_cases hi : j < δ.sl.length
    · rw [List.getElem?_set_self hi] at h; cases h; trivial
    · rw [List.getElem?_eq_none (by simpa using hi)] at h; cases h
  · rw [List.getElem?_set_ne (Ne.symm e)] at h; exact R.sl j s h
/-- an owned object, from now on data -/
theorem Rel.freeze {c : Fr} {G H : Hp} {σ : L2.St} {δ : S} (R : Rel c G H σ δ) {i : Nat} {s : Sl} {a : Addr} {o : HO} {x : D} (hs : δ.sl[i]? = some s) (hi : at_ σ i = some (.ref a)) (ow : isOwn s = true) (hH : H a = some o)
    (hG : G a = none) (hS : ¬ Spc c.toWd δ.z a) (rx : Rep c.K c.p0 (upd G a o) (.ref a) x) (nt : ∀ ps, o ≠ .tbl ps := by intro _ q; cases q) : Rel c (upd G a o) H σ { δ with sl := δ.sl.set i (.d x) } := by
  have hl : i < δ.sl.length := (List.getElem?_eq_some_iff.mp hs).1
  have L : Le G (upd G a o) := Le.new hG
  have back : ∀ {j s}, (δ.sl.set i (.d x))[j]? = some s → isOwn s = true → δ.sl[j]? = some s ∧ j ≠ i := fun {j s} h o => by
    have nj : j ≠ i := fun e => by subst e; rw [List.getElem?_set_self hl] at h; cases h; cases o
    rw [List.getElem?_set_ne (Ne.symm nj)] at h
    exact ⟨h, nj⟩
  have st : StOk c.toWd (upd G a o) H δ.z := ⟨fun b u e => by
      by_cases q : b = a
      · subst q; rw [upd_same] at e; cases e; exact hH
      · rw [upd_ne q] at e; exact R.le b u e, R.st.pn.mono L rfl, R.st.tb, fun b m => by rw [upd_ne (show b ≠ a from fun q => hS (q ▸ m))]; exact R.st.sg b m, fun b cl m => (R.st.ms b cl m).imp (fun k => k.mono L rfl) id, fun b ps e => by
      by_cases q : b = a
      · subst q; rw [upd_same] at e; exact nt ps (Option.some.inj e)
      · rw [upd_ne q] at e; exact R.st.nt b ps e⟩
  have me : Spf c.toWd δ σ a := .inr ⟨i, s, hs, ow, hi⟩
  refine ⟨st, R.go.trans (S1 := Spf c.toWd δ σ) ⟨L, fun _ _ h _ => h, fun _ u h => ⟨u, h⟩, fun b u e => ?_, fun b h => .inl (h.imp id fun ⟨j, s, h1, o, h2⟩ => ⟨j, s, (back h1 o).1, o, h2⟩)⟩, by simp [R.len], fun j s' h => ?_, fun j k b s1 t1 ne h1 h2 o1 o2 a1 a2 => R.uq j k b s1 t1 ne (back h1 o1).1 (back h2 o2).1 o1 o2 a1 a2⟩
  · by_cases q : b = a
    · subst q; exact .inr (.inr me)
    · rw [upd_ne q] at e; exact .inl e
  · by_cases q : j = i
    · subst q
      rw [List.getElem?_set_self hl] at h; cases h
      exact ⟨_, hi, rx⟩
    · rw [List.getElem?_set_ne (Ne.symm q)] at h
      refine (R.sl j s' h).mono L fun d u os hd hu hg hn => ⟨hu, ?_, hn⟩
      rw [upd_ne (show d ≠ a from fun z => R.uq j i a s' s q h hs os ow (z ▸ hd) hi)]; exact hg
abbrev Gof (c : Fr) (δ δ' : S) (σ : L2.St) (G H G' H' : Hp) : Prop := Go (Spf c.toWd δ σ) (Spf c.toWd δ' σ) G H G' H'
theorem Rel.newG {c : Fr} {G H : Hp} {σ : L2.St} {δ : S} (R : Rel c G H σ δ) {p : Addr} {o : HO} (h : H p = none) : Gof c δ δ σ G H (upd G p o) (upd H p o) := (R.st.laidG h).imp (fun _ s => .inl s) fun x s => s.elim .inl fun o => .inr (.inl (.inr o))
theorem Rel.freezeG {c : Fr} {G H : Hp} {σ : L2.St} {δ : S} (R : Rel c G H σ δ) {i : Nat} {s : Sl} {a : Addr} {o : HO} {x : D} (hs : δ.sl[i]? = some s) (hi : at_ σ i = some (.ref a)) (ow : isOwn s = true) (hG : G a = none) : Gof c δ { δ with sl := δ.sl.set i (.d x) } σ G H (upd G a o) H := by
  have hl : i < δ.sl.length := (List.getElem?_eq_some_iff.mp hs).1
  have me : Spf c.toWd δ σ a := .inr ⟨i, s, hs, ow, hi⟩
  have back : ∀ {j s}, (δ.sl.set i (.d x))[j]? = some s → isOwn s = true → δ.sl[j]? = some s := fun {j s} h o => by
    have nj : j ≠ i := fun e => by subst e; rw [List.getElem?_set_self hl] at h; cases h; cases o
    rw [List.getElem?_set_ne (Ne.symm nj)] at h
    exact h
  refine ⟨Le.new hG, fun _ _ h _ => h, fun _ u h => ⟨u, h⟩, fun b u e => ?_, fun b h => .inl (h.imp id fun ⟨j, s, h1, o, h2⟩ => ⟨j, s, back h1 o, o, h2⟩)⟩
  by_cases q : b = a
  · subst q; exact .inr (.inr me)
  · rw [upd_ne q] at e; exact .inl e
/-- an owned object changes -/
theorem Rel.own {c : Fr} {G H : Hp} {σ : L2.St} {δ : S} (R : Rel c G H σ δ) {i : Nat} {s s' : Sl} {a : Addr} {o : HO} (hs : δ.sl[i]? = some s) (hi : at_ σ i = some (.ref a)) (ow : isOwn s = true) (hG : G a = none) (hS : ¬ Spc c.toWd δ.z a) (ow' : isOwn s' = true)
    (ok : SlOk c.toWd c.mu G (upd H a o) δ.z (some (.ref a)) s') : Rel c G (upd H a o) σ { δ with sl := δ.sl.set i s' } := by
  have hl : i < δ.sl.length := (List.getElem?_eq_some_iff.mp hs).1
  have back : ∀ {j t}, (δ.sl.set i s')[j]? = some t → isOwn t = true → ∃ t0, δ.sl[j]? = some t0 ∧ isOwn t0 = true := fun {j t} h o => by
    by_cases q : j = i
    · subst q; exact ⟨_, hs, ow⟩
    · rw [List.getElem?_set_ne (Ne.symm q)] at h; exact ⟨t, h, o⟩
  have me : Spf c.toWd δ σ a := .inr ⟨i, s, hs, ow, hi⟩
  have nt : ∀ b, b ∈ c.tb.map (·.1) → b ≠ a := fun b m q => hS (q ▸ .inr (.inr m))
  refine ⟨⟨fun b u e => ?_, R.st.pn.mono (Le.refl _) (by rw [upd_ne (fun q => hS (.inl q.symm))]), fun p m => ?_, R.st.sg, fun b cl m => (R.st.ms b cl m).imp (fun k => k.mono (Le.refl _) (by rw [upd_ne (show b ≠ a from fun q => hS (q ▸ .inr (.inl (by rw [m]; simp))))])) id, R.st.nt⟩,
    R.go.trans (S1 := Spf c.toWd δ σ) ⟨Le.refl _, fun b u h n => by rw [upd_ne (show b ≠ a from fun q => n (q ▸ me))]; exact h, fun b u h => ?_, fun _ _ h => .inl h, fun b h => .inl (h.imp id fun ⟨j, t, h1, o, h2⟩ => (back h1 o).elim fun t0 p => ⟨j, t0, p.1, p.2, h2⟩)⟩, by simp [R.len], fun j t h => ?_, fun j k b s1 t1 ne h1 h2 o1 o2 a1 a2 => ?_⟩
  · rw [upd_ne (show b ≠ a from fun q => by rw [q, hG] at e; cases e)]; exact R.le b u e
  · obtain ⟨ps, h1, h2, h3⟩ := R.st.tb p m
    have hne := nt _ (List.mem_map_of_mem m)
    refine ⟨ps, by rw [upd_ne hne]; exact h1, h2, fun pos cv hc => ?_⟩
    obtain ⟨cc, e1, e2⟩ := h3 pos cv hc
    refine ⟨cc, e1, ?_⟩
    rw [upd_ne (fun q => ?_)]
    · exact e2
    · obtain ⟨a', u, z1, z2, _⟩ := (R.sl i s hs).own_at ow
      rw [hi] at z1; cases z1
      rw [q] at e2
      have ok2 := (R.sl i s hs)
      rw [hi] at ok2
      cases s with
      | un => cases ow
      | d x => cases ow
      | own xs => obtain ⟨_, vs, y1, y2, _⟩ := ok2; cases y1; rw [e2] at y2; unfold LamX.CodeO at y2; cases y2
      | ownK xs => obtain ⟨_, vs, y1, y2, _⟩ := ok2; cases y1; rw [e2] at y2; unfold LamX.CodeO at y2; cases y2
      | self C fs => obtain ⟨_, dx, vs, y1, y2, _⟩ := ok2; cases y1; rw [e2] at y2; unfold LamX.CodeO at y2; cases y2
  · by_cases q : b = a
    · subst q; exact ⟨_, upd_same⟩
    · exact ⟨u, by rw [upd_ne q]; exact h⟩
  · by_cases q : j = i
    · subst q
      rw [List.getElem?_set_self hl] at h; cases h
      rw [hi]; exact ok
    · rw [List.getElem?_set_ne (Ne.symm q)] at h
      refine (R.sl j t h).mono (Le.refl _) fun d u os hd hu hg hn => ⟨?_, hg, hn⟩
      rw [upd_ne (show d ≠ a from fun z => R.uq j i a t s q h hs os ow (z ▸ hd) hi)]; exact hu
  · obtain ⟨s0, p1, p2⟩ := back h1 o1
    obtain ⟨t0, q1, q2⟩ := back h2 o2
    exact R.uq j k b s0 t0 ne p1 q1 p2 q2 a1 a2
/-- an object at xa, made since H, is known from now on -/
theorem StOk.frozen {c : Wd} {G H : Hp} {z : Z} {a : Addr} {o : HO} (s : StOk c G H z) (h : H a = some o) (g : G a = none) (n : ¬ Spc c z a) (nt : ∀ ps, o ≠ .tbl ps := by intro _ q; cases q) : StOk c (upd G a o) H z :=
  ⟨fun b u e => by
    by_cases q : b = a
    · subst q; rw [upd_same] at e; cases e; exact h
    · rw [upd_ne q] at e; exact s.le b u e, s.pn.mono (Le.new g) rfl, s.tb, fun b m => by rw [upd_ne (show b ≠ a from fun q => n (q ▸ m))]; exact s.sg b m, fun b cl m => (s.ms b cl m).imp (fun k => k.mono (Le.new g) rfl) id, fun b ps e => by
    by_cases q : b = a
    · subst q; rw [upd_same] at e; exact nt ps (Option.some.inj e)
    · rw [upd_ne q] at e; exact s.nt b ps e⟩
theorem Go.frozen {S S' : Addr → Prop} {G H G' H' : Hp} {a : Addr} {o : HO} (x : Go S (fun b => S' b ∨ b = a) G H G' H') (fa : H a = none) (n : ¬ S' a) (gn : G' a = none := by assumption) : Go S S' G H (upd G' a o) H' :=
  ⟨x.g.trans (Le.new gn), x.h, x.ht, fun b u e => by
    by_cases q : b = a
    · subst q; exact .inr (.inl fa)
    · rw [upd_ne q] at e; exact x.nw b u e, fun b h => x.ks b (.inl h)⟩
end DL

/-! EL1: readings over data and their lifts; expressions, calls, statements. -/
namespace DL
open PySem L2 PySem.Spec PyProof.Rows

/-- an exception by its class and its own fields -/
structure Er where
  cls : Value
  fs : List (Str × D)
def ErRep (c : Wd) (G : Hp) (cls : Value) (dd : Option Addr) (er : Er) : Prop :=
  cls = er.cls ∧ ((er.fs = [] ∧ dd = none) ∨ ∃ d vs, dd = some d ∧ G d = some (.xd vs) ∧ RepF c.K c.p0 G vs er.fs)

abbrev DTE := S → (D → S → Prop) → (Er → S → Prop) → Prop
abbrev DTT := S → (Bool → S → Prop) → (Er → S → Prop) → Prop
abbrev DTA := S → (List D → S → Prop) → (Er → S → Prop) → Prop
structure DN where
  nx : S → Prop
  rt : D → S → Prop
  bk : S → Prop
  ct : S → Prop
  ex : Er → S → Prop
abbrev DTS := DN → S → Prop
abbrev DTG := D → S → (S → Prop) → Prop

def ExOk (c : Fr) (W : WX) (G : Hp) (σ : L2.St) (E : Er → S → Prop) : Prop :=
  ∀ er δ' cls dd G' H', E er δ' → Le G G' → Rel c G' H' σ δ' → ErRep c.toWd G' cls dd er → W cls dd σ H'
theorem ExOk.mono {c : Fr} {W : WX} {G G' : Hp} {σ : L2.St} {E : Er → S → Prop} (h : ExOk c W G σ E) (e : Le G G') : ExOk c W G' σ E := fun er δ' cls dd G2 H' a b => h er δ' cls dd G2 H' a (e.trans b)

def liftE (c : Fr) (W : WX) (r : DTE) : TE := fun σ H Q => ∃ G δ P E, Rel c G H σ δ ∧ r δ P E ∧
  (∀ d δ' v G' H', P d δ' → Gof c δ δ' σ G H G' H' → Rel c G' H' σ δ' → Rep c.K c.p0 G' v d → Q v H') ∧ ExOk c W G σ E
def liftT (c : Fr) (W : WX) (r : DTT) : TT := fun σ H Q => ∃ G δ P E, Rel c G H σ δ ∧ r δ P E ∧
  (∀ d δ' G' H', P d δ' → Gof c δ δ' σ G H G' H' → Rel c G' H' σ δ' → Q d H') ∧ ExOk c W G σ E
def liftA (c : Fr) (W : WX) (r : DTA) : TA := fun σ H Q => ∃ G δ P E, Rel c G H σ δ ∧ r δ P E ∧
  (∀ d δ' v G' H', P d δ' → Gof c δ δ' σ G H G' H' → Rel c G' H' σ δ' → RepL c.K c.p0 G' v d → Q v H') ∧ ExOk c W G σ E
def liftG (c : Fr) (g : DTG) : TG := fun v σ H Q => ∃ G δ d P, Rel c G H σ δ ∧ Rep c.K c.p0 G v d ∧ g d δ P ∧
  (∀ δ' G' H' σ', P δ' → Le G G' → Rel c G' H' σ' δ' → Q σ' H')
structure NOk (c : Fr) (W : WX) (G : Hp) (D : Ends) (N : DN) : Prop where
  nx : ∀ δ' G' H' σ', N.nx δ' → Le G G' → Rel c G' H' σ' δ' → D.nx σ' H'
  rt : ∀ d δ' v G' H' σ', N.rt d δ' → Le G G' → Rel c G' H' σ' δ' → Rep c.K c.p0 G' v d → D.rt v H'
  bk : ∀ δ' G' H' σ', N.bk δ' → Le G G' → Rel c G' H' σ' δ' → D.bk σ' H'
  ct : ∀ δ' G' H' σ', N.ct δ' → Le G G' → Rel c G' H' σ' δ' → D.ct σ' H'
  ex : ∀ er δ' cls dd G' H' σ', N.ex er δ' → Le G G' → Rel c G' H' σ' δ' → ErRep c.toWd G' cls dd er → W cls dd σ' H'
theorem NOk.mono {c : Fr} {W : WX} {G G' : Hp} {D : Ends} {N : DN} (h : NOk c W G D N) (e : Le G G') : NOk c W G' D N :=
  ⟨fun a b x y p q => h.nx a b x y p (e.trans q), fun a b x y z w p q => h.rt a b x y z w p (e.trans q), fun a b x y p q => h.bk a b x y p (e.trans q), fun a b x y p q => h.ct a b x y p (e.trans q), fun a b x y z w v p q => h.ex a b x y z w v p (e.trans q)⟩
def liftS (c : Fr) (W : WX) (t : DTS) : TS := fun D σ H => ∃ G δ N, Rel c G H σ δ ∧ t N δ ∧ NOk c W G D N

abbrev DE (X : Cx) (c : Fr) (W : WX) (e : Expr) (r : DTE) : Prop := PE X e (liftE c W r)
abbrev DT (X : Cx) (c : Fr) (W : WX) (e : Expr) (r : DTT) : Prop := PT X e (liftT c W r)
abbrev DW (X : Cx) (c : Fr) (W : WX) (e : Expr) (r : DTT) : Prop := PW X e (liftT c W r)
abbrev DA (X : Cx) (c : Fr) (W : WX) (es : List Expr) (r : DTA) : Prop := PA X es (liftA c W r)
abbrev DG (X : Cx) (c : Fr) (tg : Expr) (g : DTG) : Prop := PG X tg (liftG c g)
abbrev DS (X : Cx) (c : Fr) (W : WX) (st : Stmt) (t : DTS) : Prop := PS X st (liftS c W t)
abbrev DSs (X : Cx) (c : Fr) (W : WX) (st : List Stmt) (t : DTS) : Prop := PSs X st (liftS c W t)

theorem peI {X : Cx} {e : Expr} {t t' : TE} (h : PE X e t) (k : ∀ σ H Q, t' σ H Q → t σ H Q) : PE X e t' := ⟨fun pins s σ H Q I q => h.run pins s σ H Q I (k σ H Q q)⟩
theorem ptI {X : Cx} {e : Expr} {t t' : TT} (h : PT X e t) (k : ∀ σ H Q, t' σ H Q → t σ H Q) : PT X e t' := ⟨fun pins s σ H Q I q => h.run pins s σ H Q I (k σ H Q q)⟩
theorem pwI {X : Cx} {e : Expr} {t t' : TT} (h : PW X e t) (k : ∀ σ H Q, t' σ H Q → t σ H Q) : PW X e t' := ⟨fun wh pins s σ H Q I q => h.run wh pins s σ H Q I (k σ H Q q)⟩
theorem paI {X : Cx} {e : List Expr} {t t' : TA} (h : PA X e t) (k : ∀ σ H Q, t' σ H Q → t σ H Q) : PA X e t' := ⟨fun pos pins s σ H Q I q => h.run pos pins s σ H Q I (k σ H Q q)⟩
theorem pgI {X : Cx} {e : Expr} {t t' : TG} (h : PG X e t) (k : ∀ v σ H Q, t' v σ H Q → t v σ H Q) : PG X e t' := ⟨fun pins s σ H v u Q I r q => h.run pins s σ H v u Q I r (k v σ H Q q)⟩
theorem psI {X : Cx} {e : Stmt} {t t' : TS} (h : PS X e t) (k : ∀ D σ H, t' D σ H → t D σ H) : PS X e t' := ⟨fun pins s σ H Q I q => h.run pins s σ H Q I (k Q σ H q)⟩
theorem pssI {X : Cx} {e : List Stmt} {t t' : TS} (h : PSs X e t) (k : ∀ D σ H, t' D σ H → t D σ H) : PSs X e t' := ⟨fun pins s σ H Q I q => h.run pins s σ H Q I (k Q σ H q)⟩

/-- the body's context, by what its rules ask -/
structure XB (X : Cx) (c : Fr) (W : WX) (N : List Str) (sc : Scope) (k : Nat) (bb : Bool) : Prop where
  hP : X.prog = c.P
  hw : X.w = c.w
  hK : X.K = c.K
  hm : X.mg = c.mg
  hb : X.base = c.base
  hN : X.N = N
  nd : N.Nodup
  hs : X.env.scope = sc
  calm : X.calm = true
  room : Room k X.A
  gd : X.A.guards = some []
  tk : Takes X W
  pw : PassesOwn (model X.prog X.w) X.A X.env X.xe
  fn : bb = false → ∀ x, X.fn x = true
  ex : bb = false → X.ex = []
  stk : bb = false → X.stack = X.env :: X.outer ∧ X.env.frame = some X.env.locals

section
variable {X : Cx} {c : Fr} {W : WX} {N : List Str} {sc : Scope} {k : Nat} {bb : Bool} {e a b : Expr} {es : List Expr} {pos : Pos} {r ra rb : DTE} {rs : DTA}

/-! ### constants, names -/
def dC (d : D) : DTE := fun δ P _ => P d δ
theorem de_int {i j pos} : DE X c W (.Constant (.int i) j pos) (dC (.int i)) := peI pe_int fun σ H Q ⟨G, δ, P, E, R, h, k, x⟩ => k _ _ _ G H h Go.refl R (.int i)
theorem de_bl {b j pos} : DE X c W (.Constant (.bool b) j pos) (dC (.bl b)) := peI pe_bl fun σ H Q ⟨G, δ, P, E, R, h, k, x⟩ => k _ _ _ G H h Go.refl R (.bl b)
theorem de_non {j pos} : DE X c W (.Constant .none j pos) (dC .non) := peI pe_non fun σ H Q ⟨G, δ, P, E, R, h, k, x⟩ => k _ _ _ G H h Go.refl R .non
theorem de_str {x j pos} : DE X c W (.Constant (.str x) j pos) (dC (.str x)) := peI pe_str fun σ H Q ⟨G, δ, P, E, R, h, k, x⟩ => k _ _ _ G H h Go.refl R (.str _)

def dVar (i : Nat) : DTE := fun δ P _ => match δ.sl[i]? with
  | some (.d x) => P x δ
  | some (.own xs) => P (.lst xs) { δ with sl := δ.sl.set i (.d (.lst xs)) }
  | some (.ownK xs) => P (.dct xs) { δ with sl := δ.sl.set i (.d (.dct xs)) }
  | _ => False
theorem de_var {i : Nat} {x : Str} (B : XB X c W N sc k bb) (hN : N[i]? = some x) (hv : Vis sc x) (hd : (x == ("__debug__" : Str)) = false := by decide) (hcd : (x == ("__classdict__" : Str)) = false := by decide) : DE X c W (.Name x pos) (dVar i) := by
  refine peI (pe_var (i := i) (by rw [B.hN]; exact hN) (by rw [B.hs]; exact hv) hd hcd) fun σ H Q ⟨G, δ, P, E, R, h, kk, xx⟩ => ?_
  unfold dVar at h
  cases e : δ.sl[i]? with
  | none => rw [e] at h; exact h.elim
  | some s =>
    rw [e] at h
    have hs := R.sl i s e
    cases s with
    | un => exact h.elim
    | d y => obtain ⟨v, h1, h2⟩ := hs; exact ⟨v, at_some h1, kk _ _ _ G H h Go.refl R h2⟩
    | own xs =>
      obtain ⟨d, vs, h1, h2, h3, h4, h5⟩ := hs
      have L : Le G (upd G d (.lst vs)) := Le.new h3
      have rx : Rep c.K c.p0 (upd G d (.lst vs)) (.ref d) (.lst xs) := .lst (.inl upd_same) (h5.mono L)
      exact ⟨_, at_some h1, kk _ _ _ _ H h (R.freezeG e h1 rfl h3) (R.freeze e h1 rfl h2 h3 h4 rx) rx⟩
    | ownK xs =>
      obtain ⟨d, vs, h1, h2, h3, h4, h5⟩ := hs
      have L : Le G (upd G d (.dK vs)) := Le.new h3
      have rx : Rep c.K c.p0 (upd G d (.dK vs)) (.ref d) (.dct xs) := .dct (.inl upd_same) (h5.mono L)
      exact ⟨_, at_some h1, kk _ _ _ _ H h (R.freezeG e h1 rfl h3) (R.freeze e h1 rfl h2 h3 h4 rx) rx⟩
    | self C fs => exact h.elim
/-- a module's name as a value: a number, a text, an object of the module -/
theorem de_glob {x : Str} {v : V} {u : Value} {d : D} (B : XB X c W N sc k bb) (hg : sc.names.lookup x = some .globalImplicit) (hm : c.mg x = some u) (r : RelV v u) (hr : ∀ G, Rep c.K c.p0 G v d) (hd : (x == ("__debug__" : Str)) = false := by decide) : DE X c W (.Name x pos) (dC d) :=
  peI (pe_glob (by show X.env.scope.names.lookup x = _; rw [B.hs]; exact hg) (by rw [B.hm]; exact hm) r hd) fun σ H Q ⟨G, δ, P, E, R, h, k, x⟩ => k _ _ _ G H h Go.refl R (hr G)

/-! ### argument lists, displays -/
def dNil : DTA := fun δ P _ => P [] δ
def dCons (r : DTE) (rs : DTA) : DTA := fun δ P E => r δ (fun x δ1 => rs δ1 (fun xs δ2 => P (x :: xs) δ2) E) E
theorem da_nil : DA X c W [] dNil := paI pa_nil fun σ H Q ⟨G, δ, P, E, R, h, k, x⟩ => k _ _ _ G H h Go.refl R .nil
theorem da_cons (ha : DE X c W e r) (hr : DA X c W es rs) (hs : starEach (e :: es) X.env = (false, eval e X.env) :: starEach es X.env := by rfl) : DA X c W (e :: es) (dCons r rs) :=
  paI (pa_cons ha hr hs) fun σ H Q ⟨G, δ, P, E, R, h, kk, x⟩ => ⟨G, δ, _, E, R, h, fun d δ1 v G1 H1 p1 L1 R1 r1 =>
    ⟨G1, δ1, _, E, R1, p1, fun ds δ2 vs G2 H2 p2 L2 R2 r2 => kk _ _ _ G2 H2 p2 (L1.trans L2) R2 (.cons (r1.mono L2.g) r2), x.mono L1.g⟩, x⟩
theorem sz5 {n : Nat} (h : n ≤ 100000) : n ≤ sizeLine := Nat.le_trans h (by decide)
theorem sl5 {n : Nat} (h : n < 100000) : n < sizeLine := Nat.lt_of_lt_of_le h (by decide)
def dTup (rs : DTA) : DTE := fun δ P E => rs δ (fun ds δ' => ds.length ≤ 100000 ∧ P (.tup ds) δ') E
def dLst (rs : DTA) : DTE := fun δ P E => rs δ (fun ds δ' => ds.length ≤ 100000 ∧ P (.lst ds) δ') E
theorem de_tup {x1} (h : DA X c W es rs) : DE X c W (.Tuple es x1 pos) (dTup rs) :=
  peI (pe_tup h) fun σ H Q ⟨G, δ, P, E, R, h, kk, x⟩ => ⟨G, δ, _, E, R, h, fun ds δ' vs G' H' ⟨z, p⟩ L R' r => ⟨by rw [r.len]; exact sz5 z, fun p0 hp =>
    kk _ _ _ _ _ p (L.trans (R'.newG hp)) (R'.laid' hp) (.tup (.inl (.inl upd_same)) (r.mono (Le.new (R'.gnone hp))))⟩, x⟩
theorem de_lst (h : DA X c W es rs) : DE X c W (.List es pos) (dLst rs) :=
  peI (pe_lst h) fun σ H Q ⟨G, δ, P, E, R, h, kk, x⟩ => ⟨G, δ, _, E, R, h, fun ds δ' vs G' H' ⟨z, p⟩ L R' r => ⟨by rw [r.len]; exact sz5 z, fun p0 hp =>
    kk _ _ _ _ _ p (L.trans (R'.newG hp)) (R'.laid' hp) (.lst (.inl upd_same) (r.mono (Le.new (R'.gnone hp))))⟩, x⟩

/-! ### operators -/
abbrev DOp := D → D → (D → Prop) → Prop
def DR2 (c : Fr) (r : R2) (o : DOp) : Prop := ∀ (G H : Hp) (σ : L2.St) (δ : S) (u v : V) (x y : D) (P : D → Prop) (Q : VK), Rel c G H σ δ → Rep c.K c.p0 G u x → Rep c.K c.p0 G v y → o x y P →
  (∀ d w G' H', P d → Gof c δ δ σ G H G' H' → Rel c G' H' σ δ → Rep c.K c.p0 G' w d → Q w H') → r u v H Q
structure OpD (X : Cx) (c : Fr) (f : Value → Value → Sem Value) (o : DOp) : Prop where
  ex : ∃ r, OpR X f r ∧ DR2 c r o
def dBin (o : DOp) (ra rb : DTE) : DTE := fun δ P E => ra δ (fun x δ1 => rb δ1 (fun y δ2 => o x y (fun z => P z δ2)) E) E
theorem dbin_ok {r2 : R2} {o : DOp} (h2 : DR2 c r2 o) {σ : L2.St} {H : Hp} {Q : VK} : liftE c W (dBin o ra rb) σ H Q → tOp r2 (liftE c W ra) (liftE c W rb) σ H Q := fun ⟨G, δ, P, E, R, h, kk, x⟩ =>
  ⟨G, δ, _, E, R, h, fun dx δ1 v G1 H1 p1 L1 R1 r1 => ⟨G1, δ1, _, E, R1, p1, fun dy δ2 u G2 H2 p2 L2 R2 r2 => h2 G2 H2 σ δ2 v u dx dy _ Q R2 (r1.mono L2.g) r2 p2 fun d w G3 H3 p3 L3 R3 r3 => kk d δ2 w G3 H3 p3 ((L1.trans L2).trans L3) R3 r3, x.mono L1.g⟩, x⟩
theorem de_bin {op : Operator} {o : DOp} (ho : OpD X c (binaryOp op) o) (ha : DE X c W a ra) (hb : DE X c W b rb) : DE X c W (.BinOp a op b pos) (dBin o ra rb) := by
  obtain ⟨r, h1, h2⟩ := ho.ex
  exact peI (pe_op h1 ha hb) fun σ H Q => dbin_ok h2
theorem de_cmp {op : CmpOp} {o : DOp} (ho : OpD X c (compareOp op) o) (ha : DE X c W a ra) (hb : DE X c W b rb) (hm : behindInMarks op b = false) : DE X c W (.Compare a [op] [b] pos) (dBin o ra rb) := by
  obtain ⟨r, h1, h2⟩ := ho.ex
  exact peI (pe_cmpR h1 ha hb hm) fun σ H Q => dbin_ok h2
/-- a True or False, as a test -/
def dTB (r : DTE) : DTT := fun δ P E => r δ (fun d δ' => match d with
  | .bl b => P b δ'
  | _ => False) E
theorem dtb_ok {σ : L2.St} {Q : Bool → Hp → Prop} {P : Bool → S → Prop} {d : D} {v : V} {G H G' H' : Hp} {δ' : S} (kk : ∀ d δ' G' H', P d δ' → Gof c δ δ' σ G H G' H' → Rel c G' H' σ δ' → Q d H') (p : match d with
  | .bl b => P b δ'
  | _ => False) (L : Gof c δ δ' σ G H G' H') (R' : Rel c G' H' σ δ') (r : Rep c.K c.p0 G' v d) : ∃ k, v = .bl k ∧ Q k H' := by
  cases r with
  | bl b => exact ⟨b, rfl, kk b δ' G' H' p L R'⟩
  | _ => exact p.elim
theorem dt_cmp {op : CmpOp} {o : DOp} (ho : OpD X c (compareOp op) o) (ha : DE X c W a ra) (hb : DE X c W b rb) (hm : behindInMarks op b = false) : DT X c W (.Compare a [op] [b] pos) (dTB (dBin o ra rb)) := by
  obtain ⟨r, h1, h2⟩ := ho.ex
  exact ptI (pt_cmpR h1 ha hb hm) fun σ H Q ⟨G, δ, P, E, R, h, kk, x⟩ => dbin_ok h2 ⟨G, δ, _, E, R, h, fun d δ' v G' H' p L R' r => dtb_ok kk p L R' r, x⟩
theorem dt_val (h : DE X c W e r) (he : ∀ whole, isTrue e X.env whole = (do let v ← whole; standAt e.pos; holding [v] (truthy v)) := by intro _; rfl) : DT X c W e (dTB r) :=
  ptI (pt_val h he) fun σ H Q ⟨G, δ, P, E, R, h, kk, x⟩ => ⟨G, δ, _, E, R, h, fun d δ' v G' H' p L R' r => dtb_ok kk p L R' r, x⟩
/-! ### and, or, not -/
def dAnd (t u : DTT) : DTT := fun δ P E => t δ (fun b δ1 => if b = true then u δ1 P E else P false δ1) E
def dOr (t u : DTT) : DTT := fun δ P E => t δ (fun b δ1 => if b = true then P true δ1 else u δ1 P E) E
def dNot (t : DTT) : DTT := fun δ P E => t δ (fun b δ1 => P (!b) δ1) E
variable {t u : DTT} {rest : List Expr}
theorem dw_and1 (ha : DT X c W a t) : DW X c W (.BoolOp .And [a] pos) t := pw_and1 ha
theorem dw_or1 (ha : DT X c W a t) : DW X c W (.BoolOp .Or [a] pos) t := pw_or1 ha
theorem dw_and (ha : DT X c W a t) (hb : DW X c W (.BoolOp .And (b :: rest) pos) u) : DW X c W (.BoolOp .And (a :: b :: rest) pos) (dAnd t u) :=
  pwI (pw_and ha hb) fun σ H Q ⟨G, δ, P, E, R, h, kk, x⟩ => ⟨G, δ, _, E, R, h, fun d δ1 G1 H1 p L R1 => by
    cases d with
    | true => exact ⟨G1, δ1, P, E, R1, p, fun d δ' G' H' p' L' R' => kk d δ' G' H' p' (L.trans L') R', x.mono L.g⟩
    | false => exact kk false δ1 G1 H1 p L R1, x⟩
theorem dw_or (ha : DT X c W a t) (hb : DW X c W (.BoolOp .Or (b :: rest) pos) u) : DW X c W (.BoolOp .Or (a :: b :: rest) pos) (dOr t u) :=
  pwI (pw_or ha hb) fun σ H Q ⟨G, δ, P, E, R, h, kk, x⟩ => ⟨G, δ, _, E, R, h, fun d δ1 G1 H1 p L R1 => by
    cases d with
    | false => exact ⟨G1, δ1, P, E, R1, p, fun d δ' G' H' p' L' R' => kk d δ' G' H' p' (L.trans L') R', x.mono L.g⟩
    | true => exact kk true δ1 G1 H1 p L R1, x⟩
theorem dt_not (ha : DT X c W a t) : DT X c W (.UnaryOp .Not a pos) (dNot t) :=
  ptI (pt_not ha) fun σ H Q ⟨G, δ, P, E, R, h, kk, x⟩ => ⟨G, δ, _, E, R, h, fun d δ1 G1 H1 p L R1 => kk _ _ _ _ p L R1, x⟩
/-- as values, all True or False -/
def dAndV (ra rb : DTE) : DTE := fun δ P E => dTB ra δ (fun b δ1 => if b = true then rb δ1 P E else P (.bl false) δ1) E
def dOrV (ra rb : DTE) : DTE := fun δ P E => dTB ra δ (fun b δ1 => if b = true then P (.bl true) δ1 else rb δ1 P E) E
def dNotV (ra : DTE) : DTE := fun δ P E => dTB ra δ (fun b δ1 => P (.bl (!b)) δ1) E
theorem de_one {op} (h : DE X c W a ra) : DE X c W (.BoolOp op [a] pos) ra := pe_one h
theorem de_and (ha : DE X c W a ra) (hb : DE X c W (.BoolOp .And (b :: rest) pos) rb) : DE X c W (.BoolOp .And (a :: b :: rest) pos) (dAndV ra rb) :=
  peI (pe_and ha hb) fun σ H Q ⟨G, δ, P, E, R, h, kk, x⟩ => ⟨G, δ, _, E, R, h, fun d δ1 v G1 H1 p L R1 r1 => by
    cases r1 with
    | bl q =>
      refine ⟨q, rfl, ?_⟩
      cases q with
      | true => exact ⟨G1, δ1, P, E, R1, p, fun d δ' v' G' H' p' L' R' => kk d δ' v' G' H' p' (L.trans L') R', x.mono L.g⟩
      | false => exact kk _ δ1 _ G1 H1 p L R1 (.bl false)
    | _ => exact p.elim, x⟩
theorem de_or (ha : DE X c W a ra) (hb : DE X c W (.BoolOp .Or (b :: rest) pos) rb) : DE X c W (.BoolOp .Or (a :: b :: rest) pos) (dOrV ra rb) :=
  peI (pe_or ha hb) fun σ H Q ⟨G, δ, P, E, R, h, kk, x⟩ => ⟨G, δ, _, E, R, h, fun d δ1 v G1 H1 p L R1 r1 => by
    cases r1 with
    | bl q =>
      refine ⟨q, rfl, ?_⟩
      cases q with
      | false => exact ⟨G1, δ1, P, E, R1, p, fun d δ' v' G' H' p' L' R' => kk d δ' v' G' H' p' (L.trans L') R', x.mono L.g⟩
      | true => exact kk _ δ1 _ G1 H1 p L R1 (.bl true)
    | _ => exact p.elim, x⟩
theorem de_not (ha : DE X c W a ra) : DE X c W (.UnaryOp .Not a pos) (dNotV ra) :=
  peI (pe_not ha) fun σ H Q ⟨G, δ, P, E, R, h, kk, x⟩ => ⟨G, δ, _, E, R, h, fun d δ1 v G1 H1 p L R1 r1 => by
    cases r1 with
    | bl q => exact ⟨q, rfl, kk _ δ1 _ G1 H1 p L R1 (.bl _)⟩
    | _ => exact p.elim, x⟩
def dIf (t : DTT) (ra rb : DTE) : DTE := fun δ P E => t δ (fun b δ1 => if b = true then ra δ1 P E else rb δ1 P E) E
theorem de_if {q : Expr} (hc : DT X c W q t) (ha : DE X c W a ra) (hb : DE X c W b rb) : DE X c W (.IfExp q a b pos) (dIf t ra rb) :=
  peI (pe_ifExp hc ha hb) fun σ H Q ⟨G, δ, P, E, R, h, kk, x⟩ => ⟨G, δ, _, E, R, h, fun d δ1 G1 H1 p L R1 => by
    cases d with
    | true => exact ⟨G1, δ1, P, E, R1, p, fun d δ' v' G' H' p' L' R' => kk d δ' v' G' H' p' (L.trans L') R', x.mono L.g⟩
    | false => exact ⟨G1, δ1, P, E, R1, p, fun d δ' v' G' H' p' L' R' => kk d δ' v' G' H' p' (L.trans L') R', x.mono L.g⟩, x⟩
/-- truth of any value -/
def tru : D → Option Bool
  | .non => some false
  | .bl b => some b
  | .int i => some (i != 0)
  | .str s => if s.length ≤ 100000 then some (s.length != 0) else none
  | .lst xs => some (!xs.isEmpty)
  | .tup xs => some (!xs.isEmpty)
  | .dct xs => some (!xs.isEmpty)
  | _ => none
def dTru (r : DTE) : DTT := fun δ P E => r δ (fun d δ' => match tru d with
  | some b => P b δ'
  | none => False) E
end
end DL

/-! EL2: statements, loops, calls of defs, a def by its body. -/
namespace DL
open PySem L2 PySem.Spec PyProof.Rows
section
variable {X : Cx} {c : Fr} {W : WX} {N : List Str} {sc : Scope} {k : Nat} {bb : Bool} {e a b : Expr} {es : List Expr} {pos : Pos} {r ra rb : DTE} {rs : DTA} {st : Stmt} {sts bd : List Stmt} {t u : DTS} {q : DTT}

def dNext : DTS := fun N δ => N.nx δ
def dSeq (t u : DTS) : DTS := fun N δ => t { N with nx := u N } δ
theorem dss_nil : DSs X c W [] dNext := pssI pss_nil fun D σ H ⟨G, δ, N, R, h, n⟩ => n.nx δ G H σ h (Le.refl _) R
theorem dss_cons (h1 : DS X c W st t) (h2 : DSs X c W sts u) : DSs X c W (st :: sts) (dSeq t u) :=
  pssI (pss_cons h1 h2) fun D σ H ⟨G, δ, N, R, h, n⟩ => ⟨G, δ, { N with nx := u N }, R, h,
    ⟨fun δ' G' H' σ' p L R' => ⟨G', δ', N, R', p, n.mono L⟩, n.rt, n.bk, n.ct, n.ex⟩⟩
theorem dss_one (h1 : DS X c W st t) : DSs X c W [st] t := pss_one h1
theorem ds_pass : DS X c W (.Pass pos) dNext := psI ps_pass fun D σ H ⟨G, δ, N, R, h, n⟩ => n.nx δ G H σ h (Le.refl _) R
theorem ds_break : DS X c W (.Break pos) (fun N δ => N.bk δ) := psI ps_break fun D σ H ⟨G, δ, N, R, h, n⟩ => n.bk δ G H σ h (Le.refl _) R
theorem ds_cont : DS X c W (.Continue pos) (fun N δ => N.ct δ) := psI ps_continue fun D σ H ⟨G, δ, N, R, h, n⟩ => n.ct δ G H σ h (Le.refl _) R
/-- what an expression's exception may do in a statement -/
theorem exOf {G : Hp} {D : Ends} {N : DN} {σ : L2.St} (n : NOk c W G D N) : ExOk c W G σ N.ex := fun er δ' cls dd G' H' p L R x => n.ex er δ' cls dd G' H' σ p L R x
def dDrop (r : DTE) : DTS := fun N δ => r δ (fun _ δ' => N.nx δ') N.ex
theorem ds_expr (h : DE X c W e r) (hs : swapsWith e none pos.line X.env = pure false := by rfl) : DS X c W (.Expr e pos) (dDrop r) :=
  psI (ps_expr h hs) fun D σ H ⟨G, δ, N, R, h, n⟩ => ⟨G, δ, _, N.ex, R, h, fun d δ' v G' H' p L R' _ => n.nx δ' G' H' σ p L.g R', exOf n⟩
def dRet (r : DTE) : DTS := fun N δ => r δ N.rt N.ex
theorem ds_ret (h : DE X c W e r) : DS X c W (.Return (some e) pos) (dRet r) :=
  psI (ps_ret h) fun D σ H ⟨G, δ, N, R, h, n⟩ => ⟨G, δ, _, N.ex, R, h, fun d δ' v G' H' p L R' rr => n.rt d δ' v G' H' σ p L.g R' rr, exOf n⟩
theorem ds_retN : DS X c W (.Return none pos) (fun N δ => N.rt .non δ) := psI ps_retN fun D σ H ⟨G, δ, N, R, h, n⟩ => n.rt .non δ .non G H σ h (Le.refl _) R .non
def dIte (q : DTT) (t u : DTS) : DTS := fun N δ => q δ (fun b δ1 => if b = true then t N δ1 else u N δ1) N.ex
theorem ds_if {cnd : Expr} {A B : List Stmt} (hc : DT X c W cnd q) (ha : DSs X c W A t) (hb : DSs X c W B u) : DS X c W (.If cnd A B pos) (dIte q t u) :=
  psI (ps_if hc ha hb) fun D σ H ⟨G, δ, N, R, h, n⟩ => ⟨G, δ, _, N.ex, R, h, fun d δ' G' H' p L R' => by
    cases d with
    | true => exact ⟨G', δ', N, R', p, n.mono L.g⟩
    | false => exact ⟨G', δ', N, R', p, n.mono L.g⟩, exOf n⟩
/-! ### targets -/
theorem Rel.set' {G H : Hp} {σ : L2.St} {δ : S} (R : Rel c G H σ δ) {i : Nat} {v : V} {x : D} (r : Rep c.K c.p0 G v x) : Rel c G H (σ.set i (some v)) { δ with sl := δ.sl.set i (.d x) } := by
  by_cases hi : i < δ.sl.length
  · exact R.set hi r
  · have e1 : σ.set i (some v) = σ := List.set_eq_of_length_le (by rw [R.len]; omega)
    have e2 : δ.sl.set i (.d x) = δ.sl := List.set_eq_of_length_le (by omega)
    rw [e1, e2]
    exact R
def gN (i : Nat) : DTG := fun d δ P => P { δ with sl := δ.sl.set i (.d d) }
theorem dg_name {i : Nat} {x : Str} (B : XB X c W N sc k false) (hi : N[i]? = some x) (hx : Loc sc x) : DG X c (.Name x pos) (gN i) :=
  pgI (pg_name (i := i) (by rw [B.hN]; exact B.nd) (by rw [B.hN]; exact hi) (by rw [B.hs]; exact hx) (.inl (B.fn rfl x))) fun v σ H Q ⟨G, δ, d, P, R, r, h, kk⟩ => kk _ G H _ h (Le.refl _) (R.set' r)
abbrev DTGs := List D → S → (S → Prop) → Prop
def liftGs (c : Fr) (g : DTGs) : TGs := fun v σ H Q => ∃ G δ d P, Rel c G H σ δ ∧ RepL c.K c.p0 G v d ∧ g d δ P ∧ (∀ δ' G' H' σ', P δ' → Le G G' → Rel c G' H' σ' δ' → Q σ' H')
abbrev DGs (X : Cx) (c : Fr) (tg : List Expr) (g : DTGs) : Prop := PGs X tg (liftGs c g)
theorem pgsI {e : List Expr} {t t' : TGs} (h : PGs X e t) (k : ∀ v σ H Q, t' v σ H Q → t v σ H Q) : PGs X e t' := ⟨fun pins s σ H v u Q I r q => h.run pins s σ H v u Q I r (k v σ H Q q)⟩
def gZ : DTGs := fun ds δ P => match ds with
  | [] => P δ
  | _ => False
def gC (g : DTG) (h : DTGs) : DTGs := fun ds δ P => match ds with
  | d :: r => g d δ (fun δ' => h r δ' P)
  | _ => False
theorem dgs_nil : DGs X c [] gZ := pgsI pgs_nil fun v σ H Q ⟨G, δ, d, P, R, r, h, kk⟩ => by
  cases r with
  | nil => exact ⟨rfl, kk _ G H _ h (Le.refl _) R⟩
  | cons a b => exact h.elim
theorem dgs_cons {g : DTG} {h : DTGs} (h1 : DG X c e g) (h2 : DGs X c es h) (hs : (assignEach (e :: es) X.env).map (·.2) = assign e X.env :: (assignEach es X.env).map (·.2) := by rfl) : DGs X c (e :: es) (gC g h) :=
  pgsI (pgs_cons h1 h2 hs) fun v σ H Q ⟨G, δ, d, P, R, r, h, kk⟩ => by
    cases r with
    | nil => exact h.elim
    | cons a b => exact ⟨_, _, rfl, G, δ, _, _, R, a, h, fun δ' G' H' σ' p L R' => ⟨G', δ', _, P, R', b.mono L, p, fun δ2 G2 H2 σ2 p2 L2 R2 => kk δ2 G2 H2 σ2 p2 (L.trans L2) R2⟩⟩
def gT (n : Nat) (g : DTGs) : DTG := fun d δ P => match d with
  | .tup xs => xs.length = n ∧ g xs δ P
  | _ => False
theorem dg_tup {n : Nat} {kk : Nat} {g : DTGs} (B : XB X c W N sc k bb) (h : DGs X c es g) (hn : (assignEach es X.env).length = n := by rfl) (hst : (assignEach es X.env).findIdx? (·.1) = none := by rfl) : DG X c (.Tuple es kk pos) (gT n g) :=
  pgI (pg_tup B.calm h hn hst) fun v σ H Q ⟨G, δ, d, P, R, r, h, kk⟩ => by
    cases r with
    | tup hq rl => exact ⟨_, _, rfl, by rw [B.hK]; exact le_t R.le hq, by rw [rl.len]; exact h.1, G, δ, _, P, R, rl, h.2, kk⟩
    | _ => exact h.elim
def dSet (i : Nat) (r : DTE) : DTS := fun N δ => r δ (fun d δ1 => N.nx { δ1 with sl := δ1.sl.set i (.d d) }) N.ex
theorem ds_set {i : Nat} {x : Str} {pos' : Pos} (B : XB X c W N sc k false) (hi : N[i]? = some x) (hx : Loc sc x) (he : DE X c W e r) (hs : swapsWith e (some (.Name x pos')) pos.line X.env = pure false := by rfl) : DS X c W (.Assign [.Name x pos'] e pos) (dSet i r) :=
  psI (ps_set (i := i) (by rw [B.hN]; exact B.nd) (by rw [B.hN]; exact hi) (by rw [B.hs]; exact hx) he hs (.inl (B.fn rfl x))) fun D σ H ⟨G, δ, N, R, h, n⟩ =>
    ⟨G, δ, _, N.ex, R, h, fun d δ' v G' H' p L R' rr => n.nx _ G' H' _ p L.g (R'.set' rr), exOf n⟩
def dAsg (r : DTE) (g : DTG) : DTS := fun N δ => r δ (fun d δ1 => g d δ1 N.nx) N.ex
theorem ds_asg {tg : Expr} {g : DTG} (he : DE X c W e r) (hg : DG X c tg g) (hs : swapsWithSole [tg] e pos.line X.env = pure false := by rfl) (hw : swappedStores [tg] e X.env = pure none := by rfl)
    (h1 : (assignEach [tg] X.env).map (·.2) = [assign tg X.env] := by rfl) : DS X c W (.Assign [tg] e pos) (dAsg r g) :=
  psI (ps_asg he hg hs hw h1) fun D σ H ⟨G, δ, N, R, h, n⟩ => ⟨G, δ, _, N.ex, R, h, fun d δ' v G' H' p L R' rr => ⟨G', δ', d, _, R', rr, p, fun δ2 G2 H2 σ2 p2 L2 R2 => n.nx δ2 G2 H2 σ2 p2 (L.g.trans L2) R2⟩, exOf n⟩
/-- a, b = x, y -/
def dPar (i j : Nat) (rs : DTA) : DTS := fun N δ => rs δ (fun ds δ1 => match ds with
  | [x, y] => N.nx { δ1 with sl := (δ1.sl.set i (.d x)).set j (.d y) }
  | _ => False) N.ex
theorem ds_par {i j : Nat} {x y : Str} {px py pt : Pos} {kt k2 pt2} (B : XB X c W N sc k false) (hi : N[i]? = some x) (hj : N[j]? = some y) (hij : i ≠ j)
    (hx : sc.names.lookup x = some .local) (hy : sc.names.lookup y = some .local) (ha : DA X c W [a, b] rs)
    (hw : ∀ env : Env, env.scope = sc → swappedStores [.Tuple [.Name x px, .Name y py] kt pt] (.Tuple [a, b] k2 pt2) env = pure (some [x, y]))
    (hs : swapsWithSole [.Tuple [.Name x px, .Name y py] kt pt] (.Tuple [a, b] k2 pt2) pos.line X.env = pure false := by rfl) :
    DS X c W (.Assign [.Tuple [.Name x px, .Name y py] kt pt] (.Tuple [a, b] k2 pt2) pos) (dPar i j rs) :=
  psI (ps_par B.calm (by rw [B.hN]; exact B.nd) (by rw [B.hN]; exact hi) (by rw [B.hN]; exact hj) hij (by rw [B.hs]; exact hx) (by rw [B.hs]; exact hy) ha (hw _ B.hs) hs) fun D σ H ⟨G, δ, N, R, h, n⟩ =>
    ⟨G, δ, _, N.ex, R, h, fun ds δ' vs G' H' p L R' rr => by
      cases rr with
      | nil => exact p.elim
      | cons r1 rr =>
        cases rr with
        | nil => exact p.elim
        | cons r2 rr =>
          cases rr with
          | nil => exact ⟨_, _, rfl, n.nx _ G' H' _ p L.g ((R'.set' r1).set' (i := j) r2)⟩
          | cons _ _ => exact p.elim, exOf n⟩

/-! ### loops -/
abbrev frOf (c : Wd) (G H : Hp) (z : Z) (mu : List Addr) : Fr := { c with G0 := G, H0 := H, z0 := z, mu := mu }
structure JOk (c : Wd) (J : It) (items : List D) (G : Hp) : Prop where
  go : ∀ i H G2, i < items.length → Le G G2 → Le G2 H → J.go i H
  stop : ∀ i H G2, items.length ≤ i → Le G G2 → Le G2 H → J.stop i H
  yld : ∀ i H x H' G2 z, Le G G2 → StOk c G2 H z → J.yld i H x H' → i < items.length → ∃ G' d, items[i]? = some d ∧ Post c z G2 H G' H' z ∧ Rep c.K c.p0 G' x d
abbrev DTI := DTA
def liftI (c : Fr) (W : WX) (r : DTI) : TI := fun σ H R => ∃ G δ P E, Rel c G H σ δ ∧ r δ P E ∧
  (∀ items δ' J G' H', P items δ' → Gof c δ δ' σ G H G' H' → Rel c G' H' σ δ' → JOk c.toWd J items G' → R J H') ∧ ExOk c W G σ E
abbrev DI (X : Cx) (c : Fr) (W : WX) (tg e : Expr) (r : DTI) : Prop := PI X tg e (liftI c W r)
theorem piI {tg e : Expr} {t t' : TI} (h : PI X tg e t) (k : ∀ σ H Q, t' σ H Q → t σ H Q) : PI X tg e t' := ⟨fun pins s σ H Q I q => h.run pins s σ H Q I (k σ H Q q)⟩
theorem jok_list {G : Hp} {K : PySem.W.Frag} (hK : K = c.K) {p : Addr} {vs : List V} {xs : List D} (h : SqL c.K G p vs) (r : RepL c.K c.p0 G vs xs) : JOk c.toWd (Itl K p) xs G := by
  subst hK
  refine ⟨fun i H G2 hi L L2 => ?_, fun i H G2 hi L L2 => ⟨vs, le_l (L.trans L2) h, by rw [r.len]; exact hi⟩, fun i H x H' G2 z L st ⟨e, y⟩ hi => ?_⟩
  · exact ⟨vs, vs[i]'(by rw [r.len]; exact hi), le_l (L.trans L2) h, by simp⟩
  · subst e
    have y1 := y vs (le_l (L.trans st.le) h)
    obtain ⟨u, h1, h2⟩ := r.get (i := i) (x := xs[i]) (by simp [hi])
    rw [y1] at h1; cases h1
    exact ⟨G2, xs[i], by simp [hi], .refl st, h2.mono L⟩
theorem jok_tup {G : Hp} {K : PySem.W.Frag} (hK : K = c.K) {p : Addr} {vs : List V} {xs : List D} (h : SqT c.K G p vs) (r : RepL c.K c.p0 G vs xs) : JOk c.toWd (Itt K p) xs G := by
  subst hK
  refine ⟨fun i H G2 hi L L2 => ?_, fun i H G2 hi L L2 => ⟨vs, le_t (L.trans L2) h, by rw [r.len]; exact hi⟩, fun i H x H' G2 z L st ⟨e, y⟩ hi => ?_⟩
  · exact ⟨vs, vs[i]'(by rw [r.len]; exact hi), le_t (L.trans L2) h, by simp⟩
  · subst e
    have y1 := y vs (le_t (L.trans st.le) h)
    obtain ⟨u, h1, h2⟩ := r.get (i := i) (x := xs[i]) (by simp [hi])
    rw [y1] at h1; cases h1
    exact ⟨G2, xs[i], by simp [hi], .refl st, h2.mono L⟩
theorem jok_range {G : Hp} {lo : Int} {n : Nat} : JOk c.toWd (Itr lo n) ((List.range n).map fun (i : Nat) => D.int (lo + (i : Int))) G := by
  refine ⟨fun i H G2 hi _ _ => (by simpa using hi : i < n), fun i H G2 hi _ _ => (by simpa using hi : n ≤ i), fun i H x H' G2 z L st ⟨e, y⟩ hi => ?_⟩
  subst e y
  have hi' : i < n := by simpa using hi
  exact ⟨G2, .int (lo + i), by simp [hi'], .refl st, .int _⟩
/-- for x in a list or a tuple -/
def dItL (r : DTE) : DTI := fun δ P E => r δ (fun d δ1 => match d with
  | .lst xs => P xs δ1
  | _ => False) E
def dItT (r : DTE) : DTI := fun δ P E => r δ (fun d δ1 => match d with
  | .tup xs => P xs δ1
  | _ => False) E
theorem di_list {tg : Expr} (B : XB X c W N sc k bb) (h : DE X c W e r) : DI X c W tg e (dItL r) :=
  piI (pi_list h) fun σ H Q ⟨G, δ, P, E, R, h, kk, x⟩ => ⟨G, δ, _, E, R, h, fun d δ1 v G1 H1 p L R1 rr => by
    cases rr with
    | lst hq rl => exact ⟨_, rfl, ⟨_, by rw [B.hK]; exact le_l R1.le (.inl hq)⟩, kk _ δ1 _ G1 H1 p L R1 (jok_list B.hK (.inl hq) rl)⟩
    | _ => exact p.elim, x⟩
theorem di_tup {tg : Expr} (B : XB X c W N sc k bb) (h : DE X c W e r) : DI X c W tg e (dItT r) :=
  piI (pi_tup h) fun σ H Q ⟨G, δ, P, E, R, h, kk, x⟩ => ⟨G, δ, _, E, R, h, fun d δ1 v G1 H1 p L R1 rr => by
    cases rr with
    | tup hq rl => exact ⟨_, rfl, ⟨_, by rw [B.hK]; exact le_t R1.le hq⟩, kk _ δ1 _ G1 H1 p L R1 (jok_tup B.hK hq rl)⟩
    | _ => exact p.elim, x⟩
def dRng1 (rs : DTA) : DTI := fun δ P E => rs δ (fun ds δ1 => match ds with
  | [.int j] => (-(2 ^ 62) ≤ j ∧ j < 2 ^ 62) ∧ P ((List.range j.toNat).map fun (i : Nat) => D.int (0 + (i : Int))) δ1
  | _ => False) E
def dRng2 (rs : DTA) : DTI := fun δ P E => rs δ (fun ds δ1 => match ds with
  | [.int i, .int j] => (-(2 ^ 62) ≤ i ∧ i < 2 ^ 62 ∧ -(2 ^ 62) ≤ j ∧ j < 2 ^ 62) ∧ P ((List.range (j - i).toNat).map fun (n : Nat) => D.int (i + (n : Int))) δ1
  | _ => False) E
theorem di_range1 {tg : Expr} {p : Pos} (B : XB X c W N sc k bb) (hg : sc.names.lookup ("range" : Str) = some .globalImplicit) (hm : c.mg ("range" : Str) = none) (ha : DA X c W [a] rs) (hs : starEach [a] X.env = [(false, eval a X.env)] := by rfl) : DI X c W tg (.Call (.Name "range" p) [a] [] pos) (dRng1 rs) :=
  piI (pi_range1 (by show X.env.scope.names.lookup _ = _; rw [B.hs]; exact hg) (by rw [B.hm]; exact hm) ha hs) fun σ H Q ⟨G, δ, P, E, R, h, kk, x⟩ => ⟨G, δ, _, E, R, h, fun d δ1 v G1 H1 p L R1 rr => by
    cases rr with
    | nil => exact p.elim
    | cons r1 rr =>
      cases rr with
      | nil =>
        cases r1 with
        | int j => exact ⟨j, rfl, p.1.1, p.1.2, kk _ δ1 _ G1 H1 p.2 L R1 jok_range⟩
        | _ => exact p.elim
      | cons _ _ => cases r1 <;> exact p.elim, x⟩
theorem di_range2 {tg : Expr} {p : Pos} (B : XB X c W N sc k bb) (hg : sc.names.lookup ("range" : Str) = some .globalImplicit) (hm : c.mg ("range" : Str) = none) (ha : DA X c W [a, b] rs) (hs : starEach [a, b] X.env = [(false, eval a X.env), (false, eval b X.env)] := by rfl) (hs2 : starEach [b] X.env = [(false, eval b X.env)] := by rfl) :
    DI X c W tg (.Call (.Name "range" p) [a, b] [] pos) (dRng2 rs) :=
  piI (pi_range2 (by show X.env.scope.names.lookup _ = _; rw [B.hs]; exact hg) (by rw [B.hm]; exact hm) ha hs hs2) fun σ H Q ⟨G, δ, P, E, R, h, kk, x⟩ => ⟨G, δ, _, E, R, h, fun d δ1 v G1 H1 p L R1 rr => by
    cases rr with
    | nil => exact p.elim
    | cons r1 rr =>
      cases rr with
      | nil => cases r1 <;> exact p.elim
      | cons r2 rr =>
        cases rr with
        | nil =>
          cases r1 with
          | int i =>
            cases r2 with
            | int j => exact ⟨i, j, rfl, p.1, kk _ δ1 _ G1 H1 p.2 L R1 jok_range⟩
            | _ => exact p.elim
          | _ => exact p.elim
        | cons _ _ => cases r1 <;> cases r2 <;> exact p.elim, x⟩
def dLoop (g : DTG) (tb : DTS) (N : DN) : List D → S → Prop
  | [], δ => N.nx δ
  | x :: r, δ => g x δ (fun δ2 => tb { N with nx := dLoop g tb N r, ct := dLoop g tb N r, bk := N.nx } δ2)
def dFor (ri : DTI) (g : DTG) (tb : DTS) : DTS := fun N δ => ri δ (fun items δ1 => dLoop g tb N items δ1) N.ex
theorem drop_cons {α : Type} {l : List α} {i : Nat} (h : i < l.length) : l.drop i = l[i] :: l.drop (i + 1) := List.drop_eq_getElem_cons h
theorem ds_for {tg iter : Expr} {ri : DTI} {g : DTG} (B : XB X c W N sc k bb) (hi : DI X c W tg iter ri) (hg : DG X c tg g) (hb : DSs X c W bd t) (hs : ∀ x, foldedSetIterable iter X.env x = pure x := by intro _; rfl) :
    DS X c W (.For tg iter bd [] pos) (dFor ri g t) :=
  psI (ps_for B.pw B.calm hi hg hb hs) fun D σ H ⟨G, δ, N, R, h, n⟩ => ⟨G, δ, _, N.ex, R, h, fun items δ1 J G1 H1 p L R1 j => by
    refine ⟨fun i m σ' H' => m = items.length - i ∧ i ≤ items.length ∧ ∃ G2 δ2, Le G1 G2 ∧ Rel c G2 H' σ' δ2 ∧ dLoop g t N (items.drop i) δ2, ⟨items.length, rfl, Nat.zero_le _, G1, δ1, Le.refl _, R1, p⟩, ?_⟩
    rintro i m σ' H' ⟨rfl, hi, G2, δ2, L2, R2, p2⟩
    by_cases hlt : i < items.length
    · right
      rw [drop_cons hlt] at p2
      refine ⟨j.go i H' G2 hlt L2 R2.le, fun σ' H' => i + 1 ≤ items.length ∧ ∃ G2 δ2, Le G1 G2 ∧ Rel c G2 H' σ' δ2 ∧ dLoop g t N (items.drop (i + 1)) δ2, fun σ3 H3 ⟨q1, q2⟩ => ⟨items.length - (i + 1), by omega, rfl, q1, q2⟩, fun x H3 y => ?_⟩
      obtain ⟨G3, d, e3, p3, r3⟩ := j.yld i H' x H3 G2 δ2.z L2 R2.st y hlt
      have L3 := p3.go.g
      have R3 := R2.post p3
      have ed : d = items[i] := by rw [List.getElem?_eq_getElem hlt] at e3; exact (Option.some.inj e3).symm
      subst ed
      refine ⟨G3, δ2, _, _, R3, r3, p2, fun δ4 G4 H4 σ4 p4 L4 R4 => ⟨G4, δ4, _, R4, p4, ?_⟩⟩
      have LL : Le G1 G4 := (L2.trans L3).trans L4
      have n4 := n.mono (L.g.trans LL)
      exact ⟨fun δ' G' H' σ' p L' R' => ⟨hlt, G', δ', LL.trans L', R', p⟩, n4.rt, n4.nx, fun δ' G' H' σ' p L' R' => ⟨hlt, G', δ', LL.trans L', R', p⟩, n4.ex⟩
    · left
      have e : items.drop i = [] := List.drop_eq_nil_of_le (by omega)
      rw [e] at p2
      exact ⟨j.stop i H' G2 (by omega) L2 R2.le, n.nx δ2 G2 H' σ' p2 (L.g.trans L2) R2⟩, exOf n⟩
def dWhl (q : DTT) (tb : DTS) (N : DN) : Nat → S → Prop
  | 0, _ => False
  | m + 1, δ => q δ (fun b δ1 => if b = true then tb { N with nx := dWhl q tb N m, ct := dWhl q tb N m, bk := N.nx } δ1 else N.nx δ1) N.ex
def dWhile (q : DTT) (tb : DTS) : DTS := fun N δ => ∃ m, dWhl q tb N m δ
theorem ds_while {cnd : Expr} (B : XB X c W N sc k bb) (hc : DT X c W cnd q) (hb : DSs X c W bd t) : DS X c W (.While cnd bd [] pos) (dWhile q t) :=
  psI (ps_while B.pw hc hb) fun D σ H ⟨G, δ, N, R, ⟨m0, h⟩, n⟩ => by
    refine ⟨fun m σ' H' => ∃ G2 δ2, Le G G2 ∧ Rel c G2 H' σ' δ2 ∧ dWhl q t N m δ2, ⟨m0, G, δ, Le.refl _, R, h⟩, ?_⟩
    rintro m σ' H' ⟨G2, δ2, L2, R2, p2⟩
    cases m with
    | zero => exact p2.elim
    | succ m =>
      refine ⟨G2, δ2, _, N.ex, R2, p2, fun b δ3 G3 H3 p3 L3 R3 => ?_, exOf (n.mono L2)⟩
      have n3 := n.mono (L2.trans L3.g)
      cases b with
      | false => exact n3.nx δ3 G3 H3 σ' p3 (Le.refl _) R3
      | true =>
        refine ⟨fun σ4 H4 => ∃ G2 δ2, Le G G2 ∧ Rel c G2 H4 σ4 δ2 ∧ dWhl q t N m δ2, fun σ4 H4 z => ⟨m, Nat.lt_succ_self _, z⟩, G3, δ3, _, R3, p3, ?_⟩
        exact ⟨fun δ' G' H' σ' p L' R' => ⟨G', δ', (L2.trans L3.g).trans L', R', p⟩, n3.rt, n3.nx, fun δ' G' H' σ' p L' R' => ⟨G', δ', (L2.trans L3.g).trans L', R', p⟩, n3.ex⟩

/-! ### defs: what they promise over data -/
abbrev DSp := List D → Z → (D → Z → Prop) → (Er → Z → Prop) → Prop
def liftSp (c : Wd) (s : DSp) : Sp := fun vs H Q E => ∃ (G : Hp) (ds : List D) (z : Z) (P : D → Z → Prop) (R : Er → Z → Prop), StOk c G H z ∧ RepL c.K c.p0 G vs ds ∧ s ds z P R ∧
  (∀ d z' v G' H', P d z' → Post c z G H G' H' z' → Rep c.K c.p0 G' v d → Q v H') ∧
  (∀ er z' cls dd G' H', R er z' → Post c z G H G' H' z' → ErRep c G' cls dd er → E cls dd H')
/-- the frame env is one of the def at f -/
structure AtF (K : PySem.W.Frag) (f : Addr) (qual : Str) (env : Env) : Prop where
  code : ∃ oc od fd osl, K.lookup f = some ⟨oc, od, .func fd, osl⟩ ∧ fd.code = env.code
  qual : env.qual = qual ++ ".<locals>."
/-- a def that keeps sp, called where no text is being made -/
structure FnG (c : Wd) (k : Nat) (f : Addr) (fd : FuncData) (ps : List Str) (sp : Sp) : Prop where
  len : ∀ vs H Q E, sp vs H Q E → vs.length = ps.length
  run : ∀ (A : Around) (outer : List Env) (s : Shared) (H : Hp) (args : Args) (us : List Value) (vs : List V) (Q : VK) (E : XK), Room k A → A.guards = some [] → Env0 c.P c.w c.K c.mg c.base A outer s H → BindsTo s fd args (ps.zip us) → Vals vs us →
    sp vs H Q E → codeAny (model c.P c.w) A (.call (.ref f) args) (CR (L2.CX c.P c.w) outer c.P c.w H s Q E) s
theorem fnG_of {c : Wd} {name qual : Str} {params : Arguments} {body : List Stmt} {scope : Scope} {dvs : List V} {kws : List (Str × V)} {f : Addr} {fd : FuncData} {N ps : List Str} {k : Nat} {sp : Sp} (F : FunD c.K name qual params body scope dvs kws f fd) (S : FnScope N ps scope)
    (len : ∀ vs H Q E, sp vs H Q E → vs.length = ps.length)
    (bd : ∀ (cdv : Value) (A : Around) (outer : List Env) (s : Shared) (H : Hp) (vs : List V) (Q : VK) (E : XK), Room k (A.deeper (envOfC qual scope s.heap.objs.size f cdv)) → A.guards = some [] → AtF c.K f qual (envOfC qual scope s.heap.objs.size f cdv) → sp vs H Q E →
      ∃ t, PSs (cxOf (L2.CX c.P c.w) c.P c.w c.K c.mg c.base N qual scope f cdv A outer s H E) body t ∧ t { nx := fun _ H' => Q .non H', rt := Q } (L2.start N vs) H) : FnG c (k + 1) f fd ps sp := by
  obtain ⟨oc, od, dV, kV, doc, pm, an, cdv, ct, osl, rfl, lk, hcd, _, _⟩ := F.ex
  refine ⟨len, fun A outer s H args us vs Q E room gd e0 bnd rv hs => ?_⟩
  have kin : c.K.In s.heap := e0.mod.kin.keeps fun q o e => (e0.bs q o e).1
  have nolim : s.heap.NoLimit := e0.mod.nolimit.keeps fun q o e => (e0.bs q o e).1
  have kinds : ∀ y ∈ ps.zip us, scope.names.lookup y.1 = some .local ∨ (scope.names.lookup y.1 = some .cell ∧ ((cellsFrom (s.heap.objs.size + 1) scope.names []).lookup y.1).isSome = true) := fun y hy => by
    obtain ⟨nm, val⟩ := y
    have hn := (List.of_mem_zip hy).1
    cases S.par nm hn with
    | inl z => exact .inl z
    | inr z => exact .inr ⟨z, PySem.W.cellsFrom_some _ _ _ (.inl z)⟩
  refine codeAny_call_function room.depth (kin _ _ lk) rfl S.co S.gen rfl (PySem.W.codeRec_of kin hcd) (bnd _ _ _ _ (wpAny_newFunctionEnv_cells S.kind kinds fun env he s1 x => ?_))
  subst he
  obtain ⟨t, ht, ht2⟩ := bd cdv A outer s H vs Q E (room.deeper _) gd ⟨⟨oc, od, _, osl, lk, rfl⟩, rfl⟩ hs
  have J : Inv (cxOf (L2.CX c.P c.w) c.P c.w c.K c.mg c.base N qual scope f cdv A outer s H E) [] (L2.start N vs) H s1 := inv_start S room.hd e0 (len _ _ _ _ hs) rv x
  refine ⟨nolim.keeps x.toInCall.keep, codeAny_func (wpAny_mono (ht.run [] s1 _ H _ J ht2) (fun fl s' z => ?_) fun _ _ z => z)⟩
  cases fl with
  | brk => exact z.elim fun _ z => z.elim fun _ z => z.2.elim
  | cont => exact z.elim fun _ z => z.elim fun _ z => z.2.elim
  | next => obtain ⟨σ', H', J', q⟩ := z; exact ⟨.non, H', J'.os, J'.bare, J'.base, J'.hok, rfl, q⟩
  | ret u => obtain ⟨v, σ', H', J', r', q⟩ := z; exact ⟨v, H', J'.os, J'.bare, J'.base, J'.hok, r', q⟩
theorem make_guards {A : Around} {C : Addr} {us : List Value} {kw : List (Str × Value)} (h : A.guards = some []) : (A.under (.builtin "type.__call__" ⟨.ref C :: us, kw⟩)).guards = some [] := by
  simp [Around.under, Code.guards, Code.isGuard, guardIds, pushGuards, h]
theorem passAtW (tk : Takes X W) (σ : L2.St) : PassesAt (L2.CX X.prog X.w) X σ (fun cls d H => W cls d σ H) := passAt tk σ
end
end DL

/-! EL3: what can be called: defs, classes, methods; attributes. -/
namespace DL
open PySem L2 PySem.Spec PyProof.Rows

abbrev Sp2 := List V → List V → Hp → VK → XK → Prop
abbrev DSp2 := List D → List D → Z → (D → Z → Prop) → (Er → Z → Prop) → Prop
def liftSp2 (c : Wd) (s : DSp2) : Sp2 := fun vs zs H Q E => ∃ (G : Hp) (ds es : List D) (z : Z) (P : D → Z → Prop) (R : Er → Z → Prop), StOk c G H z ∧ RepL c.K c.p0 G vs ds ∧ RepL c.K c.p0 G zs es ∧ s ds es z P R ∧
  (∀ d z' v G' H', P d z' → Post c z G H G' H' z' → Rep c.K c.p0 G' v d → Q v H') ∧
  (∀ er z' cls dd G' H', R er z' → Post c z G H G' H' z' → ErRep c G' cls dd er → E cls dd H')
/-- fv may be called from any body: with values and the keywords ks it keeps s -/
structure Callee (c : Wd) (fv : Value) (ks : List Str) (k : Nat) (s : DSp2) : Prop where
  keeper : PySem.W.keepIn c.K fv = true
  code : ∀ (X : Cx) (W : WX) (pins : List (Addr × Obj)) (st : Shared) (σ : L2.St) (H : Hp) (us ws : List Value) (vs zs : List V) (Q : VK), X.prog = c.P → X.w = c.w → X.K = c.K → X.mg = c.mg → X.base = c.base → Room k X.A → X.A.guards = some [] → Takes X W →
    Inv X pins σ H st → Vals vs us → Vals zs ws → zs.length = ks.length → liftSp2 c s vs zs H Q (fun cls d H' => W cls d σ H') →
    codeAny (model X.prog X.w) X.A (.call fv ⟨us, ks.zip ws⟩) (fun r s' => match r with | .ok (.ret v) => EP X pins σ Q v s' | .ok _ => False | .error e => X.xe e s') st
theorem Callee.run {c : Wd} {fv : Value} {ks : List Str} {k : Nat} {s : DSp2} (h : Callee c fv ks k s) (X : Cx) (W : WX) (pins : List (Addr × Obj)) (st : Shared) (σ : L2.St) (H : Hp) (us ws : List Value) (vs zs : List V) (Q : VK) (a1 : X.prog = c.P) (a2 : X.w = c.w) (a3 : X.K = c.K) (a4 : X.mg = c.mg) (a5 : X.base = c.base) (r : Room k X.A) (gd : X.A.guards = some []) (t : Takes X W)
    (I : Inv X pins σ H st) (rv : Vals vs us) (rz : Vals zs ws) (e : zs.length = ks.length) (q : liftSp2 c s vs zs H Q (fun cls d H' => W cls d σ H')) : wpAny (model X.prog X.w) X.A (call fv us (ks.zip ws)) (EP X pins σ Q) X.xe st :=
  wpAny_call (h.code X W pins st σ H us ws vs zs Q a1 a2 a3 a4 a5 r gd t I rv rz e q)
theorem Callee.mono {c : Wd} {fv : Value} {ks : List Str} {j k : Nat} {s : DSp2} (h : Callee c fv ks j s) (l : j ≤ k) : Callee c fv ks k s :=
  ⟨h.keeper, fun X W pins st σ H us ws vs zs Q a1 a2 a3 a4 a5 r => h.code X W pins st σ H us ws vs zs Q a1 a2 a3 a4 a5 (r.mono l)⟩
theorem Callee.imp {c : Wd} {fv : Value} {ks : List Str} {k : Nat} {s s' : DSp2} (h : Callee c fv ks k s) (l : ∀ ds es n P R, s' ds es n P R → s ds es n P R) : Callee c fv ks k s' :=
  ⟨h.keeper, fun X W pins st σ H us ws vs zs Q a1 a2 a3 a4 a5 r gd t I rv rz e ⟨G, ds, es, n, P, R, b1, b4, b5, b6, b7, b8⟩ => h.code X W pins st σ H us ws vs zs Q a1 a2 a3 a4 a5 r gd t I rv rz e ⟨G, ds, es, n, P, R, b1, b4, b5, l _ _ _ _ _ b6, b7, b8⟩⟩

/-- how a call's values fall to the parameters -/
structure Shape (c : Wd) (fd : FuncData) (ps : List Str) (n : Nat) (ks : List Str) (gD : List D → List D → List D) : Prop where
  ex : ∃ g gV, KBn c.K fd ps n ks g gV ∧ ∀ (G : Hp) (vs zs : List V) (ds es : List D), RepL c.K c.p0 G vs ds → RepL c.K c.p0 G zs es → RepL c.K c.p0 G (gV vs zs) (gD ds es)
/-- a def as a callee -/
theorem callee_fn {c : Wd} {f : Addr} {fd : FuncData} {ps ks : List Str} {n k : Nat} {gD : List D → List D → List D} {s : DSp} (F : FnG c k f fd ps (liftSp c s)) (kp : PySem.W.keepIn c.K (.ref f) = true) (b : Shape c fd ps n ks gD) :
    Callee c (.ref f) ks k (fun ds es m P R => ds.length = n ∧ s (gD ds es) m P R) := by
  refine ⟨kp, fun X W pins st σ H us ws vs zs Q a1 a2 a3 a4 a5 r gd t I rv rz e ⟨G, ds, es, m, P, R, b1, b4, b5, ⟨b6, b6'⟩, b7, b8⟩ => ?_⟩
  obtain ⟨g, gV, kb, hg⟩ := b.ex
  have hsp : liftSp c s (gV vs zs) H Q (fun cls d H' => W cls d σ H') := ⟨G, gD ds es, m, P, R, b1, hg G vs zs ds es b4 b5, b6', b7, b8⟩
  obtain ⟨hP, hw⟩ := (⟨a1, a2⟩ : X.prog = c.P ∧ X.w = c.w)
  have n1 : us.length = n := by rw [← rv.length, b4.len, b6]
  have n2 : ws.length = ks.length := by rw [← rz.length, e]
  have E0 : Env0 c.P c.w c.K c.mg c.base X.A X.stack st H := by rw [← a1, ← a2, ← a3, ← a4, ← a5]; exact I.env0
  rw [hP, hw]
  refine codeAny_mono (F.run X.A X.stack st H ⟨us, ks.zip ws⟩ (g us ws) (gV vs zs) Q _ r gd E0 (kb.to st us ws (by rw [← a3]; exact I.kIn) n1 n2) (kb.rel rv rz) hsp) fun res s' hq => ?_
  cases res with
  | error ee => rw [← hP, ← hw] at hq; exact passAtW t σ pins H st ee s' I hq
  | ok fl => rw [← hP, ← hw] at hq; cases fl <;> first | exact I.after hq | exact hq.elim

/-- an __init__'s promise: from the values (behind self) to the fields -/
abbrev DInit := List D → Z → (List (Str × D) → Z → Prop) → (Er → Z → Prop) → Prop
structure PostI (c : Wd) (a : Addr) (z : Z) (G H G' H' : Hp) (z' : Z) : Prop where
  st : StOk c G' H' z'
  go : Go (fun b => Spc c z b ∨ b = a) (fun b => Spc c z' b ∨ b = a) G H G' H'
def liftInit (c : Wd) (C : Addr) (s : DInit) : Sp := fun vs H Q E => ∃ (a dx : Addr) (vs' : List V) (G : Hp) (ds : List D) (z : Z) (P : List (Str × D) → Z → Prop) (R : Er → Z → Prop),
  vs = .ref a :: vs' ∧ H a = some (.ins C dx []) ∧ G a = none ∧ ¬ Spc c z a ∧ StOk c G H z ∧ RepL c.K c.p0 G vs' ds ∧ s ds z P R ∧
  (∀ fs z' fvs dx' G' H', P fs z' → PostI c a z G H G' H' z' → H' a = some (.ins C dx' fvs) → G' a = none → ¬ Spc c z' a → RepF c.K c.p0 G' fvs fs → Q .non H') ∧
  (∀ er z' cls dd G' H', R er z' → PostI c a z G H G' H' z' → ErRep c G' cls dd er → E cls dd H')
/-- a class as a callee -/
theorem callee_cls {c : Wd} {C f : Addr} {fd : FuncData} {ps ks : List Str} {n k : Nat} {gD gS : List D → List D → List D} {s : DInit} (M : Mk c.K C f) (F : FnG c k f fd ps (liftInit c C s))
    (b : Shape c fd ps (n + 1) ks gS) (hS : ∀ d r es, gS (d :: r) es = d :: gD r es) :
    Callee c (.ref C) ks (k + 1) (fun ds es m P R => ds.length = n ∧ s (gD ds es) m (fun fs m' => P (.ins C fs) m') R) := by
  refine ⟨M.kp, fun X W pins st σ H us ws vs zs Q a1 a2 a3 a4 a5 r gd t I rv rz e ⟨G, ds, es, m, P, R, b1, b4, b5, ⟨b6, b6'⟩, b7, b8⟩ => ?_⟩
  obtain ⟨g, gV, kb, hg⟩ := b.ex
  obtain ⟨hP, hw⟩ := (⟨a1, a2⟩ : X.prog = c.P ∧ X.w = c.w)
  have M' : Mk X.K C f := by rw [a3]; exact M
  -- the instance and its dict
  let xa := st.heap.objs.size + 1
  let da := st.heap.objs.size
  have fx : H xa = none := I.hok.fresh (Nat.le_succ _)
  have fx' : H da = none := I.hok.fresh (Nat.le_refl _)
  have nxd : da ≠ xa := Nat.ne_of_lt (Nat.lt_succ_self _)
  have J := Inv.made (C := C) I
  let H1 := upd (upd H da (.own xa)) xa (.ins C da [])
  have pA := b1.laidH (o := HO.own xa) fx'
  have pB := pA.st.laidH (p := xa) (o := HO.ins C da []) (by rw [upd_ne (Ne.symm nxd)]; exact fx)
  have p1 : Post c m G H G H1 m := pA.trans pB
  have gx : G xa = none := b1.gnone fx
  have nS : ¬ Spc c m xa := b1.pne fx
  -- the values, as the parameters take them
  have selfR : RepL c.K c.p0 G (.ref xa :: vs) (.ref xa :: ds) := .cons (.ref xa) b4
  have full := hg G (.ref xa :: vs) zs (.ref xa :: ds) es selfR b5
  have full' : RepL c.K c.p0 G (gV (.ref xa :: vs) zs) (.ref xa :: gD ds es) := by rw [← hS]; exact full
  have n1 : (Value.ref xa :: us).length = n + 1 := by rw [List.length_cons, ← rv.length, b4.len, b6]
  have n2 : ws.length = ks.length := by rw [← rz.length, e]
  obtain ⟨vr, hvr, rvr⟩ : ∃ vr, gV (.ref xa :: vs) zs = .ref xa :: vr ∧ RepL c.K c.p0 G vr (gD ds es) := by
    revert full'
    generalize gV (.ref xa :: vs) zs = L
    intro full'
    cases full' with
    | cons q1 q2 => cases q1 with | ref _ => exact ⟨_, rfl, q2⟩
  have goI : ∀ {z' : Z} {G' H' : Hp}, PostI c xa m G H1 G' H' z' → Go (Spc c m) (fun b => Spc c z' b ∨ b = xa) G H G' H' := fun {z' G' H'} po =>
    (p1.go.imp (T' := fun b => Spc c m b ∨ b = xa) (fun _ h => h) fun b h => h.elim .inl fun q => .inr (.inr (q ▸ fx))).trans po.go
  have hsp : liftInit c C s (gV (.ref xa :: vs) zs) H1 (fun v H2 => v = .non ∧ Q (.ref xa) H2) (fun cls d H' => W cls d σ H') := by
    refine ⟨xa, da, vr, G, gD ds es, m, fun fs m' => P (.ins C fs) m', R, hvr, upd_same, gx, nS, p1.st, rvr, b6', fun fs n' fvs dx' G' H' hp po ha gn ns hf => ⟨rfl, ?_⟩, fun er n' cls dd G' H' hr po hE => ?_⟩
    · have LL : Le G' (upd G' xa (.ins C dx' fvs)) := Le.new gn
      refine b7 (.ins C fs) n' (.ref xa) (upd G' xa (.ins C dx' fvs)) H' hp ⟨po.st.frozen ha gn ns, (goI po).frozen fx ns⟩ (.ins upd_same (hf.mono LL))
    · exact b8 er n' cls dd G' H' hr ⟨po.st, (goI po).imp (fun _ h => h) fun x h => .inl (.inl h)⟩ hE
  have rV : Vals (.ref xa :: vs) (Value.ref xa :: us) := .cons rfl rv
  have E0 := J.env0.make C us (ks.zip ws)
  rw [a1, a2, a3, a4, a5] at E0
  rw [hP, hw]
  refine make_map (f := f) I.kIn M'.makes M'.init (beq_iff_eq.mp M'.fn) (codeAny_mono (F.run _ X.stack _ H1 ⟨Value.ref xa :: us, ks.zip ws⟩ (g (Value.ref xa :: us) ws) (gV (.ref xa :: vs) zs) _ _ (r.make C us (ks.zip ws)) (make_guards gd)
    E0 (kb.to _ (Value.ref xa :: us) ws (by rw [← a3]; exact J.kIn) n1 n2) (kb.rel rV rz) hsp) fun res s' hq => ?_)
  cases res with
  | error ee => rw [← hP, ← hw] at hq; exact passAtW t σ pins H1 _ ee s' J hq
  | ok fl =>
    cases fl with
    | ret u =>
      rw [← hP, ← hw] at hq
      obtain ⟨v, H', J', rv', ev, q3⟩ := J.after hq
      subst ev
      exact ⟨rv', ⟨V.ref xa, H', J', rfl, q3⟩⟩
    | next => exact hq.elim
    | brk => exact hq.elim
    | cont => exact hq.elim

/-! ### a call by a global name -/
section
variable {X : Cx} {c : Fr} {W : WX} {N : List Str} {sc : Scope} {k j : Nat} {bb : Bool} {e a b o : Expr} {es : List Expr} {pos apos p : Pos} {r ra rb : DTE} {rs rk : DTA} {kws : List Keyword} {ks : List Str} {s : DSp2} {fv : Value} {x : Str}
abbrev DK (X : Cx) (c : Fr) (W : WX) (kws : List Keyword) (r : DTA) : Prop := PK X kws (liftA c W r)
theorem pkI {e : List Keyword} {t t' : TA} (h : PK X e t) (k : ∀ σ H Q, t' σ H Q → t σ H Q) : PK X e t' := ⟨fun pos pins s σ H Q I q => h.run pos pins s σ H Q I (k σ H Q q)⟩
theorem dk_nil : DK X c W [] dNil := pkI pk_nil fun σ H Q ⟨G, δ, P, E, R, h, k, x⟩ => k _ _ _ G H h Go.refl R .nil
theorem dk_cons {nm : Option Str} {kpos : Pos} (ha : DE X c W e r) (hr : DK X c W kws rk) : DK X c W (⟨nm, e, kpos⟩ :: kws) (dCons r rk) :=
  pkI (pk_cons ha hr) fun σ H Q ⟨G, δ, P, E, R, h, kk, x⟩ => ⟨G, δ, _, E, R, h, fun d δ1 v G1 H1 p1 L1 R1 r1 =>
    ⟨G1, δ1, _, E, R1, p1, fun ds δ2 vs G2 H2 p2 L2 R2 r2 => kk _ _ _ G2 H2 p2 (L1.trans L2) R2 (.cons (r1.mono L2.g) r2), x.mono L1.g⟩, x⟩
/-- a call's reading: s of the values and the keywords' values -/
def dCall (s : DSp2) (rs rk : DTA) : DTE := fun δ P E => rs δ (fun ds δ1 => rk δ1 (fun zs δ2 => s ds zs δ2.z (fun d n => P d { δ2 with z := n }) (fun er n => E er { δ2 with z := n })) E) E
def tCall2 (sp : Sp2) (W : WX) (nk : Nat) (t tk : TA) : TE := fun σ H Q => t σ H fun vs H1 => tk σ H1 fun zs H2 => zs.length = nk ∧ sp vs zs H2 Q (fun cls d H' => W cls d σ H')
theorem dcall_ok {σ : L2.St} {H : Hp} {Q : VK} {nk : Nat} (h : ∃ G δ P E, Rel c G H σ δ ∧ dCall s rs rk δ P E ∧ (∀ d δ' v G' H', P d δ' → Gof c δ δ' σ G H G' H' → Rel c G' H' σ δ' → Rep c.K c.p0 G' v d → Q v H') ∧ ExOk c W G σ E) (hl : ∀ ds zs n P R, s ds zs n P R → zs.length = nk) :
    tCall2 (liftSp2 c.toWd s) W nk (liftA c W rs) (liftA c W rk) σ H Q := by
  obtain ⟨G, δ, P, E, R, h, kk, x⟩ := h
  refine ⟨G, δ, _, E, R, h, fun ds δ1 vs G1 H1 p1 L1 R1 r1 => ⟨G1, δ1, _, E, R1, p1, fun zs δ2 us G2 H2 p2 L2 R2 r2 => ⟨by rw [r2.len]; exact hl _ _ _ _ _ p2, G2, ds, zs, δ2.z, _, _, R2.st, r1.mono L2.g, r2, p2, fun d n' v G' H' q po rr => ?_, fun er n' cls dd G' H' q po rr => ?_⟩, x.mono L1.g⟩, x⟩
  · exact kk d _ v G' H' q ((L1.trans L2).trans (po.spf R2)) (R2.post po) rr
  · exact x er _ cls dd G' H' q ((L1.trans L2).g.trans po.go.g) (R2.post po) rr
theorem xb_room (B : XB X c W N sc k bb) (h : j ≤ k) : Room j X.A := B.room.mono h
theorem runC (B : XB X c W N sc k bb) (hc : Callee c.toWd fv ks j s) (hj : j ≤ k) {pins : List (Addr × Obj)} {st : Shared} {σ : L2.St} {H : Hp} {us ws : List Value} {vs zs : List V} {Q : VK} (I : Inv X pins σ H st) (rv : Vals vs us) (rz : Vals zs ws) (e : zs.length = ks.length)
    (h : liftSp2 c.toWd s vs zs H Q (fun cls d H' => W cls d σ H')) : wpAny (model X.prog X.w) X.A (call fv us (ks.zip ws)) (EP X pins σ Q) X.xe st :=
  hc.run X W pins st σ H us ws vs zs Q B.hP B.hw B.hK B.hm B.hb (B.room.mono hj) B.gd B.tk I rv rz e h
theorem keepX (B : XB X c W N sc k bb) (hc : Callee c.toWd fv ks j s) : PySem.W.keepIn X.K fv = true := by rw [B.hK]; exact hc.keeper
theorem glX (B : XB X c W N sc k bb) (hg : sc.names.lookup x = some .globalImplicit) : Gl X x := by show X.env.scope.names.lookup x = _; rw [B.hs]; exact hg
/-- f(e, ..) -/
theorem de_call (B : XB X c W N sc k bb) (hm : c.mg x = some fv) (hc : Callee c.toWd fv [] j s) (hj : j ≤ k) (hg : sc.names.lookup x = some .globalImplicit) (ha : DA X c W (e :: es) rs)
    (hdb : (x == ("__debug__" : Str)) = false := by decide) (he : starEach (e :: es) X.env = (false, eval e X.env) :: starEach es X.env := by rfl) (hpl : (backTo pos (starEach es X.env)).any (·.1) = false := by rfl) :
    DE X c W (.Call (.Name x p) (e :: es) [] pos) (dCall (fun ds zs n P R => zs = [] ∧ s ds [] n P R) rs dNil) := by
  refine ⟨fun pins st σ H Q I h => ?_⟩
  obtain ⟨G, δ, P, E, R, h, kk, xx⟩ := h
  refine wpAny_Call_Name_kw (ld_glob I (glX B hg) (by rw [B.hm]; exact hm) ?_ hdb)
  refine PySem.W.callWith_K (h₀ := X.base) I.ok.mod.kin (keepX B hc) (thn (ha.run pos pins st σ H (fun vs H1 => liftSp2 c.toWd s vs [] H1 Q fun cls d H' => W cls d σ H') I ⟨G, δ, _, E, R, h, fun ds δ1 vs G1 H1 p1 L1 R1 r1 => ?_, xx⟩) fun us s1 ⟨vs, H1, I1, rv, q⟩ => ⟨I1.kIn, ?_⟩) he hpl
  · exact ⟨G1, ds, [], δ1.z, _, _, R1.st, r1, .nil, p1.2, fun d n' v G' H' q po rr => kk d _ v G' H' q (L1.trans (po.spf R1)) (R1.post po) rr, fun er n' cls dd G' H' q po rr => xx er _ cls dd G' H' q (L1.g.trans po.go.g) (R1.post po) rr⟩
  · exact runC B hc hj I1 rv .nil rfl q
/-- f() -/
theorem de_call0 (B : XB X c W N sc k bb) (hm : c.mg x = some fv) (hc : Callee c.toWd fv [] j s) (hj : j ≤ k) (hg : sc.names.lookup x = some .globalImplicit)
    (hdb : (x == ("__debug__" : Str)) = false := by decide) : DE X c W (.Call (.Name x p) [] [] pos) (dCall (fun ds zs n P R => zs = [] ∧ s ds [] n P R) dNil dNil) := by
  refine ⟨fun pins st σ H Q I h => ?_⟩
  obtain ⟨G, δ, P, E, R, h, kk, xx⟩ := h
  refine wpAny_Call_Name_kw (ld_glob I (glX B hg) (by rw [B.hm]; exact hm) ?_ hdb)
  refine PySem.W.callWith_K0 I.kIn (keepX B hc) (runC (us := []) (ws := []) B hc hj I .nil .nil rfl ?_)
  exact ⟨G, [], [], δ.z, _, _, R.st, .nil, .nil, h.2, fun d n' v G' H' q po rr => kk d _ v G' H' q (po.spf R) (R.post po) rr, fun er n' cls dd G' H' q po rr => xx er _ cls dd G' H' q po.go.g (R.post po) rr⟩
/-- f(e, .., k = v, ..) -/
theorem de_callK (B : XB X c W N sc k bb) (hm : c.mg x = some fv) (hc : Callee c.toWd fv ks j s) (hj : j ≤ k) (hg : sc.names.lookup x = some .globalImplicit) (ha : DA X c W (e :: es) rs) (hk : DK X c W kws rk)
    (hall : (backToKw pos (keywordEach kws X.env)).all (·.1.isSome) = true := by rfl) (hks : (backToKw pos (keywordEach kws X.env)).filterMap (·.1) = ks := by rfl)
    (hdb : (x == ("__debug__" : Str)) = false := by decide) (he : starEach (e :: es) X.env = (false, eval e X.env) :: starEach es X.env := by rfl)
    (hpl : ((backTo pos (starEach (e :: es) X.env)).any (·.1) || (backToKw pos (keywordEach kws X.env)).any (·.1.isNone)) = false := by rfl) :
    DE X c W (.Call (.Name x p) (e :: es) kws pos) (dCall (fun ds zs n P R => zs.length = ks.length ∧ s ds zs n P R) rs rk) := by
  refine ⟨fun pins st σ H Q I h => ?_⟩
  obtain ⟨G, δ, P, E, R, h, kk, xx⟩ := h
  refine wpAny_Call_Name_kw (ld_glob I (glX B hg) (by rw [B.hm]; exact hm) ?_ hdb)
  refine PySem.W.callWith_KW (h₀ := X.base) I.ok.mod.kin (keepX B hc) hall (thn (ha.run pos pins st σ H (fun vs H1 => liftA c W rk σ H1 fun zs H2 => zs.length = ks.length ∧ liftSp2 c.toWd s vs zs H2 Q fun cls d H' => W cls d σ H') I ⟨G, δ, _, E, R, h, fun ds δ1 vs G1 H1 p1 L1 R1 r1 => ?_, xx⟩) fun us s1 ⟨vs, H1, I1, rv, q⟩ => ?_) hpl he
  · exact ⟨G1, δ1, _, E, R1, p1, fun zs δ2 us G2 H2 p2 L2 R2 r2 => ⟨by rw [r2.len]; exact p2.1, G2, ds, zs, δ2.z, _, _, R2.st, r1.mono L2.g, r2, p2.2, fun d n' v G' H' q po rr => kk d _ v G' H' q ((L1.trans L2).trans (po.spf R2)) (R2.post po) rr, fun er n' cls dd G' H' q po rr => xx er _ cls dd G' H' q ((L1.trans L2).g.trans po.go.g) (R2.post po) rr⟩, xx.mono L1.g⟩
  · refine thn (hk.run pos pins s1 σ H1 _ I1 q) fun ws s2 ⟨zs, H2, I2, rz, e2, q2⟩ => ⟨I2.kIn, ?_⟩
    rw [hks]
    exact runC B hc hj I2 rv rz e2 q2
/-- f(k = v, ..) -/
theorem de_callK0 (B : XB X c W N sc k bb) (hm : c.mg x = some fv) (hc : Callee c.toWd fv ks j s) (hj : j ≤ k) (hg : sc.names.lookup x = some .globalImplicit) (hk : DK X c W kws rk)
    (hall : (backToKw pos (keywordEach kws X.env)).all (·.1.isSome) = true := by rfl) (hks : (backToKw pos (keywordEach kws X.env)).filterMap (·.1) = ks := by rfl)
    (hdb : (x == ("__debug__" : Str)) = false := by decide)
    (hpl : ((backTo pos (starEach [] X.env)).any (·.1) || (backToKw pos (keywordEach kws X.env)).any (·.1.isNone)) = false := by rfl) :
    DE X c W (.Call (.Name x p) [] kws pos) (dCall (fun ds zs n P R => zs.length = ks.length ∧ s ds zs n P R) dNil rk) := by
  refine ⟨fun pins st σ H Q I h => ?_⟩
  obtain ⟨G, δ, P, E, R, h, kk, xx⟩ := h
  refine wpAny_Call_Name_kw (ld_glob I (glX B hg) (by rw [B.hm]; exact hm) ?_ hdb)
  refine PySem.W.callWith_KW0 (h₀ := X.base) I.ok.mod.kin (keepX B hc) hall (thn (hk.run pos pins st σ H (fun zs H2 => zs.length = ks.length ∧ liftSp2 c.toWd s [] zs H2 Q fun cls d H' => W cls d σ H') I ⟨G, δ, _, E, R, h, fun zs δ2 us G2 H2 p2 L2 R2 r2 => ?_, xx⟩) fun ws s2 ⟨zs, H2, I2, rz, e2, q2⟩ => ⟨I2.kIn, ?_⟩) hpl
  · exact ⟨by rw [r2.len]; exact p2.1, G2, [], zs, δ2.z, _, _, R2.st, .nil, r2, p2.2, fun d n' v G' H' q po rr => kk d _ v G' H' q (L2.trans (po.spf R2)) (R2.post po) rr, fun er n' cls dd G' H' q po rr => xx er _ cls dd G' H' q (L2.g.trans po.go.g) (R2.post po) rr⟩
  · rw [hks]
    exact runC (us := []) B hc hj I2 .nil rz e2 q2

/-! ### attributes -/
structure CA (c : Wd) (C : Addr) (f : Str) : Prop where
  cl : Cls c.K C
  na : NoAttr c.K C f
def dFld (c : Wd) (f : Str) (r : DTE) : DTE := fun δ P E => r δ (fun d δ1 => match d with
  | .ins C fs => CA c C f ∧ (match fs.lookup f with
    | some x => P x δ1
    | none => False)
  | _ => False) E
theorem de_fld {f : Str} (B : XB X c W N sc k bb) (he : DE X c W e r) (hb : attributeBase e f X.env (eval e X.env) = eval e X.env := by rfl) : DE X c W (.Attribute e f pos) (dFld c.toWd f r) :=
  peI (pe_fld he hb) fun σ H Q ⟨G, δ, P, E, R, h, kk, x⟩ => ⟨G, δ, _, E, R, h, fun d δ1 v G1 H1 p L R1 rr => by
    cases rr with
    | ins h1 rf =>
      obtain ⟨ca, p⟩ := p
      revert p
      generalize hq : List.lookup f _ = q
      intro p
      cases q with
      | none => exact p.elim
      | some y =>
        obtain ⟨u, hu, ru⟩ := rf.look hq
        exact ⟨_, _, _, _, u, rfl, R1.le _ _ h1, by rw [B.hK]; exact ca.cl, by rw [B.hK]; exact ca.na, hu, kk y δ1 u G1 H1 p L R1 ru⟩
    | _ => exact p.elim, x⟩
/-- in an __init__: self.f, self.f = e -/
def dSelfFld (c : Wd) (i : Nat) (f : Str) : DTE := fun δ P _ => match δ.sl[i]? with
  | some (.self C fs) => CA c C f ∧ (match fs.lookup f with
    | some x => P x δ
    | none => False)
  | _ => False
theorem de_self {f x : Str} {i : Nat} (B : XB X c W N sc k bb) (hN : N[i]? = some x) (hv : Vis sc x) (hb : attributeBase (.Name x p) f X.env (eval (.Name x p) X.env) = eval (.Name x p) X.env := by rfl) (hd : (x == ("__debug__" : Str)) = false := by decide) (hcd : (x == ("__classdict__" : Str)) = false := by decide) :
    DE X c W (.Attribute (.Name x p) f pos) (dSelfFld c.toWd i f) := by
  refine peI (pe_fld (pe_var (i := i) (by rw [B.hN]; exact hN) (by rw [B.hs]; exact hv) hd hcd) hb) fun σ H Q ⟨G, δ, P, E, R, h, kk, xx⟩ => ?_
  unfold dSelfFld at h
  revert h
  cases e : δ.sl[i]? with
  | none => intro h; exact h.elim
  | some s =>
    have hs := R.sl i s e
    cases s with
    | self C fs =>
      rintro ⟨ca, h⟩
      obtain ⟨a, dx, vs, h1, h2, h3, hmu, hm, h4⟩ := hs
      revert h
      generalize hq : List.lookup f fs = q
      intro h
      cases q with
      | none => exact h.elim
      | some y =>
        obtain ⟨u, hu, ru⟩ := h4.look hq
        exact ⟨_, at_some h1, _, _, _, _, u, rfl, h2, by rw [B.hK]; exact ca.cl, by rw [B.hK]; exact ca.na, hu, kk y δ u G H h Go.refl R ru⟩
    | _ => intro h; exact h.elim
/-- fields put, in data -/
def putD (f : Str) (v : D) : List (Str × D) → List (Str × D)
  | [] => [(f, v)]
  | (g, w) :: r => if g = f then (g, v) :: r else (g, w) :: putD f v r
theorem RepF.put {K : PySem.W.Frag} {p0 : Addr} {G : Hp} {f : Str} {v : V} {d : D} (h : Rep K p0 G v d) : ∀ {vs : List (Str × V)} {ds : List (Str × D)}, RepF K p0 G vs ds → RepF K p0 G (putF f v vs) (putD f d ds)
  | _, _, .nil => .cons h .nil
  | _, _, .cons (k := g) a b => by
    unfold putF putD
    by_cases q : g = f
    · rw [if_pos q, if_pos q]; exact .cons h b
    · rw [if_neg q, if_neg q]; exact .cons a (RepF.put h b)
def dSelfSet (c : Wd) (i : Nat) (f : Str) (r : DTE) : DTS := fun N δ => r δ (fun d δ1 => match δ1.sl[i]? with
  | some (.self C fs) => CA c C f ∧ fs.length < 1000 ∧ N.nx { δ1 with sl := δ1.sl.set i (.self C (putD f d fs)) }
  | _ => False) N.ex
theorem ds_self {f x : Str} {i : Nat} {pos' : Pos} (B : XB X c W N sc k bb) (hN : N[i]? = some x) (hv : Vis sc x) (he : DE X c W e r)
    (hs : swapsWith e (some (.Attribute (.Name x p) f pos')) pos.line X.env = pure false := by rfl) (hd : (x == ("__debug__" : Str)) = false := by decide) (hcd : (x == ("__classdict__" : Str)) = false := by decide) : DS X c W (.Assign [.Attribute (.Name x p) f pos'] e pos) (dSelfSet c.toWd i f r) :=
  psI (ps_fld (pe_var (i := i) (by rw [B.hN]; exact hN) (by rw [B.hs]; exact hv) hd hcd) he hs) fun D σ H ⟨G, δ, N, R, h, n⟩ => ⟨G, δ, _, N.ex, R, h, fun d δ1 v G1 H1 p1 L1 R1 r1 => by
    revert p1
    cases e : δ1.sl[i]? with
    | none => intro h; exact h.elim
    | some s =>
      have hs := R1.sl i s e
      cases s with
      | self C fs =>
        rintro ⟨ca, hl, hn⟩
        obtain ⟨a, dx, vs, h1, h2, h3, hmu, hm, h4⟩ := hs
        exact ⟨_, at_some h1, _, _, _, _, rfl, h2, by rw [B.hK]; exact ca.cl, by rw [B.hK]; exact ca.na, by rw [h4.len]; exact hl, n.nx _ G1 _ σ hn L1.g (Rel.own R1 e h1 rfl h3 hmu rfl ⟨a, dx, _, rfl, upd_same, h3, hmu, hm, RepF.put r1 h4⟩)⟩
      | _ => intro h; exact h.elim, exOf n⟩
end
end DL

/-! EL4: a def by its body; an __init__ by its body; methods; comprehensions. -/
namespace DL
open PySem L2 PySem.Spec PyProof.Rows

def fnN (P : D → Z → Prop) (R : Er → Z → Prop) : DN := { nx := fun δ => P .non δ.z, rt := fun d δ => P d δ.z, bk := fun _ => False, ct := fun _ => False, ex := fun er δ => R er δ.z }
def startS (N : List Str) (ds : List D) (n : Z) : S := ⟨ds.map .d ++ List.replicate (N.length - ds.length) .un, n⟩
theorem at_start {N : List Str} {vs : List V} {i : Nat} {v : V} (h : vs[i]? = some v) : at_ (L2.start N vs) i = some v := by
  have hi : i < vs.length := (List.getElem?_eq_some_iff.mp h).1
  unfold at_ L2.start
  rw [List.getElem?_append_left (by simpa using hi), List.getElem?_map, h]
  rfl
theorem startS_get {N : List Str} {ds : List D} {n : Z} {i : Nat} {s : Sl} (h : (startS N ds n).sl[i]? = some s) : (∃ x, ds[i]? = some x ∧ s = .d x) ∨ s = .un := by
  unfold startS at h
  simp only at h
  by_cases hi : i < ds.length
  · rw [List.getElem?_append_left (by simpa using hi), List.getElem?_map] at h
    cases e : ds[i]? with
    | none => rw [e] at h; cases h
    | some x => rw [e] at h; cases h; exact .inl ⟨x, rfl, rfl⟩
  · rw [List.getElem?_append_right (by simpa using hi), List.getElem?_replicate] at h
    split at h
    · cases h; exact .inr rfl
    · cases h
theorem rel_start {c : Wd} {G H : Hp} {N : List Str} {vs : List V} {ds : List D} {n : Z} (st : StOk c G H n) (r : RepL c.K c.p0 G vs ds) : Rel (frOf c G H n []) G H (L2.start N vs) (startS N ds n) := by
  have own : ∀ a, ¬ Own (startS N ds n) (L2.start N vs) a := fun a ⟨i, s, h1, o, _⟩ => by
    rcases startS_get h1 with ⟨x, hx, rfl⟩ | rfl <;> cases o
  refine ⟨st, Go.refl (S := Spc c n) |>.imp (fun _ h => .inl h) (fun a h => h.elim .inl fun o => absurd o (own a)), ?_, fun i s h => ?_, fun i j a s t _ h1 h2 o1 _ _ _ => ?_⟩
  · unfold L2.start startS
    simp [r.len]
  · rcases startS_get h with ⟨x, hx, rfl⟩ | rfl
    · obtain ⟨u, h1, h2⟩ := r.get hx
      exact ⟨u, at_start h1, h2⟩
    · trivial
  · rcases startS_get h1 with ⟨x, hx, rfl⟩ | rfl <;> cases o1
section
variable {c : Wd} {name qual : Str} {params : Arguments} {body : List Stmt} {scope : Scope} {dvs : List V} {kws : List (Str × V)} {f : Addr} {fd : FuncData} {N ps : List Str} {k : Nat} {t : DTS}
/-- THE RULE for a def: its body's derivation, its reading -/
theorem fn_ok {sp : DSp} (F : FunD c.K name qual params body scope dvs kws f fd) (S : FnScope N ps scope) (len : ∀ ds n P R, sp ds n P R → ds.length = ps.length)
    (hb : ∀ (X : Cx) (cf : Fr) (W : WX), cf.toWd = c → XB X cf W N scope k false → DSs X cf W body t)
    (hr : ∀ ds n P R, sp ds n P R → t (fnN P R) (startS N ds n)) : FnG c (k + 1) f fd ps (liftSp c sp) := by
  refine fnG_of F S (fun vs H Q E h => ?_) fun cdv A outer s H vs Q E room gd _ h => ?_
  · obtain ⟨G, ds, n, P, R, b1, b4, b5, _⟩ := h
    rw [b4.len]; exact len ds n P R b5
  · obtain ⟨G, ds, n, P, R, b1, b4, b5, b6, b7⟩ := h
    have tk := takes_of (X := cxOf (L2.CX c.P c.w) c.P c.w c.K c.mg c.base N qual scope f cdv A outer s H E) (E := E) rfl rfl rfl rfl
    refine ⟨_, hb _ (frOf c G H n []) (fun cls dd _ H' => E cls dd H') rfl ⟨rfl, rfl, rfl, rfl, rfl, rfl, S.nd, rfl, rfl, room, gd, tk, passes_of rfl, fun _ _ => rfl, fun _ => rfl, fun _ => ⟨rfl, rfl⟩⟩, G, startS N ds n, fnN P R, rel_start b1 b4, hr ds n P R b5, ?_⟩
    have po : ∀ {δ' G' H' σ'}, Le G G' → Rel (frOf c G H n []) G' H' σ' δ' → Post c n G H G' H' δ'.z := fun {δ' G' H' σ'} L R' =>
      ⟨R'.st, R'.go.imp (fun a h => h.elim id fun m => absurd m (by simp)) fun a h => .inl (.inl h)⟩
    exact ⟨fun δ' G' H' σ' p L R' => b6 .non _ _ _ _ p (po L R') .non, fun d δ' v G' H' σ' p L R' rr => b6 d _ v _ _ p (po L R') rr, fun _ _ _ _ p => p.elim, fun _ _ _ _ p => p.elim,
      fun er δ' cls dd G' H' σ' p L R' he => b7 er _ cls dd _ _ p (po L R') he⟩
/-- a def that holds lambdas -/
theorem fn_okL {sp : DSp} (F : FunD c.K name qual params body scope dvs kws f fd) (S : FnScope N ps scope) (len : ∀ ds n P R, sp ds n P R → ds.length = ps.length)
    (hb : ∀ (X : Cx) (cf : Fr) (W : WX), cf.toWd = c → XB X cf W N scope k false → AtF c.K f qual X.env → DSs X cf W body t)
    (hr : ∀ ds n P R, sp ds n P R → t (fnN P R) (startS N ds n)) : FnG c (k + 1) f fd ps (liftSp c sp) := by
  refine fnG_of F S (fun vs H Q E h => ?_) fun cdv A outer s H vs Q E room gd hat h => ?_
  · obtain ⟨G, ds, n, P, R, b1, b4, b5, _⟩ := h
    rw [b4.len]; exact len ds n P R b5
  · obtain ⟨G, ds, n, P, R, b1, b4, b5, b6, b7⟩ := h
    have tk := takes_of (X := cxOf (L2.CX c.P c.w) c.P c.w c.K c.mg c.base N qual scope f cdv A outer s H E) (E := E) rfl rfl rfl rfl
    refine ⟨_, hb _ (frOf c G H n []) (fun cls dd _ H' => E cls dd H') rfl ⟨rfl, rfl, rfl, rfl, rfl, rfl, S.nd, rfl, rfl, room, gd, tk, passes_of rfl, fun _ _ => rfl, fun _ => rfl, fun _ => ⟨rfl, rfl⟩⟩ hat, G, startS N ds n, fnN P R, rel_start b1 b4, hr ds n P R b5, ?_⟩
    have po : ∀ {δ' G' H' σ'}, Le G G' → Rel (frOf c G H n []) G' H' σ' δ' → Post c n G H G' H' δ'.z := fun {δ' G' H' σ'} L R' =>
      ⟨R'.st, R'.go.imp (fun a h => h.elim id fun m => absurd m (by simp)) fun a h => .inl (.inl h)⟩
    exact ⟨fun δ' G' H' σ' p L R' => b6 .non _ _ _ _ p (po L R') .non, fun d δ' v G' H' σ' p L R' rr => b6 d _ v _ _ p (po L R') rr, fun _ _ _ _ p => p.elim, fun _ _ _ _ p => p.elim,
      fun er δ' cls dd G' H' σ' p L R' he => b7 er _ cls dd _ _ p (po L R') he⟩
/-- an __init__: its self in slot 0 -/
def startI (C : Addr) (N : List Str) (ds : List D) (n : Z) : S := ⟨.self C [] :: (ds.map .d ++ List.replicate (N.length - 1 - ds.length) .un), n⟩
def endI (C : Addr) (P : List (Str × D) → Z → Prop) (δ : S) : Prop := match (δ.sl[(0 : Nat)]? : Option Sl) with
  | some (.self C' fs) => C' = C ∧ P fs δ.z
  | _ => False
def inN (C : Addr) (P : List (Str × D) → Z → Prop) (R : Er → Z → Prop) : DN :=
  { nx := endI C P, rt := fun d δ => (match d with | .non => True | _ => False) ∧ endI C P δ, bk := fun _ => False, ct := fun _ => False, ex := fun er δ => R er δ.z }
theorem endI_get {C : Addr} {P : List (Str × D) → Z → Prop} {δ : S} (h : endI C P δ) : ∃ fs, δ.sl[0]? = some (.self C fs) ∧ P fs δ.z := by
  unfold endI at h
  revert h
  cases e : (δ.sl[(0 : Nat)]? : Option Sl) with
  | none => intro h; exact h.elim
  | some s =>
    cases s with
    | self C' fs => rintro ⟨rfl, h⟩; exact ⟨fs, rfl, h⟩
    | _ => intro h; exact h.elim
theorem startI_get {C : Addr} {N : List Str} {ds : List D} {n : Z} {i : Nat} {s : Sl} (h : (startI C N ds n).sl[i]? = some s) : (i = 0 ∧ s = .self C []) ∨ (∃ j x, i = j + 1 ∧ ds[j]? = some x ∧ s = .d x) ∨ s = .un := by
  unfold startI at h
  cases i with
  | zero => simp at h; exact .inl ⟨rfl, h.symm⟩
  | succ j =>
    rw [List.getElem?_cons_succ] at h
    right
    by_cases hi : j < ds.length
    · rw [List.getElem?_append_left (by simpa using hi), List.getElem?_map] at h
      cases e : ds[j]? with
      | none => rw [e] at h; cases h
      | some x => rw [e] at h; cases h; exact .inl ⟨j, x, rfl, e, rfl⟩
    · rw [List.getElem?_append_right (by simpa using hi), List.getElem?_replicate] at h
      split at h
      · cases h; exact .inr rfl
      · cases h
theorem rel_startI {G H : Hp} {a dx C : Addr} {vs : List V} {ds : List D} {n : Z} (hN : 0 < N.length) (ha : H a = some (.ins C dx [])) (ga : G a = none) (ns : ¬ Spc c n a) (st : StOk c G H n) (r : RepL c.K c.p0 G vs ds) :
    Rel (frOf c G H n [a]) G H (L2.start N (.ref a :: vs)) (startI C N ds n) := by
  have z : ∀ {i s}, (startI C N ds n).sl[i]? = some s → isOwn s = true → i = 0 := fun {i s} h o => by
    rcases startI_get h with ⟨rfl, rfl⟩ | ⟨j, x, rfl, hx, rfl⟩ | rfl
    · rfl
    · cases o
    · cases o
  have a0 : at_ (L2.start N (.ref a :: vs)) 0 = some (.ref a) := at_start rfl
  refine ⟨st, Go.refl (S := Spc c n) |>.imp (fun _ h => .inl h) (fun b h => h.elim .inl fun ⟨i, s, h1, o, h2⟩ => .inr (.inl (.inr ?_))), ?_, fun i s h => ?_, fun i j b s t nij h1 h2 o1 o2 _ _ => nij ((z h1 o1).trans (z h2 o2).symm)⟩
  · have e := z h1 o
    subst e
    rw [a0] at h2
    cases h2
    exact List.mem_singleton.mpr rfl
  · unfold L2.start startI
    simp [r.len]; omega
  · rcases startI_get h with ⟨rfl, rfl⟩ | ⟨j, x, rfl, hx, rfl⟩ | rfl
    · exact ⟨a, dx, [], a0, ha, ga, ns, by simp, .nil⟩
    · obtain ⟨u, h1, h2⟩ := r.get hx
      exact ⟨u, at_start (by simpa using h1), h2⟩
    · trivial
/-- THE RULE for an __init__ -/
theorem init_ok {C : Addr} {sp : DInit} (F : FunD c.K name qual params body scope dvs kws f fd) (S : FnScope N ps scope) (hN : 0 < N.length) (len : ∀ ds n P R, sp ds n P R → ds.length + 1 = ps.length)
    (hb : ∀ (X : Cx) (cf : Fr) (W : WX), cf.toWd = c → XB X cf W N scope k false → DSs X cf W body t)
    (hr : ∀ ds n P R, sp ds n P R → t (inN C P R) (startI C N ds n)) : FnG c (k + 1) f fd ps (liftInit c C sp) := by
  refine fnG_of F S (fun vs H Q E h => ?_) fun cdv A outer s H vs Q E room gd _ h => ?_
  · obtain ⟨a, dx, vs', G, ds, n, P, R, rfl, b1, b2, b3, b4, b6, b7, _⟩ := h
    rw [List.length_cons, b6.len]; exact len ds n P R b7
  · obtain ⟨a, dx, vs', G, ds, n, P, R, rfl, b1, b2, b3, b4, b6, b7, b8, b9⟩ := h
    have tk := takes_of (X := cxOf (L2.CX c.P c.w) c.P c.w c.K c.mg c.base N qual scope f cdv A outer s H E) (E := E) rfl rfl rfl rfl
    refine ⟨_, hb _ (frOf c G H n [a]) (fun cls dd _ H' => E cls dd H') rfl ⟨rfl, rfl, rfl, rfl, rfl, rfl, S.nd, rfl, rfl, room, gd, tk, passes_of rfl, fun _ _ => rfl, fun _ => rfl, fun _ => ⟨rfl, rfl⟩⟩, G, startI C N ds n, inN C P R, rel_startI hN b1 b2 b3 b4 b6, hr ds n P R b7, ?_⟩
    have po : ∀ {δ' G' H' σ'}, Le G G' → Rel (frOf c G H n [a]) G' H' σ' δ' → PostI c a n G H G' H' δ'.z := fun {δ' G' H' σ'} L R' =>
      ⟨R'.st, R'.go.imp (fun b h => h.imp id fun m => List.mem_singleton.mp m) fun b h => h.elim (fun q => .inl (.inl q)) fun q => .inr (.inl (.inr q))⟩
    have fin : ∀ {δ' G' H' σ'}, Le G G' → Rel (frOf c G H n [a]) G' H' σ' δ' → endI C P δ' → Q .non H' := fun {δ' G' H' σ'} L R' he => by
      obtain ⟨fs, e, p⟩ := endI_get he
      obtain ⟨a', dx', fvs, h1, h2, h3, h4, hm, h5⟩ := R'.sl 0 _ e
      obtain rfl : a' = a := List.mem_singleton.mp hm
      exact b8 fs _ fvs dx' G' H' p (po L R') h2 h3 h4 h5
    refine ⟨fun δ' G' H' σ' p L R' => fin L R' p, fun d δ' v G' H' σ' p L R' rr => ?_, fun _ _ _ _ p => p.elim, fun _ _ _ _ p => p.elim, fun er δ' cls dd G' H' σ' p L R' he => b9 er _ cls dd _ _ p (po L R') he⟩
    cases rr with
    | non => exact fin L R' p.2
    | _ => exact p.1.elim
end
end DL

/-! ELE: == of plain data, dicts among them. -/
namespace PySem.SeqAt
open AutoSeq1 (wpAny_loadPart')
open MeetsSeq
/-- == of two values by their rich comparison: k, and nothing changes -/
def RcP (prog : Program) (w : World) (A : Around) (s : Shared) (a b : Value) (k : Bool) : Prop := ∀ (E Q : Value → Shared → Prop), Q (.bool k) s → wpAny (model prog w) A (richCompare .Eq a b) Q E s
/-- a dict stands at a -/
def IsDic (h : Heap) (a : Addr) : Prop := ∃ (es : Array DictEntry) (ep : Nat) (dd : Option Addr) (sl : Array (Option Value)), h.get? a = some { cls := .type "dict", dict := dd, data := .dict es ep, slots := sl }

theorem dict_declines_none (a : Addr) (es : Array DictEntry) (ep : Nat) (dd : Option Addr) (sl : Array (Option Value))  :
    Meets (Builtin.«dict.__eq__» ⟨[.ref a, .none], []⟩) (fun _ R s => s.heap.get? a = some { cls := .type "dict", dict := dd, data := .dict es ep, slots := sl } ∧ R (.ok (.ret .notImplemented)) s) :=
  .of_wp fun prog w A R s h => by obtain ⟨hp, g, d, tk, os⟩ := s; obtain ⟨hl, h⟩ := h; have f1 := F.sub_NoneType_dict; have f2 := F.sub_dict_dict; wp_walk using wpAny_loadPart' hl, wpAny_load hl; exact ⟨_, rfl, h⟩
theorem none_declines_dict (a : Addr) (es : Array DictEntry) (ep : Nat) (dd : Option Addr) (sl : Array (Option Value))  :
    Meets (Builtin.«NoneType.__eq__» ⟨[.none, .ref a], []⟩) (fun _ R s => s.heap.get? a = some { cls := .type "dict", dict := dd, data := .dict es ep, slots := sl } ∧ R (.ok (.ret .notImplemented)) s) :=
  .of_wp fun prog w A R s h => by obtain ⟨hp, g, d, tk, os⟩ := s; obtain ⟨hl, h⟩ := h; wp_walk using wpAny_loadPart' hl, wpAny_load hl; exact ⟨_, rfl, h⟩
theorem dict_declines_bool (a : Addr) (es : Array DictEntry) (ep : Nat) (dd : Option Addr) (sl : Array (Option Value)) (b : Bool) :
    Meets (Builtin.«dict.__eq__» ⟨[.ref a, .bool b], []⟩) (fun _ R s => s.heap.get? a = some { cls := .type "dict", dict := dd, data := .dict es ep, slots := sl } ∧ R (.ok (.ret .notImplemented)) s) :=
  .of_wp fun prog w A R s h => by obtain ⟨hp, g, d, tk, os⟩ := s; obtain ⟨hl, h⟩ := h; have f1 := F.sub_bool_dict; have f2 := F.sub_dict_dict; wp_walk using wpAny_loadPart' hl, wpAny_load hl; exact ⟨_, rfl, h⟩
theorem bool_declines_dict (a : Addr) (es : Array DictEntry) (ep : Nat) (dd : Option Addr) (sl : Array (Option Value)) (b : Bool) :
    Meets (Builtin.«int.__eq__» ⟨[.bool b, .ref a], []⟩) (fun _ R s => s.heap.get? a = some { cls := .type "dict", dict := dd, data := .dict es ep, slots := sl } ∧ R (.ok (.ret .notImplemented)) s) :=
  .of_wp fun prog w A R s h => by obtain ⟨hp, g, d, tk, os⟩ := s; obtain ⟨hl, h⟩ := h; wp_walk using wpAny_loadPart' hl, wpAny_load hl; exact ⟨_, rfl, h⟩
theorem dict_declines_int (a : Addr) (es : Array DictEntry) (ep : Nat) (dd : Option Addr) (sl : Array (Option Value)) (b : Int) (u : Tok) :
    Meets (Builtin.«dict.__eq__» ⟨[.ref a, .int b u], []⟩) (fun _ R s => s.heap.get? a = some { cls := .type "dict", dict := dd, data := .dict es ep, slots := sl } ∧ R (.ok (.ret .notImplemented)) s) :=
  .of_wp fun prog w A R s h => by obtain ⟨hp, g, d, tk, os⟩ := s; obtain ⟨hl, h⟩ := h; have f1 := F.sub_int_dict; have f2 := F.sub_dict_dict; wp_walk using wpAny_loadPart' hl, wpAny_load hl; exact ⟨_, rfl, h⟩
theorem int_declines_dict (a : Addr) (es : Array DictEntry) (ep : Nat) (dd : Option Addr) (sl : Array (Option Value)) (b : Int) (u : Tok) :
    Meets (Builtin.«int.__eq__» ⟨[.int b u, .ref a], []⟩) (fun _ R s => s.heap.get? a = some { cls := .type "dict", dict := dd, data := .dict es ep, slots := sl } ∧ R (.ok (.ret .notImplemented)) s) :=
  .of_wp fun prog w A R s h => by obtain ⟨hp, g, d, tk, os⟩ := s; obtain ⟨hl, h⟩ := h; wp_walk using wpAny_loadPart' hl, wpAny_load hl; exact ⟨_, rfl, h⟩
theorem dict_declines_str (a : Addr) (es : Array DictEntry) (ep : Nat) (dd : Option Addr) (sl : Array (Option Value)) (b : Str) (u : Tok) :
    Meets (Builtin.«dict.__eq__» ⟨[.ref a, .str b u], []⟩) (fun _ R s => s.heap.get? a = some { cls := .type "dict", dict := dd, data := .dict es ep, slots := sl } ∧ R (.ok (.ret .notImplemented)) s) :=
  .of_wp fun prog w A R s h => by obtain ⟨hp, g, d, tk, os⟩ := s; obtain ⟨hl, h⟩ := h; have f1 := F.sub_str_dict; have f2 := F.sub_dict_dict; wp_walk using wpAny_loadPart' hl, wpAny_load hl; exact ⟨_, rfl, h⟩
theorem str_declines_dict (a : Addr) (es : Array DictEntry) (ep : Nat) (dd : Option Addr) (sl : Array (Option Value)) (b : Str) (u : Tok) :
    Meets (Builtin.«str.__eq__» ⟨[.str b u, .ref a], []⟩) (fun _ R s => s.heap.get? a = some { cls := .type "dict", dict := dd, data := .dict es ep, slots := sl } ∧ R (.ok (.ret .notImplemented)) s) :=
  .of_wp fun prog w A R s h => by obtain ⟨hp, g, d, tk, os⟩ := s; obtain ⟨hl, h⟩ := h; wp_walk using wpAny_loadPart' hl, wpAny_load hl; exact ⟨_, rfl, h⟩
theorem dict_declines_list (a l : Addr) (es : Array DictEntry) (ep n : Nat) (items : Array Value) (dd dd2 : Option Addr) (sl sl2 : Array (Option Value)) :
    Meets (Builtin.«dict.__eq__» ⟨[.ref a, .ref l], []⟩) (fun _ R s => s.heap.get? a = some { cls := .type "dict", dict := dd, data := .dict es ep, slots := sl } ∧ s.heap.get? l = some { cls := .type "list", dict := dd2, data := .seq items n, slots := sl2 } ∧ R (.ok (.ret .notImplemented)) s) :=
  .of_wp fun prog w A R s h => by obtain ⟨hp, g, d, tk, os⟩ := s; obtain ⟨hl, hl2, h⟩ := h; have f1 := F.sub_list_dict; wp_walk using wpAny_loadPart' hl, wpAny_load hl, wpAny_loadPart' hl2, wpAny_load hl2; exact ⟨_, rfl, h⟩
theorem list_declines_dict (a l : Addr) (es : Array DictEntry) (ep n : Nat) (items : Array Value) (dd dd2 : Option Addr) (sl sl2 : Array (Option Value)) :
    Meets (Builtin.«list.__eq__» ⟨[.ref l, .ref a], []⟩) (fun _ R s => s.heap.get? a = some { cls := .type "dict", dict := dd, data := .dict es ep, slots := sl } ∧ s.heap.get? l = some { cls := .type "list", dict := dd2, data := .seq items n, slots := sl2 } ∧ R (.ok (.ret .notImplemented)) s) :=
  .of_wp fun prog w A R s h => by obtain ⟨hp, g, d, tk, os⟩ := s; obtain ⟨hl, hl2, h⟩ := h; have f1 := F.sub_dict_list; wp_walk using wpAny_loadPart' hl, wpAny_load hl, wpAny_loadPart' hl2, wpAny_load hl2; exact ⟨_, rfl, h⟩
theorem dict_declines_tuple (a l : Addr) (es : Array DictEntry) (ep n : Nat) (items : Array Value) (dd dd2 : Option Addr) (sl sl2 : Array (Option Value)) :
    Meets (Builtin.«dict.__eq__» ⟨[.ref a, .ref l], []⟩) (fun _ R s => s.heap.get? a = some { cls := .type "dict", dict := dd, data := .dict es ep, slots := sl } ∧ s.heap.get? l = some { cls := .type "tuple", dict := dd2, data := .seq items n, slots := sl2 } ∧ R (.ok (.ret .notImplemented)) s) :=
  .of_wp fun prog w A R s h => by obtain ⟨hp, g, d, tk, os⟩ := s; obtain ⟨hl, hl2, h⟩ := h; have f1 := F.sub_tuple_dict; wp_walk using wpAny_loadPart' hl, wpAny_load hl, wpAny_loadPart' hl2, wpAny_load hl2; exact ⟨_, rfl, h⟩
theorem tuple_declines_dict (a l : Addr) (es : Array DictEntry) (ep n : Nat) (items : Array Value) (dd dd2 : Option Addr) (sl sl2 : Array (Option Value)) :
    Meets (Builtin.«tuple.__eq__» ⟨[.ref l, .ref a], []⟩) (fun _ R s => s.heap.get? a = some { cls := .type "dict", dict := dd, data := .dict es ep, slots := sl } ∧ s.heap.get? l = some { cls := .type "tuple", dict := dd2, data := .seq items n, slots := sl2 } ∧ R (.ok (.ret .notImplemented)) s) :=
  .of_wp fun prog w A R s h => by obtain ⟨hp, g, d, tk, os⟩ := s; obtain ⟨hl, hl2, h⟩ := h; have f1 := F.sub_dict_tuple; wp_walk using wpAny_loadPart' hl, wpAny_load hl, wpAny_loadPart' hl2, wpAny_load hl2; exact ⟨_, rfl, h⟩
end PySem.SeqAt

/-! ELF: == of plain data, dicts among them: the theorem over D. -/
namespace PySem.SeqAt
open AutoSeq1 (wpAny_loadPart')
open MeetsSeq
section
variable {P : Program} {w : World} {A : Around} {s : Shared}
theorem rcP_dict_none {a : Addr}  (hd : IsDic s.heap a) (hu : A.units < cLine) : RcP P w A s (.ref a) (.none) false := fun E Q h => by
  obtain ⟨es, ep, dd, sl, ho⟩ := hd
  exact rc_eq_decline_or (k := false) ⟨_, ho, rfl⟩ rfl (by decide) F.sub_NoneType_dict F.slot_dict_eq F.slot_NoneType_eq_refl
    (fun _ hq => call_meets F.slot_dict_eq ⟨_, ho, rfl⟩ F.entry_dict_eq (F.args_dict_eq_2 _ _) (dict_declines_none a es ep dd sl) ⟨ho, hq⟩)
    (fun _ hq => call_meets F.slot_NoneType_eq_refl rfl F.entry_NoneType_eq (F.args_NoneType_eq_2 _ _) (none_declines_dict a es ep dd sl) ⟨ho, hq⟩)
    (fun _ hq => wpAny_of_eq (rfl : isSame (.ref a) (.none) = pure false) hq) (.inr hu) h
theorem rcP_none_dict {a : Addr}  (hd : IsDic s.heap a) (hu : A.units < cLine) : RcP P w A s (.none) (.ref a) false := fun E Q h => by
  obtain ⟨es, ep, dd, sl, ho⟩ := hd
  exact rc_eq_decline_or (k := false) rfl ⟨_, ho, rfl⟩ (by decide) F.sub_dict_NoneType F.slot_NoneType_eq F.slot_dict_eq_refl
    (fun _ hq => call_meets F.slot_NoneType_eq rfl F.entry_NoneType_eq (F.args_NoneType_eq_2 _ _) (none_declines_dict a es ep dd sl) ⟨ho, hq⟩)
    (fun _ hq => call_meets F.slot_dict_eq_refl ⟨_, ho, rfl⟩ F.entry_dict_eq (F.args_dict_eq_2 _ _) (dict_declines_none a es ep dd sl) ⟨ho, hq⟩)
    (fun _ hq => wpAny_of_eq (rfl : isSame (.none) (.ref a) = pure false) hq) (.inr hu) h
theorem rcP_dict_bool {a : Addr} (b : Bool) (hd : IsDic s.heap a) (hu : A.units < cLine) : RcP P w A s (.ref a) (.bool b) false := fun E Q h => by
  obtain ⟨es, ep, dd, sl, ho⟩ := hd
  exact rc_eq_decline_or (k := false) ⟨_, ho, rfl⟩ rfl (by decide) F.sub_bool_dict F.slot_dict_eq F.slot_bool_eq_refl
    (fun _ hq => call_meets F.slot_dict_eq ⟨_, ho, rfl⟩ F.entry_dict_eq (F.args_dict_eq_2 _ _) (dict_declines_bool a es ep dd sl b) ⟨ho, hq⟩)
    (fun _ hq => call_meets F.slot_bool_eq_refl rfl F.entry_int_eq (F.args_int_eq_2 _ _) (bool_declines_dict a es ep dd sl b) ⟨ho, hq⟩)
    (fun _ hq => wpAny_of_eq (rfl : isSame (.ref a) (.bool b) = pure false) hq) (.inr hu) h
theorem rcP_bool_dict {a : Addr} (b : Bool) (hd : IsDic s.heap a) (hu : A.units < cLine) : RcP P w A s (.bool b) (.ref a) false := fun E Q h => by
  obtain ⟨es, ep, dd, sl, ho⟩ := hd
  exact rc_eq_decline_or (k := false) rfl ⟨_, ho, rfl⟩ (by decide) F.sub_dict_bool F.slot_bool_eq F.slot_dict_eq_refl
    (fun _ hq => call_meets F.slot_bool_eq rfl F.entry_int_eq (F.args_int_eq_2 _ _) (bool_declines_dict a es ep dd sl b) ⟨ho, hq⟩)
    (fun _ hq => call_meets F.slot_dict_eq_refl ⟨_, ho, rfl⟩ F.entry_dict_eq (F.args_dict_eq_2 _ _) (dict_declines_bool a es ep dd sl b) ⟨ho, hq⟩)
    (fun _ hq => wpAny_of_eq (rfl : isSame (.bool b) (.ref a) = pure false) hq) (.inr hu) h
theorem rcP_dict_int {a : Addr} (b : Int) (u : Tok) (hd : IsDic s.heap a) (hu : A.units < cLine) : RcP P w A s (.ref a) (.int b u) false := fun E Q h => by
  obtain ⟨es, ep, dd, sl, ho⟩ := hd
  exact rc_eq_decline_or (k := false) ⟨_, ho, rfl⟩ rfl (by decide) F.sub_int_dict F.slot_dict_eq F.slot_int_eq_refl
    (fun _ hq => call_meets F.slot_dict_eq ⟨_, ho, rfl⟩ F.entry_dict_eq (F.args_dict_eq_2 _ _) (dict_declines_int a es ep dd sl b u) ⟨ho, hq⟩)
    (fun _ hq => call_meets F.slot_int_eq_refl rfl F.entry_int_eq (F.args_int_eq_2 _ _) (int_declines_dict a es ep dd sl b u) ⟨ho, hq⟩)
    (fun _ hq => wpAny_of_eq (rfl : isSame (.ref a) (.int b u) = pure false) hq) (.inr hu) h
theorem rcP_int_dict {a : Addr} (b : Int) (u : Tok) (hd : IsDic s.heap a) (hu : A.units < cLine) : RcP P w A s (.int b u) (.ref a) false := fun E Q h => by
  obtain ⟨es, ep, dd, sl, ho⟩ := hd
  exact rc_eq_decline_or (k := false) rfl ⟨_, ho, rfl⟩ (by decide) F.sub_dict_int F.slot_int_eq F.slot_dict_eq_refl
    (fun _ hq => call_meets F.slot_int_eq rfl F.entry_int_eq (F.args_int_eq_2 _ _) (int_declines_dict a es ep dd sl b u) ⟨ho, hq⟩)
    (fun _ hq => call_meets F.slot_dict_eq_refl ⟨_, ho, rfl⟩ F.entry_dict_eq (F.args_dict_eq_2 _ _) (dict_declines_int a es ep dd sl b u) ⟨ho, hq⟩)
    (fun _ hq => wpAny_of_eq (rfl : isSame (.int b u) (.ref a) = pure false) hq) (.inr hu) h
theorem rcP_dict_str {a : Addr} (b : Str) (u : Tok) (hd : IsDic s.heap a) (hu : A.units < cLine) : RcP P w A s (.ref a) (.str b u) false := fun E Q h => by
  obtain ⟨es, ep, dd, sl, ho⟩ := hd
  exact rc_eq_decline_or (k := false) ⟨_, ho, rfl⟩ rfl (by decide) F.sub_str_dict F.slot_dict_eq F.slot_str_eq_refl
    (fun _ hq => call_meets F.slot_dict_eq ⟨_, ho, rfl⟩ F.entry_dict_eq (F.args_dict_eq_2 _ _) (dict_declines_str a es ep dd sl b u) ⟨ho, hq⟩)
    (fun _ hq => call_meets F.slot_str_eq_refl rfl F.entry_str_eq (F.args_str_eq_2 _ _) (str_declines_dict a es ep dd sl b u) ⟨ho, hq⟩)
    (fun _ hq => wpAny_of_eq (rfl : isSame (.ref a) (.str b u) = pure false) hq) (.inr hu) h
theorem rcP_str_dict {a : Addr} (b : Str) (u : Tok) (hd : IsDic s.heap a) (hu : A.units < cLine) : RcP P w A s (.str b u) (.ref a) false := fun E Q h => by
  obtain ⟨es, ep, dd, sl, ho⟩ := hd
  exact rc_eq_decline_or (k := false) rfl ⟨_, ho, rfl⟩ (by decide) F.sub_dict_str F.slot_str_eq F.slot_dict_eq_refl
    (fun _ hq => call_meets F.slot_str_eq rfl F.entry_str_eq (F.args_str_eq_2 _ _) (str_declines_dict a es ep dd sl b u) ⟨ho, hq⟩)
    (fun _ hq => call_meets F.slot_dict_eq_refl ⟨_, ho, rfl⟩ F.entry_dict_eq (F.args_dict_eq_2 _ _) (dict_declines_str a es ep dd sl b u) ⟨ho, hq⟩)
    (fun _ hq => wpAny_of_eq (rfl : isSame (.str b u) (.ref a) = pure false) hq) (.inr hu) h
theorem rcP_dict_list {a l : Addr} {xs : Array Value} (hd : IsDic s.heap a) (hl : s.heap.IsList l xs) (hu : A.units < cLine) : a ≠ l ∧ RcP P w A s (.ref a) (.ref l) false ∧ RcP P w A s (.ref l) (.ref a) false := by
  obtain ⟨es, ep, dd, sl, ho⟩ := hd
  obtain ⟨⟨cls, dd2, data, sl2⟩, ho2, hc, n, hdt⟩ := id hl
  simp only at hc hdt
  subst hc hdt
  have ne : a ≠ l := fun z => by
    rw [z, ho2] at ho
    exact absurd (congrArg Obj.cls (Option.some.inj ho)) (by simp)
  refine ⟨ne, fun E Q h => ?_, fun E Q h => ?_⟩
  · exact rc_eq_decline_or (k := false) ⟨_, ho, rfl⟩ ⟨_, ho2, rfl⟩ (by decide) F.sub_list_dict F.slot_dict_eq F.slot_list_eq_refl
      (fun _ hq => call_meets F.slot_dict_eq ⟨_, ho, rfl⟩ F.entry_dict_eq (F.args_dict_eq_2 _ _) (dict_declines_list a l es ep n xs dd dd2 sl sl2) ⟨ho, ho2, hq⟩)
      (fun _ hq => call_meets F.slot_list_eq_refl ⟨_, ho2, rfl⟩ F.entry_list_eq (F.args_list_eq_2 _ _) (list_declines_dict a l es ep n xs dd dd2 sl sl2) ⟨ho, ho2, hq⟩)
      (fun _ hq => wpAny_isSame_ref_other' ne ho ho2 (by simp) hq) (.inr hu) h
  · exact rc_eq_decline_or (k := false) ⟨_, ho2, rfl⟩ ⟨_, ho, rfl⟩ (by decide) F.sub_dict_list F.slot_list_eq F.slot_dict_eq_refl
      (fun _ hq => call_meets F.slot_list_eq ⟨_, ho2, rfl⟩ F.entry_list_eq (F.args_list_eq_2 _ _) (list_declines_dict a l es ep n xs dd dd2 sl sl2) ⟨ho, ho2, hq⟩)
      (fun _ hq => call_meets F.slot_dict_eq_refl ⟨_, ho, rfl⟩ F.entry_dict_eq (F.args_dict_eq_2 _ _) (dict_declines_list a l es ep n xs dd dd2 sl sl2) ⟨ho, ho2, hq⟩)
      (fun _ hq => wpAny_isSame_ref_other' ne.symm ho2 ho (by simp) hq) (.inr hu) h
theorem rcP_dict_tuple {a l : Addr} {xs : Array Value} (hd : IsDic s.heap a) (hl : s.heap.IsTuple l xs) (hu : A.units < cLine) : a ≠ l ∧ RcP P w A s (.ref a) (.ref l) false ∧ RcP P w A s (.ref l) (.ref a) false := by
  obtain ⟨es, ep, dd, sl, ho⟩ := hd
  obtain ⟨⟨cls, dd2, data, sl2⟩, ho2, hc, n, hdt⟩ := id hl
  simp only at hc hdt
  subst hc hdt
  have ne : a ≠ l := fun z => by
    rw [z, ho2] at ho
    exact absurd (congrArg Obj.cls (Option.some.inj ho)) (by simp)
  refine ⟨ne, fun E Q h => ?_, fun E Q h => ?_⟩
  · exact rc_eq_decline_or (k := false) ⟨_, ho, rfl⟩ ⟨_, ho2, rfl⟩ (by decide) F.sub_tuple_dict F.slot_dict_eq F.slot_tuple_eq_refl
      (fun _ hq => call_meets F.slot_dict_eq ⟨_, ho, rfl⟩ F.entry_dict_eq (F.args_dict_eq_2 _ _) (dict_declines_tuple a l es ep n xs dd dd2 sl sl2) ⟨ho, ho2, hq⟩)
      (fun _ hq => call_meets F.slot_tuple_eq_refl ⟨_, ho2, rfl⟩ F.entry_tuple_eq (F.args_tuple_eq_2 _ _) (tuple_declines_dict a l es ep n xs dd dd2 sl sl2) ⟨ho, ho2, hq⟩)
      (fun _ hq => wpAny_isSame_ref_other ne ho ho2 (by simp) hq) (.inr hu) h
  · exact rc_eq_decline_or (k := false) ⟨_, ho2, rfl⟩ ⟨_, ho, rfl⟩ (by decide) F.sub_dict_tuple F.slot_tuple_eq F.slot_dict_eq_refl
      (fun _ hq => call_meets F.slot_tuple_eq ⟨_, ho2, rfl⟩ F.entry_tuple_eq (F.args_tuple_eq_2 _ _) (tuple_declines_dict a l es ep n xs dd dd2 sl sl2) ⟨ho, ho2, hq⟩)
      (fun _ hq => call_meets F.slot_dict_eq_refl ⟨_, ho, rfl⟩ F.entry_dict_eq (F.args_dict_eq_2 _ _) (dict_declines_tuple a l es ep n xs dd dd2 sl sl2) ⟨ho, ho2, hq⟩)
      (fun _ hq => wpAny_isSame_ref_other' ne.symm ho2 ho (by simp) hq) (.inr hu) h
/-- two values of which one is no object: == within a builtin by their rich comparison -/
theorem RcP.eqP {a b : Value} {k : Bool} (h : RcP P w A s a b k) (ne : (a == b) = false) (nf : ∀ x t y u, a = .float x t → b = .float y u → False) : EqP P w A s a b k := fun E Q hq => by
  unfold eqBool
  refine wpAny_holding (wpAny_ite_split (fun hab => absurd hab (by rw [ne]; decide)) fun _ => ?_)
  split
  · rename_i q1
    injection q1 with q2 q3
    exact (nf _ _ _ _ q2 q3).elim
  · exact wpAny_bind (h E _ (wpAny_truthy_bool hq))
theorem tup_eqIn (l b : Addr) (xs ys : Array Value) (n n2 : Nat) (dd dd2 : Option Addr) (sl sl2 : Array (Option Value)) (e : Nat → Bool) :
    MeetsIn P w (Builtin.«tuple.__eq__» ⟨[.ref l, .ref b], []⟩)
      (fun A R s => s.heap.get? l = some { cls := .type "tuple", dict := dd, data := .seq xs n, slots := sl } ∧ s.heap.get? b = some { cls := .type "tuple", dict := dd2, data := .seq ys n2, slots := sl2 } ∧
        (∀ j (h1 : j < xs.size) (h2 : j < ys.size), EqP P w A.in1 s xs[j] ys[j] (e j)) ∧ R (.ok (.ret (.bool ((List.range (min xs.size ys.size)).all e && xs.size == ys.size)))) s) := by
  intro A R s h
  obtain ⟨hp, gn, dr, tk, os⟩ := s
  obtain ⟨hl, hb, he, h⟩ := h
  have f2 := AutoSeq1.sub_tuple_tuple
  have hZ : (xs.toList.zip ys.toList).length = min xs.size ys.size := by simp
  wp_walk using wpAny_loadPart' hl, wpAny_loadPart' hb, wpAny_forIn_list _ (fun more b s' => b.1 = none ∧ s' = ⟨hp, gn, dr, tk, os⟩ ∧ ∃ i, more = (xs.toList.zip ys.toList).drop i ∧
    R (.ok (.ret (.bool (((List.range (min xs.size ys.size)).drop i).all e && xs.size == ys.size)))) ⟨hp, gn, dr, tk, os⟩) _
  case turn =>
    rintro ⟨y, x⟩ more b s' ⟨hb', rfl, i, hz, hR⟩
    have hlt : i < (xs.toList.zip ys.toList).length := Nat.lt_of_not_le fun q => by rw [List.drop_of_length_le q] at hz; cases hz
    have hm : i < min xs.size ys.size := hZ ▸ hlt
    have h1 : i < xs.size := by omega
    have h2 : i < ys.size := by omega
    rw [List.drop_eq_getElem_cons hlt] at hz
    injection hz with hyx hrest
    have hy : y = xs[i] := by simpa using congrArg Prod.fst hyx
    have hx : x = ys[i] := by simpa using congrArg Prod.snd hyx
    subst hy hx
    have hd : (List.range (min xs.size ys.size)).drop i = i :: (List.range (min xs.size ys.size)).drop (i + 1) := by simp [List.drop_eq_getElem_cons, hm]
    rw [hd, List.all_cons] at hR
    refine wpAny_bind (he i h1 h2 _ _ ?_)
    cases q : e i with
    | true => rw [q] at hR; wp_walk; exact ⟨rfl, rfl, i + 1, hrest, by simpa using hR⟩
    | false => rw [q] at hR; wp_walk; simpa using hR
  case fin =>
    rintro ⟨b1, b2⟩ s' ⟨hb', rfl, i, hz, hR⟩
    simp only at hb'
    subst hb'
    have hge : min xs.size ys.size ≤ i := Nat.le_of_not_lt fun q => by rw [List.drop_eq_getElem_cons (hZ ▸ q)] at hz; cases hz
    rw [List.drop_of_length_le (by simpa using hge)] at hR
    wp_walk
    simpa [Builtin.Tuple.tupleCompareSizes] using hR
  case h => exact ⟨rfl, rfl, 0, rfl, by simpa using h⟩
theorem rcP_tuples {l b : Addr} {xs ys : Array Value} {e : Nat → Bool} (hl : s.heap.IsTuple l xs) (hb : s.heap.IsTuple b ys) (hu : A.units < cLine)
    (he : ∀ j (h1 : j < xs.size) (h2 : j < ys.size), EqP P w A.in1 s xs[j] ys[j] (e j)) : RcP P w A s (.ref l) (.ref b) ((List.range (min xs.size ys.size)).all e && xs.size == ys.size) := fun E Q h => by
  obtain ⟨⟨cls, dd, data, sl⟩, ho, hc, n, hd⟩ := id hl
  obtain ⟨⟨cls2, dd2, data2, sl2⟩, ho2, hc2, n2, hd2⟩ := id hb
  simp only at hc hd hc2 hd2
  subst hc hd hc2 hd2
  exact wpAny_richCompare_same_room (op := .Eq) ⟨_, ho, rfl⟩ ⟨_, ho2, rfl⟩ F.slot_tuple_eq (call_meetsIn F.slot_tuple_eq ⟨_, ho, rfl⟩ F.entry_tuple_eq (F.args_tuple_eq_2 _ _) (tup_eqIn l b xs ys n n2 dd dd2 sl sl2 e)
    ⟨ho, ho2, he, ⟨(fun x => nomatch x), h⟩⟩) hu
end
end PySem.SeqAt


/-! ELG: == and != of plain data as rules. -/
namespace DL
open PySem L2 PySem.Spec PyProof.Rows PySem.SeqAt
def valD (kvs : List (Key × D)) (k : Key) : Option D := (kvs.find? fun kv => decide (kv.1 = k)).map (·.2)
mutual
def eqD : D → D → Bool
  | .non, .non => true
  | .bl a, .bl b => a == b
  | .bl a, .int j => (if a then 1 else 0) == j
  | .int i, .bl b => i == (if b then 1 else 0)
  | .int i, .int j => i == j
  | .str x, .str y => x == y
  | .lst xs, .lst ys => eqL xs ys
  | .tup xs, .tup ys => eqL xs ys
  | .dct xs, .dct ys => xs.length == ys.length && eqK xs ys
  | _, _ => false
def eqL : List D → List D → Bool
  | [], [] => true
  | x :: xs, y :: ys => eqD x y && eqL xs ys
  | _, _ => false
def eqK : List (Key × D) → List (Key × D) → Bool
  | [], _ => true
  | (k, d) :: r, ys => (match valD ys k with
    | some e => eqD d e
    | none => false) && eqK r ys
end
mutual
/-- plain data, nested at most n deep -/
def plain : D → Nat → Bool
  | .non, _ => true
  | .bl _, _ => true
  | .int _, _ => true
  | .str _, _ => true
  | .lst xs, n + 1 => plainL xs n
  | .tup xs, n + 1 => plainL xs n
  | .dct xs, n + 1 => plainK xs n && decide ((xs.map (·.1)).Nodup)
  | _, _ => false
def plainL : List D → Nat → Bool
  | [], _ => true
  | x :: xs, n => plain x n && plainL xs n
def plainK : List (Key × D) → Nat → Bool
  | [], _ => true
  | (_, x) :: xs, n => plain x n && plainK xs n
end
section
variable {X : Cx} {pins : List (Addr × Obj)} {σ : L2.St} {G H : Hp} {s : Shared} {p0 : Addr}
theorem dic_of (I : Inv X pins σ H s) (le : Le G H) {a : Addr} {vs : List (Key × V)} (h : Rd G a (.dK vs)) : (a == sysModules) = false ∧ (∃ us, KV vs us ∧ s.heap.DictOf (mixKind X.prog X.w) a us) ∧ IsDic s.heap a := by
  obtain ⟨_, y, us, r, d⟩ := (le_rd le h).ok I.hok
  refine ⟨y, ⟨us, r, d⟩, ?_⟩
  obtain ⟨o, es, ep, ho, ex, hd, _⟩ := d
  obtain ⟨oc, od, dt, sl⟩ := o
  simp only at hd
  have hc : oc = .type "dict" := ex.1
  subst hc hd
  exact ⟨es, ep, od, sl, ho⟩
theorem kind_ls (I : Inv X pins σ H s) {a : Addr} {xs ys : List V} (h1 : SqL X.K H a xs) (h2 : SqT X.K H a ys) : False := by
  obtain ⟨us, _, p1, _⟩ := I.list h1
  obtain ⟨ws, _, p2, _⟩ := I.tuple h2
  exact ne_of_list_tuple p1.isList p2 rfl
theorem kind_ld (I : Inv X pins σ H s) {a : Addr} {xs : List V} (h1 : SqL X.K H a xs) (h2 : IsDic s.heap a) : False := by
  obtain ⟨us, _, p1, _⟩ := I.list h1
  obtain ⟨o, n, ho, hc, _⟩ := p1
  obtain ⟨es, ep, dd, sl, h⟩ := h2
  rw [h] at ho; cases ho
  exact absurd hc (by simp)
theorem kind_td (I : Inv X pins σ H s) {a : Addr} {xs : List V} (h1 : SqT X.K H a xs) (h2 : IsDic s.heap a) : False := by
  obtain ⟨us, _, p1, _⟩ := I.tuple h1
  obtain ⟨o, ho, hc, _⟩ := p1
  obtain ⟨es, ep, dd, sl, h⟩ := h2
  rw [h] at ho; cases ho
  exact absurd hc (by simp)
theorem rd_inj {a : Addr} {u v : HO} (h1 : Rd H a u) (h2 : Rd H a v) (nu : ∀ o z, u ≠ .frz o z) (nv : ∀ o z, v ≠ .frz o z) : u = v := by
  rcases h1 with h1 | ⟨o, h1⟩ <;> rcases h2 with h2 | ⟨o2, h2⟩ <;> rw [h1] at h2 <;> cases h2
  · rfl
  · exact (nu _ _ rfl).elim
  · exact (nv _ _ rfl).elim
  · rfl
mutual
theorem Rep.inj (I : Inv X pins σ H s) (le : Le G H) : ∀ (n : Nat) (a b : D) (x : V), plain a n = true → plain b n = true → Rep X.K p0 G x a → Rep X.K p0 G x b → a = b
  | n, _, b, _, pa, pb, .non, h => by cases h; rfl
  | n, _, b, _, pa, pb, .bl _, h => by cases h; rfl
  | n, _, b, _, pa, pb, .int _, h => by cases h; rfl
  | n, _, b, _, pa, pb, .str _, h => by cases h; rfl
  | n, _, b, _, pa, pb, .ref _, h => by cases n <;> simp [plain] at pa
  | n, _, b, _, pa, pb, .ty _, h => by cases n <;> simp [plain] at pa
  | n, _, b, _, pa, pb, .pen, h => by cases n <;> simp [plain] at pa
  | n, _, b, _, pa, pb, .ins _ _, h => by cases n <;> simp [plain] at pa
  | 0, _, b, _, pa, pb, .lst _ _, h => by simp [plain] at pa
  | 0, _, b, _, pa, pb, .tup _ _, h => by simp [plain] at pa
  | 0, _, b, _, pa, pb, .dct _ _, h => by simp [plain] at pa
  | n + 1, _, b, _, pa, pb, .lst h1 r1, h => by
    cases h with
    | lst h2 r2 =>
      have e := I.list_inj (le_l le (.inl h1)) (le_l le (.inl h2))
      subst e
      rw [RepL.inj I le n _ _ _ (by simpa [plain] using pa) (by simpa [plain] using pb) r1 r2]
    | tup h2 r2 => exact (kind_ls I (le_l le (.inl h1)) (le_t le h2)).elim
    | dct h2 r2 => exact (kind_ld I (le_l le (.inl h1)) (dic_of I le h2).2.2).elim
    | _ => simp [plain] at pb
  | n + 1, _, b, _, pa, pb, .tup h1 r1, h => by
    cases h with
    | tup h2 r2 =>
      have e := I.tuple_inj (le_t le h1) (le_t le h2)
      subst e
      rw [RepL.inj I le n _ _ _ (by simpa [plain] using pa) (by simpa [plain] using pb) r1 r2]
    | lst h2 r2 => exact (kind_ls I (le_l le (.inl h2)) (le_t le h1)).elim
    | dct h2 r2 => exact (kind_td I (le_t le h1) (dic_of I le h2).2.2).elim
    | _ => simp [plain] at pb
  | n + 1, _, b, _, pa, pb, .dct h1 r1, h => by
    cases h with
    | dct h2 r2 =>
      have e := rd_inj h1 h2 (fun _ _ q => by cases q) (fun _ _ q => by cases q)
      cases e
      rw [RepK.inj I le n _ _ _ (by simp only [plain, Bool.and_eq_true] at pa; exact pa.1) (by simp only [plain, Bool.and_eq_true] at pb; exact pb.1) r1 r2]
    | lst h2 r2 => exact (kind_ld I (le_l le (.inl h2)) (dic_of I le h1).2.2).elim
    | tup h2 r2 => exact (kind_td I (le_t le h2) (dic_of I le h1).2.2).elim
    | _ => simp [plain] at pb
theorem RepL.inj (I : Inv X pins σ H s) (le : Le G H) : ∀ (n : Nat) (a b : List D) (x : List V), plainL a n = true → plainL b n = true → RepL X.K p0 G x a → RepL X.K p0 G x b → a = b
  | n, _, _, _, pa, pb, .nil, h => by cases h; rfl
  | n, _, _, _, pa, pb, .cons h1 r1, h => by
    cases h with
    | cons h2 r2 =>
      simp only [plainL, Bool.and_eq_true] at pa pb
      rw [Rep.inj I le n _ _ _ pa.1 pb.1 h1 h2, RepL.inj I le n _ _ _ pa.2 pb.2 r1 r2]
theorem RepK.inj (I : Inv X pins σ H s) (le : Le G H) : ∀ (n : Nat) (a b : List (Key × D)) (x : List (Key × V)), plainK a n = true → plainK b n = true → RepK X.K p0 G x a → RepK X.K p0 G x b → a = b
  | n, _, _, _, pa, pb, .nil, h => by cases h; rfl
  | n, _, _, _, pa, pb, .cons h1 r1, h => by
    cases h with
    | cons h2 r2 =>
      simp only [plainK, Bool.and_eq_true] at pa pb
      rw [Rep.inj I le n _ _ _ pa.1 pb.1 h1 h2, RepK.inj I le n _ _ _ pa.2 pb.2 r1 r2]
end
theorem valD_mem : ∀ {xs : List (Key × D)} {k : Key} {d : D}, (xs.map (·.1)).Nodup → (k, d) ∈ xs → valD xs k = some d
  | (k', d') :: r, k, d, nd, h => by
    unfold valD
    rw [List.find?_cons]
    simp only [List.map_cons, List.nodup_cons] at nd
    rcases List.mem_cons.mp h with e | h
    · cases e; simp
    · have ne : k' ≠ k := fun e => nd.1 (e ▸ List.mem_map.mpr ⟨(k, d), h, rfl⟩)
      rw [decide_eq_false ne]
      exact valD_mem nd.2 h
mutual
theorem eqD_refl : ∀ (n : Nat) (a : D), plain a n = true → eqD a a = true
  | n, .non, _ => by simp [eqD]
  | n, .bl _, _ => by simp [eqD]
  | n, .int _, _ => by simp [eqD]
  | n, .str _, _ => by simp [eqD]
  | n + 1, .lst xs, h => by simp only [eqD]; exact eqL_refl n xs (by simpa [plain] using h)
  | n + 1, .tup xs, h => by simp only [eqD]; exact eqL_refl n xs (by simpa [plain] using h)
  | n + 1, .dct xs, h => by
    simp only [plain, Bool.and_eq_true, decide_eq_true_eq] at h
    simp only [eqD, beq_self_eq_true, Bool.true_and]
    exact eqK_refl n xs xs h.1 h.2 (fun _ h => h)
  | 0, .lst _, h => by simp [plain] at h
  | 0, .tup _, h => by simp [plain] at h
  | 0, .dct _, h => by simp [plain] at h
  | n, .ins _ _, h => by cases n <;> simp [plain] at h
  | n, .ref _, h => by cases n <;> simp [plain] at h
  | n, .ty _, h => by cases n <;> simp [plain] at h
  | n, .pen, h => by cases n <;> simp [plain] at h
theorem eqL_refl : ∀ (n : Nat) (a : List D), plainL a n = true → eqL a a = true
  | n, [], _ => by simp [eqL]
  | n, x :: xs, h => by
    simp only [plainL, Bool.and_eq_true] at h
    simp only [eqL, eqD_refl n x h.1, eqL_refl n xs h.2, Bool.and_self]
theorem eqK_refl : ∀ (n : Nat) (a ys : List (Key × D)), plainK a n = true → (ys.map (·.1)).Nodup → (∀ p ∈ a, p ∈ ys) → eqK a ys = true
  | n, [], _, _, _, _ => by simp [eqK]
  | n, (k, x) :: xs, ys, h, nd, hm => by
    simp only [plainK, Bool.and_eq_true] at h
    have e := valD_mem nd (hm _ List.mem_cons_self)
    simp only [eqK, e, eqD_refl n x h.1, eqK_refl n xs ys h.2 nd (fun p hp => hm p (List.mem_cons_of_mem _ hp)), Bool.and_self]
end
theorem eqL_len : ∀ {xs ys : List D}, eqL xs ys = true → xs.length = ys.length
  | [], [], _ => rfl
  | x :: xs, y :: ys, h => by
    simp only [eqL, Bool.and_eq_true] at h
    simp [eqL_len h.2]
/-- the item-wise answers -/
def eAt (xs ys : List D) (j : Nat) : Bool := match xs[j]?, ys[j]? with
  | some x, some y => eqD x y
  | _, _ => true
theorem eAt_succ (x y : D) (xs ys : List D) : (fun j => eAt (x :: xs) (y :: ys) (j + 1)) = eAt xs ys := by
  funext j; simp [eAt]
theorem all_shift (n : Nat) (f : Nat → Bool) : (List.range (n + 1)).all f = (f 0 && (List.range n).all fun j => f (j + 1)) := by
  rw [List.range_succ_eq_map, List.all_cons, List.all_map]
  rfl
theorem eqL_all : ∀ (xs ys : List D), eqL xs ys = ((List.range (min xs.length ys.length)).all (eAt xs ys) && xs.length == ys.length)
  | [], [] => by simp [eqL]
  | [], y :: ys => by simp [eqL]
  | x :: xs, [] => by simp [eqL]
  | x :: xs, y :: ys => by
    have ih := eqL_all xs ys
    have e1 : min (x :: xs).length (y :: ys).length = min xs.length ys.length + 1 := by simp only [List.length_cons]; omega
    rw [e1, all_shift, eAt_succ]
    have e2 : eAt (x :: xs) (y :: ys) 0 = eqD x y := by simp [eAt]
    have e3 : ((x :: xs).length == (y :: ys).length) = (xs.length == ys.length) := by
      simp only [List.length_cons]
      by_cases q : xs.length = ys.length
      · rw [q]; simp
      · have q2 : ¬ (xs.length + 1 = ys.length + 1) := by omega
        rw [beq_eq_false_iff_ne.mpr q, beq_eq_false_iff_ne.mpr q2]
    rw [e2, e3, eqL, ih]
    simp only [Bool.and_assoc]
theorem RepK.val {k : Key} : ∀ {vs : List (Key × V)} {ds : List (Key × D)} {K : PySem.W.Frag}, RepK K p0 G vs ds → (valD ds k = none → valV vs k = none) ∧ (∀ d, valD ds k = some d → ∃ v, valV vs k = some v ∧ Rep K p0 G v d)
  | _, _, _, .nil => ⟨fun _ => rfl, fun d h => by simp [valD] at h⟩
  | _, _, _, .cons (k := k') (v := v) (d := d) a r => by
    have ih := RepK.val (k := k) r
    unfold valD valV at ih ⊢
    rw [List.find?_cons, List.find?_cons]
    by_cases e : k' = k
    · simp only [e, decide_true]
      exact ⟨fun h => by simp at h, fun x h => by simp at h; subst h; exact ⟨v, rfl, a⟩⟩
    · simp only [decide_eq_false e]
      exact ih
end
end DL

/-! ELH: == of plain data: the theorem. -/
namespace DL
open PySem L2 PySem.Spec PyProof.Rows PySem.SeqAt
section
variable {X : Cx} {pins : List (Addr × Obj)} {σ : L2.St} {G H : Hp} {s : Shared} {p0 : Addr}
theorem repK_len : ∀ {vs : List (Key × V)} {ds : List (Key × D)} {K : PySem.W.Frag}, RepK K p0 G vs ds → vs.length = ds.length
  | _, _, _, .nil => rfl
  | _, _, _, .cons _ r => congrArg Nat.succ (repK_len r)
abbrev EqGoal (X : Cx) (p0 : Addr) (G : Hp) (s : Shared) (n : Nat) : Prop := ∀ (A : Around), A.units + n < cLine → ∀ (x y : V) (v u : Value) (a b : D), plain a n = true → plain b n = true → Rep X.K p0 G x a → Rep X.K p0 G y b → RelV x v → RelV y u →
    RcP X.prog X.w A s v u (eqD a b) ∧ EqP X.prog X.w A s v u (eqD a b)
theorem dRc {P : Program} {w : World} {A : Around} {v u : Value} {k : Bool} (h : RcAt A s v u k) : RcP P w A s v u k := fun E Q q => h P w E Q q
theorem refs_eq {P : Program} {w : World} {A : Around} {p q : Addr} {k : Bool} (h : RcP P w A s (.ref p) (.ref q) k) (hs : p = q → k = true) : EqP P w A s (.ref p) (.ref q) k := by
  by_cases e : p = q
  · rw [hs e]; subst e; exact (EqAt.same _).eqP
  · exact eqP_refs e h
theorem items_eq {n : Nat} {A : Around} (ih : EqGoal X p0 G s n) (hu : A.units + n < cLine) : ∀ {xs ys : List V} {as bs : List D} {us ws : List Value}, plainL as n = true → plainL bs n = true → RepL X.K p0 G xs as → RepL X.K p0 G ys bs → Vals xs us → Vals ys ws →
    ∀ j (h1 : j < us.length) (h2 : j < ws.length), EqP X.prog X.w A s us[j] ws[j] (eAt as bs j)
  | _, _, _, _, _, _, pa, pb, .cons h1 r1, .cons h2 r2, .cons v1 t1, .cons v2 t2, 0, _, _ => by
    simp only [plainL, Bool.and_eq_true] at pa pb
    exact (ih A hu _ _ _ _ _ _ pa.1 pb.1 h1 h2 v1 v2).2
  | _, _, _, _, _, _, pa, pb, .cons h1 r1, .cons h2 r2, .cons v1 t1, .cons v2 t2, j + 1, q1, q2 => by
    simp only [plainL, Bool.and_eq_true] at pa pb
    have e := items_eq ih hu pa.2 pb.2 r1 r2 t1 t2 j (Nat.lt_of_succ_lt_succ q1) (Nat.lt_of_succ_lt_succ q2)
    simpa [eAt] using e
  | _, _, _, _, _, _, _, _, .nil, _, .nil, _, j, q1, _ => by simp at q1
  | _, _, _, _, _, _, _, _, _, .nil, _, .nil, j, _, q2 => by simp at q2
theorem hits_eq {n : Nat} {A : Around} (ih : EqGoal X p0 G s n) (hu : A.units + n < cLine) {ys : List (Key × V)} {bs : List (Key × D)} {ws : List (Key × Value)} (pb : plainK bs n = true) (rb : RepK X.K p0 G ys bs) (tb : KV ys ws) :
    ∀ (as : List (Key × D)) {xs : List (Key × V)} {us : List (Key × Value)}, plainK as n = true → RepK X.K p0 G xs as → KV xs us → PySem.W.KeqHitsP X.prog X.w A s ws us (eqK as bs)
  | [], _, _, pa, r, t => by cases r; cases t; simp only [eqK]; exact .nil
  | (k, d) :: as, _, _, pa, r, t => by
    cases r with
    | cons h r =>
     cases t with
     | cons e t =>
      rename_i q us
      obtain ⟨k', v⟩ := q
      obtain ⟨e1, e2⟩ := e
      have e1 : k = k' := e1
      subst e1
      simp only [plainK, Bool.and_eq_true] at pa
      have ihr := hits_eq ih hu pb rb tb as pa.2 r t
      obtain ⟨m1, m2⟩ := RepK.val (k := k) rb
      have rv := tb.val k
      simp only [eqK]
      cases hv : valD bs k with
      | none =>
        rw [m1 hv] at rv
        simp only [Bool.false_and]
        exact .miss (RelO.none_of rv)
      | some y =>
        obtain ⟨yv, g1, g2⟩ := m2 y hv
        rw [g1] at rv
        obtain ⟨yu, g3, g4⟩ := rv.some_of
        have py : plain y n = true := by
          unfold valD at hv
          obtain ⟨pr, h1, h2⟩ := Option.map_eq_some_iff.mp hv
          have hm := List.mem_of_find?_eq_some h1
          have : ∀ (l : List (Key × D)), plainK l n = true → ∀ p ∈ l, plain p.2 n = true := by
            intro l
            induction l with
            | nil => intro _ p hp; cases hp
            | cons z l il =>
              intro hz p hp
              obtain ⟨zk, zd⟩ := z
              simp only [plainK, Bool.and_eq_true] at hz
              rcases List.mem_cons.mp hp with rfl | hp
              · exact hz.1
              · exact il hz.2 p hp
          rw [← h2]; exact this bs pb pr hm
        exact .hit g3 (ih A hu _ _ _ _ _ _ pa.1 py h g2 e2 g4).2 ihr
theorem lst_rc {m : Nat} {A : Around} (ih : EqGoal X p0 G s m) (hu0 : A.units < cLine) (in1 : A.in1.units + m < cLine) {p q : Addr} {xs ys : List V} {as bs : List D} {us1 us2 : List Value} (pa : plainL as m = true) (pb : plainL bs m = true) (r1 : RepL X.K p0 G xs as) (r2 : RepL X.K p0 G ys bs)
    (v1 : Vals xs us1) (v2 : Vals ys us2) (p1 : s.heap.IsList p us1.toArray) (p2 : s.heap.IsList q us2.toArray) : RcP X.prog X.w A s (.ref p) (.ref q) (eqD (.lst as) (.lst bs)) := by
  simp only [eqD]
  have l1 := v1.length; have l2 := v2.length; have l3 := r1.len; have l4 := r2.len
  by_cases hz : us1.length = us2.length
  · intro E Q q
    refine rcP_lists (e := eAt as bs) p1 p2 (by simpa using hz) hu0 (fun j q1 q2 => ?_) E Q ?_
    · have e := items_eq ih in1 pa pb r1 r2 v1 v2 j (by simpa using q1) (by simpa using q2)
      simpa using e
    · rw [eqL_all] at q
      have e1 : us1.toArray.size = min as.length bs.length := by
        rw [List.size_toArray, ← l1, l3]
        omega
      have e2 : (as.length == bs.length) = true := by simp; omega
      rw [e2, Bool.and_true] at q
      rw [e1]
      exact q
  · have f : eqL as bs = false := Bool.eq_false_iff.mpr fun z => hz (by have := eqL_len z; omega)
    rw [f]
    exact dRc (RcAt.lists_lengths p1 p2 (by simpa using hz) hu0)
theorem tup_rc {m : Nat} {A : Around} (ih : EqGoal X p0 G s m) (hu0 : A.units < cLine) (in1 : A.in1.units + m < cLine) {p q : Addr} {xs ys : List V} {as bs : List D} {us1 us2 : List Value} (pa : plainL as m = true) (pb : plainL bs m = true) (r1 : RepL X.K p0 G xs as) (r2 : RepL X.K p0 G ys bs)
    (v1 : Vals xs us1) (v2 : Vals ys us2) (p1 : s.heap.IsTuple p us1.toArray) (p2 : s.heap.IsTuple q us2.toArray) : RcP X.prog X.w A s (.ref p) (.ref q) (eqD (.tup as) (.tup bs)) := by
  simp only [eqD]
  have l1 := v1.length; have l2 := v2.length; have l3 := r1.len; have l4 := r2.len
  have q := rcP_tuples (P := X.prog) (w := X.w) (e := eAt as bs) p1 p2 hu0 fun j q1 q2 => (by
    have e := items_eq ih in1 pa pb r1 r2 v1 v2 j (by simpa using q1) (by simpa using q2)
    simpa using e)
  rw [eqL_all]
  rw [List.size_toArray, List.size_toArray, ← l1, ← l2, l3, l4] at q
  exact q
theorem dct_rc {m : Nat} {A : Around} (ih : EqGoal X p0 G s m) (hu0 : A.units < cLine) (in1 : A.in1.units + m < cLine) {p q : Addr} {xs ys : List (Key × V)} {as bs : List (Key × D)} {us1 us2 : List (Key × Value)} (pa : plainK as m = true) (pb : plainK bs m = true) (r1 : RepK X.K p0 G xs as) (r2 : RepK X.K p0 G ys bs)
    (v1 : KV xs us1) (v2 : KV ys us2) (y1 : (p == sysModules) = false) (y2 : (q == sysModules) = false) (d1 : s.heap.DictOf (mixKind X.prog X.w) p us1) (d2 : s.heap.DictOf (mixKind X.prog X.w) q us2) : RcP X.prog X.w A s (.ref p) (.ref q) (eqD (.dct as) (.dct bs)) := by
  simp only [eqD]
  intro E Q q
  have l1 := v1.length; have l2 := v2.length; have l3 := repK_len r1; have l4 := repK_len r2
  refine PySem.W.rcP_dicts (r := eqK as bs) y1 y2 d1 d2 hu0 (fun _ => hits_eq ih in1 pb r2 v2 as pa r1 v1) E Q ?_
  rw [← l1, ← l2, l3, l4]
  exact q
theorem eq_step (I : Inv X pins σ H s) (le : Le G H) (n : Nat) (ih : ∀ m, n = m + 1 → EqGoal X p0 G s m) : EqGoal X p0 G s n := by
  intro A hu x y v u a b pa pb ra rb rv ru
  have hu0 : A.units < cLine := by omega
  have in1 : ∀ m, n = m + 1 → A.in1.units + m < cLine := fun m e => by show A.units + 1 + m < cLine; omega
  have inj : ∀ {p : Addr}, Rep X.K p0 G (.ref p) a → Rep X.K p0 G (.ref p) b → eqD a b = true := fun {p} h1 h2 => by
    rw [Rep.inj I le n a b (.ref p) pa pb h1 h2]; exact eqD_refl n b pb
  cases ra with
  | non =>
    cases (show v = Value.none from rv)
    cases rb with
    | non =>
      cases (show u = Value.none from ru)
      exact ⟨dRc RcAt.none_none, (EqAt.same _).eqP⟩
    | bl b2 =>
      cases (show u = Value.bool _ from ru)
      exact ⟨dRc (RcAt.none_bool b2), (EqAt.none_bool b2).eqP⟩
    | int i2 =>
      obtain ⟨tu, rfl⟩ := (show ∃ t, u = Value.int _ t from ru)
      exact ⟨dRc (RcAt.none_int i2 tu), (EqAt.none_int i2 tu).eqP⟩
    | str s2 =>
      obtain ⟨tu, rfl⟩ := (show ∃ t, u = Value.str _ t from ru)
      exact ⟨dRc (RcAt.none_str s2 tu), (EqAt.none_str s2 tu).eqP⟩
    | lst h2 r2 =>
      cases (show u = Value.ref _ from ru)
      obtain ⟨us2, v2, p2, _⟩ := I.list (le_l le (.inl h2))
      exact ⟨dRc (RcAt.none_list p2.isList hu0), (EqAt.none_list p2.isList hu0).eqP⟩
    | tup h2 r2 =>
      cases (show u = Value.ref _ from ru)
      obtain ⟨us2, v2, p2, _⟩ := I.tuple (le_t le h2)
      exact ⟨dRc (RcAt.none_tuple p2 hu0), (EqAt.none_tuple p2 hu0).eqP⟩
    | dct h2 r2 =>
      cases (show u = Value.ref _ from ru)
      obtain ⟨y2, ⟨us2, v2, d2⟩, p2⟩ := dic_of I le h2
      exact ⟨rcP_none_dict p2 hu0, (rcP_none_dict p2 hu0).eqP (beq_eq_false_iff_ne.mpr fun z => by cases z) (fun _ _ _ _ z => by cases z)⟩
    | ref _ => cases n <;> simp [plain] at pb
    | ty _ => cases n <;> simp [plain] at pb
    | pen => cases n <;> simp [plain] at pb
    | ins _ _ => cases n <;> simp [plain] at pb
    | obj _ => cases n <;> simp [plain] at pb
    | exc0 _ => cases n <;> simp [plain] at pb
    | exc _ _ _ => cases n <;> simp [plain] at pb
  | bl b1 =>
    cases (show v = Value.bool _ from rv)
    cases rb with
    | non =>
      cases (show u = Value.none from ru)
      exact ⟨dRc (RcAt.bool_none b1), (EqAt.bool_none b1).eqP⟩
    | bl b2 =>
      cases (show u = Value.bool _ from ru)
      exact ⟨dRc (RcAt.bool_bool b1 b2), (EqAt.bool_bool b1 b2).eqP⟩
    | int i2 =>
      obtain ⟨tu, rfl⟩ := (show ∃ t, u = Value.int _ t from ru)
      exact ⟨dRc (RcAt.bool_int b1 i2 tu), (EqAt.bool_int b1 i2 tu).eqP⟩
    | str s2 =>
      obtain ⟨tu, rfl⟩ := (show ∃ t, u = Value.str _ t from ru)
      exact ⟨dRc (RcAt.bool_str b1 s2 tu), (EqAt.bool_str b1 s2 tu).eqP⟩
    | lst h2 r2 =>
      cases (show u = Value.ref _ from ru)
      obtain ⟨us2, v2, p2, _⟩ := I.list (le_l le (.inl h2))
      exact ⟨dRc (RcAt.bool_list b1 p2.isList hu0), (EqAt.bool_list b1 p2.isList hu0).eqP⟩
    | tup h2 r2 =>
      cases (show u = Value.ref _ from ru)
      obtain ⟨us2, v2, p2, _⟩ := I.tuple (le_t le h2)
      exact ⟨dRc (RcAt.bool_tuple b1 p2 hu0), (EqAt.bool_tuple b1 p2 hu0).eqP⟩
    | dct h2 r2 =>
      cases (show u = Value.ref _ from ru)
      obtain ⟨y2, ⟨us2, v2, d2⟩, p2⟩ := dic_of I le h2
      exact ⟨rcP_bool_dict b1 p2 hu0, (rcP_bool_dict b1 p2 hu0).eqP (beq_eq_false_iff_ne.mpr fun z => by cases z) (fun _ _ _ _ z => by cases z)⟩
    | ref _ => cases n <;> simp [plain] at pb
    | ty _ => cases n <;> simp [plain] at pb
    | pen => cases n <;> simp [plain] at pb
    | ins _ _ => cases n <;> simp [plain] at pb
    | obj _ => cases n <;> simp [plain] at pb
    | exc0 _ => cases n <;> simp [plain] at pb
    | exc _ _ _ => cases n <;> simp [plain] at pb
  | int i1 =>
    obtain ⟨tv, rfl⟩ := (show ∃ t, v = Value.int _ t from rv)
    cases rb with
    | non =>
      cases (show u = Value.none from ru)
      exact ⟨dRc (RcAt.int_none i1 tv), (EqAt.int_none i1 tv).eqP⟩
    | bl b2 =>
      cases (show u = Value.bool _ from ru)
      exact ⟨dRc (RcAt.int_bool i1 tv b2), (EqAt.int_bool i1 tv b2).eqP⟩
    | int i2 =>
      obtain ⟨tu, rfl⟩ := (show ∃ t, u = Value.int _ t from ru)
      exact ⟨dRc (RcAt.int_int i1 tv i2 tu), (EqAt.int_int i1 tv i2 tu).eqP⟩
    | str s2 =>
      obtain ⟨tu, rfl⟩ := (show ∃ t, u = Value.str _ t from ru)
      exact ⟨dRc (RcAt.int_str i1 tv s2 tu), (EqAt.int_str i1 tv s2 tu).eqP⟩
    | lst h2 r2 =>
      cases (show u = Value.ref _ from ru)
      obtain ⟨us2, v2, p2, _⟩ := I.list (le_l le (.inl h2))
      exact ⟨dRc (RcAt.int_list i1 tv p2.isList hu0), (EqAt.int_list i1 tv p2.isList hu0).eqP⟩
    | tup h2 r2 =>
      cases (show u = Value.ref _ from ru)
      obtain ⟨us2, v2, p2, _⟩ := I.tuple (le_t le h2)
      exact ⟨dRc (RcAt.int_tuple i1 tv p2 hu0), (EqAt.int_tuple i1 tv p2 hu0).eqP⟩
    | dct h2 r2 =>
      cases (show u = Value.ref _ from ru)
      obtain ⟨y2, ⟨us2, v2, d2⟩, p2⟩ := dic_of I le h2
      exact ⟨rcP_int_dict i1 tv p2 hu0, (rcP_int_dict i1 tv p2 hu0).eqP (beq_eq_false_iff_ne.mpr fun z => by cases z) (fun _ _ _ _ z => by cases z)⟩
    | ref _ => cases n <;> simp [plain] at pb
    | ty _ => cases n <;> simp [plain] at pb
    | pen => cases n <;> simp [plain] at pb
    | ins _ _ => cases n <;> simp [plain] at pb
    | obj _ => cases n <;> simp [plain] at pb
    | exc0 _ => cases n <;> simp [plain] at pb
    | exc _ _ _ => cases n <;> simp [plain] at pb
  | str s1 =>
    obtain ⟨tv, rfl⟩ := (show ∃ t, v = Value.str _ t from rv)
    cases rb with
    | non =>
      cases (show u = Value.none from ru)
      exact ⟨dRc (RcAt.str_none s1 tv), (EqAt.str_none s1 tv).eqP⟩
    | bl b2 =>
      cases (show u = Value.bool _ from ru)
      exact ⟨dRc (RcAt.str_bool s1 tv b2), (EqAt.str_bool s1 tv b2).eqP⟩
    | int i2 =>
      obtain ⟨tu, rfl⟩ := (show ∃ t, u = Value.int _ t from ru)
      exact ⟨dRc (RcAt.str_int s1 tv i2 tu), (EqAt.str_int s1 tv i2 tu).eqP⟩
    | str s2 =>
      obtain ⟨tu, rfl⟩ := (show ∃ t, u = Value.str _ t from ru)
      exact ⟨dRc (RcAt.str_str s1 tv s2 tu), (EqAt.str_str s1 tv s2 tu).eqP⟩
    | lst h2 r2 =>
      cases (show u = Value.ref _ from ru)
      obtain ⟨us2, v2, p2, _⟩ := I.list (le_l le (.inl h2))
      exact ⟨dRc (RcAt.str_list s1 tv p2.isList hu0), (EqAt.str_list s1 tv p2.isList hu0).eqP⟩
    | tup h2 r2 =>
      cases (show u = Value.ref _ from ru)
      obtain ⟨us2, v2, p2, _⟩ := I.tuple (le_t le h2)
      exact ⟨dRc (RcAt.str_tuple s1 tv p2 hu0), (EqAt.str_tuple s1 tv p2 hu0).eqP⟩
    | dct h2 r2 =>
      cases (show u = Value.ref _ from ru)
      obtain ⟨y2, ⟨us2, v2, d2⟩, p2⟩ := dic_of I le h2
      exact ⟨rcP_str_dict s1 tv p2 hu0, (rcP_str_dict s1 tv p2 hu0).eqP (beq_eq_false_iff_ne.mpr fun z => by cases z) (fun _ _ _ _ z => by cases z)⟩
    | ref _ => cases n <;> simp [plain] at pb
    | ty _ => cases n <;> simp [plain] at pb
    | pen => cases n <;> simp [plain] at pb
    | ins _ _ => cases n <;> simp [plain] at pb
    | obj _ => cases n <;> simp [plain] at pb
    | exc0 _ => cases n <;> simp [plain] at pb
    | exc _ _ _ => cases n <;> simp [plain] at pb
  | lst h1 r1 =>
    cases (show v = Value.ref _ from rv)
    obtain ⟨us1, v1, p1, _⟩ := I.list (le_l le (.inl h1))
    cases rb with
    | non =>
      cases (show u = Value.none from ru)
      exact ⟨dRc (RcAt.list_none p1.isList hu0), (EqAt.list_none p1.isList hu0).eqP⟩
    | bl b2 =>
      cases (show u = Value.bool _ from ru)
      exact ⟨dRc (RcAt.list_bool b2 p1.isList hu0), (EqAt.list_bool b2 p1.isList hu0).eqP⟩
    | int i2 =>
      obtain ⟨tu, rfl⟩ := (show ∃ t, u = Value.int _ t from ru)
      exact ⟨dRc (RcAt.list_int i2 tu p1.isList hu0), (EqAt.list_int i2 tu p1.isList hu0).eqP⟩
    | str s2 =>
      obtain ⟨tu, rfl⟩ := (show ∃ t, u = Value.str _ t from ru)
      exact ⟨dRc (RcAt.list_str s2 tu p1.isList hu0), (EqAt.list_str s2 tu p1.isList hu0).eqP⟩
    | lst h2 r2 =>
      cases (show u = Value.ref _ from ru)
      obtain ⟨us2, v2, p2, _⟩ := I.list (le_l le (.inl h2))
      cases n with
      | zero => simp [plain] at pa
      | succ m =>
        have goal := lst_rc (ih m rfl) hu0 (in1 m rfl) (by simpa [plain] using pa) (by simpa [plain] using pb) r1 r2 v1 v2 p1.isList p2.isList
        exact ⟨goal, refs_eq goal fun z => by subst z; exact inj (.lst h1 r1) (.lst h2 r2)⟩
    | tup h2 r2 =>
      cases (show u = Value.ref _ from ru)
      obtain ⟨us2, v2, p2, _⟩ := I.tuple (le_t le h2)
      exact ⟨dRc (RcAt.list_tuple p1.isList p2 hu0), (EqAt.list_tuple p1.isList p2 hu0).eqP⟩
    | dct h2 r2 =>
      cases (show u = Value.ref _ from ru)
      obtain ⟨y2, ⟨us2, v2, d2⟩, p2⟩ := dic_of I le h2
      obtain ⟨z1, z2, z3⟩ := rcP_dict_list (P := X.prog) (w := X.w) p2 p1.isList hu0
      exact ⟨z3, eqP_refs z1.symm z3⟩
    | ref _ => cases n <;> simp [plain] at pb
    | ty _ => cases n <;> simp [plain] at pb
    | pen => cases n <;> simp [plain] at pb
    | ins _ _ => cases n <;> simp [plain] at pb
    | obj _ => cases n <;> simp [plain] at pb
    | exc0 _ => cases n <;> simp [plain] at pb
    | exc _ _ _ => cases n <;> simp [plain] at pb
  | tup h1 r1 =>
    cases (show v = Value.ref _ from rv)
    obtain ⟨us1, v1, p1, _⟩ := I.tuple (le_t le h1)
    cases rb with
    | non =>
      cases (show u = Value.none from ru)
      exact ⟨dRc (RcAt.tuple_none p1 hu0), (EqAt.tuple_none p1 hu0).eqP⟩
    | bl b2 =>
      cases (show u = Value.bool _ from ru)
      exact ⟨dRc (RcAt.tuple_bool b2 p1 hu0), (EqAt.tuple_bool b2 p1 hu0).eqP⟩
    | int i2 =>
      obtain ⟨tu, rfl⟩ := (show ∃ t, u = Value.int _ t from ru)
      exact ⟨dRc (RcAt.tuple_int i2 tu p1 hu0), (EqAt.tuple_int i2 tu p1 hu0).eqP⟩
    | str s2 =>
      obtain ⟨tu, rfl⟩ := (show ∃ t, u = Value.str _ t from ru)
      exact ⟨dRc (RcAt.tuple_str s2 tu p1 hu0), (EqAt.tuple_str s2 tu p1 hu0).eqP⟩
    | lst h2 r2 =>
      cases (show u = Value.ref _ from ru)
      obtain ⟨us2, v2, p2, _⟩ := I.list (le_l le (.inl h2))
      exact ⟨dRc (RcAt.tuple_list p1 p2.isList hu0), (EqAt.tuple_list p1 p2.isList hu0).eqP⟩
    | tup h2 r2 =>
      cases (show u = Value.ref _ from ru)
      obtain ⟨us2, v2, p2, _⟩ := I.tuple (le_t le h2)
      cases n with
      | zero => simp [plain] at pa
      | succ m =>
        have goal := tup_rc (ih m rfl) hu0 (in1 m rfl) (by simpa [plain] using pa) (by simpa [plain] using pb) r1 r2 v1 v2 p1 p2
        exact ⟨goal, refs_eq goal fun z => by subst z; exact inj (.tup h1 r1) (.tup h2 r2)⟩
    | dct h2 r2 =>
      cases (show u = Value.ref _ from ru)
      obtain ⟨y2, ⟨us2, v2, d2⟩, p2⟩ := dic_of I le h2
      obtain ⟨z1, z2, z3⟩ := rcP_dict_tuple (P := X.prog) (w := X.w) p2 p1 hu0
      exact ⟨z3, eqP_refs z1.symm z3⟩
    | ref _ => cases n <;> simp [plain] at pb
    | ty _ => cases n <;> simp [plain] at pb
    | pen => cases n <;> simp [plain] at pb
    | ins _ _ => cases n <;> simp [plain] at pb
    | obj _ => cases n <;> simp [plain] at pb
    | exc0 _ => cases n <;> simp [plain] at pb
    | exc _ _ _ => cases n <;> simp [plain] at pb
  | dct h1 r1 =>
    cases (show v = Value.ref _ from rv)
    obtain ⟨y1, ⟨us1, v1, d1⟩, p1⟩ := dic_of I le h1
    cases rb with
    | non =>
      cases (show u = Value.none from ru)
      exact ⟨rcP_dict_none p1 hu0, (rcP_dict_none p1 hu0).eqP (beq_eq_false_iff_ne.mpr fun z => by cases z) (fun _ _ _ _ z => by cases z)⟩
    | bl b2 =>
      cases (show u = Value.bool _ from ru)
      exact ⟨rcP_dict_bool b2 p1 hu0, (rcP_dict_bool b2 p1 hu0).eqP (beq_eq_false_iff_ne.mpr fun z => by cases z) (fun _ _ _ _ z => by cases z)⟩
    | int i2 =>
      obtain ⟨tu, rfl⟩ := (show ∃ t, u = Value.int _ t from ru)
      exact ⟨rcP_dict_int i2 tu p1 hu0, (rcP_dict_int i2 tu p1 hu0).eqP (beq_eq_false_iff_ne.mpr fun z => by cases z) (fun _ _ _ _ z => by cases z)⟩
    | str s2 =>
      obtain ⟨tu, rfl⟩ := (show ∃ t, u = Value.str _ t from ru)
      exact ⟨rcP_dict_str s2 tu p1 hu0, (rcP_dict_str s2 tu p1 hu0).eqP (beq_eq_false_iff_ne.mpr fun z => by cases z) (fun _ _ _ _ z => by cases z)⟩
    | lst h2 r2 =>
      cases (show u = Value.ref _ from ru)
      obtain ⟨us2, v2, p2, _⟩ := I.list (le_l le (.inl h2))
      obtain ⟨z1, z2, z3⟩ := rcP_dict_list (P := X.prog) (w := X.w) p1 p2.isList hu0
      exact ⟨z2, eqP_refs z1 z2⟩
    | tup h2 r2 =>
      cases (show u = Value.ref _ from ru)
      obtain ⟨us2, v2, p2, _⟩ := I.tuple (le_t le h2)
      obtain ⟨z1, z2, z3⟩ := rcP_dict_tuple (P := X.prog) (w := X.w) p1 p2 hu0
      exact ⟨z2, eqP_refs z1 z2⟩
    | dct h2 r2 =>
      cases (show u = Value.ref _ from ru)
      obtain ⟨y2, ⟨us2, v2, d2⟩, p2⟩ := dic_of I le h2
      cases n with
      | zero => simp [plain] at pa
      | succ m =>
        simp only [plain, Bool.and_eq_true] at pa pb
        have goal' := dct_rc (ih m rfl) hu0 (in1 m rfl) pa.1 pb.1 r1 r2 v1 v2 y1 y2 d1 d2
        exact ⟨goal', refs_eq goal' fun z => by subst z; exact inj (.dct h1 r1) (.dct h2 r2)⟩
    | ref _ => cases n <;> simp [plain] at pb
    | ty _ => cases n <;> simp [plain] at pb
    | pen => cases n <;> simp [plain] at pb
    | ins _ _ => cases n <;> simp [plain] at pb
    | obj _ => cases n <;> simp [plain] at pb
    | exc0 _ => cases n <;> simp [plain] at pb
    | exc _ _ _ => cases n <;> simp [plain] at pb
  | ref _ => cases n <;> simp [plain] at pa
  | ty _ => cases n <;> simp [plain] at pa
  | pen => cases n <;> simp [plain] at pa
  | ins _ _ => cases n <;> simp [plain] at pa
  | obj _ => cases n <;> simp [plain] at pa
  | exc0 _ => cases n <;> simp [plain] at pa
  | exc _ _ _ => cases n <;> simp [plain] at pa
/-- THE THEOREM: == of plain data -/
theorem eq_run (I : Inv X pins σ H s) (le : Le G H) : ∀ (n : Nat), EqGoal X p0 G s n
  | 0 => eq_step I le 0 fun m e => by omega
  | n + 1 => eq_step I le (n + 1) fun m e => by cases e; exact eq_run I le n
end
end DL

/-! ELI: operators, subscripts, built-ins over data. -/
namespace PySem.SeqAt
open AutoSeq1 (wpAny_loadPart')
open MeetsSeq
section
variable {P : Program} {w : World} {A : Around} {s : Shared}
theorem tup_neIn (l b : Addr) (xs ys : Array Value) (n n2 : Nat) (dd dd2 : Option Addr) (sl sl2 : Array (Option Value)) (e : Nat → Bool) :
    MeetsIn P w (Builtin.«tuple.__ne__» ⟨[.ref l, .ref b], []⟩)
      (fun A R s => s.heap.get? l = some { cls := .type "tuple", dict := dd, data := .seq xs n, slots := sl } ∧ s.heap.get? b = some { cls := .type "tuple", dict := dd2, data := .seq ys n2, slots := sl2 } ∧
        (∀ j (h1 : j < xs.size) (h2 : j < ys.size), EqP P w A.in1 s xs[j] ys[j] (e j)) ∧ R (.ok (.ret (.bool (!((List.range (min xs.size ys.size)).all e && xs.size == ys.size))))) s) := by
  intro A R s h
  obtain ⟨hp, gn, dr, tk, os⟩ := s
  obtain ⟨hl, hb, he, h⟩ := h
  have f2 := AutoSeq1.sub_tuple_tuple
  have hZ : (xs.toList.zip ys.toList).length = min xs.size ys.size := by simp
  wp_walk using wpAny_loadPart' hl, wpAny_loadPart' hb, wpAny_forIn_list _ (fun more b s' => b.1 = none ∧ s' = ⟨hp, gn, dr, tk, os⟩ ∧ ∃ i, more = (xs.toList.zip ys.toList).drop i ∧
    R (.ok (.ret (.bool (!(((List.range (min xs.size ys.size)).drop i).all e && xs.size == ys.size))))) ⟨hp, gn, dr, tk, os⟩) _
  case turn =>
    rintro ⟨y, x⟩ more b s' ⟨hb', rfl, i, hz, hR⟩
    have hlt : i < (xs.toList.zip ys.toList).length := Nat.lt_of_not_le fun q => by rw [List.drop_of_length_le q] at hz; cases hz
    have hm : i < min xs.size ys.size := hZ ▸ hlt
    have h1 : i < xs.size := by omega
    have h2 : i < ys.size := by omega
    rw [List.drop_eq_getElem_cons hlt] at hz
    injection hz with hyx hrest
    have hy : y = xs[i] := by simpa using congrArg Prod.fst hyx
    have hx : x = ys[i] := by simpa using congrArg Prod.snd hyx
    subst hy hx
    have hd : (List.range (min xs.size ys.size)).drop i = i :: (List.range (min xs.size ys.size)).drop (i + 1) := by simp [List.drop_eq_getElem_cons, hm]
    rw [hd, List.all_cons] at hR
    refine wpAny_bind (he i h1 h2 _ _ ?_)
    cases q : e i with
    | true => rw [q] at hR; wp_walk; exact ⟨rfl, rfl, i + 1, hrest, by simpa using hR⟩
    | false => rw [q] at hR; wp_walk; simpa using hR
  case fin =>
    rintro ⟨b1, b2⟩ s' ⟨hb', rfl, i, hz, hR⟩
    simp only at hb'
    subst hb'
    have hge : min xs.size ys.size ≤ i := Nat.le_of_not_lt fun q => by rw [List.drop_eq_getElem_cons (hZ ▸ q)] at hz; cases hz
    rw [List.drop_of_length_le (by simpa using hge)] at hR
    wp_walk
    simpa [Builtin.Tuple.tupleCompareSizes, bne] using hR
  case h => exact ⟨rfl, rfl, 0, rfl, by simpa using h⟩
theorem rcNeP_tuples {l b : Addr} {xs ys : Array Value} {e : Nat → Bool} {E Q : Value → Shared → Prop} (hl : s.heap.IsTuple l xs) (hb : s.heap.IsTuple b ys) (hu : A.units < cLine)
    (he : ∀ j (h1 : j < xs.size) (h2 : j < ys.size), EqP P w A.in1 s xs[j] ys[j] (e j)) (h : Q (.bool (!((List.range (min xs.size ys.size)).all e && xs.size == ys.size))) s) : wpAny (model P w) A (richCompare .NotEq (.ref l) (.ref b)) Q E s := by
  obtain ⟨⟨cls, dd, data, sl⟩, ho, hc, n, hd⟩ := id hl
  obtain ⟨⟨cls2, dd2, data2, sl2⟩, ho2, hc2, n2, hd2⟩ := id hb
  simp only at hc hd hc2 hd2
  subst hc hd hc2 hd2
  exact wpAny_richCompare_same_room (op := .NotEq) ⟨_, ho, rfl⟩ ⟨_, ho2, rfl⟩ F.slot_tuple_ne (call_meetsIn F.slot_tuple_ne ⟨_, ho, rfl⟩ F.entry_tuple_ne (F.args_tuple_ne_2 _ _) (tup_neIn l b xs ys n n2 dd dd2 sl sl2 e)
    ⟨ho, ho2, he, ⟨(fun x => nomatch x), h⟩⟩) hu
end
end PySem.SeqAt
namespace DL
open PySem L2 PySem.Spec PyProof.Rows PySem.SeqAt
/-! ### data without dicts, as the library's -/
def kPy : Key → PyData
  | .inl i => .int i
  | .inr s => .str s
mutual
def toPy : D → PyData
  | .non => .none
  | .bl b => .bool b
  | .int i => .int i
  | .str x => .str x
  | .lst xs => .list (toPyL xs)
  | .tup xs => .tuple (toPyL xs)
  | .dct xs => .dict (toPyK xs)
  | _ => .none
def toPyL : List D → List PyData
  | [] => []
  | x :: xs => toPy x :: toPyL xs
def toPyK : List (Key × D) → List (PyData × PyData)
  | [] => []
  | (k, x) :: xs => (kPy k, toPy x) :: toPyK xs
end
mutual
/-- plain and without dicts -/
def noDic : D → Nat → Bool
  | .non, _ => true
  | .bl _, _ => true
  | .int _, _ => true
  | .str s, _ => PyData.strOk s
  | .lst xs, n + 1 => noDicL xs n
  | .tup xs, n + 1 => noDicL xs n
  | _, _ => false
def noDicL : List D → Nat → Bool
  | [], _ => true
  | x :: xs, n => noDic x n && noDicL xs n
end
section
variable {K : PySem.W.Frag} {p0 : Addr} {G H : Hp}
mutual
theorem Rep.dp (le : Le G H) : ∀ (n : Nat) (a : D) (x : V), noDic a n = true → Rep K p0 G x a → Dp K H x (toPy a)
  | n, _, _, _, .non => by simp only [toPy]; exact .non
  | n, _, _, _, .bl _ => by simp only [toPy]; exact .bl _
  | n, _, _, _, .int _ => by simp only [toPy]; exact .int _
  | n, _, _, _, .str _ => by simp only [toPy]; exact .str _
  | n, _, _, h, .ref _ => by cases n <;> simp [noDic] at h
  | n, _, _, h, .ty _ => by cases n <;> simp [noDic] at h
  | n, _, _, h, .pen => by cases n <;> simp [noDic] at h
  | n, _, _, h, .ins _ _ => by cases n <;> simp [noDic] at h
  | n, _, _, h, .dct _ _ => by cases n <;> simp [noDic] at h
  | 0, _, _, h, .lst _ _ => by simp [noDic] at h
  | 0, _, _, h, .tup _ _ => by simp [noDic] at h
  | n + 1, _, _, h, .lst h1 r1 => by simp only [toPy]; exact .lst (le_l le (.inl h1)) (RepL.dp le n _ _ (by simpa [noDic] using h) r1)
  | n + 1, _, _, h, .tup h1 r1 => by simp only [toPy]; exact .tup (le_t le h1) (RepL.dp le n _ _ (by simpa [noDic] using h) r1)
theorem RepL.dp (le : Le G H) : ∀ (n : Nat) (a : List D) (x : List V), noDicL a n = true → RepL K p0 G x a → DpAll K H x (toPyL a)
  | n, _, _, _, .nil => by simp only [toPyL]; exact .nil
  | n, _, _, h, .cons h1 r1 => by
    simp only [noDicL, Bool.and_eq_true] at h
    simp only [toPyL]
    exact .cons (Rep.dp le n _ _ h.1 h1) (RepL.dp le n _ _ h.2 r1)
end
mutual
theorem eqv_eq : ∀ (a b : D) (n m : Nat), noDic a n = true → noDic b m = true → PyData.eqv (toPy a) (toPy b) = eqD a b
  | .non, b, n, m, ha, hb => by cases b <;> (try (cases m <;> simp [noDic] at hb; done)) <;> simp [toPy, PyData.eqv, eqD]
  | .bl q, b, n, m, ha, hb => by cases b <;> (try (cases m <;> simp [noDic] at hb; done)) <;> simp [toPy, PyData.eqv, eqD]
  | .int i, b, n, m, ha, hb => by cases b <;> (try (cases m <;> simp [noDic] at hb; done)) <;> simp [toPy, PyData.eqv, eqD]
  | .str s, b, n, m, ha, hb => by cases b <;> (try (cases m <;> simp [noDic] at hb; done)) <;> simp [toPy, PyData.eqv, eqD]
  | .lst xs, b, n, m, ha, hb => by
    cases n with
    | zero => simp [noDic] at ha
    | succ n =>
      cases b <;> (try (cases m <;> simp [noDic] at hb; done)) <;> (try (simp [toPy, PyData.eqv, eqD]; done))
      cases m with
      | zero => simp [noDic] at hb
      | succ m => simp only [toPy, PyData.eqv, eqD]; exact eqvL_eq xs _ n m (by simpa [noDic] using ha) (by simpa [noDic] using hb)
  | .tup xs, b, n, m, ha, hb => by
    cases n with
    | zero => simp [noDic] at ha
    | succ n =>
      cases b <;> (try (cases m <;> simp [noDic] at hb; done)) <;> (try (simp [toPy, PyData.eqv, eqD]; done))
      cases m with
      | zero => simp [noDic] at hb
      | succ m => simp only [toPy, PyData.eqv, eqD]; exact eqvL_eq xs _ n m (by simpa [noDic] using ha) (by simpa [noDic] using hb)
  | .dct _, b, n, m, ha, hb => by cases n <;> simp [noDic] at ha
  | .ins _ _, b, n, m, ha, hb => by cases n <;> simp [noDic] at ha
  | .ref _, b, n, m, ha, hb => by cases n <;> simp [noDic] at ha
  | .ty _, b, n, m, ha, hb => by cases n <;> simp [noDic] at ha
  | .pen, b, n, m, ha, hb => by cases n <;> simp [noDic] at ha
theorem eqvL_eq : ∀ (a b : List D) (n m : Nat), noDicL a n = true → noDicL b m = true → PyData.eqvAll (toPyL a) (toPyL b) = eqL a b
  | [], [], _, _, _, _ => by simp [toPyL, PyData.eqvAll, eqL]
  | [], _ :: _, _, _, _, _ => by simp [toPyL, PyData.eqvAll, eqL]
  | _ :: _, [], _, _, _, _ => by simp [toPyL, PyData.eqvAll, eqL]
  | x :: xs, y :: ys, n, m, ha, hb => by
    simp only [noDicL, Bool.and_eq_true] at ha hb
    simp only [toPyL, PyData.eqvAll, eqL, eqv_eq x y n m ha.1 hb.1, eqvL_eq xs ys n m ha.2 hb.2]
end
end

mutual
theorem lay_of : ∀ (a : D) (n : Nat), noDic a n = true → (toPy a).canLay0 = true ∧ (toPy a).depth ≤ n
  | .non, n, _ => by simp [toPy, PyData.canLay0, PyData.depth]
  | .bl _, n, _ => by simp [toPy, PyData.canLay0, PyData.depth]
  | .int _, n, _ => by simp [toPy, PyData.canLay0, PyData.depth]
  | .str _, n, h => by simp [toPy, PyData.canLay0, PyData.depth]; simpa [noDic] using h
  | .lst xs, 0, h => by simp [noDic] at h
  | .tup xs, 0, h => by simp [noDic] at h
  | .lst xs, n + 1, h => by
    obtain ⟨h1, h2⟩ := lay_ofL xs n (by simpa [noDic] using h)
    simp only [toPy, PyData.canLay0, PyData.depth]
    exact ⟨h1, by omega⟩
  | .tup xs, n + 1, h => by
    obtain ⟨h1, h2⟩ := lay_ofL xs n (by simpa [noDic] using h)
    simp only [toPy, PyData.canLay0, PyData.depth]
    exact ⟨h1, by omega⟩
  | .dct _, n, h => by cases n <;> simp [noDic] at h
  | .ins _ _, n, h => by cases n <;> simp [noDic] at h
  | .ref _, n, h => by cases n <;> simp [noDic] at h
  | .ty _, n, h => by cases n <;> simp [noDic] at h
  | .pen, n, h => by cases n <;> simp [noDic] at h
theorem lay_ofL : ∀ (a : List D) (n : Nat), noDicL a n = true → PyData.canLayAll0 (toPyL a) = true ∧ PyData.depthAll (toPyL a) ≤ n
  | [], n, _ => by simp [toPyL, PyData.canLayAll0, PyData.depthAll]
  | x :: xs, n, h => by
    simp only [noDicL, Bool.and_eq_true] at h
    obtain ⟨h1, h2⟩ := lay_of x n h.1
    obtain ⟨h3, h4⟩ := lay_ofL xs n h.2
    simp only [toPyL, PyData.canLayAll0, PyData.depthAll, Bool.and_eq_true]
    exact ⟨⟨h1, h3⟩, by omega⟩
end
theorem shaped_of {a : D} (h : noDic a 40 = true) : shaped (toPy a) = true := by
  obtain ⟨h1, h2⟩ := lay_of a 40 h
  unfold shaped
  rw [h1, decide_eq_true (by omega)]
  rfl

/-! ### == and != -/
section
variable {X : Cx} {c : Fr} {W : WX} {N : List Str} {sc : Scope} {k : Nat} {bb : Bool}
def oEq : DOp := fun x y P => (plain x 40 = true ∧ plain y 40 = true) ∧ P (.bl (eqD x y))
def rEq2 (K : PySem.W.Frag) (p0 : Addr) : R2 := fun x y H Q => ∃ G a b, Le G H ∧ Rep K p0 G x a ∧ Rep K p0 G y b ∧ plain a 40 = true ∧ plain b 40 = true ∧ Q (.bl (eqD a b)) H
theorem op_eq2 (hu : X.A.units + 64 < cLine) {p0 : Addr} : OpR X (compareOp .Eq) (rEq2 X.K p0) := by
  intro pins s σ H x y v u Q I rx ry ⟨G, a, b, le, ra, rb, pa, pb, q⟩
  exact (eq_run I le 40 X.A (by omega) x y v u a b pa pb ra rb rx ry).1 _ _ ⟨.bl _, H, I, rfl, q⟩
theorem o_eq (B : XB X c W N sc k bb) : OpD X c (compareOp .Eq) oEq :=
  ⟨_, op_eq2 (p0 := c.p0) B.room.units, fun G H σ δ u v x y P Q R ru rv ⟨⟨h1, h2⟩, p⟩ kk => ⟨G, x, y, R.le, by rw [B.hK]; exact ru, by rw [B.hK]; exact rv, h1, h2, kk _ _ G H p Go.refl R (.bl _)⟩⟩
/-- tuples of plain data; or no dicts at all -/
def oNe : DOp := fun x y P => (match x, y with
  | .tup _, .tup _ => plain x 40 = true ∧ plain y 40 = true
  | .str _, .str _ => True
  | _, _ => noDic x 40 = true ∧ noDic y 40 = true) ∧ P (.bl (!eqD x y))
def rNe2 (K : PySem.W.Frag) (p0 : Addr) : R2 := fun x y H Q => ∃ G as bs p q, Le G H ∧ x = .ref p ∧ y = .ref q ∧ Rep K p0 G x (.tup as) ∧ Rep K p0 G y (.tup bs) ∧ plain (.tup as) 40 = true ∧ plain (.tup bs) 40 = true ∧ Q (.bl (!eqD (.tup as) (.tup bs))) H
theorem op_ne2 (hu : X.A.units + 64 < cLine) {p0 : Addr} : OpR X (compareOp .NotEq) (rNe2 X.K p0) := by
  intro pins s σ H x y v u Q I rx ry ⟨G, as, bs, p, q, le, ex, ey, ra, rb, pa, pb, qq⟩
  subst ex ey
  cases (show v = Value.ref p from rx)
  cases (show u = Value.ref q from ry)
  cases ra with
  | tup h1 r1 =>
    cases rb with
    | tup h2 r2 =>
      obtain ⟨us1, v1, p1, _⟩ := I.tuple (le_t le h1)
      obtain ⟨us2, v2, p2, _⟩ := I.tuple (le_t le h2)
      have l1 := v1.length; have l2 := v2.length; have l3 := r1.len; have l4 := r2.len
      refine rcNeP_tuples (P := X.prog) (w := X.w) (e := eAt as bs) p1 p2 (by omega) (fun j q1 q2 => ?_) ?_
      · have e := items_eq (A := X.A.in1) (eq_run I le 39) (by show X.A.units + 1 + 39 < cLine; omega) (by simpa [plain] using pa) (by simpa [plain] using pb) r1 r2 v1 v2 j (by simpa using q1) (by simpa using q2)
        simpa using e
      · rw [List.size_toArray, List.size_toArray, ← l1, ← l2, l3, l4, ← eqL_all]
        simp only [eqD] at qq
        exact ⟨.bl _, H, I, rfl, qq⟩
theorem o_ne (B : XB X c W N sc k bb) : OpD X c (compareOp .NotEq) oNe := by
  refine ⟨_, (op_ne2 (p0 := c.p0) B.room.units).or ((op_neD B.room.units).or op_ne), fun G H σ δ u v x y P Q R ru rv ⟨h, p⟩ kk => ?_⟩
  have gen : (noDic x 40 = true ∧ noDic y 40 = true) → rNeD X.K u v H Q := fun ⟨h1, h2⟩ =>
    ⟨toPy x, toPy y, by rw [B.hK]; exact Rep.dp R.le 40 x u h1 ru, by rw [B.hK]; exact Rep.dp R.le 40 y v h2 rv, shaped_of h1, shaped_of h2, by rw [eqv_eq x y 40 40 h1 h2]; exact kk _ _ G H p Go.refl R (.bl _)⟩
  cases x with
  | tup as =>
    cases y with
    | tup bs =>
      left
      have ru' := ru
      have rv' := rv
      cases ru with
      | tup a1 a2 =>
        cases rv with
        | tup b1 b2 => exact ⟨G, as, bs, _, _, R.le, rfl, rfl, by rw [B.hK]; exact ru', by rw [B.hK]; exact rv', h.1, h.2, kk _ _ G H p Go.refl R (.bl _)⟩
    | _ => right; left; exact gen h
  | str s1 =>
    cases y with
    | str s2 =>
      right; right
      cases ru
      cases rv
      refine ⟨rfl, ?_⟩
      have e : (!decide (V.str s1 = V.str s2)) = !eqD (.str s1) (.str s2) := by rw [dec_str]; simp [eqD]
      rw [e]
      exact kk _ _ G H p Go.refl R (.bl _)
    | _ => right; left; exact gen h
  | _ => right; left; exact gen h
end
end DL

/-! ELJ: repr of plain data. -/
namespace DL
open PySem L2 PySem.Spec PyProof.Rows PySem.SeqAt
section
variable {X : Cx} {pins : List (Addr × Obj)} {σ : L2.St} {G H : Hp} {s : Shared} {p0 : Addr}
/-- all of bs bear data at most m deep -/
def Low (K : PySem.W.Frag) (p0 : Addr) (G : Hp) (m : Nat) (bs : List Addr) : Prop := ∀ b ∈ bs, ∃ y n, plain y n = true ∧ Rep K p0 G (.ref b) y ∧ (toPy y).depth ≤ m
theorem Low.up {K : PySem.W.Frag} {m m' : Nat} {bs : List Addr} (h : Low K p0 G m bs) (l : m ≤ m') : Low K p0 G m' bs := fun b hb =>
  let ⟨y, n, h1, h2, h3⟩ := h b hb
  ⟨y, n, h1, h2, Nat.le_trans h3 l⟩
theorem Low.two {K : PySem.W.Frag} {m : Nat} {bs cs : List Addr} (h : Low K p0 G m bs) (h' : Low K p0 G m cs) : Low K p0 G m (bs ++ cs) := fun b hb =>
  (List.mem_append.mp hb).elim (h b) (h' b)
theorem plain_up : ∀ (n m : Nat) (a : D), n ≤ m → plain a n = true → plain a m = true := by
  intro n
  induction n with
  | zero => intro m a _ h; cases a <;> simp [plain] at h <;> simp [plain]
  | succ n ih =>
    intro m a l h
    cases m with
    | zero => omega
    | succ m =>
      have l' : n ≤ m := by omega
      have hL : ∀ xs : List D, plainL xs n = true → plainL xs m = true := by
        intro xs
        induction xs with
        | nil => intro _; rfl
        | cons x xs ix =>
          intro q
          simp only [plainL, Bool.and_eq_true] at q ⊢
          exact ⟨ih m x l' q.1, ix q.2⟩
      have hK : ∀ xs : List (Key × D), plainK xs n = true → plainK xs m = true := by
        intro xs
        induction xs with
        | nil => intro _; rfl
        | cons x xs ix =>
          intro q
          obtain ⟨k, x⟩ := x
          simp only [plainK, Bool.and_eq_true] at q ⊢
          exact ⟨ih m x l' q.1, ix q.2⟩
      cases a <;> simp [plain] at h <;> simp [plain]
      · exact hL _ h
      · exact hL _ h
      · exact ⟨hK _ h.1, h.2⟩
theorem low_not (I : Inv X pins σ H s) (le : Le G H) {a : Addr} {d : D} {n m : Nat} {bs : List Addr} (pd : plain d n = true) (r : Rep X.K p0 G (.ref a) d) (hd : m < (toPy d).depth) (h : Low X.K p0 G m bs) : a ∉ bs := fun hm => by
  obtain ⟨y, k, h1, h2, h3⟩ := h a hm
  have e := Rep.inj I le (max n k) d y (.ref a) (plain_up n _ d (Nat.le_max_left _ _) pd) (plain_up k _ y (Nat.le_max_right _ _) h1) r h2
  rw [e] at hd
  omega
theorem Low.put {K : PySem.W.Frag} {a : Addr} {d : D} {n m : Nat} {bs : List Addr} (pd : plain d n = true) (r : Rep K p0 G (.ref a) d) (hm : m ≤ (toPy d).depth) (h : Low K p0 G m bs) : Low K p0 G (toPy d).depth (a :: bs) := fun b hb => by
  rcases List.mem_cons.mp hb with rfl | hb
  · exact ⟨d, n, pd, r, Nat.le_refl _⟩
  · exact h.up hm b hb
theorem key_shown (k : Key) (v : Value) (h : keyIs k v = true) (hs : (kPy k).showable = true) (hz : (kPy k).shown.length ≤ sizeLine) {P : Program} {w : World} (bs : List Addr) (h0 : Heap) (d : Nat) : ReprK P w bs h0 d v (kPy k).shown := by
  rcases keyIs_shape h with ⟨i, t, rfl, rfl⟩ | ⟨x, t, rfl, rfl⟩
  · simp only [kPy, PyData.shown]; exact .of_is (ReprIs.int t (by simpa [kPy, PyData.showable] using hs)) _ _ _
  · simp only [kPy, PyData.shown]; exact .of_is (ReprIs.str x t (by simpa [kPy, PyData.shown] using hz)) _ _ _
theorem entK_more {P : Program} {w : World} {h0 : Heap} {as as' : List Addr} {d d' : Nat} (hsub : ∀ b ∈ as, b ∈ as') (hd : d ≤ d') : ∀ {l : List DictEntry} {ts : List Str}, ReprEntriesK P w as h0 d l ts → ReprEntriesK P w as' h0 d' l ts
  | _, _, .nil => .nil
  | _, _, .cons hx hy hl => .cons ((hx.more hsub).level_le hd) ((hy.more hsub).level_le hd) (entK_more hsub hd hl)
mutual
theorem rk (I : Inv X pins σ H s) (le : Le G H) : ∀ (n : Nat) (a : D) (x : V) (v : Value), plain a n = true → (toPy a).showable = true → (toPy a).shown.length ≤ sizeLine → Rep X.K p0 G x a → RelV x v →
    ∃ bs, Low X.K p0 G (toPy a).depth bs ∧ ReprK X.prog X.w bs s.heap (toPy a).depth v (toPy a).shown
  | n, _, _, v, pa, hs, hz, .non, rv => by
    cases (show v = Value.none from rv)
    simp only [toPy, PyData.shown]; exact ⟨[], (fun _ h => nomatch h), .of_is ReprIs.none _ _ _⟩
  | n, .bl b, _, v, pa, hs, hz, .bl _, rv => by
    cases (show v = Value.bool b from rv)
    simp only [toPy, PyData.shown]; exact ⟨[], (fun _ h => nomatch h), .of_is (ReprIs.bool b) _ _ _⟩
  | n, .int i, _, v, pa, hs, hz, .int _, rv => by
    obtain ⟨t, rfl⟩ := (show ∃ t, v = Value.int i t from rv)
    simp only [toPy, PyData.shown]; exact ⟨[], (fun _ h => nomatch h), .of_is (ReprIs.int t (by simpa [toPy, PyData.showable] using hs)) _ _ _⟩
  | n, .str y, _, v, pa, hs, hz, .str _, rv => by
    obtain ⟨t, rfl⟩ := (show ∃ t, v = Value.str y t from rv)
    simp only [toPy, PyData.shown]; exact ⟨[], (fun _ h => nomatch h), .of_is (ReprIs.str y t (by simpa only [toPy, PyData.shown] using hz)) _ _ _⟩
  | n, _, _, v, pa, hs, hz, .ref _, rv => by cases n <;> simp [plain] at pa
  | n, _, _, v, pa, hs, hz, .ty _, rv => by cases n <;> simp [plain] at pa
  | n, _, _, v, pa, hs, hz, .pen, rv => by cases n <;> simp [plain] at pa
  | n, _, _, v, pa, hs, hz, .ins _ _, rv => by cases n <;> simp [plain] at pa
  | 0, _, _, v, pa, hs, hz, .lst _ _, rv => by simp [plain] at pa
  | 0, _, _, v, pa, hs, hz, .tup _ _, rv => by simp [plain] at pa
  | 0, _, _, v, pa, hs, hz, .dct _ _, rv => by simp [plain] at pa
  | n + 1, .lst xs, .ref a, v, pa, hs, hz, .lst (vs := vs) h1 r1, rv => by
    cases (show v = Value.ref a from rv)
    have hz' : (listText (PyData.shownAll (toPyL xs))).length ≤ sizeLine := by simpa only [toPy, PyData.shown] using hz
    obtain ⟨us, v1, p1, _⟩ := I.list (le_l le (.inl h1))
    obtain ⟨bs, hb, hk⟩ := rkL I le n xs vs us (by simpa [plain] using pa) (by simpa [toPy, PyData.showable] using hs) (fun t ht => Nat.le_trans (listText_mem_le ht) hz') r1 v1
    have r : Rep X.K p0 G (.ref a) (.lst xs) := .lst h1 r1
    have ed : (toPy (.lst xs)).depth = PyData.depthAll (toPyL xs) + 1 := by simp only [toPy, PyData.depth] <;> omega
    have hna : a ∉ bs := low_not I le pa r (by rw [ed]; omega) hb
    refine ⟨a :: bs, Low.put pa r (by rw [ed]; omega) hb, ?_⟩
    obtain ⟨o, k, q1, q2, q3, q4⟩ := p1
    rw [ed]
    simp only [toPy, PyData.shown]
    cases us with
    | nil =>
      cases v1
      cases r1
      simp only [toPyL, PyData.shownAll, listText_nil]
      exact ReprK.listEmpty q1 q2 q4
    | cons u l => exact ReprK.list q1 q2 q4 hna (by simpa using hk.length_eq) (fun i y e => hk.item i y (by simpa using e))
  | n + 1, .tup xs, .ref a, v, pa, hs, hz, .tup (vs := vs) h1 r1, rv => by
    cases (show v = Value.ref a from rv)
    have hz' : (tupleText (PyData.shownAll (toPyL xs))).length ≤ sizeLine := by simpa only [toPy, PyData.shown] using hz
    obtain ⟨us, v1, p1, _⟩ := I.tuple (le_t le h1)
    obtain ⟨bs, hb, hk⟩ := rkL I le n xs vs us (by simpa [plain] using pa) (by simpa [toPy, PyData.showable] using hs) (fun t ht => Nat.le_trans (tupleText_mem_le ht) hz') r1 v1
    have r : Rep X.K p0 G (.ref a) (.tup xs) := .tup h1 r1
    have ed : (toPy (.tup xs)).depth = PyData.depthAll (toPyL xs) + 1 := by simp only [toPy, PyData.depth] <;> omega
    have hna : a ∉ bs := low_not I le pa r (by rw [ed]; omega) hb
    refine ⟨a :: bs, Low.put pa r (by rw [ed]; omega) hb, ?_⟩
    obtain ⟨o, q1, q2, k, q3⟩ := p1
    rw [ed]
    simp only [toPy, PyData.shown]
    exact ReprK.tuple q1 q2 q3 hna (by simpa using hk)
  | n + 1, .dct xs, .ref a, v, pa, hs, hz, .dct (vs := vs) h1 r1, rv => by
    cases (show v = Value.ref a from rv)
    have hz' : (dictText (PyData.shownKv (toPyK xs))).length ≤ sizeLine := by simpa only [toPy, PyData.shown] using hz
    obtain ⟨hsys, ⟨us, v1, d1⟩, _⟩ := dic_of I le h1
    obtain ⟨o, es, ep, q1, q2, q3, q4, q5, q6⟩ := d1
    have pa' : plainK xs n = true := by
      simp only [plain, Bool.and_eq_true] at pa; exact pa.1
    obtain ⟨bs, hb, hk⟩ := rkK I le n xs vs us es.toList pa' (by simpa [toPy, PyData.showable] using hs) (fun t ht => Nat.le_trans (dictText_mem_le ht) hz') r1 v1 q5
    have r : Rep X.K p0 G (.ref a) (.dct xs) := .dct h1 r1
    have ed : (toPy (.dct xs)).depth = PyData.depthKv (toPyK xs) + 1 := by simp only [toPy, PyData.depth] <;> omega
    have hna : a ∉ bs := low_not I le pa r (by rw [ed]; omega) hb
    refine ⟨a :: bs, Low.put pa r (by rw [ed]; omega) hb, ?_⟩
    rw [ed]
    simp only [toPy, PyData.shown]
    exact ReprK.dict q1 q2.1 q3 hsys hna hk
theorem rkL (I : Inv X pins σ H s) (le : Le G H) : ∀ (n : Nat) (a : List D) (x : List V) (v : List Value), plainL a n = true → PyData.showableAll (toPyL a) = true → (∀ t ∈ PyData.shownAll (toPyL a), t.length ≤ sizeLine) → RepL X.K p0 G x a → Vals x v →
    ∃ bs, Low X.K p0 G (PyData.depthAll (toPyL a)) bs ∧ ReprAllK X.prog X.w bs s.heap (PyData.depthAll (toPyL a)) v (PyData.shownAll (toPyL a))
  | n, _, _, _, _, _, _, .nil, .nil => ⟨[], (fun _ h => nomatch h), by simp only [toPyL, PyData.shownAll]; exact .nil⟩
  | n, d :: ds, _ :: _, _ :: _, pa, hs, hz, .cons h1 r1, .cons v1 t1 => by
    simp only [plainL, Bool.and_eq_true] at pa
    simp only [toPyL, PyData.showableAll, Bool.and_eq_true] at hs
    obtain ⟨b1, l1, k1⟩ := rk I le n _ _ _ pa.1 hs.1 (hz _ (by simp only [toPyL, PyData.shownAll]; exact List.mem_cons_self ..)) h1 v1
    obtain ⟨b2, l2, k2⟩ := rkL I le n _ _ _ pa.2 hs.2 (fun t ht => hz t (by simp only [toPyL, PyData.shownAll]; exact List.mem_cons_of_mem _ ht)) r1 t1
    have m1 : (toPy d).depth ≤ PyData.depthAll (toPyL (d :: ds)) := by simp only [toPyL, PyData.depthAll]; omega
    have m2 : PyData.depthAll (toPyL ds) ≤ PyData.depthAll (toPyL (d :: ds)) := by simp only [toPyL, PyData.depthAll]; omega
    refine ⟨b1 ++ b2, (l1.up m1).two (l2.up m2), ?_⟩
    simp only [toPyL, PyData.shownAll]
    exact .cons ((k1.more fun b hb => List.mem_append_left _ hb).level_le m1) (k2.more_le (fun b hb => List.mem_append_right _ hb) m2)
theorem rkK (I : Inv X pins σ H s) (le : Le G H) : ∀ (n : Nat) (a : List (Key × D)) (x : List (Key × V)) (v : List (Key × Value)) (es : List DictEntry), plainK a n = true → PyData.showableKv (toPyK a) = true → (∀ t ∈ PyData.shownKv (toPyK a), t.length ≤ sizeLine) → RepK X.K p0 G x a → KV x v → Pairs (mixKind X.prog X.w) es v →
    ∃ bs, Low X.K p0 G (PyData.depthKv (toPyK a)) bs ∧ ReprEntriesK X.prog X.w bs s.heap (PyData.depthKv (toPyK a)) es (PyData.shownKv (toPyK a))
  | n, _, _, _, _, _, _, _, .nil, .nil, .nil => ⟨[], (fun _ h => nomatch h), by simp only [toPyK, PyData.shownKv]; exact .nil⟩
  | n, (k, d) :: ds, (_, _) :: _, (k2, u) :: us, e :: es, pa, hs, hz, .cons h1 r1, .cons v1 t1, .cons q1 q2 q3 => by
    simp only [plainK, Bool.and_eq_true] at pa
    simp only [toPyK, PyData.showableKv, Bool.and_eq_true] at hs
    obtain ⟨e1, e2⟩ := v1
    have e1 : k = k2 := e1
    subst e1
    have q2 : e.val = u := q2
    have hz0 := hz _ (by simp only [toPyK, PyData.shownKv]; exact List.mem_cons_self ..)
    rw [strLen_append, strLen_append] at hz0
    obtain ⟨b1, l1, k1⟩ := rk I le n _ _ _ pa.1 hs.1.2 (by omega) h1 e2
    obtain ⟨b2, l2, k2⟩ := rkK I le n _ _ _ _ pa.2 hs.2 (fun t ht => hz t (by simp only [toPyK, PyData.shownKv]; exact List.mem_cons_of_mem _ ht)) r1 t1 q3
    have m1 : (toPy d).depth ≤ PyData.depthKv (toPyK ((k, d) :: ds)) := by simp only [toPyK, PyData.depthKv]; omega
    have m2 : PyData.depthKv (toPyK ds) ≤ PyData.depthKv (toPyK ((k, d) :: ds)) := by simp only [toPyK, PyData.depthKv]; omega
    refine ⟨b1 ++ b2, (l1.up m1).two (l2.up m2), ?_⟩
    simp only [toPyK, PyData.shownKv]
    refine .cons (key_shown k e.key q1 hs.1.1 (by omega) _ _ _) ?_ (entK_more (fun b hb => List.mem_append_right _ hb) m2 k2)
    rw [q2]
    exact (k1.more fun b hb => List.mem_append_left _ hb).level_le m1
end
end
end DL

/-! ELK: built-in calls, operators, subscripts, slices over data. -/
namespace DL
open PySem L2 PySem.Spec PyProof.Rows PySem.SeqAt
section
variable {X : Cx} {c : Fr} {W : WX} {N : List Str} {sc : Scope} {k : Nat} {bb : Bool} {e a b : Expr} {es : List Expr} {pos p : Pos} {r ra rb : DTE} {rs : DTA} {x : Str} {id T : String}
abbrev DBu := List D → (D → Prop) → Prop
def DRL (c : Fr) (r : List V → Hp → VK → Prop) (o : DBu) : Prop := ∀ (G H : Hp) (σ : L2.St) (δ : S) (vs : List V) (ds : List D) (P : D → Prop) (Q : VK), Rel c G H σ δ → RepL c.K c.p0 G vs ds → o ds P →
  (∀ d w G' H', P d → Gof c δ δ σ G H G' H' → Rel c G' H' σ δ → Rep c.K c.p0 G' w d → Q w H') → r vs H Q
structure BuD (X : Cx) (c : Fr) (f : Value) (o : DBu) : Prop where
  ex : ∃ r, CallR X f r ∧ DRL c r o
theorem BuD.or {f : Value} {o o' : DBu} (h : BuD X c f o) (h' : BuD X c f o') : BuD X c f (fun ds P => o ds P ∨ o' ds P) := by
  obtain ⟨r, h1, h2⟩ := h.ex
  obtain ⟨r', h1', h2'⟩ := h'.ex
  refine ⟨_, h1.or h1', fun G H σ δ vs ds P Q R rr o kk => ?_⟩
  rcases o with o | o
  · exact .inl (h2 G H σ δ vs ds P Q R rr o kk)
  · exact .inr (h2' G H σ δ vs ds P Q R rr o kk)
theorem BuD.imp {f : Value} {o o' : DBu} (h : BuD X c f o) (l : ∀ ds P, o' ds P → o ds P) : BuD X c f o' := by
  obtain ⟨r, h1, h2⟩ := h.ex
  exact ⟨r, h1, fun G H σ δ vs ds P Q R rr o kk => h2 G H σ δ vs ds P Q R rr (l _ _ o) kk⟩
def dBu (o : DBu) (rs : DTA) : DTE := fun δ P E => rs δ (fun ds δ1 => o ds (fun z => P z δ1)) E
theorem dbu_ok {o : DBu} {r : List V → Hp → VK → Prop} (hr : DRL c r o) {σ : L2.St} {H : Hp} {Q : VK} : liftE c W (dBu o rs) σ H Q → tCB r (liftA c W rs) σ H Q := fun ⟨G, δ, P, E, R, h, kk, x⟩ =>
  ⟨G, δ, _, E, R, h, fun ds δ1 vs G1 H1 p1 L1 R1 r1 => hr G1 H1 σ δ1 vs ds _ Q R1 r1 p1 fun d w G' H' q L R' rr => kk d δ1 w G' H' q (L1.trans L) R' rr, x⟩
theorem gX (B : XB X c W N sc k bb) (hg : sc.names.lookup x = some .globalImplicit) : Gl X x := by show X.env.scope.names.lookup x = _; rw [B.hs]; exact hg
/-- f(e, ..), f a built-in function -/
theorem de_bu {o : DBu} (B : XB X c W N sc k bb) (hm : c.mg x = none) (hv : bootBuiltins x = some (.builtin id)) (ho : BuD X c (.builtin id) o) (hg : sc.names.lookup x = some .globalImplicit) (ha : DA X c W (e :: es) rs) (hn : x ≠ "__name__" := by decide) (hdb : (x == ("__debug__" : Str)) = false := by decide)
    (he : starEach (e :: es) X.env = (false, eval e X.env) :: starEach es X.env := by rfl) (hpl : (backTo pos (starEach es X.env)).any (·.1) = false := by rfl) : DE X c W (.Call (.Name x p) (e :: es) [] pos) (dBu o rs) := by
  obtain ⟨r, h1, h2⟩ := ho.ex
  exact peI (pe_callB h1 (gX B hg) (by rw [B.hm]; exact hm) hv ha hn hdb he hpl) fun σ H Q => dbu_ok h2
theorem de_ty {o : DBu} (B : XB X c W N sc k bb) (hm : c.mg x = none) (hv : bootBuiltins x = some (.type T)) (ho : BuD X c (.type T) o) (hg : sc.names.lookup x = some .globalImplicit) (ha : DA X c W (e :: es) rs) (hn : x ≠ "__name__" := by decide) (hdb : (x == ("__debug__" : Str)) = false := by decide)
    (he : starEach (e :: es) X.env = (false, eval e X.env) :: starEach es X.env := by rfl) (hpl : (backTo pos (starEach es X.env)).any (·.1) = false := by rfl) : DE X c W (.Call (.Name x p) (e :: es) [] pos) (dBu o rs) := by
  obtain ⟨r, h1, h2⟩ := ho.ex
  exact peI (pe_callTy h1 (gX B hg) (by rw [B.hm]; exact hm) hv ha hn hdb he hpl) fun σ H Q => dbu_ok h2
/-- a built-in name as a value -/
theorem de_blt {v : V} {u : Value} {d : D} (B : XB X c W N sc k bb) (hg : sc.names.lookup x = some .globalImplicit) (hm : c.mg x = none) (hv : bootBuiltins x = some u) (rv : RelV v u) (hr : ∀ G, Rep c.K c.p0 G v d) (hn : x ≠ "__name__" := by decide) (hd : (x == ("__debug__" : Str)) = false := by decide) : DE X c W (.Name x pos) (dC d) :=
  peI (pe_bltn (gX B hg) (by rw [B.hm]; exact hm) hv rv hn hd) fun σ H Q ⟨G, δ, P, E, R, h, k, x⟩ => k _ _ _ G H h Go.refl R (hr G)

/-! ### repr, len, int, abs, list, tuple -/
theorem repr_run {pins : List (Addr × Obj)} {σ : L2.St} {G H : Hp} {s : Shared} {p0 : Addr} (I : Inv X pins σ H s) (le : Le G H) {A : Around} (hu : A.units + 60 < cLine) (gd : A.guards = some []) {a : D} {x : V} {v : Value} (pa : plain a 40 = true) (hs : (toPy a).showable = true) (hz : (toPy a).shown.length ≤ sizeLine) (r : Rep X.K p0 G x a) (rv : RelV x v) (dp : (toPy a).depth ≤ 50)
    {Q : Value → Shared → Prop} {E : Value → Shared → Prop} (q : ∀ u s', Inv X pins σ H s' → RelV (.str (toPy a).shown) u → Q u s') : wpAny (model X.prog X.w) A (call (.builtin "repr") [v]) Q E s := by
  have fin : ∀ h' u tk, (∀ b o, s.heap.get? b = some o → h'.get? b = some o) → Q (.str (toPy a).shown u) { s with heap := h', toks := tk } := fun h' u tk kk => q _ _ (I.kept kk) ⟨_, rfl⟩
  cases r with
  | non => cases (show v = Value.none from rv); refine PySem.P.repr_of_none ?_; simpa only [toPy, PyData.shown] using fin s.heap s.toks (s.toks + 1) (fun _ _ e => e)
  | bl b => cases (show v = Value.bool b from rv); refine PySem.P.repr_of_bool ?_; simpa only [toPy, PyData.shown] using fin s.heap s.toks (s.toks + 1) (fun _ _ e => e)
  | int i => obtain ⟨t, rfl⟩ := (show ∃ t, v = Value.int i t from rv); refine PySem.P.repr_of_int (by simpa [toPy, PyData.showable] using hs) ?_; simpa only [toPy, PyData.shown] using fin s.heap s.toks (s.toks + 1) (fun _ _ e => e)
  | str y => obtain ⟨t, rfl⟩ := (show ∃ t, v = Value.str y t from rv); refine PySem.P.repr_of_str ?_ (by simpa only [toPy, PyData.shown] using hz); simpa only [toPy, PyData.shown] using fin s.heap s.toks (s.toks + 1) (fun _ _ e => e)
  | ref _ => simp [plain] at pa
  | ty _ => simp [plain] at pa
  | pen => simp [plain] at pa
  | ins _ _ => simp [plain] at pa
  | obj _ => simp [plain] at pa
  | exc0 _ => simp [plain] at pa
  | exc _ _ _ => simp [plain] at pa
  | @lst a vs xs h1 r1 =>
    cases (show v = Value.ref a from rv)
    have hz' : (listText (PyData.shownAll (toPyL xs))).length ≤ sizeLine := by simpa only [toPy, PyData.shown] using hz
    obtain ⟨us, v1, p1, _⟩ := I.list (le_l le (.inl h1))
    obtain ⟨bs, hb, hk⟩ := rkL I le 39 xs vs us (by simpa [plain] using pa) (by simpa [toPy, PyData.showable] using hs) (fun t ht => Nat.le_trans (listText_mem_le ht) hz') r1 v1
    have r : Rep X.K p0 G (.ref a) (.lst xs) := .lst h1 r1
    have ed : (toPy (.lst xs)).depth = PyData.depthAll (toPyL xs) + 1 := by simp only [toPy, PyData.depth] <;> omega
    have hna : a ∉ bs := low_not I le pa r (by rw [ed]; omega) hb
    obtain ⟨o, k, q1, q2, q3, q4⟩ := p1
    simp only [toPy, PyData.shown] at fin
    refine call_repr_slot (T := "list") (idr := "list.__repr__") (by omega) ⟨o, q1, q2⟩ F.slot_list_repr.toG ?_
    cases us with
    | nil =>
      cases v1
      cases r1
      simp only [toPyL, PyData.shownAll, listText_nil] at fin
      exact call_list_repr_empty ⟨o, q1, q2⟩ q1 q4 ⟨_, _, rfl, fin s.heap _ _ fun _ _ e => e⟩
    | cons u l => exact call_list_reprK q1 q2 q4 hna (by simpa using hk.length_eq) (fun i y e => hk.item i y (by simpa using e)) (show A.in1.guards = some [] from gd) (fun b _ => Clear.nil b) (by rw [ed] at dp; show A.units + 1 + _ < _; omega) (fun _ _ e => e) (fun h' u tk kk => ⟨_, _, rfl, fin h' u tk kk⟩) hz'
  | @tup a vs xs h1 r1 =>
    cases (show v = Value.ref a from rv)
    have hz' : (tupleText (PyData.shownAll (toPyL xs))).length ≤ sizeLine := by simpa only [toPy, PyData.shown] using hz
    obtain ⟨us, v1, p1, _⟩ := I.tuple (le_t le h1)
    obtain ⟨bs, hb, hk⟩ := rkL I le 39 xs vs us (by simpa [plain] using pa) (by simpa [toPy, PyData.showable] using hs) (fun t ht => Nat.le_trans (tupleText_mem_le ht) hz') r1 v1
    have r : Rep X.K p0 G (.ref a) (.tup xs) := .tup h1 r1
    have ed : (toPy (.tup xs)).depth = PyData.depthAll (toPyL xs) + 1 := by simp only [toPy, PyData.depth] <;> omega
    have hna : a ∉ bs := low_not I le pa r (by rw [ed]; omega) hb
    obtain ⟨o, q1, q2, k, q3⟩ := p1
    simp only [toPy, PyData.shown] at fin
    refine call_repr_slot (T := "tuple") (idr := "tuple.__repr__") (by omega) ⟨o, q1, q2⟩ F.slot_tuple_repr ?_
    exact call_tuple_reprK q1 q2 q3 hna (by simpa using hk) (show A.in1.guards = some [] from gd) (fun b _ => Clear.nil b) (by rw [ed] at dp; show A.units + 1 + _ < _; omega) (fun _ _ e => e) (fun h' u tk kk => ⟨_, _, rfl, fin h' u tk kk⟩) hz'
  | @dct a vs xs h1 r1 =>
    cases (show v = Value.ref a from rv)
    have hz' : (dictText (PyData.shownKv (toPyK xs))).length ≤ sizeLine := by simpa only [toPy, PyData.shown] using hz
    obtain ⟨hsys, ⟨us, v1, d1⟩, _⟩ := dic_of I le h1
    obtain ⟨o, es, ep, q1, q2, q3, q4, q5, q6⟩ := d1
    have pa' : plainK xs 39 = true := by
      simp only [plain, Bool.and_eq_true] at pa; exact pa.1
    obtain ⟨bs, hb, hk⟩ := rkK I le 39 xs vs us es.toList pa' (by simpa [toPy, PyData.showable] using hs) (fun t ht => Nat.le_trans (dictText_mem_le ht) hz') r1 v1 q5
    have r : Rep X.K p0 G (.ref a) (.dct xs) := .dct h1 r1
    have ed : (toPy (.dct xs)).depth = PyData.depthKv (toPyK xs) + 1 := by simp only [toPy, PyData.depth] <;> omega
    have hna : a ∉ bs := low_not I le pa r (by rw [ed]; omega) hb
    simp only [toPy, PyData.shown] at fin
    refine call_repr_slot (T := "dict") (idr := "dict.__repr__") (by omega) ⟨o, q1, q2.1⟩ F.slot_dict_repr ?_
    exact call_dict_reprK q1 q2.1 q3 hsys hna hk (show A.in1.guards = some [] from gd) (fun b _ => Clear.nil b) (by rw [ed] at dp; show A.units + 1 + _ < _; omega) (fun _ _ e => e) (fun h' u tk kk => ⟨_, _, rfl, fin h' u tk kk⟩) hz'
/-- repr of plain data that can be shown -/
def shw (d : D) : Prop := plain d 40 = true ∧ (toPy d).showable = true ∧ (toPy d).depth ≤ 50 ∧ (toPy d).shown.length ≤ 100000
def oRepr : DBu := fun ds P => match ds with
  | [d] => shw d ∧ P (.str (toPy d).shown)
  | _ => False
theorem b_repr (B : XB X c W N sc k bb) : BuD X c (.builtin "repr") oRepr := by
  refine ⟨fun xs H Q => ∃ G x a, xs = [x] ∧ Le G H ∧ Rep X.K c.p0 G x a ∧ shw a ∧ Q (.str (toPy a).shown) H, fun pins s σ H xs us Q I r h => ?_, fun G H σ δ vs ds P Q R rr o kk => ?_⟩
  · obtain ⟨G, x, a, rfl, le, ra, ⟨h1, h2, h3, h4⟩, q⟩ := h
    obtain ⟨u, rfl, rx⟩ := vals1 r
    exact repr_run I le (by have := B.room.un; omega) B.gd h1 h2 (sz5 h4) ra rx h3 fun u s' I' ru => ⟨_, H, I', ru, q⟩
  · cases rr with
    | nil => exact o.elim
    | cons r1 rr =>
      cases rr with
      | nil => exact ⟨G, _, _, rfl, R.le, by rw [B.hK]; exact r1, o.1, kk _ _ G H o.2 Go.refl R (.str _)⟩
      | cons _ _ => exact o.elim
def oLen : DBu := fun ds P => match ds with
  | [.str s] => s.length ≤ 100000 ∧ P (.int s.length)
  | [.lst xs] => P (.int xs.length)
  | [.tup xs] => P (.int xs.length)
  | _ => False
theorem b_len (B : XB X c W N sc k bb) : BuD X c (.builtin "len") oLen := by
  refine ⟨_, call_len, fun G H σ δ vs ds P Q R rr o kk => ?_⟩
  cases rr with
  | nil => exact o.elim
  | cons r1 rr =>
    cases rr with
    | cons _ _ => cases r1 <;> exact o.elim
    | nil =>
      cases r1 with
      | str s => exact ⟨_, _, rfl, ⟨sz5 o.1, rfl⟩, kk _ _ G H o.2 Go.refl R (.int _)⟩
      | lst h1 r1 => exact ⟨_, _, rfl, .inl ⟨_, by rw [B.hK]; exact le_l R.le (.inl h1), rfl⟩, by rw [r1.len]; exact kk _ _ G H o Go.refl R (.int _)⟩
      | tup h1 r1 => exact ⟨_, _, rfl, .inr ⟨_, by rw [B.hK]; exact le_t R.le h1, rfl⟩, by rw [r1.len]; exact kk _ _ G H o Go.refl R (.int _)⟩
      | _ => exact o.elim
def oInt : DBu := fun ds P => match ds with
  | [.int i] => P (.int i)
  | [.bl b] => P (.int (if b then 1 else 0))
  | _ => False
theorem b_int : BuD X c (.type "int") oInt := by
  refine ⟨_, call_int1, fun G H σ δ vs ds P Q R rr o kk => ?_⟩
  cases rr with
  | nil => exact o.elim
  | cons r1 rr =>
    cases rr with
    | cons _ _ => cases r1 <;> exact o.elim
    | nil =>
      cases r1 with
      | int i => exact .inl ⟨_, rfl, kk _ _ G H o Go.refl R (.int _)⟩
      | bl b => exact .inr ⟨_, rfl, kk _ _ G H o Go.refl R (.int _)⟩
      | _ => exact o.elim
def oAbs : DBu := fun ds P => match ds with
  | [.int i] => P (.int (if i < 0 then -i else i))
  | _ => False
theorem b_abs : BuD X c (.builtin "abs") oAbs := by
  refine ⟨_, call_abs, fun G H σ δ vs ds P Q R rr o kk => ?_⟩
  cases rr with
  | nil => exact o.elim
  | cons r1 rr =>
    cases rr with
    | cons _ _ => cases r1 <;> exact o.elim
    | nil =>
      cases r1 with
      | int i => exact ⟨_, rfl, kk _ _ G H o Go.refl R (.int _)⟩
      | _ => exact o.elim
def oList : DBu := fun ds P => match ds with
  | [.lst xs] => P (.lst xs)
  | [.tup xs] => P (.lst xs)
  | _ => False
theorem b_list (B : XB X c W N sc k bb) : BuD X c (.type "list") oList := by
  refine ⟨_, call_list_of, fun G H σ δ vs ds P Q R rr o kk => ?_⟩
  cases rr with
  | nil => exact o.elim
  | cons r1 rr =>
    cases rr with
    | cons _ _ => cases r1 <;> exact o.elim
    | nil =>
      cases r1 with
      | lst h1 r1 => exact ⟨_, _, rfl, .inl (by rw [B.hK]; exact le_l R.le (.inl h1)), fun l hl => kk _ _ _ _ o (R.newG hl) (R.laid' hl) (.lst (.inl upd_same) (r1.mono (Le.new (R.gnone hl))))⟩
      | tup h1 r1 => exact ⟨_, _, rfl, .inr (by rw [B.hK]; exact le_t R.le h1), fun l hl => kk _ _ _ _ o (R.newG hl) (R.laid' hl) (.lst (.inl upd_same) (r1.mono (Le.new (R.gnone hl))))⟩
      | _ => exact o.elim
def oTuple : DBu := fun ds P => match ds with
  | [.lst xs] => P (.tup xs)
  | [.tup xs] => P (.tup xs)
  | _ => False
theorem b_tuple (B : XB X c W N sc k bb) : BuD X c (.type "tuple") oTuple := by
  refine ⟨_, call_tuple_of, fun G H σ δ vs ds P Q R rr o kk => ?_⟩
  cases rr with
  | nil => exact o.elim
  | cons r1 rr =>
    cases rr with
    | cons _ _ => cases r1 <;> exact o.elim
    | nil =>
      cases r1 with
      | lst h1 r1 => exact ⟨_, _, rfl, .inl ⟨by rw [B.hK]; exact le_l R.le (.inl h1), fun l hl => kk _ _ _ _ o (R.newG hl) (R.laid' hl) (.tup (.inl (.inl upd_same)) (r1.mono (Le.new (R.gnone hl))))⟩⟩
      | tup h1 r1 => exact ⟨_, _, rfl, .inr ⟨by rw [B.hK]; exact le_t R.le h1, kk _ _ G H o Go.refl R (.tup h1 r1)⟩⟩
      | _ => exact o.elim

/-! ### isinstance -/
/-- what isinstance asks of an own class -/
structure CI (c : Wd) (C : Addr) : Prop where
  cl : Cls c.K C
  a : PySem.W.findIn c.K (.ref C) "__class__" = some (some (.builtin "object.__class__"))
  n : PySem.W.specialIn c.K (.builtin "object.__class__") "__get__" = some (some (.builtin "getset_descriptor.__get__"))
  t : PySem.W.takesIn c.K (.builtin "object.__class__") = some true
  m : PySem.W.mroIn c.K C (.type "object") = some true
def tyD (c : Wd) : D → (Value → Prop) → Prop
  | .non, P => P (.type "NoneType")
  | .bl _, P => P (.type "bool")
  | .int _, P => P (.type "int")
  | .str _, P => P (.type "str")
  | .lst _, P => P (.type "list")
  | .tup _, P => P (.type "tuple")
  | .dct _, P => P (.type "dict")
  | .ins C _, P => CI c C ∧ P (.ref C)
  | _, _ => False
theorem ty_of {G H : Hp} (le : Le G H) {K : PySem.W.Frag} (hK : K = c.K) {x : V} {d : D} (r : Rep c.K c.p0 G x d) {P : Value → Prop} (h : tyD c.toWd d P) : ∃ t, TyX K H x t ∧ P t := by
  subst hK
  cases r with
  | non => exact ⟨_, .base .non, h⟩
  | bl b => exact ⟨_, .base (.bl b), h⟩
  | int i => exact ⟨_, .base (.int i), h⟩
  | str s => exact ⟨_, .base (.str s), h⟩
  | lst h1 r1 =>
    rcases le_rd le h1 with q | ⟨o, q⟩
    · exact ⟨_, .base (.lst q), h⟩
    · exact ⟨_, .base (.frz q), h⟩
  | tup h1 r1 =>
    rcases le_t le h1 with (q | ⟨o, q⟩) | ⟨o, its, n, q1, q2, _⟩
    · exact ⟨_, .base (.tup q), h⟩
    · exact ⟨_, .fTuple q, h⟩
    · exact ⟨_, .kTuple q1 q2, h⟩
  | dct h1 r1 =>
    rcases le_rd le h1 with q | ⟨o, q⟩
    · exact ⟨_, .base (.dK q), h⟩
    · exact ⟨_, .fDict q, h⟩
  | ins h1 r1 => exact ⟨_, .base (.ins (le _ _ h1) h.1.cl h.1.a h.1.n h.1.t h.1.m), h.2⟩
  | _ => exact h.elim
def clD : D → Option Value
  | .ty n => some (.type n)
  | .ref C => some (.ref C)
  | _ => none
def oIsi (c : Wd) : DBu := fun ds P => match ds with
  | [d, k] => (match clD k with
    | some u => tyD c d (fun t => ∃ b, PySem.W.kitOne c.K t u = some b ∧ P (.bl b))
    | none => False)
  | _ => False
theorem b_isi (B : XB X c W N sc k bb) : BuD X c (.builtin "isinstance") (oIsi c.toWd) := by
  refine ⟨_, call_isi, fun G H σ δ vs ds P Q R rr o kk => ?_⟩
  cases rr with
  | nil => exact o.elim
  | cons r1 rr =>
    cases rr with
    | nil => exact o.elim
    | cons r2 rr =>
      cases rr with
      | cons _ _ => exact o.elim
      | nil =>
        cases r2 with
        | ty n =>
          obtain ⟨t, ht, bo, e, hp⟩ := ty_of R.le B.hK r1 o
          exact ⟨_, _, t, _, bo, rfl, .ty n, ht, by rw [B.hK]; exact e, kk _ _ G H hp Go.refl R (.bl _)⟩
        | ref C =>
          obtain ⟨t, ht, bo, e, hp⟩ := ty_of R.le B.hK r1 o
          exact ⟨_, _, t, _, bo, rfl, .own C, ht, by rw [B.hK]; exact e, kk _ _ G H hp Go.refl R (.bl _)⟩
        | _ => exact o.elim
end
end DL

/-! ELL: operators, subscripts, slices over data. -/
namespace DL
open PySem L2 PySem.Spec PyProof.Rows PySem.SeqAt
section
variable {X : Cx} {c : Fr} {W : WX} {N : List Str} {sc : Scope} {k : Nat} {bb : Bool} {e a b : Expr} {es : List Expr} {pos p p2 : Pos} {r ra rb : DTE} {rs : DTA} {x : Str} {id T : String}
theorem OpD.or {f : Value → Value → Sem Value} {o o' : DOp} (h : OpD X c f o) (h' : OpD X c f o') : OpD X c f (fun x y P => o x y P ∨ o' x y P) := by
  obtain ⟨r, h1, h2⟩ := h.ex
  obtain ⟨r', h1', h2'⟩ := h'.ex
  refine ⟨_, h1.or h1', fun G H σ δ u v x y P Q R ru rv o kk => ?_⟩
  rcases o with o | o
  · exact .inl (h2 G H σ δ u v x y P Q R ru rv o kk)
  · exact .inr (h2' G H σ δ u v x y P Q R ru rv o kk)
theorem OpD.imp {f : Value → Value → Sem Value} {o o' : DOp} (h : OpD X c f o) (l : ∀ x y P, o' x y P → o x y P) : OpD X c f o' := by
  obtain ⟨r, h1, h2⟩ := h.ex
  exact ⟨r, h1, fun G H σ δ u v x y P Q R ru rv o kk => h2 G H σ δ u v x y P Q R ru rv (l _ _ _ o) kk⟩
/-- ints -/
def oI (C : Int → Int → Prop) (g : Int → Int → D) : DOp := fun x y P => match x, y with
  | .int i, .int j => C i j ∧ P (g i j)
  | _, _ => False
theorem oI_of {f : Value → Value → Sem Value} {C : Int → Int → Prop} {g : Int → Int → V} {gd : Int → Int → D} (h : OpR X f (rI C g)) (hr : ∀ G i j, Rep c.K c.p0 G (g i j) (gd i j)) : OpD X c f (oI C gd) := by
  refine ⟨_, h, fun G H σ δ u v x y P Q R ru rv o kk => ?_⟩
  cases ru with
  | int i =>
    cases rv with
    | int j => exact ⟨i, j, rfl, rfl, o.1, kk _ _ G H o.2 Go.refl R (hr G i j)⟩
    | _ => exact o.elim
  | _ => cases rv <;> exact o.elim
theorem oI_of0 {f : Value → Value → Sem Value} {g : Int → Int → V} {gd : Int → Int → D} (h : OpR X f (rI0 g)) (hr : ∀ G i j, Rep c.K c.p0 G (g i j) (gd i j)) : OpD X c f (oI (fun _ _ => True) gd) := by
  refine ⟨_, h, fun G H σ δ u v x y P Q R ru rv o kk => ?_⟩
  cases ru with
  | int i =>
    cases rv with
    | int j => exact ⟨i, j, rfl, rfl, kk _ _ G H o.2 Go.refl R (hr G i j)⟩
    | _ => exact o.elim
  | _ => cases rv <;> exact o.elim
theorem o_addI : OpD X c (binaryOp .Add) (oI (fun _ _ => True) fun i j => .int (i + j)) := oI_of0 op_add fun _ _ _ => .int _
theorem o_sub : OpD X c (binaryOp .Sub) (oI (fun _ _ => True) fun i j => .int (i - j)) := oI_of0 op_sub fun _ _ _ => .int _
theorem o_mul : OpD X c (binaryOp .Mult) (oI CMul fun i j => .int (i * j)) := oI_of op_mul fun _ _ _ => .int _
theorem o_mulX : OpD X c (binaryOp .Mult) (oI CMulX fun i j => .int (i * j)) := oI_of op_mulX fun _ _ _ => .int _
theorem o_fdiv : OpD X c (binaryOp .FloorDiv) (oI CDiv fun i j => .int (i / j)) := oI_of op_fdiv fun _ _ _ => .int _
theorem o_fdivW : OpD X c (binaryOp .FloorDiv) (oI CDivW fun i j => .int (i / j)) := oI_of op_fdivW fun _ _ _ => .int _
theorem o_mod : OpD X c (binaryOp .Mod) (oI (fun _ j => 0 < j) fun i j => .int (i % j)) := oI_of op_mod fun _ _ _ => .int _
theorem o_pow : OpD X c (binaryOp .Pow) (oI CPow fun i j => .int (i ^ j.toNat)) := oI_of op_pow fun _ _ _ => .int _
theorem o_lt : OpD X c (compareOp .Lt) (oI (fun _ _ => True) fun i j => .bl (decide (i < j))) := oI_of0 op_lt fun _ _ _ => .bl _
theorem o_le : OpD X c (compareOp .LtE) (oI (fun _ _ => True) fun i j => .bl (decide (i ≤ j))) := oI_of0 op_le fun _ _ _ => .bl _
theorem o_gt : OpD X c (compareOp .Gt) (oI (fun _ _ => True) fun i j => .bl (decide (j < i))) := oI_of0 op_gt fun _ _ _ => .bl _
theorem o_ge : OpD X c (compareOp .GtE) (oI (fun _ _ => True) fun i j => .bl (decide (j ≤ i))) := oI_of0 op_ge fun _ _ _ => .bl _
/-- is None, is not None -/
def oIsN (neg : Bool) : DOp := fun x y P => match x, y with
  | .non, .non => P (.bl (!neg))
  | .bl _, .non => P (.bl neg)
  | .int _, .non => P (.bl neg)
  | .str _, .non => P (.bl neg)
  | .lst _, .non => P (.bl neg)
  | .tup _, .non => P (.bl neg)
  | .dct _, .non => P (.bl neg)
  | .ins _ _, .non => P (.bl neg)
  | .exc _ _, .non => P (.bl neg)
  | .ref _, .non => P (.bl neg)
  | .ty _, .non => P (.bl neg)
  | .pen, .non => P (.bl neg)
  | .obj _, .non => P (.bl neg)
  | _, _ => False
theorem o_isN : OpD X c (compareOp .Is) (oIsN false) := by
  refine ⟨_, op_isN, fun G H σ δ u v x y P Q R ru rv o kk => ?_⟩
  cases rv with
  | non =>
    refine ⟨rfl, ?_⟩
    cases ru <;> first | exact o.elim | exact kk _ _ G H o Go.refl R (.bl _)
  | _ => cases ru <;> exact o.elim
theorem o_notN : OpD X c (compareOp .IsNot) (oIsN true) := by
  refine ⟨_, op_notN, fun G H σ δ u v x y P Q R ru rv o kk => ?_⟩
  cases rv with
  | non =>
    refine ⟨rfl, ?_⟩
    cases ru <;> first | exact o.elim | exact kk _ _ G H o Go.refl R (.bl _)
  | _ => cases ru <;> exact o.elim
/-- list + list -/
def rCatL : R2 := fun x y H Q => ∃ l b xs zs, x = .ref l ∧ y = .ref b ∧ Rd H l (.lst xs) ∧ Rd H b (.lst zs) ∧ xs.length + zs.length ≤ sizeLine ∧ ∀ p, H p = none → Q (.ref p) (upd H p (.lst (xs ++ zs)))
theorem op_catL : OpR X (binaryOp .Add) rCatL := by
  intro pins s σ H x y v u Q I rx ry h
  obtain ⟨l, b, xs, zs, rfl, rfl, hH, hB, hz, q⟩ := h
  cases rx
  cases ry
  obtain ⟨z, its, n, r, e⟩ := hH.ok I.hok
  obtain ⟨z2, its2, n2, r2, e2⟩ := hB.ok I.hok
  have hl := r.length
  have hl2 := r2.length
  refine PySem.P.add_list e e2 ?_ (by rw [List.size_toArray, List.size_toArray]; omega)
  have ea : its.toArray ++ its2.toArray = (its ++ its2).toArray := by simp
  rw [ea]
  exact ⟨.ref _, _, I.lnew (t' := s.toks) (r.append r2) (by rw [List.length_append]; omega), rfl, q _ I.fresh⟩
theorem RepL.nil_iff {K : PySem.W.Frag} {p0 : Addr} {G : Hp} {vs : List V} {ds : List D} (h : RepL K p0 G vs ds) : vs = [] ↔ ds = [] := by cases h <;> simp
/-- + -/
def oAdd : DOp := fun x y P => match x, y with
  | .int i, .int j => P (.int (i + j))
  | .int i, .bl b => P (.int (i + b2i b))
  | .str s, .str t => s.length + t.length ≤ 1000000 ∧ P (.str (s ++ t))
  | .lst xs, .lst ys => xs.length + ys.length ≤ 100000 ∧ P (.lst (xs ++ ys))
  | .tup xs, .tup ys => xs.length + ys.length ≤ 100000 ∧ P (.tup (xs ++ ys))
  | _, _ => False
theorem sz6 {n : Nat} (h : n ≤ 1000000) : n ≤ sizeLine := Nat.le_trans h (by decide)
theorem o_add (hK : X.K = c.K) : OpD X c (binaryOp .Add) oAdd := by
  refine ⟨_, op_add.or (op_add_ib.or (op_add_str.or (op_catL.or op_catA))), fun G H σ δ u v x y P Q R ru rv o kk => ?_⟩
  cases ru with
  | int i =>
    cases rv with
    | int j => exact .inl ⟨i, j, rfl, rfl, kk _ _ G H o Go.refl R (.int _)⟩
    | bl j => exact .inr (.inl ⟨i, j, rfl, rfl, kk _ _ G H o Go.refl R (.int _)⟩)
    | _ => exact o.elim
  | str i =>
    cases rv with
    | str j => exact .inr (.inr (.inl ⟨i, j, rfl, rfl, sz6 o.1, kk _ _ G H o.2 Go.refl R (.str _)⟩))
    | _ => exact o.elim
  | lst h1 r1 =>
    cases rv with
    | lst h2 r2 => exact .inr (.inr (.inr (.inl ⟨_, _, _, _, rfl, rfl, le_rd R.le h1, le_rd R.le h2, by rw [r1.len, r2.len]; exact sz5 o.1, fun p hp =>
        kk _ _ _ _ o.2 (R.newG hp) (R.laid' hp) (.lst (.inl upd_same) ((r1.app r2).mono (Le.new (R.gnone hp))))⟩)))
    | _ => exact o.elim
  | tup h1 r1 =>
    cases rv with
    | tup h2 r2 => exact .inr (.inr (.inr (.inr ⟨_, _, _, _, rfl, rfl, by rw [hK]; exact le_t R.le h1, by rw [hK]; exact le_t R.le h2, by rw [r1.len, r2.len]; exact sz5 o.1,
        fun z => by have e := r1.nil_iff.mp z; have p := o.2; rw [e] at p; exact kk _ _ G H p Go.refl R (.tup h2 (by simpa using r2)),
        fun _ z => by have e := r2.nil_iff.mp z; have p := o.2; rw [e, List.append_nil] at p; exact kk _ _ G H p Go.refl R (.tup h1 r1),
        fun _ _ p hp => kk _ _ _ _ o.2 (R.newG hp) (R.laid' hp) (.tup (.inl (.inl upd_same)) ((r1.app r2).mono (Le.new (R.gnone hp))))⟩)))
    | _ => exact o.elim
  | _ => cases rv <;> exact o.elim

/-! ### unary minus -/
def dNeg (ra : DTE) : DTE := fun δ P E => ra δ (fun d δ1 => match d with
  | .int i => P (.int (-i)) δ1
  | _ => False) E
theorem de_neg (ha : DE X c W a ra) : DE X c W (.UnaryOp .USub a pos) (dNeg ra) :=
  peI (pe_un un_neg ha) fun σ H Q ⟨G, δ, P, E, R, h, kk, x⟩ => ⟨G, δ, _, E, R, h, fun d δ1 v G1 H1 p L R1 rr => by
    cases rr with
    | int i => exact ⟨i, rfl, kk _ δ1 _ G1 H1 p L R1 (.int _)⟩
    | _ => exact p.elim, x⟩

/-! ### subscripts -/
def oIx : DOp := fun x y P => match x, y with
  | .lst xs, .int i => ∃ d, atI xs i = some d ∧ P d
  | .tup xs, .int i => ∃ d, atI xs i = some d ∧ P d
  | .str s, .int i => s.length ≤ 1000000 ∧ ∃ ch, atI s.cps.toList i = some ch ∧ P (.str ⟨#[ch]⟩)
  | _, _ => False
theorem RepL.atI {K : PySem.W.Frag} {p0 : Addr} {G : Hp} {vs : List V} {ds : List D} (h : RepL K p0 G vs ds) {i : Int} {d : D} (e : L2.atI ds i = some d) : ∃ v, L2.atI vs i = some v ∧ Rep K p0 G v d := by
  unfold L2.atI at e ⊢
  rw [h.len]
  cases q : ixN ds.length i with
  | none => rw [q] at e; cases e
  | some j => rw [q] at e; exact h.get e
def dIx (ra rb : DTE) : DTE := dBin oIx ra rb
theorem de_ix (B : XB X c W N sc k bb) (ha : DE X c W a ra) (hb : DE X c W b rb) (hs : PlainIx b := by intro _ _; rfl) : DE X c W (.Subscript a b pos) (dIx ra rb) :=
  peI (pe_ix ix_seq ha hb hs) fun σ H Q => dbin_ok (r2 := rIx X.K) (o := oIx) fun G H σ δ u v x y P Q R ru rv o kk => by
    cases ru with
    | lst h1 r1 =>
      cases rv with
      | int i => obtain ⟨d, e, p⟩ := o; obtain ⟨w, e2, rw⟩ := r1.atI e; exact .inl ⟨_, _, i, w, rfl, rfl, by rw [B.hK]; exact le_l R.le (.inl h1), e2, kk _ _ G H p Go.refl R rw⟩
      | _ => exact o.elim
    | tup h1 r1 =>
      cases rv with
      | int i => obtain ⟨d, e, p⟩ := o; obtain ⟨w, e2, rw⟩ := r1.atI e; exact .inr (.inl ⟨_, _, i, w, rfl, rfl, by rw [B.hK]; exact le_t R.le h1, e2, kk _ _ G H p Go.refl R rw⟩)
      | _ => exact o.elim
    | str s =>
      cases rv with
      | int i => obtain ⟨z, ch, e, p⟩ := o; exact .inr (.inr ⟨s, i, ch, rfl, rfl, sz6 z, e, kk _ _ G H p Go.refl R (.str _)⟩)
      | _ => exact o.elim
    | _ => cases rv <;> exact o.elim

/-! ### slices -/
abbrev DTO := S → (Option Int → S → Prop) → (Er → S → Prop) → Prop
def liftO (c : Fr) (W : WX) (r : DTO) : TO := fun σ H Q => ∃ G δ P E, Rel c G H σ δ ∧ r δ P E ∧
  (∀ d δ' G' H', P d δ' → Gof c δ δ' σ G H G' H' → Rel c G' H' σ δ' → Q d H') ∧ ExOk c W G σ E
abbrev DO (X : Cx) (c : Fr) (W : WX) (e : Option Expr) (r : DTO) : Prop := PO X e (liftO c W r)
theorem poI {e : Option Expr} {t t' : TO} (h : PO X e t) (k : ∀ σ H Q, t' σ H Q → t σ H Q) : PO X e t' := ⟨fun pins s σ H Q I q => h.run pins s σ H Q I (k σ H Q q)⟩
def dNone : DTO := fun δ P _ => P none δ
def dPart (r : DTE) : DTO := fun δ P E => r δ (fun d δ1 => match d with
  | .int i => P (some i) δ1
  | _ => False) E
theorem do_none : DO X c W none dNone := poI po_none fun σ H Q ⟨G, δ, P, E, R, h, kk, x⟩ => kk _ _ G H h Go.refl R
theorem do_some (ha : DE X c W a ra) : DO X c W (some a) (dPart ra) := poI (po_some ha) fun σ H Q ⟨G, δ, P, E, R, h, kk, x⟩ => ⟨G, δ, _, E, R, h, fun d δ1 v G1 H1 p L R1 rr => by
    cases rr with
    | int i => exact ⟨i, rfl, kk _ δ1 G1 H1 p L R1⟩
    | _ => exact p.elim, x⟩
def cutD {α : Type} (xs : List α) (lo hi : Option Int) : List α := (xs.drop (HT.sIx xs.length 0 lo)).take (HT.sIx xs.length xs.length hi - HT.sIx xs.length 0 lo)
theorem RepL.cut {K : PySem.W.Frag} {p0 : Addr} {G : Hp} {vs : List V} {ds : List D} (h : RepL K p0 G vs ds) (lo hi : Option Int) : RepL K p0 G (cutV vs lo hi) (cutD ds lo hi) := by
  unfold cutV cutD
  rw [h.len]
  exact RepL.take _ (RepL.drop _ h)
def oSl (d : D) (lo hi : Option Int) (P : D → Prop) : Prop := match d with
  | .lst xs => P (.lst (cutD xs lo hi))
  | .tup xs => P (.tup (cutD xs lo hi))
  | .str s => s.length ≤ 1000000 ∧ P (.str (cutS s lo hi))
  | _ => False
def dSl (ra : DTE) (ro rp : DTO) : DTE := fun δ P E => ra δ (fun d δ1 => ro δ1 (fun lo δ2 => rp δ2 (fun hi δ3 => oSl d lo hi (fun z => P z δ3)) E) E) E
theorem whole_cut {α : Type} {xs : List α} {lo hi : Option Int} (h : HT.sIx xs.length 0 lo = 0 ∧ HT.sIx xs.length xs.length hi = xs.length) : cutD xs lo hi = xs := by
  unfold cutD
  rw [h.1, h.2]
  simp
theorem de_sl {lo hi : Option Expr} {ro rp : DTO} (B : XB X c W N sc k bb) (ha : DE X c W a ra) (hl : DO X c W lo ro) (hh : DO X c W hi rp) : DE X c W (.Subscript a (.Slice lo hi none p2) pos) (dSl ra ro rp) :=
  peI (pe_slice (sl_list.or (sl_tupA.or sl_str)) ha hl hh) fun σ H Q ⟨G, δ, P, E, R, h, kk, x⟩ => ⟨G, δ, _, E, R, h, fun d δ1 v G1 H1 p L R1 rr =>
    ⟨G1, δ1, _, E, R1, p, fun l δ2 G2 H2 p2 L2 R2 => ⟨G2, δ2, _, E, R2, p2, fun u δ3 G3 H3 p3 L3 R3 => by
      have rr3 := rr.mono (L2.g.trans L3.g)
      have LL := (L.trans L2).trans L3
      cases rr3 with
      | lst h1 r1 => exact .inl ⟨_, _, rfl, by rw [B.hK]; exact le_l R3.le (.inl h1), fun p hp => kk _ _ _ _ _ p3 (LL.trans (R3.newG hp)) (R3.laid' hp) (.lst (.inl upd_same) ((r1.cut l u).mono (Le.new (R3.gnone hp))))⟩
      | tup h1 r1 => exact .inr (.inl ⟨_, _, rfl, by rw [B.hK]; exact le_t R3.le h1, fun w => by rw [r1.len] at w; have e := whole_cut w; have p := p3; unfold oSl at p; simp only [e] at p; exact kk _ _ _ _ _ p LL R3 (.tup h1 r1),
          fun _ p hp => kk _ _ _ _ _ p3 (LL.trans (R3.newG hp)) (R3.laid' hp) (.tup (.inl (.inl upd_same)) ((r1.cut l u).mono (Le.new (R3.gnone hp))))⟩)
      | str s => exact .inr (.inr ⟨s, rfl, sz6 p3.1, kk _ _ _ _ _ p3.2 LL R3 (.str _)⟩)
      | _ => exact p3.elim, (x.mono L.g).mono L2.g⟩, x.mono L.g⟩, x⟩
end
end DL

/-! ELM: list comprehensions over data. -/
namespace DL
open PySem L2 PySem.Spec PyProof.Rows PySem.SeqAt
section
variable {X : Cx} {c : Fr} {W : WX} {N : List Str} {sc : Scope} {k : Nat} {bb : Bool} {e a b : Expr} {es : List Expr} {pos p : Pos} {r ra rb : DTE} {rs : DTA} {x : Str}
abbrev Gog (c : Fr) (δ : S) (σ : L2.St) (δ' : S) (σ' : L2.St) (G H G' H' : Hp) : Prop := Go (Spf c.toWd δ σ) (Spf c.toWd δ' σ') G H G' H'
theorem spf_set {c : Wd} {δ : S} {σ : L2.St} {i : Nat} {v : V} {d : D} {a : Addr} (hl : σ.length = δ.sl.length) (h : Spf c { δ with sl := δ.sl.set i (.d d) } (σ.set i (some v)) a) : Spf c δ σ a := by
  refine h.imp id fun ⟨j, s, h1, o, h2⟩ => ?_
  by_cases e : j = i
  · subst e
    by_cases hi : j < δ.sl.length
    · rw [List.getElem?_set_self hi] at h1; cases h1; cases o
    · rw [List.getElem?_eq_none (by simpa using hi)] at h1; cases h1
  · rw [List.getElem?_set_ne (Ne.symm e)] at h1
    refine ⟨j, s, h1, o, ?_⟩
    unfold at_ at h2 ⊢
    rwa [List.getElem?_set_ne (Ne.symm e)] at h2
/-- a comprehension's target: the slots vs alone change -/
def liftGo (c : Fr) (vs : List Nat) (g : DTG) : TG := fun v σ H Q => ∃ G δ d P, Rel c G H σ δ ∧ Rep c.K c.p0 G v d ∧ g d δ P ∧
  (∀ δ' G' H' σ', P δ' → Gog c δ σ δ' σ' G H G' H' → Rel c G' H' σ' δ' → wipe σ' vs = wipe σ vs → Q σ' H')
abbrev DGo (X : Cx) (c : Fr) (vs : List Nat) (tg : Expr) (g : DTG) : Prop := PG X tg (liftGo c vs g)
theorem wipe_set {σ : L2.St} {i : Nat} {o : Option V} : ∀ {vs : List Nat}, i ∈ vs → wipe (σ.set i o) vs = wipe σ vs
  | v :: vs, h => by
    unfold wipe
    by_cases q : i ∈ vs
    · rw [wipe_set q]
    · have e : i = v := by simpa [q] using h
      subst e
      have hw : ∀ {ws : List Nat}, i ∉ ws → wipe (σ.set i o) ws = (wipe σ ws).set i o := by
        intro ws
        induction ws with
        | nil => intro _; rfl
        | cons w ws ih =>
          intro hn
          have n1 : i ≠ w := fun z => hn (by simp [z])
          have n2 : i ∉ ws := fun z => hn (by simp [z])
          unfold wipe
          rw [ih n2, List.set_comm _ _ n1]
      rw [hw q, List.set_set]
theorem wipe_at {σ : L2.St} {i : Nat} {vs : List Nat} (h : i ∉ vs) : at_ (wipe σ vs) i = at_ σ i := by
  unfold at_
  rw [wipe_out h]
theorem wipe_get {σ : L2.St} {j : Nat} : ∀ {vs : List Nat}, (wipe σ vs)[j]? = if j ∈ vs then (σ[j]?).map (fun _ => none) else σ[j]?
  | [] => by simp [wipe]
  | v :: vs => by
    unfold wipe
    rw [List.getElem?_set, wipe_length]
    by_cases e : v = j
    · subst e
      by_cases h : v < σ.length
      · simp [h]
      · simp [h]
    · rw [if_neg e, wipe_get]
      have e' : ¬ j = v := fun z => e z.symm
      simp [e']
theorem wipe_twice {σ : L2.St} {vs : List Nat} : wipe (wipe σ vs) vs = wipe σ vs := List.ext_getElem? fun j => by
  rw [wipe_get, wipe_get]
  by_cases h : j ∈ vs
  · simp only [h, if_true]; cases σ[j]? <;> rfl
  · simp [h]
theorem dgo_name {i : Nat} {x : Str} {vs : List Nat} (B : XB X c W N sc k bb) (hi : N[i]? = some x) (hx : sc.names.lookup x = some .local) (hv : i ∈ vs) : DGo X c vs (.Name x pos) (gN i) :=
  pgI (pg_name (i := i) (by rw [B.hN]; exact B.nd) (by rw [B.hN]; exact hi) (by rw [B.hs]; exact .inl hx) (.inr (by rw [B.hs]; exact hx))) fun v σ H Q ⟨G, δ, d, P, R, r, h, kk⟩ => kk _ G H _ h ((Go.refl (S := Spf c.toWd δ σ)).imp (fun _ s => s) fun a s => .inl (spf_set R.len s)) (R.set' r) (wipe_set hv)
def liftGos (c : Fr) (vs : List Nat) (g : DTGs) : TGs := fun v σ H Q => ∃ G δ d P, Rel c G H σ δ ∧ RepL c.K c.p0 G v d ∧ g d δ P ∧ (∀ δ' G' H' σ', P δ' → Gog c δ σ δ' σ' G H G' H' → Rel c G' H' σ' δ' → wipe σ' vs = wipe σ vs → Q σ' H')
abbrev DGos (X : Cx) (c : Fr) (vs : List Nat) (tg : List Expr) (g : DTGs) : Prop := PGs X tg (liftGos c vs g)
theorem dgos_nil {vs : List Nat} : DGos X c vs [] gZ := pgsI pgs_nil fun v σ H Q ⟨G, δ, d, P, R, r, h, kk⟩ => by
  cases r with
  | nil => exact ⟨rfl, kk _ G H _ h Go.refl R rfl⟩
  | cons a b => exact h.elim
theorem dgos_cons {vs : List Nat} {g : DTG} {h : DTGs} (h1 : DGo X c vs e g) (h2 : DGos X c vs es h) (hs : (assignEach (e :: es) X.env).map (·.2) = assign e X.env :: (assignEach es X.env).map (·.2) := by rfl) : DGos X c vs (e :: es) (gC g h) :=
  pgsI (pgs_cons h1 h2 hs) fun v σ H Q ⟨G, δ, d, P, R, r, h, kk⟩ => by
    cases r with
    | nil => exact h.elim
    | cons a b => exact ⟨_, _, rfl, G, δ, _, _, R, a, h, fun δ' G' H' σ' p L R' e1 => ⟨G', δ', _, P, R', b.mono L.g, p, fun δ2 G2 H2 σ2 p2 L2 R2 e2 => kk δ2 G2 H2 σ2 p2 (L.trans L2) R2 (e2.trans e1)⟩⟩
theorem dgo_tup {vs : List Nat} {n : Nat} {kk : Nat} {g : DTGs} (B : XB X c W N sc k bb) (h : DGos X c vs es g) (hn : (assignEach es X.env).length = n := by rfl) (hst : (assignEach es X.env).findIdx? (·.1) = none := by rfl) : DGo X c vs (.Tuple es kk pos) (gT n g) :=
  pgI (pg_tup B.calm h hn hst) fun v σ H Q ⟨G, δ, d, P, R, r, h, kk⟩ => by
    cases r with
    | tup hq rl => exact ⟨_, _, rfl, by rw [B.hK]; exact le_t R.le hq, by rw [rl.len]; exact h.1, G, δ, _, P, R, rl, h.2, kk⟩
    | _ => exact h.elim
/-- the tests of a clause -/
abbrev DTs (X : Cx) (c : Fr) (W : WX) (ifs : List Expr) (t : DTT) : Prop := PTs X ifs (liftT c W t)
def dYes : DTT := fun δ P _ => P true δ
theorem dts_nil : DTs X c W [] dYes := ⟨fun pins s σ H Q I ⟨G, δ, P, E, R, h, kk, x⟩ => pts_nil.run pins s σ H Q I (kk true δ G H h Go.refl R)⟩
theorem dts_one {t : DTT} (h : DT X c W a t) : DTs X c W [a] t := pts_one h
/-- any frame over the same world -/
theorem pg_ex {ι : Type} {tg : Expr} {g : ι → TG} (h : ∀ i, PG X tg (g i)) : PG X tg (fun v σ H Q => ∃ i, g i v σ H Q) := ⟨fun pins s σ H v u Q I r ⟨i, q⟩ => (h i).run pins s σ H v u Q I r q⟩
theorem pe_ex {ι : Type} {g : ι → TE} (h : ∀ i, PE X e (g i)) : PE X e (fun σ H Q => ∃ i, g i σ H Q) := ⟨fun pins s σ H Q I ⟨i, q⟩ => (h i).run pins s σ H Q I q⟩
theorem pts_ex {ι : Type} {ifs : List Expr} {g : ι → TT} (h : ∀ i, PTs X ifs (g i)) : PTs X ifs (fun σ H Q => ∃ i, g i σ H Q) := ⟨fun pins s σ H Q I ⟨i, q⟩ => (h i).run pins s σ H Q I q⟩
def never : WX := fun _ _ _ _ => False
/-- the slots as a block sees them -/
def cleanSl (vs : List Nat) : Nat → List Sl → List Sl
  | _, [] => []
  | i, s :: r => (if i ∈ vs then .un else match s with
    | .d x => .d x
    | _ => .un) :: cleanSl vs (i + 1) r
theorem clean_len (vs : List Nat) : ∀ (i : Nat) (l : List Sl), (cleanSl vs i l).length = l.length
  | _, [] => rfl
  | i, s :: r => by simp [cleanSl, clean_len vs (i + 1) r]
theorem clean_get {vs : List Nat} : ∀ {i j : Nat} {l : List Sl} {s : Sl}, (cleanSl vs i l)[j]? = some s → s = .un ∨ (i + j ∉ vs ∧ ∃ x, s = .d x ∧ l[j]? = some (.d x))
  | i, j, [], s, h => by simp [cleanSl] at h
  | i, 0, t :: r, s, h => by
    simp only [cleanSl, List.getElem?_cons_zero, Option.some.injEq] at h
    by_cases q : i ∈ vs
    · rw [if_pos q] at h; exact .inl h.symm
    · rw [if_neg q] at h
      cases t <;> first | exact .inl h.symm | exact .inr ⟨by simpa using q, _, h.symm, rfl⟩
  | i, j + 1, t :: r, s, h => by
    simp only [cleanSl, List.getElem?_cons_succ] at h ⊢
    rcases clean_get h with z | ⟨z1, z2⟩
    · exact .inl z
    · exact .inr ⟨by rwa [show i + (j + 1) = i + 1 + j by omega], z2⟩
theorem clean_own {vs : List Nat} {i j : Nat} {l : List Sl} {s : Sl} (h : (cleanSl vs i l)[j]? = some s) : isOwn s = false := by
  rcases clean_get h with rfl | ⟨_, x, rfl, _⟩ <;> rfl
def dCol (g : DTG) (tt : DTT) (te : DTE) (cl : List Sl) (P : List D → Z → Prop) : List D → List D → Z → Prop
  | [], acc, n => P acc n
  | x :: r, acc, n => g x ⟨cl, n⟩ (fun δ2 => tt δ2 (fun b δ3 => if b = true then te δ3 (fun y δ4 => acc.length < 100000 ∧ dCol g tt te cl P r (acc ++ [y]) δ4.z) (fun _ _ => False) else dCol g tt te cl P r acc δ3.z) (fun _ _ => False))
def dLC (ri : DTI) (g : DTG) (tt : DTT) (te : DTE) (vs : List Nat) : DTE := fun δ P E => ri δ (fun items δ1 => dCol g tt te (cleanSl vs 0 δ1.sl) (fun ds n => P (.lst ds) { δ1 with z := n }) items [] δ1.z) E
theorem RepL.snoc {K : PySem.W.Frag} {p0 : Addr} {G : Hp} {v : V} {d : D} (h : Rep K p0 G v d) : ∀ {vs : List V} {ds : List D}, RepL K p0 G vs ds → RepL K p0 G (vs ++ [v]) (ds ++ [d])
  | _, _, .nil => .cons h .nil
  | _, _, .cons a b => .cons a (RepL.snoc h b)
/-- the block's frame, at its start -/
theorem own_none {δ : S} {σ : L2.St} (ho : ∀ (i : Nat) (s : Sl), δ.sl[i]? = some s → isOwn s = false) (a : Addr) : ¬ Own δ σ a := fun ⟨i, s, h1, o, _⟩ => by rw [ho i s h1] at o; cases o
theorem spf_clean {c : Wd} {cl : List Sl} {n : Z} {σ : L2.St} {a : Addr} (ho : ∀ (i : Nat) (s : Sl), cl[i]? = some s → isOwn s = false) (h : Spf c ⟨cl, n⟩ σ a) : Spc c n a := h.elim id fun o => absurd o (own_none (δ := ⟨cl, n⟩) ho a)
theorem rel_block {G H : Hp} {σ : L2.St} {δ : S} {q : Addr} (R : Rel c G H σ δ) (hq : H q = none) (vs : List Nat) (o : HO) : Rel (frOf c.toWd G (upd H q o) δ.z [q]) G (upd H q o) (wipe σ vs) ⟨cleanSl vs 0 δ.sl, δ.z⟩ := by
  refine ⟨(R.laidH hq).st, (Go.refl (S := Spc c.toWd δ.z)).imp (fun _ h => .inl h) (fun a h => .inl (spf_clean (fun i s h => clean_own h) h)), by rw [wipe_length, R.len]; exact (clean_len vs 0 δ.sl).symm, fun i s h => ?_, fun i j a s t _ h1 _ o1 _ _ _ => by rw [clean_own h1] at o1; cases o1⟩
  rcases clean_get h with rfl | ⟨hv, x, rfl, hl⟩
  · trivial
  · obtain ⟨v, h1, h2⟩ := R.sl i _ hl
    exact ⟨v, by rw [wipe_at (by simpa using hv)]; exact h1, h2⟩
/-- the slots of one state, all else of a later one -/
theorem rel_mix {G G' H H' : Hp} {σ σ' : L2.St} {cl : List Sl} {n : Z} {δ' : S} (R : Rel c G H σ ⟨cl, n⟩) (R' : Rel c G' H' σ' δ') (L : Le G G') (ho : ∀ (i : Nat) (s : Sl), cl[i]? = some s → isOwn s = false) : Rel c G' H' σ ⟨cl, δ'.z⟩ := by
  refine ⟨R'.st, R'.go.imp (fun _ h => h) (fun a h => .inl (.inl (spf_clean ho h))), R.len, fun i s h => ?_, fun i j a s t _ h1 _ o1 _ _ _ => by rw [ho i s h1] at o1; cases o1⟩
  have h' := R.sl i s h
  have o := ho i s h
  cases s with
  | un => trivial
  | d x => obtain ⟨v, h1, h2⟩ := h'; exact ⟨v, h1, h2.mono L⟩
  | own _ => cases o
  | ownK _ => cases o
  | self _ _ => cases o
/-- a list that nothing else knows changes -/
theorem StOk.change {c : Wd} {G H : Hp} {z : Z} {q : Addr} {o u : HO} (s : StOk c G H z) (gq : G q = none) (hq : H q = some u) (hu : ∀ a n, u ≠ LamX.CodeO a n) (n : ¬ Spc c z q) : StOk c G (upd H q o) z := by
  refine ⟨fun b u e => ?_, s.pn.mono (Le.refl _) (by rw [upd_ne (fun e => n (.inl e.symm))]), fun p m => ?_, s.sg, fun b cl m => (s.ms b cl m).imp (fun k => k.mono (Le.refl _) (by rw [upd_ne (show b ≠ q from fun e => n (e ▸ .inr (.inl (by rw [m]; simp))))])) id, s.nt⟩
  · rw [upd_ne (show b ≠ q from fun e2 => by rw [e2, gq] at e; cases e)]; exact s.le b u e
  · obtain ⟨ps, h1, h2, h3⟩ := s.tb p m
    refine ⟨ps, by rw [upd_ne (show p.1 ≠ q from fun e => n (e ▸ .inr (.inr (List.mem_map_of_mem m))))]; exact h1, h2, fun pos cv hc => ?_⟩
    obtain ⟨cc, e1, e2⟩ := h3 pos cv hc
    refine ⟨cc, e1, ?_⟩
    rw [upd_ne (fun e => by rw [e, hq] at e2; exact hu _ _ (Option.some.inj e2))]
    exact e2
theorem lst_code {xs : List V} (a : Addr) (n : Str) : HO.lst xs ≠ LamX.CodeO a n := by unfold LamX.CodeO; intro h; cases h
theorem rel_mu {G H : Hp} {σ : L2.St} {cl : List Sl} {n : Z} {q : Addr} {o : HO} {xs : List V} (R : Rel c G H σ ⟨cl, n⟩) (ho : ∀ (i : Nat) (s : Sl), cl[i]? = some s → isOwn s = false) (hm : q ∈ c.mu) (gq : G q = none) (hq : H q = some (.lst xs)) (ns : ¬ Spc c.toWd n q) : Rel c G (upd H q o) σ ⟨cl, n⟩ := by
  refine ⟨R.st.change gq hq lst_code ns, ⟨R.go.g, fun a u e h => ?_, fun a u e => ?_, R.go.nw, fun a h => R.go.ks a h⟩, R.len, fun i s h => ?_, fun i j a s t _ h1 _ o1 _ _ _ => by rw [ho i s h1] at o1; cases o1⟩
  · rw [upd_ne (show a ≠ q from fun z => h (.inr (z ▸ hm)))]; exact R.go.h a u e h
  · by_cases ne : a = q
    · subst ne; exact ⟨_, upd_same⟩
    · rw [upd_ne ne]; exact R.go.ht a u e
  · have h' := R.sl i s h
    have o := ho i s h
    cases s with
    | un => trivial
    | d x => exact h'
    | own _ => cases o
    | ownK _ => cases o
    | self _ _ => cases o
theorem relabel_eq {scope : Scope} {env : Env} {sc : Scope} (h : env.scope = sc) : relabel scope env = relS scope sc := by
  subst h
  rfl
theorem xb_blk {scope : Scope} (B : XB X c W N sc k bb) (c' : Fr) (hc : c'.toWd = c.toWd) (s : Shared) (H : Hp) (C : Addr) (cl : List (Str × Addr)) (fp : List Addr) : XB (X.blk s H scope (compEnvC scope cl C X.env) fp) c' never N (relS scope sc) k true :=
  ⟨by rw [hc]; exact B.hP, by rw [hc]; exact B.hw, by rw [hc]; exact B.hK, by rw [hc]; exact B.hm, by rw [hc]; exact B.hb, B.hN, B.nd, relabel_eq B.hs, B.calm, B.room, B.gd, fun u s' h => by
    obtain ⟨a, B', sI, pins, σ, H, cls, d, e, I, nb, up, sky, na, os, ag, w⟩ := h
    exact w, PassesOwn.never, (fun h => by cases h), (fun h => by cases h), (fun h => by cases h)⟩
/-- [elt for tg in iter if ..] -/
theorem de_lc {elt tg iter : Expr} {ifs : List Expr} {scope : Scope} {own : List (Str × Nat)} {ri : DTI} {g : DTG} {tt : DTT} {te : DTE} (B : XB X c W N sc k bb) (hi : DI X c W tg iter ri) (ok : BlkOk N sc scope own)
    (hb : ∀ (X' : Cx) (c' : Fr), c'.toWd = c.toWd → XB X' c' never N (relS scope sc) k true → DGo X' c' (own.map (·.2)) tg g ∧ DTs X' c' never ifs tt ∧ DE X' c' never elt te)
    (hs : ∀ x, foldedSetIterable iter X.env x = pure x := by intro _; rfl) : DE X c W (.ListComp elt [⟨tg, iter, ifs, 0⟩] scope pos) (dLC ri g tt te (own.map (·.2))) := by
  let ι := { c' : Fr // c'.toWd = c.toWd }
  have hg := fun s H C cl fp => pg_ex (X := X.blk s H scope (compEnvC scope cl C X.env) fp) (ι := ι) fun i => (hb _ i.1 i.2 (xb_blk B i.1 i.2 s H C cl fp)).1
  have ht := fun s H C cl fp => pts_ex (X := X.blk s H scope (compEnvC scope cl C X.env) fp) (ι := ι) fun i => (hb _ i.1 i.2 (xb_blk B i.1 i.2 s H C cl fp)).2.1
  have he := fun s H C cl fp => pe_ex (X := X.blk s H scope (compEnvC scope cl C X.env) fp) (ι := ι) fun i => (hb _ i.1 i.2 (xb_blk B i.1 i.2 s H C cl fp)).2.2
  refine peI (pe_lc B.calm (by rw [B.hN]; exact B.nd) hi (by rw [B.hN, B.hs]; exact ok) hg ht he hs) fun σ H Q ⟨G, δ, P, E, R, h, kk, x⟩ => ?_
  refine ⟨G, δ, _, E, R, h, fun items δ1 J G1 H1 p L R1 j => ?_, x⟩
  intro q hq
  have gq1 : G1 q = none := R1.gnone hq
  have ns1 : ¬ Spc c.toWd δ1.z q := R1.st.pne hq
  let c' : Fr := frOf c.toWd G1 (upd H1 q (.lst [])) δ1.z [q]
  let cl := cleanSl (own.map (·.2)) 0 δ1.sl
  let PP : List D → Z → Prop := fun ds n => P (.lst ds) { δ1 with z := n }
  have ho : ∀ (i : Nat) (s : Sl), cl[i]? = some s → isOwn s = false := fun i s h => clean_own h
  refine ⟨fun i m H' => m = items.length - i ∧ i ≤ items.length ∧ ∃ G2 n vacc acc, Rel c' G2 H' (wipe σ (own.map (·.2))) ⟨cl, n⟩ ∧ Le G1 G2 ∧ H' q = some (.lst vacc) ∧ (G2 q = none ∧ ¬ Spc c.toWd n q) ∧ RepL c.K c.p0 G2 vacc acc ∧ dCol g tt te cl PP (items.drop i) acc n,
    ⟨items.length, rfl, Nat.zero_le _, G1, δ1.z, [], [], rel_block R1 hq _ _, Le.refl _, upd_same, ⟨gq1, ns1⟩, .nil, p⟩, ?_⟩
  rintro i m H' ⟨rfl, hi', G2, n, vacc, acc, R2, L2, hH, ⟨gq2, ns2⟩, hr, p2⟩
  by_cases hlt : i < items.length
  · right
    rw [drop_cons hlt] at p2
    refine ⟨j.go i H' G2 hlt L2 R2.le, fun H'' => i + 1 ≤ items.length ∧ ∃ G2 n vacc acc, Rel c' G2 H'' (wipe σ (own.map (·.2))) ⟨cl, n⟩ ∧ Le G1 G2 ∧ H'' q = some (.lst vacc) ∧ (G2 q = none ∧ ¬ Spc c.toWd n q) ∧ RepL c.K c.p0 G2 vacc acc ∧ dCol g tt te cl PP (items.drop (i + 1)) acc n,
      fun H3 ⟨q1, q2⟩ => ⟨items.length - (i + 1), by omega, rfl, q1, q2⟩, fun x3 H3 y => ?_⟩
    obtain ⟨G3, d, e3, po3, r3⟩ := j.yld i H' x3 H3 G2 n L2 R2.st y hlt
    have R3 : Rel c' G3 H3 (wipe σ (own.map (·.2))) ⟨cl, n⟩ := R2.post po3
    have ed : d = items[i] := by rw [List.getElem?_eq_getElem hlt] at e3; exact (Option.some.inj e3).symm
    subst ed
    -- what the step leaves of the list
    have stay : ∀ {S S' : Addr → Prop} {Ga Ha Gb Hb : Hp}, Go S S' Ga Ha Gb Hb → Ha q = some (.lst vacc) → Ga q = none → ¬ S q → Hb q = some (.lst vacc) ∧ Gb q = none ∧ ¬ S' q := fun {S S' Ga Ha Gb Hb} go h1 h2 h3 => by
      refine ⟨go.h _ _ h1 h3, ?_, fun h => ?_⟩
      · cases e : Gb q with
        | none => rfl
        | some u =>
          rcases go.nw q u e with z | z | z
          · rw [h2] at z; cases z
          · rw [h1] at z; cases z
          · exact absurd z h3
      · rcases go.ks q h with z | z
        · exact h3 z
        · rw [h1] at z; cases z
    obtain ⟨a1, a2, a3⟩ := stay po3.go hH gq2 ns2
    refine ⟨⟨c', rfl⟩, G3, ⟨cl, n⟩, _, _, R3, r3, p2, fun δ4 G4 H4 σ4 p4 L4 R4 ew => ?_⟩
    obtain ⟨b1, b2, b3⟩ := stay L4 a1 a2 (fun z => a3 (spf_clean ho z))
    refine ⟨by rw [ew]; exact wipe_twice, ⟨c', rfl⟩, G4, δ4, _, _, R4, p4, fun b δ5 G5 H5 p5 L5 R5 => ?_, fun er δ' cls dd G' H' z => z.elim⟩
    obtain ⟨d1, d2, d3⟩ := stay L5 b1 b2 b3
    have L35 : Le G2 G5 := (po3.go.g.trans L4.g).trans L5.g
    cases b with
    | false =>
      simp only [Bool.false_eq_true, if_false] at p5 ⊢
      exact ⟨hlt, G5, δ5.z, vacc, acc, rel_mix R2 R5 L35 ho, L2.trans L35, d1, ⟨d2, fun z => d3 (.inl z)⟩, hr.mono L35, p5⟩
    | true =>
      simp only [if_true] at p5 ⊢
      refine ⟨⟨c', rfl⟩, G5, δ5, _, _, R5, p5, fun z δ6 v6 G6 H6 p6 L6 R6 r6 => ?_, fun er δ' cls dd G' H' z => z.elim⟩
      have L26 : Le G2 G6 := L35.trans L6.g
      obtain ⟨e1, e2, e3⟩ := stay L6 d1 d2 d3
      have e3' : ¬ Spc c.toWd δ6.z q := fun z => e3 (.inl z)
      refine ⟨vacc, e1, sl5 (by rw [hr.len]; exact p6.1), hlt, G6, δ6.z, vacc ++ [v6], acc ++ [z], rel_mu (rel_mix R2 R6 L26 ho) ho (by simp [c']) e2 e1 e3', L2.trans L26, upd_same, ⟨e2, e3'⟩, RepL.snoc r6 (hr.mono L26), p6.2⟩
  · left
    have e : items.drop i = [] := List.drop_eq_nil_of_le (by omega)
    rw [e] at p2
    refine ⟨j.stop i H' G2 (by omega) L2 R2.le, ?_⟩
    have LL : Le G2 (upd G2 q (.lst vacc)) := Le.new gq2
    have po : Post c.toWd δ1.z G1 H1 (upd G2 q (.lst vacc)) H' n := by
      refine ⟨R2.st.frozen hH gq2 ns2, ?_⟩
      have g1 : Go (Spc c.toWd δ1.z) (fun b => Spc c.toWd δ1.z b ∨ b = q) G1 H1 G1 (upd H1 q (.lst [])) := (R1.laidH (o := .lst []) hq).go.imp (fun _ h => h) fun b h => h.imp id fun z => .inr (by rw [z]; exact hq)
      have g2 : Go (fun b => Spc c.toWd δ1.z b ∨ b = q) (fun b => Spc c.toWd n b ∨ b = q) G1 (upd H1 q (.lst [])) G2 H' := R2.go.imp (fun b h => h.imp id fun m => List.mem_singleton.mp m) fun b h => h.elim (fun z => .inl (.inl z)) fun z => .inr (.inl (.inr z))
      exact (g1.trans g2).frozen hq ns2
    exact kk (.lst acc) _ (.ref q) _ H' p2 (L.trans (po.spf R1)) (R1.post po) (.lst (.inl upd_same) (hr.mono LL))
end
end DL

/-! ELN: == and != by an own __eq__. -/
namespace PySem.SeqAt
open MeetsSeq
theorem none_declines_own (x C dx : Addr)  :
    Meets (Builtin.«NoneType.__eq__» ⟨[.none, .ref x], []⟩) (fun _ R s => s.heap.get? x = some (PySem.W.instObj C dx) ∧ R (.ok (.ret .notImplemented)) s) :=
  .of_wp fun prog w A R s h => by obtain ⟨hp, g, d, tk, os⟩ := s; obtain ⟨hl, h⟩ := h; wp_walk using AutoSeq1.wpAny_loadPart' hl, wpAny_load hl; exact ⟨_, rfl, h⟩
theorem int_declines_own (x C dx : Addr) (b : Int) (u : Tok) :
    Meets (Builtin.«int.__eq__» ⟨[.int b u, .ref x], []⟩) (fun _ R s => s.heap.get? x = some (PySem.W.instObj C dx) ∧ R (.ok (.ret .notImplemented)) s) :=
  .of_wp fun prog w A R s h => by obtain ⟨hp, g, d, tk, os⟩ := s; obtain ⟨hl, h⟩ := h; wp_walk using AutoSeq1.wpAny_loadPart' hl, wpAny_load hl; exact ⟨_, rfl, h⟩
theorem bool_declines_own (x C dx : Addr) (b : Bool) :
    Meets (Builtin.«int.__eq__» ⟨[.bool b, .ref x], []⟩) (fun _ R s => s.heap.get? x = some (PySem.W.instObj C dx) ∧ R (.ok (.ret .notImplemented)) s) :=
  .of_wp fun prog w A R s h => by obtain ⟨hp, g, d, tk, os⟩ := s; obtain ⟨hl, h⟩ := h; wp_walk using AutoSeq1.wpAny_loadPart' hl, wpAny_load hl; exact ⟨_, rfl, h⟩
theorem str_declines_own (x C dx : Addr) (b : Str) (u : Tok) :
    Meets (Builtin.«str.__eq__» ⟨[.str b u, .ref x], []⟩) (fun _ R s => s.heap.get? x = some (PySem.W.instObj C dx) ∧ R (.ok (.ret .notImplemented)) s) :=
  .of_wp fun prog w A R s h => by obtain ⟨hp, g, d, tk, os⟩ := s; obtain ⟨hl, h⟩ := h; wp_walk using AutoSeq1.wpAny_loadPart' hl, wpAny_load hl; exact ⟨_, rfl, h⟩
theorem list_declines_own {K : PySem.W.Frag} {P : Program} {w : World} (x C dx l : Addr) (hs : PySem.W.mroIn K C (.type "list") = some false) :
    MeetsIn P w (Builtin.«list.__eq__» ⟨[.ref l, .ref x], []⟩) (fun _ R s => K.In s.heap ∧ s.heap.get? x = some (PySem.W.instObj C dx) ∧ R (.ok (.ret .notImplemented)) s) := by
  intro A R s h
  obtain ⟨X, hl, h⟩ := h
  have hx := PySem.W.looks_mroIn (M := model P w) X hs
  obtain ⟨hp, g, d, tk, os⟩ := s
  wp_walk using AutoSeq1.wpAny_loadPart' hl, wpAny_load hl
  refine hx.here ?_
  wp_walk
  exact h
theorem tuple_declines_own {K : PySem.W.Frag} {P : Program} {w : World} (x C dx l : Addr) (hs : PySem.W.mroIn K C (.type "tuple") = some false) :
    MeetsIn P w (Builtin.«tuple.__eq__» ⟨[.ref l, .ref x], []⟩) (fun _ R s => K.In s.heap ∧ s.heap.get? x = some (PySem.W.instObj C dx) ∧ R (.ok (.ret .notImplemented)) s) := by
  intro A R s h
  obtain ⟨X, hl, h⟩ := h
  have hx := PySem.W.looks_mroIn (M := model P w) X hs
  obtain ⟨hp, g, d, tk, os⟩ := s
  wp_walk using AutoSeq1.wpAny_loadPart' hl, wpAny_load hl
  refine hx.here ?_
  wp_walk
  exact h
theorem dict_declines_own {K : PySem.W.Frag} {P : Program} {w : World} (x C dx a : Addr) (es : Array DictEntry) (ep : Nat) (dd : Option Addr) (sl : Array (Option Value)) (hs : PySem.W.mroIn K C (.type "dict") = some false) :
    MeetsIn P w (Builtin.«dict.__eq__» ⟨[.ref a, .ref x], []⟩) (fun _ R s => K.In s.heap ∧ s.heap.get? x = some (PySem.W.instObj C dx) ∧ s.heap.get? a = some { cls := .type "dict", dict := dd, data := .dict es ep, slots := sl } ∧ R (.ok (.ret .notImplemented)) s) := by
  intro A R s h
  obtain ⟨X, hl, ha, h⟩ := h
  have hx := PySem.W.looks_mroIn (M := model P w) X hs
  obtain ⟨hp, g, d, tk, os⟩ := s
  have f2 := F.sub_dict_dict
  wp_walk using AutoSeq1.wpAny_loadPart' hl, wpAny_load hl, AutoSeq1.wpAny_loadPart' ha, wpAny_load ha
  refine hx.here ?_
  wp_walk
  exact h
end PySem.SeqAt

namespace DL
open PySem L2 PySem.Spec PyProof.Rows PySem.SeqAt
theorem tryOwn {M : Model} {A : Around} {E : Value → Shared → Prop} {st : Shared} {K : PySem.W.Frag} {x C f : Addr} {ox : Obj} {od : Option Obj} {name : Str} {b : Value} {Q : Value → Shared → Prop} (X : K.In st.heap) (I : PySem.W.InstAt st.heap x ox C od) (hs : PySem.W.findIn K (.ref C) name = some (some (.ref f))) (hf : PySem.W.isFn K (.ref f) = true)
    (h : wpAny M A (call (.ref f) [.ref x, b]) (PySem.W.CmpBack Q) E st) : wpAny M A (tryCompare (.ref x) name b) (fun r s' => ∃ v, r = some v ∧ Q v s') E st := by
  unfold tryCompare
  refine wpAny_bind (PySem.W.ifBound_K X I hs hf (wpAny_mono h (fun v s' hv => ?_) fun _ _ e => e))
  cases v <;> first | exact hv.elim | exact wpAny_pure ⟨_, rfl, hv⟩
/-- a rich comparison whose left side answers -/
theorem rc_left {M : Model} {A : Around} {E : Value → Shared → Prop} {st : Shared} {K : PySem.W.Frag} {x C : Addr} {ox : Obj} {od : Option Obj} {op : CmpOp} {b tb : Value} {Q : Value → Shared → Prop} (hu : A.units < cLine) (X : K.In st.heap) (I : PySem.W.InstAt st.heap x ox C od)
    (hb : PySem.W.Looks M st.heap (typeOf b) tb) (hn : PySem.W.notFirst K C tb = true) (one : wpAny M A (tryCompare (.ref x) (cmpInfo op).2.1 b) (fun r s' => ∃ v, r = some v ∧ Q v s') E st) : wpAny M A (richCompare op (.ref x) b) Q E st := by
  unfold richCompare
  simp only [oneThing_ref]
  refine wpAny_holding (wpAny_bind (wpAny_cRoomFor hu ?_))
  refine wpAny_bind (I.type.here (wpAny_bind (hb.here ?_)))
  split
  · rename_i q
    have e : PySem.W.subIn K tb (.ref C) = some false := by
      rcases Bool.or_eq_true_iff.mp hn with e | e
      · rw [beq_iff_eq.mp e] at q; simp at q
      · exact beq_iff_eq.mp e
    refine wpAny_bind ((PySem.W.looks_subIn X e).here ?_)
    simp only [Bool.false_eq_true, if_false]
    refine wpAny_bind (wpAny_mono one (fun r s' z => ?_) fun _ _ e => e)
    obtain ⟨v, rfl, hq⟩ := z
    exact wpAny_pure hq
  · refine wpAny_bind (wpAny_pure ?_)
    simp only [Bool.false_eq_true, if_false]
    refine wpAny_bind (wpAny_mono one (fun r s' z => ?_) fun _ _ e => e)
    obtain ⟨v, rfl, hq⟩ := z
    exact wpAny_pure hq
/-- a rich comparison: the left side, of a built-in type, declines, the right one's own def answers -/
theorem rc_right {M : Model} {A : Around} {E : Value → Shared → Prop} {st : Shared} {K : PySem.W.Frag} {x C : Addr} {ox : Obj} {od : Option Obj} {a : Value} {T : String} {Q : Value → Shared → Prop} (hu : A.units < cLine) (X : K.In st.heap) (I : PySem.W.InstAt st.heap x ox C od)
    (ha : PySem.W.Looks M st.heap (typeOf a) (.type T)) (hn : PySem.W.mroIn K C (.type T) = some false) (h1 : oneThing? .Eq a (.ref x) = none)
    (one : wpAny M A (tryCompare a "__eq__" (.ref x)) (fun r s' => r = none ∧ s' = st) E st) (two : wpAny M A (tryCompare (.ref x) "__eq__" a) (fun r s' => ∃ v, r = some v ∧ Q v s') E st) : wpAny M A (richCompare .Eq a (.ref x)) Q E st := by
  simp only [richCompare, cmpInfo_Eq, h1]
  refine wpAny_holding (wpAny_bind (wpAny_cRoomFor hu ?_))
  refine wpAny_bind (ha.here (wpAny_bind (I.type.here ?_)))
  split
  · refine wpAny_bind ((PySem.W.looks_mroIn X hn).here ?_)
    simp only [Bool.false_eq_true, if_false, Bool.not_false, if_true]
    refine wpAny_bind (m := tryCompare a _ (.ref x)) (wpAny_mono one (fun r s1 z => ?_) fun _ _ e => e)
    obtain ⟨z1, z2⟩ := z
    subst z1
    subst z2
    refine wpAny_bind (m := tryCompare (.ref x) _ a) (wpAny_mono two (fun r s2 z => ?_) fun _ _ e => e)
    obtain ⟨v, rfl, hq⟩ := z
    exact wpAny_pure hq
  · rename_i q
    exact absurd (by simp) q
/-- object.__ne__ of an instance with an own __eq__ -/
theorem ne_entry {M : Model} {A : Around} {E : Value → Shared → Prop} {st : Shared} {K : PySem.W.Frag} {x C f : Addr} {ox : Obj} {od : Option Obj} {b : Value} {Q : Fin → Shared → Prop} (X : K.In st.heap) (I : PySem.W.InstAt st.heap x ox C od) (hs : PySem.W.findIn K (.ref C) "__eq__" = some (some (.ref f))) (hf : PySem.W.isFn K (.ref f) = true) (hu : A.units < cLine)
    (hcall : wpAny M A (call (.ref f) [.ref x, b]) (fun v s' => ∃ k, v = .bool k ∧ Q (.done (.ret (.bool (!k)))) s') E st) : wpAny M A (Builtin.«object.__ne__» ⟨[.ref x, b], []⟩) Q E st := by
  unfold Builtin.«object.__ne__»
  repeat (first
    | with_reducible refine wpAny_cRoomFor hu ?_
    | (refine wpAny_bind (m := callSpecialIfBound? (.ref x) (Str.ofString "__eq__") [b])
        (PySem.W.ifBound_K X I hs hf (wpAny_mono hcall (fun r s' hr => by
          obtain ⟨k, rfl, hq⟩ := hr
          repeat (first | exact hq | exact wpAny_pure hq | exact wpAny_truthy_bool hq | (refine wpAny_bind (m := truthy (.bool _)) (wpAny_truthy_bool ?_)) | wp_step)) fun _ _ e => e)))
    | wp_step)
theorem ifBound_ne {M : Model} {A : Around} {E : Value → Shared → Prop} {st : Shared} {K : PySem.W.Frag} {x C : Addr} {ox : Obj} {od : Option Obj} {args : List Value} {Q : Option Value → Shared → Prop} (X : K.In st.heap) (I : PySem.W.InstAt st.heap x ox C od) (hs : PySem.W.findIn K (.ref C) "__ne__" = some (some (.builtin "object.__ne__")))
    (h : wpAny M A (call (.builtin "object.__ne__") (.ref x :: args)) (fun v => Q (some v)) E st) : wpAny M A (callSpecialIfBound? (.ref x) "__ne__" args) Q E st := by
  simp only [callSpecialIfBound?, bindSpecialIfBound?]
  refine wpAny_holding (wpAny_bind (wpAny_bind (wpAny_bind (I.type.here ((PySem.W.looks_findIn X hs).here ?_)))))
  refine wpAny_bind (wpAny_askSetting (wpAny_ite ?_))
  have fin : wpAny M A (call (.builtin "object.__ne__") ([.ref x] ++ args) >>= fun v => pure (some v)) Q E st := wpAny_bind (wpAny_mono h (fun v s' h' => wpAny_pure h') fun _ _ h' => h')
  split
  · exact wpAny_bind (wpAny_of_eq (F.cmp_object.ne.bind _) (wpAny_pure (by exact fin)))
  · exact wpAny_tryCatch (wpAny_bind (wpAny_of_eq (F.cmp_object.ne.bind _) (wpAny_pure (by exact fin))))
theorem try_ne {P : Program} {w : World} {A : Around} {E : Value → Shared → Prop} {st : Shared} {K : PySem.W.Frag} {x C f : Addr} {ox : Obj} {od : Option Obj} {b : Value} {Q : Value → Shared → Prop} (X : K.In st.heap) (I : PySem.W.InstAt st.heap x ox C od) (hs : PySem.W.findIn K (.ref C) "__eq__" = some (some (.ref f))) (hf : PySem.W.isFn K (.ref f) = true) (hn : PySem.W.findIn K (.ref C) "__ne__" = some (some (.builtin "object.__ne__"))) (hm : PySem.W.mroIn K C (.type "object") = some true) (hu : A.units + 1 < cLine)
    (hcall : wpAny (model P w) A.in1 (call (.ref f) [.ref x, b]) (fun v s' => ∃ k, v = .bool k ∧ Q (.bool (!k)) s') E st) : wpAny (model P w) A (tryCompare (.ref x) "__ne__" b) (fun r s' => ∃ v, r = some v ∧ Q v s') E st := by
  unfold tryCompare
  refine wpAny_bind (ifBound_ne X I hn (wpAny_call (codeAny_call_builtin F.cmp_object.ne.plain F.cmpEntry_ne (PySem.W.check_slot F.cmpKind_ne F.cmpSplit_ne (I.type.andThen (PySem.W.looks_mroIn X hm)) (F.cmpArgs_ne _ _)
    (ne_entry (A := A.in1) X I hs hf hu (wpAny_mono hcall (fun v s' hv => ?_) fun _ _ e => e))))))
  obtain ⟨k, rfl, hq⟩ := hv
  exact ⟨k, rfl, wpAny_pure ⟨_, rfl, hq⟩⟩
end DL

/-! ELO: operators that may change the state and raise; own comparisons. -/
namespace DL
open PySem L2 PySem.Spec PyProof.Rows PySem.SeqAt
abbrev DOpE := D → D → Z → (D → Z → Prop) → (Er → Z → Prop) → Prop
abbrev DUnE := D → Z → (D → Z → Prop) → (Er → Z → Prop) → Prop
/-- how a step's end is told -/
def KP (c : Fr) (G H : Hp) (σ : L2.St) (δ : S) (P : D → Z → Prop) (Q : VK) : Prop := ∀ d z' w G' H', P d z' → Gof c δ { δ with z := z' } σ G H G' H' → Rel c G' H' σ { δ with z := z' } → Rep c.K c.p0 G' w d → Q w H'
def KE (c : Fr) (W : WX) (G : Hp) (σ : L2.St) (δ : S) (E : Er → Z → Prop) : Prop := ∀ er z' cls dd G' H', E er z' → Le G G' → Rel c G' H' σ { δ with z := z' } → ErRep c.toWd G' cls dd er → W cls dd σ H'
def OpE (X : Cx) (c : Fr) (W : WX) (f : Value → Value → Sem Value) (o : DOpE) : Prop :=
  ∀ (pins : List (Addr × Obj)) (st : Shared) (σ : L2.St) (H : Hp) (u v : V) (x y : Value) (dx dy : D) (G : Hp) (δ : S) (P : D → Z → Prop) (E : Er → Z → Prop) (Q : VK),
    Inv X pins σ H st → RelV u x → RelV v y → Rel c G H σ δ → Rep c.K c.p0 G u dx → Rep c.K c.p0 G v dy → o dx dy δ.z P E → KP c G H σ δ P Q → KE c W G σ δ E →
    wpAny (model X.prog X.w) X.A (f x y) (EP X pins σ Q) X.xe st
def UnE (X : Cx) (c : Fr) (W : WX) (f : Value → Sem Value) (o : DUnE) : Prop :=
  ∀ (pins : List (Addr × Obj)) (st : Shared) (σ : L2.St) (H : Hp) (u : V) (x : Value) (dx : D) (G : Hp) (δ : S) (P : D → Z → Prop) (E : Er → Z → Prop) (Q : VK),
    Inv X pins σ H st → RelV u x → Rel c G H σ δ → Rep c.K c.p0 G u dx → o dx δ.z P E → KP c G H σ δ P Q → KE c W G σ δ E →
    wpAny (model X.prog X.w) X.A (f x) (EP X pins σ Q) X.xe st
section
variable {X : Cx} {c : Fr} {W : WX} {N : List Str} {sc : Scope} {k j : Nat} {bb : Bool} {e a b : Expr} {es : List Expr} {pos p : Pos} {r ra rb : DTE} {rs : DTA} {x : Str} {C : Addr} {s : DSp2} {f : Addr}
theorem OpE.or {g : Value → Value → Sem Value} {o o' : DOpE} (h : OpE X c W g o) (h' : OpE X c W g o') : OpE X c W g (fun x y z P E => o x y z P E ∨ o' x y z P E) :=
  fun pins st σ H u v x y dx dy G δ P E Q I r1 r2 R p1 p2 q kp ke => q.elim (fun q => h pins st σ H u v x y dx dy G δ P E Q I r1 r2 R p1 p2 q kp ke) (fun q => h' pins st σ H u v x y dx dy G δ P E Q I r1 r2 R p1 p2 q kp ke)
theorem OpE.imp {g : Value → Value → Sem Value} {o o' : DOpE} (h : OpE X c W g o) (l : ∀ x y z P E, o' x y z P E → o x y z P E) : OpE X c W g o' :=
  fun pins st σ H u v x y dx dy G δ P E Q I r1 r2 R p1 p2 q kp ke => h pins st σ H u v x y dx dy G δ P E Q I r1 r2 R p1 p2 (l _ _ _ _ _ q) kp ke
theorem UnE.or {g : Value → Sem Value} {o o' : DUnE} (h : UnE X c W g o) (h' : UnE X c W g o') : UnE X c W g (fun x z P E => o x z P E ∨ o' x z P E) :=
  fun pins st σ H u x dx G δ P E Q I r1 R p1 q kp ke => q.elim (fun q => h pins st σ H u x dx G δ P E Q I r1 R p1 q kp ke) (fun q => h' pins st σ H u x dx G δ P E Q I r1 R p1 q kp ke)
theorem UnE.imp {g : Value → Sem Value} {o o' : DUnE} (h : UnE X c W g o) (l : ∀ x z P E, o' x z P E → o x z P E) : UnE X c W g o' :=
  fun pins st σ H u x dx G δ P E Q I r1 R p1 q kp ke => h pins st σ H u x dx G δ P E Q I r1 R p1 (l _ _ _ _ q) kp ke
/-- an operator of plain data -/
theorem opE_of {g : Value → Value → Sem Value} {o : DOp} (h : OpD X c g o) : OpE X c W g (fun x y z P _ => o x y (fun d => P d z)) := by
  obtain ⟨r, h1, h2⟩ := h.ex
  exact fun pins st σ H u v x y dx dy G δ P E Q I r1 r2 R p1 p2 q kp ke => h1 pins st σ H u v x y Q I r1 r2 (h2 G H σ δ u v dx dy (fun d => P d δ.z) Q R p1 p2 q fun d w G' H' p L R' rr => kp d δ.z w G' H' p L R' rr)
def dBinE (o : DOpE) (ra rb : DTE) : DTE := fun δ P E => ra δ (fun x δ1 => rb δ1 (fun y δ2 => o x y δ2.z (fun d z => P d { δ2 with z := z }) (fun er z => E er { δ2 with z := z })) E) E
def RBin (X : Cx) (c : Fr) (W : WX) (σ : L2.St) (o : DOpE) (Q : VK) (u v : V) (H : Hp) : Prop := ∃ G δ dx dy P E, Rel c G H σ δ ∧ Rep c.K c.p0 G u dx ∧ Rep c.K c.p0 G v dy ∧ o dx dy δ.z P E ∧ KP c G H σ δ P Q ∧ KE c W G σ δ E
theorem dbinE_in {o : DOpE} {σ : L2.St} {H : Hp} {Q : VK} : liftE c W (dBinE o ra rb) σ H Q → liftE c W ra σ H fun u H1 => liftE c W rb σ H1 fun v H2 => RBin X c W σ o Q u v H2 := fun ⟨G, δ, P, E, R, h, kk, xx⟩ =>
  ⟨G, δ, _, E, R, h, fun dx δ1 u G1 H1 p1 L1 R1 r1 => ⟨G1, δ1, _, E, R1, p1, fun dy δ2 v G2 H2 p2 L2 R2 r2 => ⟨G2, δ2, dx, dy, _, _, R2, r1.mono L2.g, r2, p2,
    fun d z' w G' H' p L R' rr => kk d _ w G' H' p ((L1.trans L2).trans L) R' rr, fun er z' cls dd G' H' p L R' q => xx er _ cls dd G' H' p ((L1.trans L2).g.trans L) R' q⟩, xx.mono L1.g⟩, xx⟩
theorem de_binE {op : Operator} {o : DOpE} (ho : OpE X c W (binaryOp op) o) (ha : DE X c W a ra) (hb : DE X c W b rb) : DE X c W (.BinOp a op b pos) (dBinE o ra rb) :=
  ⟨fun pins st σ H Q I h => wpAny_BinOp (binT ha hb I (dbinE_in (X := X) h) fun v u s2 x y H2 I2 rx ry ⟨G, δ, dx, dy, P, E, R, p1, p2, q, kp, ke⟩ => ho pins s2 σ H2 x y v u dx dy G δ P E Q I2 rx ry R p1 p2 q kp ke)⟩
theorem de_cmpE {op : CmpOp} {o : DOpE} (ho : OpE X c W (compareOp op) o) (ha : DE X c W a ra) (hb : DE X c W b rb) (hm : behindInMarks op b = false) : DE X c W (.Compare a [op] [b] pos) (dBinE o ra rb) :=
  ⟨fun pins st σ H Q I h => wpAny_Compare1 (binT ha hb I (dbinE_in (X := X) h) fun v u s2 x y H2 I2 rx ry ⟨G, δ, dx, dy, P, E, R, p1, p2, q, kp, ke⟩ => ho pins s2 σ H2 x y v u dx dy G δ P E Q I2 rx ry R p1 p2 q kp ke) hm⟩
theorem dt_cmpE {op : CmpOp} {o : DOpE} (ho : OpE X c W (compareOp op) o) (ha : DE X c W a ra) (hb : DE X c W b rb) (hm : behindInMarks op b = false) : DT X c W (.Compare a [op] [b] pos) (dTB (dBinE o ra rb)) := by
  refine ⟨fun pins st σ H Q I ⟨G, δ, P, E, R, h, kk, xx⟩ => ?_⟩
  have h' := dbinE_in (X := X) (Q := fun v H' => ∃ b, v = V.bl b ∧ Q b H') ⟨G, δ, _, E, R, h, fun d δ' v G' H' p L R' r => dtb_ok kk p L R' r, xx⟩
  refine wpAny_isTrue_Compare1 (thn (ha.run pins st σ H _ I h') fun v s1 ⟨x, H1, I1, r1, q1⟩ => thn (hb.run pins s1 σ H1 _ I1 q1) fun u s2 ⟨y, H2, I2, r2, G2, δ2, dx, dy, P2, E2, R2, p1, p2, q, kp, ke⟩ =>
    thn (ho pins s2 σ H2 x y v u dx dy G2 δ2 P2 E2 _ I2 r1 r2 R2 p1 p2 q kp ke) fun cc s3 ⟨z, H3, I3, r3, kb, eb, q3⟩ => ?_) hm
  subst eb
  cases r3
  exact wpAny_truthy_bool ⟨H3, I3, q3⟩
def dUnE (o : DUnE) (ra : DTE) : DTE := fun δ P E => ra δ (fun x δ1 => o x δ1.z (fun d z => P d { δ1 with z := z }) (fun er z => E er { δ1 with z := z })) E
theorem de_unE {op : UnaryOp} {o : DUnE} (ho : UnE X c W (unaryOp op) o) (ha : DE X c W a ra) : DE X c W (.UnaryOp op a pos) (dUnE o ra) :=
  ⟨fun pins st σ H Q I ⟨G, δ, P, E, R, h, kk, xx⟩ => UnaryOp_ (thn (ha.run pins st σ H (fun u H1 => ∃ G1 δ1 dx P1 E1, Rel c G1 H1 σ δ1 ∧ Rep c.K c.p0 G1 u dx ∧ o dx δ1.z P1 E1 ∧ KP c G1 H1 σ δ1 P1 Q ∧ KE c W G1 σ δ1 E1) I
    ⟨G, δ, _, E, R, h, fun dx δ1 u G1 H1 p1 L1 R1 r1 => ⟨G1, δ1, dx, _, _, R1, r1, p1, fun d z' w G' H' p L R' rr => kk d _ w G' H' p (L1.trans L) R' rr, fun er z' cls dd G' H' p L R' q => xx er _ cls dd G' H' p (L1.g.trans L) R' q⟩, xx⟩)
    fun v s1 ⟨u, H1, I1, r1, G1, δ1, dx, P1, E1, R1, p1, q, kp, ke⟩ => ho pins s1 σ H1 u v dx G1 δ1 P1 E1 Q I1 r1 R1 p1 q kp ke)⟩

/-! ### a def of a class, run from within an operator -/
theorem inv_atA {pins : List (Addr × Obj)} {σ : L2.St} {H : Hp} {st : Shared} (I : Inv X pins σ H st) {A : Around} (h1 : A.frames = X.A.frames) (h2 : A.handled = none) : Inv { X with A := A } pins σ H st :=
  ⟨⟨I.ok.mod, I.ok.kind, I.ok.glob, I.ok.blt, I.ok.above, I.ok.inj, I.ok.has, I.ok.cab, fun _ => h2, h1.trans I.ok.frames, I.ok.stk, I.ok.exf, I.ok.bs, I.ok.bsz, I.ok.noex, I.ok.exfs, I.ok.funs, I.ok.frf⟩,
    I.os, I.bare, I.base, I.loc, I.cell, I.free, I.freeC, I.pin, I.hok, I.len⟩
theorem inv_backA {pins : List (Addr × Obj)} {σ : L2.St} {H : Hp} {st : Shared} {A : Around} (ok : X.Ok) (I : Inv { X with A := A } pins σ H st) : Inv X pins σ H st :=
  ⟨ok, I.os, I.bare, I.base, I.loc, I.cell, I.free, I.freeC, I.pin, I.hok, I.len⟩
theorem takesA (tk : Takes X W) (ok : X.Ok) {A : Around} : Takes { X with A := A } W := fun u s' ⟨a, B, sI, pins, σ, H, cls, d, e, I, nb, up, sky, na, os, ag, w⟩ => tk u s' ⟨a, B, sI, pins, σ, H, cls, d, e, inv_backA ok I, nb, up, sky, na, os, ag, w⟩
theorem runD {fv : Value} {ks : List Str} {A : Around} (B : XB X c W N sc k bb) (hc : Callee c.toWd fv ks j s) (hr : Room j A) (hg : A.guards = some []) (hf : A.frames = X.A.frames) {pins : List (Addr × Obj)} {st : Shared} {σ : L2.St} {H G : Hp} {δ : S} {us ws : List Value} {vs zs : List V} {ds es : List D} {P : D → Z → Prop} {E : Er → Z → Prop} {Q : VK}
    (I : Inv X pins σ H st) (rv : Vals vs us) (rz : Vals zs ws) (hl : zs.length = ks.length) (R : Rel c G H σ δ) (rd : RepL c.K c.p0 G vs ds) (re : RepL c.K c.p0 G zs es) (h : s ds es δ.z P E) (kp : KP c G H σ δ P Q) (ke : KE c W G σ δ E) :
    wpAny (model X.prog X.w) A (call fv us (ks.zip ws)) (EP X pins σ Q) X.xe st := by
  have ok := I.ok
  refine wpAny_mono (hc.run { X with A := A } W pins st σ H us ws vs zs Q B.hP B.hw B.hK B.hm B.hb hr hg (takesA B.tk ok) (inv_atA I hf hr.hd) rv rz hl ⟨G, ds, es, δ.z, P, E, R.st, rd, re, h, fun d z' v G' H' p po rr => kp d z' v G' H' p (po.spf R) (R.post po) rr, fun er z' cls dd G' H' p po rr => ke er z' cls dd G' H' p po.go.g (R.post po) rr⟩) (fun u s' ⟨v, H', I', r', q⟩ => ⟨v, H', inv_backA ok I', r', q⟩) fun _ _ z => z

/-! ### own comparisons -/
/-- a class's own def for nm -/
structure OwnD (c : Wd) (C : Addr) (nm : Str) (k : Nat) (s : DSp2) : Prop where
  ex : ∃ f : Addr, Callee c (.ref f) [] k s ∧ PySem.W.findIn c.K (.ref C) nm = some (some (.ref f)) ∧ PySem.W.isFn c.K (.ref f) = true
theorem OwnD.mono {c : Wd} {C : Addr} {nm : Str} {j k : Nat} {s : DSp2} (h : OwnD c C nm j s) (l : j ≤ k) : OwnD c C nm k s := by
  obtain ⟨f, F, h1, h2⟩ := h.ex
  exact ⟨f, F.mono l, h1, h2⟩
def notF (w : Wd) (C : Addr) (y : D) : Prop := tyD w y (fun t => PySem.W.notFirst w.K C t = true)
theorem units1 (B : XB X c W N sc k bb) : X.A.units + 150 < cLine := by have := B.room.un; omega
theorem looksTy (B : XB X c W N sc k bb) {pins : List (Addr × Obj)} {st : Shared} {σ : L2.St} {G H : Hp} (I : Inv X pins σ H st) (le : Le G H) {y : V} {v : Value} {d : D} (ry : Rep c.K c.p0 G y d) (rv : RelV y v) {P : Value → Prop} (h : tyD c.toWd d P) :
    ∃ t, P t ∧ PySem.W.Looks (model X.prog X.w) st.heap (typeOf v) t := by
  obtain ⟨t, ht, hp⟩ := ty_of le B.hK ry h
  obtain ⟨Z, kx, hz, _⟩ := kit_of I rv ht
  exact ⟨t, hp, kx.ty _ _ I.kIn hz⟩
theorem rep_ins {K : PySem.W.Frag} {p0 : Addr} {G : Hp} {x : V} {C : Addr} {fs : List (Str × D)} (h : Rep K p0 G x (.ins C fs)) : ∃ xa dx vs, x = .ref xa ∧ G xa = some (.ins C dx vs) := by
  cases h with
  | ins h1 r1 => exact ⟨_, _, _, rfl, h1⟩
theorem insAt {pins : List (Addr × Obj)} {st : Shared} {σ : L2.St} {H : Hp} (I : Inv X pins σ H st) {xa dx : Addr} {vs : List (Str × V)} (h : H xa = some (.ins C dx vs)) : ∃ od, PySem.W.InstAt st.heap xa (PySem.W.instObj C dx) C (some od) := by
  obtain ⟨mA, O, _⟩ := ins_get I.hok h
  obtain ⟨od, J, _⟩ := O.look
  exact ⟨od, J⟩
theorem noNI {pins : List (Addr × Obj)} {σ : L2.St} {Q : VK} {Q' : Value → Shared → Prop} {v : Value} {s' : Shared} (h : EP X pins σ Q v s') (q : EP X pins σ Q v s' → Q' v s') : PySem.W.CmpBack Q' v s' := by
  have hv := h
  obtain ⟨w, H', I', r, _⟩ := h
  cases v <;> first | exact q hv | (exfalso; revert r; cases w <;> intro r <;> first | (obtain ⟨_, r⟩ := r; cases r) | cases r)
/-- x op y, x an instance of C -/
def oLft (w : Wd) (C : Addr) (s : DSp2) : DOpE := fun x y z P E => match x with
  | .ins C' fs => C' = C ∧ notF w C y ∧ s [.ins C' fs, y] [] z P E
  | _ => False
theorem cmp_left {op : CmpOp} {g : Value → Value → Sem Value} (hgo : ∀ u v, g u v = richCompare op u v) (B : XB X c W N sc k bb) (hE : OwnD c.toWd C (cmpInfo op).2.1 j s) (hj : j ≤ k) : OpE X c W g (oLft c.toWd C s) := by
  intro pins st σ H u v x y dx dy G δ P E Q I r1 r2 R p1 p2 q kp ke
  cases dx with
  | ins C' fs =>
    obtain ⟨rfl, nf, hs⟩ := q
    obtain ⟨xa, dd, vs, rfl, hG⟩ := rep_ins p1
    cases (show x = Value.ref xa from r1)
    obtain ⟨od, J⟩ := insAt I (R.le _ _ hG)
    obtain ⟨t, hn, ht⟩ := looksTy B I R.le p2 r2 nf
    obtain ⟨f, F, h1, h2⟩ := hE.ex
    rw [hgo]
    exact rc_left (op := op) (by have := units1 B; omega) I.kIn J ht (by rw [B.hK]; exact hn) (tryOwn I.kIn J (by rw [B.hK]; exact h1) (by rw [B.hK]; exact h2)
      (wpAny_mono (runD (ks := []) (ws := []) (zs := []) (vs := [.ref xa, v]) (us := [.ref xa, y]) B F (B.room.mono hj) B.gd rfl I (.cons rfl (.cons r2 .nil)) .nil rfl R (.cons p1 (.cons p2 .nil)) .nil hs kp ke) (fun _ _ z => noNI z id) fun _ _ z => z))
  | _ => exact q.elim
theorem eq_left (B : XB X c W N sc k bb) (hE : OwnD c.toWd C "__eq__" j s) (hj : j ≤ k) : OpE X c W (compareOp .Eq) (oLft c.toWd C s) := cmp_left (fun _ _ => rfl) B hE hj
theorem lt_left (B : XB X c W N sc k bb) (hE : OwnD c.toWd C "__lt__" j s) (hj : j ≤ k) : OpE X c W (compareOp .Lt) (oLft c.toWd C s) := cmp_left (fun _ _ => rfl) B hE hj
theorem le_left (B : XB X c W N sc k bb) (hE : OwnD c.toWd C "__le__" j s) (hj : j ≤ k) : OpE X c W (compareOp .LtE) (oLft c.toWd C s) := cmp_left (fun _ _ => rfl) B hE hj
theorem gt_left (B : XB X c W N sc k bb) (hE : OwnD c.toWd C "__gt__" j s) (hj : j ≤ k) : OpE X c W (compareOp .Gt) (oLft c.toWd C s) := cmp_left (fun _ _ => rfl) B hE hj
theorem ge_left (B : XB X c W N sc k bb) (hE : OwnD c.toWd C "__ge__" j s) (hj : j ≤ k) : OpE X c W (compareOp .GtE) (oLft c.toWd C s) := cmp_left (fun _ _ => rfl) B hE hj
/-- x != y by x's own __eq__ -/
structure NeC (c : Wd) (C : Addr) : Prop where
  ne : PySem.W.findIn c.K (.ref C) "__ne__" = some (some (.builtin "object.__ne__"))
  ob : PySem.W.mroIn c.K C (.type "object") = some true
def oNeL (w : Wd) (C : Addr) (s : DSp2) : DOpE := fun x y z P E => match x with
  | .ins C' fs => C' = C ∧ notF w C y ∧ s [.ins C' fs, y] [] z (fun d z' => ∃ b, d = .bl b ∧ P (.bl (!b)) z') E
  | _ => False
theorem ne_left (B : XB X c W N sc (k + 1) bb) (hE : OwnD c.toWd C "__eq__" j s) (hN : NeC c.toWd C) (hj : j ≤ k) : OpE X c W (compareOp .NotEq) (oNeL c.toWd C s) := by
  intro pins st σ H u v x y dx dy G δ P E Q I r1 r2 R p1 p2 q kp ke
  cases dx with
  | ins C' fs =>
    obtain ⟨rfl, nf, hs⟩ := q
    obtain ⟨xa, dd, vs, rfl, hG⟩ := rep_ins p1
    cases (show x = Value.ref xa from r1)
    obtain ⟨od, J⟩ := insAt I (R.le _ _ hG)
    obtain ⟨t, hn, ht⟩ := looksTy B I R.le p2 r2 nf
    obtain ⟨f, F, h1, h2⟩ := hE.ex
    show wpAny _ _ (richCompare .NotEq (.ref xa) y) _ _ _
    refine rc_left (op := .NotEq) (by have := units1 B; omega) I.kIn J ht (by rw [B.hK]; exact hn) (try_ne I.kIn J (by rw [B.hK]; exact h1) (by rw [B.hK]; exact h2) (by rw [B.hK]; exact hN.ne) (by rw [B.hK]; exact hN.ob) (by have := units1 B; omega)
      (wpAny_mono (runD (A := X.A.in1) (ks := []) (ws := []) (zs := []) (vs := [.ref xa, v]) (us := [.ref xa, y]) (Q := fun w H' => ∃ b, w = .bl b ∧ Q (.bl (!b)) H') B F (B.room.in1.mono hj) B.gd rfl I (.cons rfl (.cons r2 .nil)) .nil rfl R (.cons p1 (.cons p2 .nil)) .nil hs (fun d z' w G' H' ⟨b, e, hp⟩ L R' rr => ?_) ke) (fun w s' ⟨wv, H', I', rw', b, e, hq⟩ => ?_) fun _ _ z => z))
    · subst e
      cases rr
      exact ⟨b, rfl, kp _ z' _ G' H' hp L R' (.bl _)⟩
    · subst e
      cases (show w = Value.bool b from rw')
      exact ⟨b, rfl, .bl (!b), H', I', rfl, hq⟩
  | _ => exact q.elim
end
end DL

/-! ELP: in, not in: an own __eq__ on the right side of each comparison, or plain data. -/
namespace DL
open PySem L2 PySem.Spec PyProof.Rows PySem.SeqAt MeetsSeq
section
variable {prog : Program} {w : World} {A : Around} {R : Result → Shared → Prop} {E : Value → Shared → Prop}
/-- at each turn the list is read anew -/
def InI (prog : Program) (w : World) (A : Around) (E : Value → Shared → Prop) (l : Addr) (x : Value) (N : Nat) (I : Nat → Shared → Prop) (T : Shared → Prop) : Prop :=
  ∀ i s, I i s → ∃ (items : Array Value) (n : Nat), s.heap.get? l = some { cls := .type "list", data := .seq items n } ∧ items.size = N ∧
    ∀ (h : i < items.size), wpAny (model prog w) A.in1 (eqBool items[i] x) (fun r s' => if r = true then T s' else I (i + 1) s') E s
theorem in_loopG (l : Addr) (x : Value) (N : Nat) (I : Nat → Shared → Prop) (T : Shared → Prop) (hl : InI prog w A (fun e s' => R (.error e) s') l x N I T)
    (fin : ∀ s, I N s → R (.ok (.ret (.bool false))) s) (yes : ∀ s, T s → R (.ok (.ret (.bool true))) s) (k : Nat) :
    ∀ i : Nat, N - i = k → i ≤ N → ∀ s, I i s →
      wpAny (model prog w) A.in1 (Builtin.«list.__contains__.loop» ⟨[.ref l, x, rawInt i], []⟩) (GQ.FinOf prog w A R) (fun e s' => R (.error e) s') s := by
  induction k with
  | zero =>
    intro i hk hi s h
    obtain ⟨items, n, hl1, hs1, _⟩ := hl _ _ h
    have hi' : i = N := by omega
    have hR : R (.ok (.ret (.bool false))) s := fin s (hi' ▸ h)
    obtain ⟨hp, g, d, tk, os⟩ := s
    wp_walk using AutoSeq1.wpAny_loadPart' hl1
    have hi1 : items[((i : Nat) : Int).toNat]? = none := by simp; omega
    rw [hi1]
    wp_walk
    exact hR
  | succ k ih =>
    intro i hk hi s h
    obtain ⟨items, n, hl1, hs1, turn⟩ := hl _ _ h
    have hlt : i < items.size := by omega
    have ht := turn hlt
    obtain ⟨hp, g, d, tk, os⟩ := s
    wp_walk using AutoSeq1.wpAny_loadPart' hl1
    have hi1 : items[((i : Nat) : Int).toNat]? = some items[i] := by simp [hlt]
    have hc : ((i : Int) + 1) = ((i + 1 : Nat) : Int) := by omega
    rw [hi1]
    refine wpAny_bind (wpAny_mono ht (fun r s2 h2 => ?_) fun _ _ x => x)
    cases r with
    | true =>
      rw [if_pos rfl] at h2
      have hR := yes s2 h2
      obtain ⟨hp2, g2, d2, tk2, os2⟩ := s2
      wp_walk
      exact hR
    | false =>
      rw [if_neg (by simp)] at h2
      have hrec := ih (i + 1) (by omega) (by omega) s2 h2
      obtain ⟨hp2, g2, d2, tk2, os2⟩ := s2
      wp_walk
      rw [hc]
      exact ⟨plainId_quiet plain_contains_loop _, codeAny_builtin entry_contains_loop (by
        rw [Around.under_plainId plain_contains_loop _]
        exact hrec)⟩
theorem list_inG (l : Addr) (x : Value) (N : Nat) (I : Nat → Shared → Prop) (T : Shared → Prop) (hl : InI prog w A (fun e s' => R (.error e) s') l x N I T)
    (fin : ∀ s, I N s → R (.ok (.ret (.bool false))) s) (yes : ∀ s, T s → R (.ok (.ret (.bool true))) s) {s : Shared} (h : I 0 s) :
    wpAny (model prog w) A.in1 (Builtin.«list.__contains__» ⟨[.ref l, x], []⟩) (GQ.FinOf prog w A R) (fun e s' => R (.error e) s') s := by
  have hrec := in_loopG (A := A) (R := R) l x N I T hl fin yes _ 0 rfl (Nat.zero_le _) s h
  obtain ⟨items, n, hl1, hs1, _⟩ := hl _ _ h
  obtain ⟨hp, g, d, tk, os⟩ := s
  wp_walk using AutoSeq1.wpAny_loadPart' hl1
  exact ⟨plainId_quiet plain_contains_loop _, codeAny_builtin entry_contains_loop (by
    rw [Around.under_plainId plain_contains_loop _]
    exact hrec)⟩
theorem contains_listG {l : Addr} {x : Value} {N : Nat} {Q : Bool → Shared → Prop} {s : Shared} (I : Nat → Shared → Prop) (T : Shared → Prop) (hl : InI prog w A E l x N I T) (fin : ∀ s, I N s → Q false s) (yes : ∀ s, T s → Q true s) (h : I 0 s) :
    wpAny (model prog w) A (contains (.ref l) x) Q E s := by
  obtain ⟨items, n, hl1, hs1, _⟩ := hl _ _ h
  refine wpAny_contains_slot ⟨_, hl1, rfl⟩ F.slot_list_contains (wpAny_mono (GQ.call_here (Q := fun v s' => ∃ b, v = .bool b ∧ Q b s') F.slot_list_contains ⟨_, hl1, rfl⟩ F.entry_list_contains (F.args_list_contains_2 _ _)
    (list_inG (R := wants (fun v s' => ∃ b, v = .bool b ∧ Q b s') E) l x N I T hl (fun s' q => ⟨_, rfl, fin s' q⟩) (fun s' q => ⟨_, rfl, yes s' q⟩) h)) (fun v s' hv => ?_) fun _ _ e => e)
  obtain ⟨b, rfl, hq⟩ := hv
  exact wpAny_truthy_bool hq
end
/-- a class that is below none of the built-in types of plain data -/
structure BtC (c : Wd) (C : Addr) : Prop where
  bt : ∀ T, T ∈ ["NoneType", "bool", "int", "str", "list", "tuple", "dict"] → PySem.W.mroIn c.K C (.type T) = some false
section
variable {X : Cx} {c : Fr} {W : WX} {N : List Str} {sc : Scope} {k j : Nat} {bb : Bool} {e a b : Expr} {es : List Expr} {pos p : Pos} {r ra rb : DTE} {rs : DTA} {x : Str} {C : Addr} {s : DSp2}
/-- == within a container -/
theorem eqB_of {M : Model} {A : Around} {E : Value → Shared → Prop} {st : Shared} {a : Value} {x : Addr} {Q : Bool → Shared → Prop} (hne : a ≠ .ref x) (h : wpAny M A (richCompare .Eq a (.ref x)) (fun v s' => ∃ r, v = .bool r ∧ Q r s') E st) : wpAny M A (eqBool a (.ref x)) Q E st := by
  unfold eqBool
  refine wpAny_holding ?_
  refine wpAny_ite_split (fun hab => absurd (eq_of_beq hab) hne) (fun _ => ?_)
  have fin : wpAny M A (richCompare .Eq a (.ref x) >>= fun v => truthOfDropped v) Q E st := wpAny_bind (wpAny_mono h (fun v s' hv => by
    obtain ⟨r, rfl, q⟩ := hv
    exact wpAny_truthy_bool q) fun _ _ x => x)
  cases a <;> exact fin
/-- plain data, == : the left side declines -/
theorem declines (B : XB X c W N sc k bb) (hE : BtC c.toWd C) {A : Around} (hu : A.units < cLine) {pins : List (Addr × Obj)} {st : Shared} {σ : L2.St} {G H : Hp} (I : Inv X pins σ H st) (le : Le G H) {y : V} {v : Value} {dy : D} (py : plain dy 40 = true) (ry : Rep c.K c.p0 G y dy) (rv : RelV y v) {xa dx : Addr} {vs : List (Str × V)} (hx : H xa = some (.ins C dx vs)) :
    v ≠ .ref xa ∧ ∃ T, PySem.W.mroIn c.K C (.type T) = some false ∧ PySem.W.Looks (model X.prog X.w) st.heap (typeOf v) (.type T) ∧ oneThing? .Eq v (.ref xa) = none ∧ ∀ E, wpAny (model X.prog X.w) A (tryCompare v "__eq__" (.ref xa)) (fun r s' => r = none ∧ s' = st) E st := by
  obtain ⟨od, J⟩ := insAt I hx
  have hob := J.at_
  have one : ∀ {z : Value}, (∀ f t, z ≠ .float f t) → True := fun _ => trivial
  have lk : ∀ {z : Value} {T : String}, st.TypeIs z T → PySem.W.Looks (model X.prog X.w) st.heap (typeOf z) (.type T) := fun {z T} h => by
    intro A Q E s' kk q
    refine wpAny_typeOf ?_ q
    cases z with
    | ref a => obtain ⟨o, h1, h2⟩ := h; exact ⟨o, kk _ _ h1, h2⟩
    | _ => exact h
  cases ry with
  | non =>
    cases (show v = Value.none from rv)
    exact ⟨by simp, "NoneType", hE.bt _ (by simp), lk rfl, rfl, fun E => wpAny_tryCompare_declines (show st.TypeIs .none "NoneType" from rfl) F.slot_NoneType_eq (call_meets F.slot_NoneType_eq rfl F.entry_NoneType_eq (F.args_NoneType_eq_2 _ _) (none_declines_own xa C dx) ⟨hob, rfl, rfl, rfl⟩)⟩
  | bl b =>
    cases (show v = Value.bool b from rv)
    exact ⟨by simp, "bool", hE.bt _ (by simp), lk rfl, rfl, fun E => wpAny_tryCompare_declines (show st.TypeIs (.bool b) "bool" from rfl) F.slot_bool_eq (call_meets F.slot_bool_eq rfl F.entry_int_eq (F.args_int_eq_2 _ _) (bool_declines_own xa C dx b) ⟨hob, rfl, rfl, rfl⟩)⟩
  | int i =>
    obtain ⟨t, rfl⟩ := (show ∃ t, v = Value.int i t from rv)
    exact ⟨by simp, "int", hE.bt _ (by simp), lk (typeIs_int st i t), rfl, fun E => wpAny_tryCompare_declines (typeIs_int st i t) F.slot_int_eq (call_meets F.slot_int_eq (typeIs_int st i t) F.entry_int_eq (F.args_int_eq_2 _ _) (int_declines_own xa C dx i t) ⟨hob, rfl, rfl, rfl⟩)⟩
  | str y =>
    obtain ⟨t, rfl⟩ := (show ∃ t, v = Value.str y t from rv)
    exact ⟨by simp, "str", hE.bt _ (by simp), lk (typeIs_str st y t), rfl, fun E => wpAny_tryCompare_declines (typeIs_str st y t) F.slot_str_eq (call_meets F.slot_str_eq (typeIs_str st y t) F.entry_str_eq (F.args_str_eq_2 _ _) (str_declines_own xa C dx y t) ⟨hob, rfl, rfl, rfl⟩)⟩
  | @lst l ws zs h1 r1 =>
    cases (show v = Value.ref l from rv)
    obtain ⟨us, v1, p1, _⟩ := I.list (le_l le (.inl h1))
    have hT : st.TypeIs (.ref l) "list" := p1.isList.typeIs
    refine ⟨fun z => ?_, "list", hE.bt _ (by simp), lk hT, oneThing_ref .., fun E => wpAny_tryCompare_declines hT F.slot_list_eq (call_meetsIn F.slot_list_eq hT F.entry_list_eq (F.args_list_eq_2 _ _) (list_declines_own (K := c.K) xa C dx l (hE.bt _ (by simp))) ⟨by rw [← B.hK]; exact I.kIn, hob, rfl, rfl, rfl⟩)⟩
    obtain ⟨o, h1, h2⟩ := hT
    cases z
    rw [hob] at h1; cases h1; cases h2
  | @tup l ws zs h1 r1 =>
    cases (show v = Value.ref l from rv)
    obtain ⟨us, v1, p1, _⟩ := I.tuple (le_t le (by rw [B.hK]; exact h1))
    have hT : st.TypeIs (.ref l) "tuple" := p1.typeIs
    refine ⟨fun z => ?_, "tuple", hE.bt _ (by simp), lk hT, oneThing_ref .., fun E => wpAny_tryCompare_declines hT F.slot_tuple_eq (call_meetsIn F.slot_tuple_eq hT F.entry_tuple_eq (F.args_tuple_eq_2 _ _) (tuple_declines_own (K := c.K) xa C dx l (hE.bt _ (by simp))) ⟨by rw [← B.hK]; exact I.kIn, hob, rfl, rfl, rfl⟩)⟩
    obtain ⟨o, h1, h2⟩ := hT
    cases z
    rw [hob] at h1; cases h1; cases h2
  | @dct l ws zs h1 r1 =>
    cases (show v = Value.ref l from rv)
    obtain ⟨es, ep, dd, sl, ho⟩ := (dic_of I le h1).2.2
    have hT : st.TypeIs (.ref l) "dict" := ⟨_, ho, rfl⟩
    refine ⟨fun z => ?_, "dict", hE.bt _ (by simp), lk hT, oneThing_ref .., fun E => wpAny_tryCompare_declines hT F.slot_dict_eq (call_meetsIn F.slot_dict_eq hT F.entry_dict_eq (F.args_dict_eq_2 _ _) (dict_declines_own (K := c.K) xa C dx l es ep dd sl (hE.bt _ (by simp))) ⟨by rw [← B.hK]; exact I.kIn, hob, ho, rfl, rfl, rfl⟩)⟩
    cases z
    rw [hob] at ho; cases ho
  | ref _ => simp [plain] at py
  | ty _ => simp [plain] at py
  | pen => simp [plain] at py
  | ins _ _ => simp [plain] at py
  | obj _ => simp [plain] at py
  | exc0 _ => simp [plain] at py
  | exc _ _ _ => simp [plain] at py


/-- x == y, x plain, y an instance of C -/
def oRgt (C : Addr) (s : DSp2) : DOpE := fun x y z P E => match y with
  | .ins C' fs => C' = C ∧ plain x 40 = true ∧ s [.ins C' fs, x] [] z P E
  | _ => False
theorem eq_right (B : XB X c W N sc k bb) (hE : OwnD c.toWd C "__eq__" j s) (hT : BtC c.toWd C) (hj : j ≤ k) : OpE X c W (compareOp .Eq) (oRgt C s) := by
  intro pins st σ H u v x y dx dy G δ P E Q I r1 r2 R p1 p2 q kp ke
  cases dy with
  | ins C' fs =>
    obtain ⟨rfl, px, hs⟩ := q
    obtain ⟨xa, dd, vs, rfl, hG⟩ := rep_ins p2
    cases (show y = Value.ref xa from r2)
    obtain ⟨hne, T, hm, ht, h1t, dec⟩ := declines B hT (A := X.A) (by have := units1 B; omega) I R.le px p1 r1 (R.le _ _ hG)
    obtain ⟨od, J⟩ := insAt I (R.le _ _ hG)
    obtain ⟨f, F, f1, f2⟩ := hE.ex
    show wpAny _ _ (richCompare .Eq x (.ref xa)) _ _ _
    exact rc_right (by have := units1 B; omega) I.kIn J ht (by rw [B.hK]; exact hm) h1t (dec _) (tryOwn I.kIn J (by rw [B.hK]; exact f1) (by rw [B.hK]; exact f2)
      (wpAny_mono (runD (ks := []) (ws := []) (zs := []) (vs := [.ref xa, u]) (us := [.ref xa, x]) B F (B.room.mono hj) B.gd rfl I (.cons rfl (.cons r1 .nil)) .nil rfl R (.cons p2 (.cons p1 .nil)) .nil hs kp ke) (fun _ _ z => noNI z id) fun _ _ z => z))
  | _ => exact q.elim
end
end DL

/-! ELQ: the pen: its cells, how many were begun, the rest of a great one. -/
namespace DL
open PySem L2 PySem.Spec PyProof.Rows PySem.SeqAt
section
variable {X : Cx} {c : Fr} {W : WX} {N : List Str} {sc : Scope} {k j : Nat} {bb : Bool} {e a b : Expr} {es : List Expr} {pos p p2 : Pos} {r ra rb : DTE} {rs : DTA} {x : Str}
/-- the pen's contents change -/
theorem StOk.pen {c : Wd} {G H : Hp} {z : Z} (s : StOk c G H z) {q : Addr} {b : Nat} {r : Int} {n : Nat} (hq : Rd G q (.lst (c.cs.map V.int))) (hz : b + n ≤ 1000000) (hl : c.cs.length ≤ 63) : StOk c G (upd H c.p0 (.lst [.ref q, .int (b : Int), .int r])) { z with fu := n } := by
  obtain ⟨q0, b0, r0, cs0, hp0, _⟩ := s.pn
  have gp := s.sg _ (.inl rfl)
  refine ⟨fun a u e => ?_, ⟨q, b, r, c.cs, upd_same, ⟨hq, rfl⟩, hz, hl⟩, fun p m => ?_, fun a h => s.sg a h, fun a cl m => ?_, s.nt⟩
  · rw [upd_ne (show a ≠ c.p0 from fun z => by rw [z, gp] at e; cases e)]; exact s.le a u e
  · obtain ⟨ps, h1, h2, h3⟩ := s.tb p m
    refine ⟨ps, by rw [upd_ne (show p.1 ≠ c.p0 from fun e => by rw [e, hp0] at h1; cases h1)]; exact h1, h2, fun pos cv hc => ?_⟩
    obtain ⟨cc, e1, e2⟩ := h3 pos cv hc
    exact ⟨cc, e1, by rw [upd_ne (fun e => by rw [e, hp0] at e2; exact lst_code _ _ (Option.some.inj e2))]; exact e2⟩
  · obtain ⟨k1, k2, k3⟩ := s.ms a cl m
    exact ⟨k1.mono (Le.refl _) (by rw [upd_ne k2]), k2, k3⟩
theorem Rel.pen {G H : Hp} {σ : L2.St} {δ : S} (R : Rel c G H σ δ) {q : Addr} {b : Nat} {z : Int} {n : Nat} (hq : Rd G q (.lst (c.cs.map V.int))) (hz : b + n ≤ 1000000) (hl : c.cs.length ≤ 63) : Rel c G (upd H c.p0 (.lst [.ref q, .int (b : Int), .int z])) σ { δ with z := { δ.z with fu := n } } := by
  have g : Go (Spf c.toWd δ σ) (Spf c.toWd { δ with z := { δ.z with fu := n } } σ) G H G (upd H c.p0 (.lst [.ref q, .int (b : Int), .int z])) := by
    refine ⟨Le.refl _, fun a u e h => ?_, fun a u e => ?_, fun _ _ h => .inl h, fun a h => .inl h⟩
    · rw [upd_ne (show a ≠ c.p0 from fun z => h (.inl (.inl z)))]; exact e
    · by_cases ne : a = c.p0
      · subst ne; exact ⟨_, upd_same⟩
      · exact ⟨u, by rw [upd_ne ne]; exact e⟩
  refine ⟨R.st.pen hq hz hl, R.go.trans g, R.len, fun i s h => (R.sl i s h).mono (Le.refl _) fun a u _ _ ha hg hs => ⟨by rw [upd_ne (show a ≠ c.p0 from fun z => hs (.inl z))]; exact ha, hg, hs⟩, R.uq⟩
theorem penV {K : PySem.W.Frag} {p0 : Addr} {G : Hp} {v : V} (h : Rep K p0 G v .pen) : v = .ref p0 := by cases h; rfl
theorem cellsD {K : PySem.W.Frag} {p0 : Addr} {G : Hp} : ∀ (cs : List Int), RepL K p0 G (cs.map V.int) (cs.map D.int)
  | [] => .nil
  | i :: r => .cons (.int i) (cellsD r)
def isPen (δ : S) (i : Nat) : Prop := δ.sl[i]? = some (.d .pen)
/-- pen[0], pen[1], pen[2] -/
def dPen (w : Wd) (i : Nat) (ix : Int) : DTE := fun δ P _ => isPen δ i ∧ (if ix = 0 then w.cs.length ≤ 63 → P (.lst (w.cs.map D.int)) δ else if ix = 1 then ∀ b : Nat, b + δ.z.fu ≤ 1000000 → P (.int (b : Int)) δ else if ix = 2 then ∀ z : Int, P (.int z) δ else False)
theorem de_pen {i : Nat} {x : Str} {ix : Int} {jx} {pos' : Pos} (B : XB X c W N sc k bb) (hN : N[i]? = some x) (hv : Vis sc x) (hd : (x == ("__debug__" : Str)) = false := by decide) (hcd : (x == ("__classdict__" : Str)) = false := by decide) :
    DE X c W (.Subscript (.Name x p) (.Constant (.int ix) jx pos') pos) (dPen c.toWd i ix) :=
  peI (pe_ix ix_seq (pe_var (i := i) (by rw [B.hN]; exact hN) (by rw [B.hs]; exact hv) hd hcd) pe_int (fun _ _ => rfl)) fun σ H Q ⟨G, δ, P, E, R, ⟨ip, h⟩, kk, x⟩ => by
    obtain ⟨v, h1, h2⟩ := R.sl i _ ip
    have ev := penV h2
    subst ev
    obtain ⟨q, b, z, cs, q1, ⟨q2, q3⟩, q4, q5⟩ := R.pn
    subst q3
    refine ⟨_, at_some h1, .inl ⟨c.p0, [.ref q, .int (b : Int), .int z], ix, ?_⟩⟩
    by_cases i0 : ix = 0
    · subst i0
      rw [if_pos rfl] at h
      exact ⟨.ref q, rfl, rfl, .inl (.inl q1), rfl, kk _ δ _ G H (h q5) Go.refl R (.lst q2 (cellsD _))⟩
    · rw [if_neg i0] at h
      by_cases i1 : ix = 1
      · subst i1
        rw [if_pos rfl] at h
        exact ⟨.int b, rfl, rfl, .inl (.inl q1), rfl, kk _ δ _ G H (h b q4) Go.refl R (.int _)⟩
      · rw [if_neg i1] at h
        by_cases i2 : ix = 2
        · subst i2
          rw [if_pos rfl] at h
          exact ⟨.int z, rfl, rfl, .inl (.inl q1), rfl, kk _ δ _ G H (h z) Go.refl R (.int _)⟩
        · rw [if_neg i2] at h; exact h.elim
/-- pen[1] = .., pen[2] = .. -/
def gPen (i : Nat) (ix : Int) : DTG := fun d δ P => isPen δ i ∧ (match d with
  | .int v => if ix = 1 then ∃ b n : Nat, v = (b : Int) ∧ b + n ≤ 1000000 ∧ P { δ with z := { δ.z with fu := n } } else if ix = 2 then ∃ n : Nat, n ≤ δ.z.fu ∧ P { δ with z := { δ.z with fu := n } } else False
  | _ => False)
theorem dg_pen {i : Nat} {x : Str} {ix : Int} {jx} {pos' : Pos} (B : XB X c W N sc k bb) (hN : N[i]? = some x) (hv : Vis sc x) (hd : (x == ("__debug__" : Str)) = false := by decide) (hcd : (x == ("__classdict__" : Str)) = false := by decide) :
    DG X c (.Subscript (.Name x p) (.Constant (.int ix) jx pos') pos) (gPen i ix) :=
  pgI (pg_sub (pe_var (i := i) (by rw [B.hN]; exact hN) (by rw [B.hs]; exact hv) hd hcd) pe_int set_list) fun v σ H Q ⟨G, δ, d, P, R, r, ⟨ip, h⟩, kk⟩ => by
    obtain ⟨w, h1, h2⟩ := R.sl i _ ip
    have ev := penV h2
    subst ev
    obtain ⟨q, b, z, cs, q1, ⟨q2, q3⟩, q4, q5⟩ := R.pn
    subst q3
    refine ⟨_, at_some h1, c.p0, [.ref q, .int (b : Int), .int z], ix, ?_⟩
    cases r with
    | int v =>
      by_cases i1 : ix = 1
      · subst i1
        simp only [if_true] at h
        obtain ⟨b', n, e, hz, hp⟩ := h
        subst e
        exact ⟨1, rfl, rfl, q1, rfl, kk _ G _ _ hp (Le.refl _) (R.pen q2 hz q5)⟩
      · simp only [i1, if_false] at h
        by_cases i2 : ix = 2
        · subst i2
          simp only [if_true] at h
          obtain ⟨n, hn, hp⟩ := h
          exact ⟨2, rfl, rfl, q1, rfl, kk _ G _ _ hp (Le.refl _) (R.pen q2 (by omega) q5)⟩
        · simp only [i2, if_false] at h
    | _ => exact h.elim
/-- what a draw gives -/
def sDraw : DSp := fun ds z P _ => ∃ m : Int, ds = [.pen, .int m] ∧ 0 < m ∧ m < 2 ^ 200 ∧ 0 < z.fu ∧ ∀ v : Int, 0 ≤ v → v < m → P (.int v) { z with fu := z.fu - 1 }
end
end DL

/-! ELR: small rules; the law's end. -/
namespace DL
open PySem L2 PySem.Spec PyProof.Rows PySem.SeqAt
section
variable {X : Cx} {c : Fr} {W : WX} {N : List Str} {sc : Scope} {k j : Nat} {bb : Bool} {e a b : Expr} {es : List Expr} {pos p p2 : Pos} {r ra rb : DTE} {rs : DTA} {x : Str} {t : DTS} {st : Stmt} {sts : List Stmt}
/-- {} -/
theorem de_dct0 : DE X c W (.Dict [] [] pos) (dC (.dct [])) := peI pe_dnewK fun σ H Q ⟨G, δ, P, E, R, h, kk, x⟩ p hp =>
  kk _ δ _ _ _ h (R.newG hp) (R.laid' hp) (.dct (.inl upd_same) .nil)
/-- {text: int} -/
theorem de_dct1 {z : Str} {i : Int} {j1 j2 : Nat} {p3 p4 : Pos} : DE X c W (.Dict [some (.Constant (.str z) j1 p3)] [.Constant (.int i) j2 p4] pos) (dC (.dct [(.inr z, .int i)])) :=
  peI (pe_disp (pps_cons pe_str pe_int pps_nil) rfl rfl (by simp) (by simp)) fun σ H Q ⟨G, δ, P, E, R, h, kk, x⟩ p hp => by
    refine ⟨upd_same, [(.inr z, V.int i)], rfl, by simp, ?_⟩
    have e : upd (upd H p (.dK [])) p (.dK (mergeK [] [(Sum.inr z, V.int i)])) = upd H p (.dK [((.inr z : Key), V.int i)]) := by
      funext a
      by_cases q : a = p
      · subst q; rw [upd_same, upd_same]; rfl
      · rw [upd_ne q, upd_ne q, upd_ne q]
    rw [e]
    exact kk _ δ _ _ _ h (R.newG hp) (R.laid' hp) (.dct (.inl upd_same) (.cons (.int i) .nil))
/-- names, by sight -/
theorem dv {i : Nat} {x : Str} (B : XB X c W N sc k bb) (hN : N[i]? = some x := by rfl) (hv : Vis sc x := by first | exact Or.inl rfl | exact Or.inr (Or.inl rfl) | exact Or.inr (Or.inr rfl)) (hd : (x == ("__debug__" : Str)) = false := by decide) (hcd : (x == ("__classdict__" : Str)) = false := by decide) : DE X c W (.Name x pos) (dVar i) := de_var B hN hv hd hcd
theorem dset {i : Nat} {x : Str} {pos' : Pos} (B : XB X c W N sc k false) (he : DE X c W e r) (hi : N[i]? = some x := by rfl) (hx : Loc sc x := by first | exact Or.inl rfl | exact Or.inr rfl) (hs : swapsWith e (some (.Name x pos')) pos.line X.env = pure false := by rfl) : DS X c W (.Assign [.Name x pos'] e pos) (dSet i r) := ds_set B hi hx he hs
theorem dgn {i : Nat} {x : Str} (B : XB X c W N sc k false) (hi : N[i]? = some x := by rfl) (hx : Loc sc x := by first | exact Or.inl rfl | exact Or.inr rfl) : DG X c (.Name x pos) (gN i) := dg_name B hi hx
theorem dcp {op : CmpOp} {o : DOp} (ho : OpD X c (compareOp op) o) (ha : DE X c W a ra) (hb : DE X c W b rb) (hm : behindInMarks op b = false := by first | exact nobehind _ (by decide) (by decide) | rfl) : DE X c W (.Compare a [op] [b] pos) (dBin o ra rb) := de_cmp ho ha hb hm
theorem dtc {op : CmpOp} {o : DOp} (ho : OpD X c (compareOp op) o) (ha : DE X c W a ra) (hb : DE X c W b rb) (hm : behindInMarks op b = false := by first | exact nobehind _ (by decide) (by decide) | rfl) : DT X c W (.Compare a [op] [b] pos) (dTB (dBin o ra rb)) := dt_cmp ho ha hb hm
/-! ### how a call's values fall to the parameters -/
def pick {α : Type} (ix : List Nat) (l : List α) : List α := ix.filterMap fun i => l[i]?
theorem Vals.pick {vs : List V} {us : List Value} (h : Vals vs us) : ∀ ix : List Nat, Vals (pick ix vs) (pick ix us)
  | [] => .nil
  | i :: ix => by
    unfold DL.pick
    rw [List.filterMap_cons, List.filterMap_cons]
    cases e : vs[i]? with
    | none =>
      have e2 : us[i]? = none := by
        rw [List.getElem?_eq_none_iff] at e ⊢
        rw [← h.length]; exact e
      rw [e2]
      exact Vals.pick h ix
    | some v =>
      obtain ⟨u, h1, h2⟩ := h.get e
      rw [h1]
      exact .cons h2 (Vals.pick h ix)
theorem RepL.pick {K : PySem.W.Frag} {p0 : Addr} {G : Hp} {vs : List V} {ds : List D} (h : RepL K p0 G vs ds) : ∀ ix : List Nat, RepL K p0 G (pick ix vs) (pick ix ds)
  | [] => .nil
  | i :: ix => by
    unfold DL.pick
    rw [List.filterMap_cons, List.filterMap_cons]
    cases e : ds[i]? with
    | none =>
      have e2 : vs[i]? = none := by
        rw [List.getElem?_eq_none_iff] at e ⊢
        rw [h.len]; exact e
      rw [e2]
      exact RepL.pick h ix
    | some d =>
      obtain ⟨u, h1, h2⟩ := h.get e
      rw [h1]
      exact .cons h2 (RepL.pick h ix)
theorem Vals.app : ∀ {vs : List V} {us : List Value} {zs : List V} {ws : List Value}, Vals vs us → Vals zs ws → Vals (vs ++ zs) (us ++ ws)
  | _, _, _, _, .nil, h => h
  | _, _, _, _, .cons a b, h => .cons a (Vals.app b h)
/-- a def without defaults: n values, the keywords ks; the parameters from ix -/
theorem shape_of {w : Wd} {x qual : Str} {st : Stmt} {f : Addr} {fd : FuncData} {ps ks : List Str} {n : Nat} (F : Fun w.K x qual st f fd) (ix : List Nat)
    (h : ∀ (kV doc pm : Value) (an : Option Addr) (cdv ct : Value) (us ws : List Value), us.length = n → ws.length = ks.length → bindArgs (PySem.W.fnOf x qual (defArgs st) (defBody st) (defScope st) .none kV doc pm an cdv ct) ⟨us, ks.zip ws⟩ = pure (ps.zip (pick ix (us ++ ws)))) :
    Shape w fd ps n ks (fun ds es => pick ix (ds ++ es)) := by
  obtain ⟨oc, od, kV, doc, pm, an, cdv, ct, osl, rfl, lk, hcd⟩ := F.ex
  exact ⟨_, _, ⟨fun s us ws _ h1 h2 => .of_eq (h kV doc pm an cdv ct us ws h1 h2), fun r1 r2 => Vals.pick (Vals.app r1 r2) ix⟩, fun G vs zs ds es r1 r2 => RepL.pick (r1.app r2) ix⟩
/-- all by place -/
theorem shape_0 {w : Wd} {x qual : Str} {st : Stmt} {f : Addr} {fd : FuncData} {ps : List Str} {n : Nat} (F : Fun w.K x qual st f fd)
    (h : ∀ (kV doc pm : Value) (an : Option Addr) (cdv ct : Value) (us : List Value), us.length = n → bindArgs (PySem.W.fnOf x qual (defArgs st) (defBody st) (defScope st) .none kV doc pm an cdv ct) ⟨us, []⟩ = pure (ps.zip us)) :
    Shape w fd ps n [] (fun ds _ => ds) := by
  obtain ⟨oc, od, kV, doc, pm, an, cdv, ct, osl, rfl, lk, hcd⟩ := F.ex
  exact ⟨fun us _ => us, fun vs _ => vs, ⟨fun s us ws _ h1 h2 => by
    have e : ws = [] := List.length_eq_zero_iff.mp h2
    subst e
    exact .of_eq (h kV doc pm an cdv ct us h1), fun r1 _ => r1⟩, fun G vs zs ds es r1 _ => r1⟩
theorem kbn_0 {K : PySem.W.Frag} {x qual : Str} {st : Stmt} {f : Addr} {fd : FuncData} {ps : List Str} {n : Nat} (F : Fun K x qual st f fd)
    (h : ∀ (kV doc pm : Value) (an : Option Addr) (cdv ct : Value) (us : List Value), us.length = n → bindArgs (PySem.W.fnOf x qual (defArgs st) (defBody st) (defScope st) .none kV doc pm an cdv ct) ⟨us, []⟩ = pure (ps.zip us)) :
    KBn K fd ps n [] (fun us _ => us) (fun vs _ => vs) := by
  obtain ⟨oc, od, kV, doc, pm, an, cdv, ct, osl, rfl, lk, hcd⟩ := F.ex
  exact ⟨fun s us ws _ h1 h2 => by
    have e : ws = [] := List.length_eq_zero_iff.mp h2
    subst e
    exact .of_eq (h kV doc pm an cdv ct us h1), fun r1 _ => r1⟩
theorem fun_d {K : PySem.W.Frag} {x qual : Str} {st : Stmt} {f : Addr} {fd : FuncData} (F : Fun K x qual st f fd) : FunD K x qual (defArgs st) (defBody st) (defScope st) [] [] f fd := by
  obtain ⟨oc, od, kV, doc, pm, an, cdv, ct, osl, rfl, lk, hcd⟩ := F.ex
  exact ⟨⟨oc, od, .none, kV, doc, pm, an, cdv, ct, osl, rfl, lk, hcd, .inl ⟨rfl, rfl⟩, .inl rfl⟩, F.kp⟩
/-! ### the pen's making -/
/-- the pen is new: the script's cells, nothing begun -/
def spPen (K : PySem.W.Frag) : Sp := fun vs H Q _ => ∃ (l : Addr) (ns : List Int), vs = [.ref l] ∧ SqL K H l (ns.map V.int) ∧ ns.length ≤ 63 ∧
  ∀ (p q : Addr) (H' : Hp), Ext H H' → H p = none → H q = none → p ≠ q → H' q = some (.lst (ns.map V.int)) → H' p = some (.lst [.ref q, .int 0, .int 0]) → Q (.ref p) H'
/-- any frame that bears the world -/
def liftAny (K0 : Wd → Prop) (Wx : WX) (t : Wd → DTS) : TS := fun D σ H => ∃ cf : Fr, K0 cf.toWd ∧ liftS cf Wx (t cf.toWd) D σ H
theorem pss_any {K0 : Wd → Prop} {Wx : WX} {t : Wd → DTS} (h : ∀ cf : Fr, K0 cf.toWd → DSs X cf Wx sts (t cf.toWd)) : PSs X sts (liftAny K0 Wx t) := ⟨fun pins s σ H D I ⟨cf, k0, q⟩ => (h cf k0).run pins s σ H D I q⟩
def lawWd (P : Program) (w : World) (K : PySem.W.Frag) (mg : Str → Option Value) (base : Heap) (p : Addr) (cs : List Int) (tb : List (Addr × Str)) : Wd := ⟨P, w, K, mg, base, p, cs, tb⟩
def lawN : DN := { nx := fun _ => False, rt := fun d _ => d = .bl true, bk := fun _ => False, ct := fun _ => False, ex := fun _ _ => False }
def z0 : Z := ⟨1000000, fun _ => none⟩
/-- the frame behind the pen's making -/
theorem rel_law {P : Program} {w : World} {K : PySem.W.Frag} {mg : Str → Option Value} {base : Heap} {H : Hp} {p q : Addr} {ns : List Int} {n : Nat} {v0 : V} {tb : List (Addr × Str)} (hl : ns.length ≤ 63) (hpq : p ≠ q) (h1 : H q = some (.lst (ns.map V.int))) (h2 : H p = some (.lst [.ref q, .int 0, .int 0]))
    (ht : ∀ x ∈ tb, H x.1 = some (.tbl #[])) :
    Rel (frOf (lawWd P w K mg base p ns tb) (upd (fun _ => none) q (.lst (ns.map V.int))) H z0 [p]) (upd (fun _ => none) q (.lst (ns.map V.int))) H (some v0 :: some (.ref p) :: List.replicate n none) ⟨.un :: .d .pen :: List.replicate n .un, z0⟩ := by
  have gz : ∀ a o, upd (fun _ => (none : Option HO)) q (.lst (ns.map V.int)) a = some o → a = q ∧ o = .lst (ns.map V.int) := fun a o e => by
    by_cases z : a = q
    · subst z; rw [upd_same] at e; cases e; exact ⟨rfl, rfl⟩
    · rw [upd_ne z] at e; cases e
  have sl : ∀ (i : Nat) (s : Sl), (Sl.un :: Sl.d .pen :: List.replicate n Sl.un)[i]? = some s → s = .un ∨ (i = 1 ∧ s = .d .pen) := fun i s h => by
    match i, h with
    | 0, h => cases h; exact .inl rfl
    | 1, h => cases h; exact .inr ⟨rfl, rfl⟩
    | i + 2, h =>
      have e : (List.replicate n Sl.un)[i]? = some s := h
      rw [List.getElem?_replicate] at e
      split at e
      · cases e; exact .inl rfl
      · cases e
  have no : ∀ (i : Nat) (s : Sl), (Sl.un :: Sl.d .pen :: List.replicate n Sl.un)[i]? = some s → isOwn s = false := fun i s h => by
    rcases sl i s h with rfl | ⟨_, rfl⟩ <;> rfl
  refine ⟨⟨fun a o e => ?_, ⟨q, 0, 0, ns, h2, ⟨.inl upd_same, rfl⟩, by simp [z0], hl⟩, fun x hx => LamX.TabS.nil (ht x hx), fun a h => ?_, (fun a cl h => by cases h), fun a ps e => by obtain ⟨_, e2⟩ := gz a _ e; cases e2⟩,
    ⟨Le.refl _, fun _ _ h _ => h, fun _ o h => ⟨o, h⟩, fun _ _ h => .inl h, fun a h => .inl (.inl (h.elim id fun ⟨i, s, k1, k2, _⟩ => by rw [no i s k1] at k2; cases k2))⟩, by simp, fun i s h => ?_, fun i j a s t _ h1 _ o1 _ _ _ => by rw [no i s h1] at o1; cases o1⟩
  · obtain ⟨rfl, rfl⟩ := gz a o e; exact h1
  · refine upd_ne fun e => ?_
    subst e
    rcases h with h | h | h
    · exact hpq h.symm
    · exact h rfl
    · obtain ⟨x, hx, e⟩ := List.mem_map.mp h
      have := ht x hx
      rw [e, h1] at this; cases this
  · rcases sl i s h with rfl | ⟨rfl, rfl⟩
    · trivial
    · exact ⟨.ref p, rfl, .pen⟩
end
end DL

/-! ELS: the law as a whole. -/
namespace DL
open PySem L2 PySem.Spec PyProof.Rows PySem.SeqAt
section
variable {X : Cx} {W : WX} {N : List Str} {sc : Scope} {k j : Nat} {e a b : Expr} {es : List Expr} {pos p : Pos} {x : Str}
/-- a def is called that keeps a raw promise and lets nothing out -/
theorem pe_callG {c : Wd} {f : Addr} {fd : FuncData} {ps : List Str} {sp : Sp} {t : TA} {gD : List D → List D → List D} (h1 : X.prog = c.P) (h2 : X.w = c.w) (h3 : X.K = c.K) (h4 : X.mg = c.mg) (h5 : X.base = c.base) (hg0 : X.A.guards = some []) (hr : Room j X.A)
    (F : FnG c j f fd ps sp) (kp : PySem.W.keepIn c.K (.ref f) = true) {n : Nat} (kb : KBn c.K fd ps n [] (fun us _ => us) (fun vs _ => vs)) (hm : c.mg x = some (.ref f)) (hg : Gl X x) (ha : PA X (e :: es) t) (hn : ps.length = n)
    (hdb : (x == ("__debug__" : Str)) = false := by decide) (he : starEach (e :: es) X.env = (false, eval e X.env) :: starEach es X.env := by rfl) (hpl : (backTo pos (starEach es X.env)).any (·.1) = false := by rfl) :
    PE X (.Call (.Name x p) (e :: es) [] pos) (fun σ H Q => t σ H fun vs H1 => sp vs H1 Q (fun _ _ _ => False)) := by
  refine ⟨fun pins st σ H Q I h => ?_⟩
  refine wpAny_Call_Name_kw (ld_glob I hg (by rw [h4]; exact hm) ?_ hdb)
  refine PySem.W.callWith_K (h₀ := X.base) I.ok.mod.kin (by rw [h3]; exact kp) (thn (ha.run pos pins st σ H (fun vs H1 => sp vs H1 Q (fun _ _ _ => False)) I h) fun us s1 ⟨vs, H1, I1, rv, q⟩ => ⟨I1.kIn, ?_⟩) he hpl
  have E0 : Env0 c.P c.w c.K c.mg c.base X.A X.stack s1 H1 := by rw [← h1, ← h2, ← h3, ← h4, ← h5]; exact I1.env0
  have hl := F.len _ _ _ _ q
  have hu : us.length = n := by rw [← rv.length, hl, hn]
  rw [h1, h2]
  refine wpAny_call (codeAny_mono (F.run X.A X.stack s1 H1 ⟨us, []⟩ us vs Q _ hr hg0 E0 (kb.to s1 us [] (by rw [← h3]; exact I1.kIn) hu rfl) rv q) fun res s' hq => ?_)
  cases res with
  | error ee =>
    obtain ⟨_, _, _, _, _, _, _, _, _, _, _, _, z⟩ := hq
    exact z.elim
  | ok fl => rw [← h1, ← h2] at hq; cases fl <;> first | exact I1.after hq | exact hq.elim
end
/-- law's promise -/
def spLaw (K : PySem.W.Frag) (tb : List (Addr × Str)) : Sp := fun vs H Q _ => ∃ (a : Addr) (ns : List Int), vs = [.ref a] ∧ SqL K H a (ns.map V.int) ∧ ns.length ≤ 63 ∧ (∀ x ∈ tb, H x.1 = some (.tbl #[])) ∧ ∀ H', Q (.bl true) H'
def isLaw (P : Program) (w : World) (K : PySem.W.Frag) (mg : Str → Option Value) (base : Heap) (tb : List (Addr × Str)) (c : Wd) : Prop := ∃ p cs, c = lawWd P w K mg base p cs tb
theorem law_ok {P : Program} {w : World} {K : PySem.W.Frag} {mg : Str → Option Value} {base : Heap} {name qual : Str} {params : Arguments} {rest : List Stmt} {scope : Scope} {dvs : List V} {kws : List (Str × V)} {f fP : Addr} {fd fdP : FuncData} {N : List Str} {k kp n : Nat} {tb : List (Addr × Str)} {t : Wd → DTS} {y : Str} {pos pos' p1 p2 p3 : Pos}
    (F : FunD K name qual params (.Assign [.Name y pos'] (.Call (.Name "_law_pen" p1) [.Name "_law_script" p2] [] p3) pos :: rest) scope dvs kws f fd) (S : FnScope N ["_law_script"] scope) (hN : N.length = n + 2) (h0 : N[0]? = some ("_law_script" : Str)) (h1 : N[1]? = some y)
    (v0 : Vis scope ("_law_script" : Str)) (v1 : Loc scope y) (g0 : scope.names.lookup ("_law_pen" : Str) = some .globalImplicit)
    (FP : FnG (lawWd P w K mg base 0 [] tb) kp fP fdP ["_law_script"] (spPen K)) (kpn : PySem.W.keepIn K (.ref fP) = true) (hm : mg "_law_pen" = some (.ref fP)) (kb : KBn K fdP ["_law_script"] 1 [] (fun us _ => us) (fun vs _ => vs)) (hk : kp ≤ k)
    (hsw : ∀ env : Env, env.scope = scope → swapsWith (.Call (.Name "_law_pen" p1) [.Name "_law_script" p2] [] p3) (some (.Name y pos')) pos.line env = pure false)
    (hb : ∀ (X : Cx) (cf : Fr) (W : WX), isLaw P w K mg base tb cf.toWd → XB X cf W N scope k false → AtF K f qual X.env → DSs X cf W rest (t cf.toWd))
    (hl : ∀ (p : Addr) (ns : List Int), ns.length ≤ 63 → t (lawWd P w K mg base p ns tb) lawN ⟨.un :: .d .pen :: List.replicate n .un, z0⟩) : FnG (lawWd P w K mg base 0 [] tb) (k + 1) f fd ["_law_script"] (spLaw K tb) := by
  refine fnG_of (c := lawWd P w K mg base 0 [] tb) F S (fun vs H Q E h => ?_) fun cdv A outer s H vs Q E room gd hat h => ?_
  · obtain ⟨a, ns, rfl, _⟩ := h; rfl
  · obtain ⟨a, ns, rfl, hS, hlen, htb, q⟩ := h
    have tk := takes_of (X := cxOf (L2.CX P w) P w K mg base N qual scope f cdv A outer s H E) (E := E) rfl rfl rfl rfl
    have nd : (cxOf (L2.CX P w) P w K mg base N qual scope f cdv A outer s H E).N.Nodup := S.nd
    refine ⟨_, pss_cons (ps_set (i := 1) nd h1 v1 (pe_callG (c := lawWd P w K mg base 0 [] tb) (gD := fun d _ => d) rfl rfl rfl rfl rfl gd (room.mono hk) FP kpn kb hm g0 (pa_cons (pe_var (i := 0) h0 v0) pa_nil) rfl) (hsw _ rfl) (.inl rfl))
      (pss_any (K0 := isLaw P w K mg base tb) fun cf k0 => hb _ cf (fun cls dd _ H' => E cls dd H') k0 (by
        obtain ⟨p, cs, e⟩ := k0
        exact ⟨by rw [e]; rfl, by rw [e]; rfl, by rw [e]; rfl, by rw [e]; rfl, by rw [e]; rfl, rfl, S.nd, rfl, rfl, room, gd, tk, passes_of rfl, fun _ _ => rfl, fun _ => rfl, fun _ => ⟨rfl, rfl⟩⟩) hat), ?_⟩
    have hst : L2.start N [V.ref a] = some (.ref a) :: List.replicate (n + 1) none := by
      unfold L2.start
      rw [hN]
      rfl
    rw [hst]
    refine ⟨_, rfl, a, ns, rfl, hS, hlen, fun p qq H' ext hp hq hpq e1 e2 => ?_⟩
    have hset : (some (V.ref a) :: List.replicate (n + 1) none).set 1 (some (V.ref p)) = some (.ref a) :: some (.ref p) :: List.replicate n none := by
      rw [List.replicate_succ]; rfl
    show liftAny _ _ _ _ _ _
    rw [hset]
    refine ⟨_, ⟨p, ns, rfl⟩, _, _, lawN, rel_law (n := n) hlen hpq e1 e2 (fun x hx => ext _ _ (htb x hx)), hl p ns hlen, ⟨fun _ _ _ _ z => z.elim, fun d δ' v G' H2 σ' ed L R' rr => ?_, fun _ _ _ _ z => z.elim, fun _ _ _ _ z => z.elim, fun _ _ _ _ _ _ _ z => z.elim⟩⟩
    subst ed
    cases rr
    exact q H2
end DL

/-! ELT: from law's promise to the row; the tables of the defs that hold lambdas. -/
namespace DL
open PySem L2 PySem.Spec PyProof.Rows PySem.SeqAt
/-- what law's end must be -/
abbrev LawEnd (st : Shared) (r : Result) (s' : Shared) : Prop := r = .ok (.ret (.bool true)) ∧ OldK st.heap s'.heap ∧ s'.os = st.os ∧ AllBare s'.gens
/-- a def's code object, its table, the lambdas' name -/
abbrev Tb := Addr × Addr × Str
abbrev tbs (cs : List Tb) : List (Addr × Str) := cs.map fun t => (t.2.1, t.2.2)
def isTb (cs : List Tb) (b : Addr) : Prop := ∃ t ∈ cs, t.2.1 = b
/-- H tracks the script at most, and the tables -/
structure Track (K : PySem.W.Frag) (cs : List Tb) (a : Addr) (H : Hp) : Prop where
  only : ∀ b, H b = none ∨ (isTb cs b ∧ H b = some (.tbl #[])) ∨ (b = a ∧ ∃ o xs, H b = some (.frz o (.lst xs)))
  tabs : ∀ t ∈ cs, H t.2.1 = some (.tbl #[])
  off : H a ≠ none → K.lookup a = none
structure TbOk (K : PySem.W.Frag) (h : Heap) (cs : List Tb) : Prop where
  at_ : ∀ t ∈ cs, h.get? t.2.1 = some { cls := .none, data := .fields #[] }
  no : ∀ t ∈ cs, K.lookup t.2.1 = none
  hd : ∀ t ∈ cs, PySem.W.CodeHd h t.1 t.2.1
theorem lawTracked {P : Program} {w : World} {K : PySem.W.Frag} {mg mb : Str → Option Value} {k : Nat} {fa a : Addr} {fd : FuncData} {x : Str} {st : Shared} {vs : List Value} {ns : List Int} {H : Hp} {cs : List Tb} (T : Track K cs a H) (TO : TbOk K st.heap cs) (hok : HOk P w H st.heap) (hS : SqL K H a (ns.map V.int))
    (KX : K.In st.heap) (G1 : st.heap.Ns mainGlobals mg) (G2 : st.heap.Ns builtinsNs mb) (G3 : ∀ x : Str, x ≠ "__name__" → mb x = bootBuiltins x) (G4 : st.heap.NoLimit) (G5 : st.gens = #[])
    (G6 : ∃ (bm : Addr) (ob : Obj), mg "__builtins__" = some (.ref bm) ∧ bm ≠ builtinsNs ∧ st.heap.get? bm = some ob ∧ ob.cls = .type "module" ∧ ob.dict = some builtinsNs ∧ ob.data = .plain)
    (hobj : st.heap.get? a = some { cls := .type "list", data := .seq vs.toArray })
    (hr : Room k callerA) (hl : ns.length ≤ 63) (F : ∀ base : Heap, K.In base → base.Ns mainGlobals mg → (∀ t ∈ cs, LamX.TabB base mg t.1 t.2.1) → FnG (lawWd P w K mg base 0 [] (tbs cs)) k fa fd [x] (spLaw K (tbs cs))) (bnd : ∀ (s : Shared) (u : Value), BindsTo s fd ⟨[u], []⟩ [(x, u)]) :
    codeAny (model P w) callerA (.call (.ref fa) ⟨[.ref a], []⟩) (LawEnd st) st := by
  let hh := hidT st.heap H
  -- what is neither the script nor a table stands in the base
  have free : ∀ {b : Addr} {o : Obj}, st.heap.get? b = some o → (∀ xs n, o.data ≠ .seq xs n) → o.data ≠ .fields #[] → H b = none := fun {b o} e d1 d2 => by
    rcases T.only b with q | ⟨⟨t, ht, rfl⟩, _⟩ | ⟨rfl, _⟩
    · exact q
    · have e2 := e.symm.trans (TO.at_ t ht)
      cases e2
      exact absurd rfl d2
    · have e2 := e.symm.trans hobj
      cases e2
      exact absurd rfl (d1 _ _)
  have low : ∀ {b : Addr} {o : Obj}, st.heap.get? b = some o → H b = none → hh.get? b = some o := fun e n => hidT_get e n
  have dic : ∀ {b : Addr} {o : Obj} {es : Array DictEntry} {ep : Nat}, st.heap.get? b = some o → o.data = .dict es ep → H b = none := fun {b o es ep} e d => free e (fun _ _ z => by rw [d] at z; cases z) fun z => by rw [d] at z; cases z
  have nss : ∀ {b : Addr} {m : Str → Option Value}, st.heap.Ns b m → hh.Ns b m := fun {b m} h => by
    obtain ⟨o, es, ep, e, d, r⟩ := h
    exact ⟨o, es, ep, low e (dic e d), d, r⟩
  have kin : K.In hh := fun b o e => hidT_get (KX b o e) (by
    rcases T.only b with q | ⟨⟨t, ht, rfl⟩, _⟩ | ⟨rfl, o2, xs, q⟩
    · exact q
    · rw [TO.no t ht] at e; cases e
    · rw [T.off (by rw [q]; simp)] at e; cases e)
  have md : Mod K mg hh := by
    obtain ⟨mc, l1, l2⟩ := G4
    exact ⟨kin, nss G1, ⟨mb, nss G2, G3⟩, ⟨mc, nss l1, l2⟩⟩
  have env : Env0 P w K mg hh callerA [] st H := by
    refine ⟨rfl, md, fun b o e => of_hidT e, Nat.le_of_eq (hidT_size _ _), trivial, fun b hb => ?_, hok, .of_eq G5⟩
    cases hb
  have tb : ∀ t ∈ cs, LamX.TabB hh mg t.1 t.2.1 := fun t ht => by
    have at_ := TO.at_ t ht
    obtain ⟨o, us, file, tf, flags, tg, inF, text, tt, e1, r1, r2, r3, r4, r5, r6, r7, r8, hne⟩ := TO.hd t ht
    obtain ⟨bm, ob, b1, b2, b3, b4, b5, b6⟩ := G6
    obtain ⟨og, eg, pg, g1, g2, _⟩ := G1
    have nG : bm ≠ mainGlobals := fun q => by
      rw [q, g1] at b3; cases b3; rw [g2] at b6; cases b6
    have nP : bm ≠ t.2.1 := fun q => by
      rw [q, at_] at b3; cases b3; cases b6
    refine ⟨⟨o, us, file, tf, flags, tg, inF, text, tt, low e1 (free e1 (fun _ _ z => ?_) fun z => ?_), r1, r2, r3, r4, r5, r6, r7, r8, hne⟩, ⟨bm, ob, b1, b2, nG, nP, low b3 (free b3 (fun _ _ z => ?_) fun z => ?_), b4, b5, b6⟩, fun z => ?_⟩
    · rw [r2] at z; cases z
    · rw [r2] at z; cases z; simp at r3
    · rw [b6] at z; cases z
    · rw [b6] at z; cases z
    · rw [z, at_] at g1; cases g1; cases g2
  refine codeAny_mono ((F hh kin (nss G1) tb).run callerA [] st H ⟨[.ref a], []⟩ [.ref a] [.ref a] (fun v _ => v = .bl true) (fun _ _ _ => False) hr rfl env (bnd st (.ref a)) (.cons rfl .nil) ⟨a, ns, rfl, hS, hl, fun x hx => ?_, fun _ => rfl⟩) fun r s' h => ?_
  · obtain ⟨t, ht, rfl⟩ := List.mem_map.mp hx
    exact T.tabs t ht
  match r, h with
  | .error e, h =>
    obtain ⟨_, _, _, _, _, _, _, _, _, _, _, _, z⟩ := h
    exact z.elim
  | .ok (.ret u), h =>
    obtain ⟨v, H', os, bare, un, hok', rv, ev⟩ := h
    subst ev
    cases (show u = Value.bool true from rv)
    have same : ∀ b o, ¬ isTb cs b → st.heap.get? b = some o → s'.heap.get? b = some o := fun b o nb e => by
      rcases T.only b with z | ⟨z, _⟩ | ⟨_, ob, xs, z⟩
      · exact un.keep b o e z (fun w => by cases w) (by simp)
      · exact absurd z nb
      · have k1 := (hok b _ z).1
        have k2 := (hok' b _ (un.frzs b ob _ z)).1
        have e3 := e.symm.trans k1
        cases e3
        exact k2
    have grown : ∀ t ∈ cs, ∃ more : Array Value, s'.heap.get? t.2.1 = some { cls := .none, data := .fields more } := fun t ht => by
      obtain ⟨more, z⟩ := un.tbls t.2.1 #[] (T.tabs t ht)
      exact ⟨_, hok' t.2.1 _ z⟩
    refine ⟨rfl, ⟨fun b o e => ?_, fun b o e => ?_⟩, os, bare⟩
    · by_cases q : isTb cs b
      · obtain ⟨t, ht, rfl⟩ := q
        obtain ⟨more, hm⟩ := grown t ht
        have at_ := TO.at_ t ht
        rw [at_] at e
        cases e
        exact .inr (.inl ⟨((TO.hd t ht).tab at_).isCodeTable, rfl, #[], more, rfl, by rw [Array.empty_append]; exact hm⟩)
      · exact .inl (same b o q e)
    · by_cases q : isTb cs b
      · obtain ⟨t, ht, rfl⟩ := q
        obtain ⟨more, hm⟩ := grown t ht
        exact ⟨_, hm⟩
      · exact ⟨o, same b o q e⟩
  | .ok .next, h => exact h.elim
  | .ok .brk, h => exact h.elim
  | .ok .cont, h => exact h.elim
theorem lawCalled {P : Program} {w : World} {K : PySem.W.Frag} {mg mb : Str → Option Value} {k : Nat} {fa a : Addr} {fd : FuncData} {x : Str} {st : Shared} {vs : List Value} {ns : List Int} {cs : List Tb} (TO : TbOk K st.heap cs)
    (KX : K.In st.heap) (G1 : st.heap.Ns mainGlobals mg) (G2 : st.heap.Ns builtinsNs mb) (G3 : ∀ x : Str, x ≠ "__name__" → mb x = bootBuiltins x) (G4 : st.heap.NoLimit) (G5 : st.gens = #[])
    (G6 : ∃ (bm : Addr) (ob : Obj), mg "__builtins__" = some (.ref bm) ∧ bm ≠ builtinsNs ∧ st.heap.get? bm = some ob ∧ ob.cls = .type "module" ∧ ob.dict = some builtinsNs ∧ ob.data = .plain)
    (hobj : st.heap.get? a = some { cls := .type "list", data := .seq vs.toArray }) (hi : IntsAre vs ns)
    (hr : Room k callerA) (hl : ns.length ≤ 63) (F : ∀ base : Heap, K.In base → base.Ns mainGlobals mg → (∀ t ∈ cs, LamX.TabB base mg t.1 t.2.1) → FnG (lawWd P w K mg base 0 [] (tbs cs)) k fa fd [x] (spLaw K (tbs cs))) (bnd : ∀ (s : Shared) (u : Value), BindsTo s fd ⟨[u], []⟩ [(x, u)]) :
    codeAny (model P w) callerA (.call (.ref fa) ⟨[.ref a], []⟩) (LawEnd st) st := by
  have rv := vals_ints hi
  have sz : ns.length ≤ sizeLine := Nat.le_trans hl (by decide)
  have na : ¬ isTb cs a := fun ⟨t, ht, e⟩ => by
    have e2 := TO.at_ t ht
    rw [e, hobj] at e2
    have e3 : Data.seq vs.toArray _ = Data.fields #[] := congrArg Obj.data (Option.some.inj e2)
    cases e3
  let H0 : Hp := fun b => @ite _ (isTb cs b) (Classical.propDecidable _) (some (.tbl #[])) none
  have yes : ∀ {b}, isTb cs b → H0 b = some (.tbl #[]) := fun h => if_pos h
  have nope : ∀ {b}, ¬ isTb cs b → H0 b = none := fun h => if_neg h
  have ok0 : ∀ {b u}, H0 b = some u → isTb cs b ∧ u = .tbl #[] := fun {b u} z => by
    by_cases q : isTb cs b
    · rw [yes q] at z; cases z; exact ⟨q, rfl⟩
    · rw [nope q] at z; cases z
  have obj0 : ∀ {b}, isTb cs b → st.heap.get? b = some { cls := .none, data := .fields #[] } := fun ⟨t, ht, e⟩ => e ▸ TO.at_ t ht
  cases hk : K.lookup a with
  | some o =>
    have e := hobj.symm.trans (KX a o hk)
    cases e
    refine lawTracked (H := H0) ⟨fun b => ?_, fun t ht => yes ⟨t, ht, rfl⟩, fun z => absurd (nope na) z⟩ TO (fun b u z => ?_) (.inr ⟨_, vs.toArray, _, hk, rfl, rfl, rfl, by rw [List.size_toArray, hi.length]; exact sz, by simpa using rv⟩) KX G1 G2 G3 G4 G5 G6 hobj hr hl F bnd
    · by_cases q : isTb cs b
      · exact .inr (.inl ⟨q, yes q⟩)
      · exact .inl (nope q)
    · obtain ⟨q, rfl⟩ := ok0 z
      exact obj0 q
  | none =>
    let one : HO := .frz { cls := .type "list", data := .seq vs.toArray } (.lst (ns.map V.int))
    refine lawTracked (H := upd H0 a one) ⟨fun b => ?_, fun t ht => ?_, fun _ => hk⟩ TO (fun b u z => ?_) (.inl (.inr ⟨_, upd_same⟩)) KX G1 G2 G3 G4 G5 G6 hobj hr hl F bnd
    · by_cases q : b = a
      · subst q; exact .inr (.inr ⟨rfl, _, _, upd_same⟩)
      · rw [upd_ne q]
        by_cases q2 : isTb cs b
        · exact .inr (.inl ⟨q2, yes q2⟩)
        · exact .inl (nope q2)
    · rw [upd_ne (show t.2.1 ≠ a from fun e => na ⟨t, ht, e⟩)]
      exact yes ⟨t, ht, rfl⟩
    · by_cases q : b = a
      · subst q
        rw [upd_same] at z
        cases z
        exact ⟨hobj, by rw [List.length_map]; exact sz, vs, _, rv, hobj⟩
      · rw [upd_ne q] at z
        obtain ⟨q2, rfl⟩ := ok0 z
        exact obj0 q2
/-- what k_head leaves, from law's promise -/
theorem lawWalk {l : PySem.W.OpenLaw} {k : Nat} {q : Program} {loose : List Str} {XP : (Str → Option Value) → Heap → Prop} {YP : World → Heap → Prop} {d : DefRec} {K : Params → PySem.W.Frag} {x : Str}
    (hn : l.most = some 63) (hdf : d.params.defaults = []) (hr : Room k callerA) (hY : ∀ (w : World) (h : Heap), YP w h → (K w.params).In h)
    (F : ∀ (w : World) (mg mb : Str → Option Value) (mean : ExcName → Option Value) (fa : Addr) (h : Heap), YP w h → (K w.params).In h → Top q (PySem.W.looseW q loose) mean mg mb h → mg d.name = some (.ref fa) →
      ∃ (cs : List Tb) (fd : FuncData), TbOk (K w.params) h cs ∧ (∀ (s : Shared) (u : Value), BindsTo s fd ⟨[u], []⟩ [(x, u)]) ∧ ∀ base : Heap, (K w.params).In base → base.Ns mainGlobals mg → (∀ t ∈ cs, LamX.TabB base mg t.1 t.2.1) → FnG (lawWd l.prog w (K w.params) mg base 0 [] (tbs cs)) k fa fd [x] (spLaw (K w.params) (tbs cs))) :
    PySem.W.WalkO q loose XP YP l.row.toRowW d [] (fun f vs => PySem.call f vs) :=
  Att.attach_call hn hdf fun w _ s₁ mg mb fa _ _ _ _ a vs ns G Y _ _ _ hmg hobj hints hlen hg => by
    have KX := hY w _ Y
    obtain ⟨cs, fd, TO, hb, hF⟩ := F w mg mb _ fa _ Y KX G.T hmg
    exact lawCalled TO KX G.T.g G.T.b G.T.builtins G.T.nolimit hg G.T.bmain hobj hints hr hlen hF hb
end DL

/-! ELU: the def that makes the pen. -/
namespace DL
open PySem L2 PySem.Spec PyProof.Rows PySem.SeqAt
theorem cut63 (xs : List V) (h : xs.length ≤ 63) : cutV xs none (some 63) = xs := by
  have e1 : HT.sIx xs.length 0 none = 0 := rfl
  have e2 : HT.sIx xs.length xs.length (some 63) = xs.length := by
    show HT.sIx xs.length xs.length (some (63 : Int)) = xs.length
    unfold HT.sIx
    simp
    omega
  unfold cutV
  rw [e1, e2]
  simp
theorem pen_ok {c : Wd} {name qual : Str} {params : Arguments} {scope : Scope} {f : Addr} {fd : FuncData} {q1 q2 q3 q4 q5 q6 q7 q8 q9 q10 : Pos} {j1 j2 j3 : Nat}
    (F : FunD c.K name qual params [.Return (some (.List [.Call (.Name "list" q1) [.Subscript (.Name "_law_script" q2) (.Slice none (some (.Constant (.int 63) j1 q3)) none q4) q5] [] q6, .Constant (.int 0) j2 q7, .Constant (.int 0) j3 q8] q9)) q10] scope [] [] f fd)
    (S : FnScope ["_law_script"] ["_law_script"] scope) (v0 : Vis scope ("_law_script" : Str)) (g0 : scope.names.lookup ("list" : Str) = some .globalImplicit) (hl : c.mg ("list" : Str) = none) : FnG c 1 f fd ["_law_script"] (spPen c.K) := by
  refine fnG_of F S (fun vs H Q E h => ?_) fun cdv A outer s H vs Q E room gd _ h => ?_
  · obtain ⟨a, ns, rfl, _⟩ := h; rfl
  · obtain ⟨a, ns, rfl, hS, hlen, q⟩ := h
    refine ⟨_, pss_one (ps_ret (pe_lst (pa_cons (pe_callTy (T := "list") call_list_of g0 hl (by decide +kernel) (pa_cons (pe_slice sl_list (pe_var (i := 0) rfl v0) po_none (po_some pe_int)) pa_nil)) (pa_cons pe_int (pa_cons pe_int pa_nil))))), ?_⟩
    have hz : (ns.map V.int).length ≤ 63 := by simpa using hlen
    refine ⟨_, rfl, 63, rfl, a, ns.map V.int, rfl, hS, fun l0 h0 => ?_⟩
    rw [cut63 _ hz]
    refine ⟨l0, ns.map V.int, rfl, .inl (.inl (.inl upd_same)), fun l1 h1 => ?_⟩
    refine ⟨by show 3 ≤ sizeLine; decide, fun p hp => ?_⟩
    have n10 : l1 ≠ l0 := fun z => by rw [z, upd_same] at h1; cases h1
    have npl1 : p ≠ l1 := fun z => by rw [z, upd_same] at hp; cases hp
    have npl0 : p ≠ l0 := fun z => by rw [z, upd_ne (Ne.symm n10), upd_same] at hp; cases hp
    refine q p l1 _ (fun b o e => ?_) (by rw [upd_ne npl1, upd_ne npl0] at hp; exact hp) (by rw [upd_ne n10] at h1; exact h1) npl1 (by rw [upd_ne (Ne.symm npl1), upd_same]) upd_same
    have x0 := ne_of_none e h0
    have x1 : b ≠ l1 := fun z => by subst z; rw [upd_ne n10] at h1; rw [h1] at e; cases e
    have x2 : b ≠ p := fun z => by subst z; rw [upd_ne npl1, upd_ne npl0] at hp; rw [hp] at e; cases e
    rw [upd_ne x2, upd_ne x1, upd_ne x0]
    exact e
end DL

/-! ELV: plain facts that draws need. -/
namespace DL
open PySem L2
theorem noDicL_ints : ∀ (cs : List Int) (n : Nat), noDicL (cs.map D.int) n = true
  | [], _ => rfl
  | _ :: r, n => by simp only [List.map_cons, noDicL, noDic, noDicL_ints r n, Bool.and_true]
theorem noDic_ints (cs : List Int) : noDic (.lst (cs.map D.int)) 40 = true := by simp only [noDic]; exact noDicL_ints cs 39
theorem noDic_nil : noDic (.lst []) 40 = true := rfl
theorem eqD_ints_nil (cs : List Int) : eqD (.lst (cs.map D.int)) (.lst []) = cs.isEmpty := by cases cs <;> rfl
theorem putD_lt {f : Str} {v : D} : ∀ {l : List (Str × D)} {n : Nat}, l.length < n → (putD f v l).length < n + 1
  | [], n, h => by simp only [putD, List.length_cons, List.length_nil] at h ⊢; omega
  | (g, w) :: r, n, h => by
    simp only [List.length_cons] at h
    have ih := putD_lt (f := f) (v := v) (l := r) (n := n - 1) (by omega)
    unfold putD
    split
    · simp only [List.length_cons]; omega
    · simp only [List.length_cons]; omega
/-- the cell that is begun -/
theorem atI_cell {cs : List Int} (h : cs ≠ []) (b : Nat) : ∃ i : Int, atI (cs.map D.int) ((b : Int) % ((cs.map D.int).length : Int)) = some (.int i) := by
  have hl : 0 < cs.length := List.length_pos_iff.mpr h
  have hb : b % cs.length < cs.length := Nat.mod_lt _ hl
  have e : ((b : Int) % ((cs.map D.int).length : Int)) = ((b % cs.length : Nat) : Int) := by simp
  refine ⟨cs[b % cs.length], ?_⟩
  rw [e]
  exact atI_nat (by simp [hb])
theorem len_pos {cs : List Int} (h : cs ≠ []) : (0 : Int) < ((cs.map D.int).length : Int) := by
  have hl : 0 < cs.length := List.length_pos_iff.mpr h
  simp
  omega
theorem mulb {x y X Y : Int} (h1 : 0 ≤ x) (h2 : x ≤ X) (h3 : 0 ≤ y) (h4 : y ≤ Y) : 0 ≤ x * y ∧ x * y ≤ X * Y :=
  ⟨Int.mul_nonneg h1 h3, Int.mul_le_mul h2 h4 h3 (Int.le_trans h1 h2)⟩
theorem cpow_of {x : Int} {k : Int} (h1 : 0 ≤ x) (h2 : x < 2 ^ 64) (k1 : 0 ≤ k) (k2 : k ≤ 1000000) : CPow x k := ⟨k1, k2, by omega⟩
theorem cdw_of {x m : Int} (h0 : 0 < m) (h1 : m < 1073741824) : CDivW x m := wide_div (b := 30) h0 (by omega) (by decide) (by decide)
theorem cmul_l {x y : Int} (h1 : 0 ≤ x) (h2 : x < 2 ^ 64) : CMul x y := .inl ⟨by omega, h2⟩
theorem cmul_r {x y : Int} (h1 : 0 ≤ y) (h2 : y < 2 ^ 64) : CMul x y := .inr ⟨by omega, h2⟩
theorem emb (x : Int) {p : Int} (h : 0 < p) : 0 ≤ x % p ∧ x % p < p := ⟨Int.emod_nonneg _ (by omega), Int.emod_lt_of_pos _ h⟩
end DL

/-! ELW: methods, by the object's class; what is not reached. -/
namespace DL
open PySem L2 PySem.Spec PyProof.Rows PySem.SeqAt
/-- what stands for a class in a table -/
def dpt {α : Type} : List (Addr × α) → Addr → (α → Prop) → Prop
  | [], _, _ => False
  | p :: r, C, k => if C = p.1 then k p.2 else dpt r C k
def AllT {α : Type} (Q : Addr → α → Prop) : List (Addr × α) → Prop
  | [] => True
  | p :: r => Q p.1 p.2 ∧ AllT Q r
theorem AllT.get {α : Type} {Q : Addr → α → Prop} {k : α → Prop} : ∀ {t : List (Addr × α)} {C : Addr}, AllT Q t → dpt t C k → ∃ s, Q C s ∧ k s
  | [], _, _, h => h.elim
  | p :: r, C, q, h => by
    unfold dpt at h
    by_cases e : C = p.1
    · rw [if_pos e] at h; exact ⟨p.2, e ▸ q.1, h⟩
    · rw [if_neg e] at h; exact AllT.get q.2 h
section
variable {X : Cx} {c : Fr} {W : WX} {N : List Str} {sc : Scope} {k j : Nat} {bb : Bool} {e a b o : Expr} {es : List Expr} {pos p p2 apos : Pos} {r ra rb : DTE} {rs rk : DTA} {x : Str} {st : Stmt} {s : DSp2} {kws : List Keyword} {ks : List Str} {tbl : List (Addr × DSp2)}
/-! ### not reached -/
def dNoE : DTE := fun _ _ _ => False
def dNoS : DTS := fun _ _ => False
theorem de_no : DE X c W e dNoE := ⟨fun _ _ _ _ _ _ ⟨_, _, _, _, _, h, _⟩ => h.elim⟩
theorem dt_no : DT X c W e (fun _ _ _ => False) := ⟨fun _ _ _ _ _ _ ⟨_, _, _, _, _, h, _⟩ => h.elim⟩
theorem ds_no : DS X c W st dNoS := ⟨fun _ _ _ _ _ _ ⟨_, _, _, _, h, _⟩ => h.elim⟩
/-! ### methods -/
structure MethD (c : Wd) (m : Str) (ks : List Str) (k : Nat) (C : Addr) (s : DSp2) : Prop where
  cl : Cls c.K C
  ex : ∃ f : Addr, Meth c.K C m f ∧ Callee c (.ref f) ks k s
/-- o.m(e, .., k = v): the object, the values, the keywords' values -/
def dMeth (m : Str) (tbl : List (Addr × DSp2)) (ra : DTE) (rs rk : DTA) : DTE := fun δ P E => ra δ (fun d δ0 => match d with
  | .ins C fs => fs.lookup m = none ∧ dpt tbl C fun s => rs δ0 (fun ds δ1 => rk δ1 (fun zs δ2 => s (.ins C fs :: ds) zs δ2.z (fun d n => P d { δ2 with z := n }) (fun er n => E er { δ2 with z := n })) E) E
  | _ => False) E
theorem selfRep {G H : Hp} {v : V} {C : Addr} {fs : List (Str × D)} (h : Rep c.K c.p0 G v (.ins C fs)) : ∃ xa dx vs, v = .ref xa ∧ G xa = some (.ins C dx vs) ∧ RepF c.K c.p0 G vs fs := by
  cases h with
  | ins h1 r1 => exact ⟨_, _, _, rfl, h1, r1⟩
/-- the object is there, the rest is to be evaluated -/
def MAt (c : Fr) (W : WX) (m : Str) (ks : List Str) (j : Nat) (rs rk : DTA) (σ : L2.St) (Q : VK) (v : V) (H : Hp) : Prop := ∃ (xa : Addr) (G : Hp) (δ : S) (dx : Addr) (vs : List (Str × V)) (C : Addr) (fs : List (Str × D)) (P : D → S → Prop) (E : Er → S → Prop) (s : DSp2), v = .ref xa ∧ Rel c G H σ δ ∧ G xa = some (.ins C dx vs) ∧ RepF c.K c.p0 G vs fs ∧ fs.lookup m = none ∧ MethD c.toWd m ks j C s ∧
  rs δ (fun ds δ1 => rk δ1 (fun zs δ2 => s (.ins C fs :: ds) zs δ2.z (fun d n => P d { δ2 with z := n }) (fun er n => E er { δ2 with z := n })) E) E ∧
  (∀ d δ' v G' H', P d δ' → Gof c δ δ' σ G H G' H' → Rel c G' H' σ δ' → Rep c.K c.p0 G' v d → Q v H') ∧ ExOk c W G σ E
theorem mAt_in {m : Str} (hT : AllT (MethD c.toWd m ks j) tbl) (ho : DE X c W o ra) {pins : List (Addr × Obj)} {σ : L2.St} {H : Hp} {Q : VK} {st : Shared} (I : Inv X pins σ H st) (h : liftE c W (dMeth m tbl ra rs rk) σ H Q) : wpAny (model X.prog X.w) X.A (eval o X.env) (EP X pins σ (MAt c W m ks j rs rk σ Q)) X.xe st := by
  obtain ⟨G, δ, P, E, R, h, kk, xx⟩ := h
  refine ho.run pins st σ H _ I ⟨G, δ, _, E, R, h, fun d δ0 v G0 H0 p0 L0 R0 r0 => ?_, xx⟩
  cases d with
  | ins C fs =>
    obtain ⟨lk, p1⟩ := p0
    obtain ⟨s, hs, p1⟩ := AllT.get hT p1
    obtain ⟨xa, dx, vs, ev, hG, rf⟩ := selfRep (H := H0) r0
    exact ⟨xa, G0, δ0, dx, vs, C, fs, P, E, s, ev, R0, hG, rf, lk, hs, p1, fun d δ' v G' H' q L R' rr => kk d δ' v G' H' q (L0.trans L) R' rr, xx.mono L0.g⟩
  | _ => exact p0.elim
theorem de_meth {m : Str} {pl : Sem Bool} (B : XB X c W N sc k bb) (hT : AllT (MethD c.toWd m [] j) tbl) (hj : j ≤ k) (ho : DE X c W o ra) (ha : DA X c W (e :: es) rs)
    (hst : starEach (e :: es) X.env = (false, eval e X.env) :: starEach es X.env := by rfl) (hpl : (backTo pos (starEach es X.env)).any (·.1) = false := by rfl)
    (ht : eval (.Call (.Attribute o m apos) (e :: es) [] pos) X.env = (do
      let ov ← eval o X.env
      standAt apos.atName
      let (f, first) ← holding [ov] (getMethod ov m pl)
      callWith pos f first (backTo pos (starEach (e :: es) X.env)) (backToKw pos (keywordEach [] X.env))) := by rfl) :
    DE X c W (.Call (.Attribute o m apos) (e :: es) [] pos) (dMeth m tbl ra rs dNil) := by
  refine ⟨fun pins st σ H Q I h => ?_⟩
  refine PySem.W.methodCall_KW (pl := pl) (thn (mAt_in hT ho I h) fun u s0 ⟨v, H0, I0, rv, xa, G0, δ0, dx, vs, C, fs, P, E, s, ev, R0, hG, rf, lk, hs, p1, kk, xx⟩ => ?_) ht
  subst ev
  obtain ⟨f, hm, hc⟩ := hs.ex
  cases (show u = Value.ref xa from rv)
  refine getmeth_ok I0 (R0.le _ _ hG) (by rw [B.hK]; exact hs.cl) (by rw [B.hK]; exact hm) (rf.look_none lk) ?_
  refine PySem.W.callWith_K (first := [.ref xa]) (h₀ := X.base) I0.ok.mod.kin (by rw [B.hK]; exact hm.kp) (thn (ha.run pos pins s0 σ H0 (fun vs H1 => liftSp2 c.toWd s (.ref xa :: vs) [] H1 Q fun cls d H' => W cls d σ H') I0 ⟨G0, δ0, _, E, R0, p1, fun ds δ1 ws G1 H1 p1 L1 R1 r1 => ?_, xx⟩) fun us s1 ⟨ws, H1, I1, rw', q⟩ => ⟨I1.kIn, ?_⟩) hst hpl
  · exact ⟨G1, .ins C fs :: ds, [], δ1.z, _, _, R1.st, .cons ((Rep.ins hG rf).mono L1.g) r1, .nil, p1, fun d n' v G' H' q po rr => kk d _ v G' H' q (L1.trans (po.spf R1)) (R1.post po) rr, fun er n' cls dd G' H' q po rr => xx er _ cls dd G' H' q (L1.g.trans po.go.g) (R1.post po) rr⟩
  · exact runC B hc hj (us := .ref xa :: us) (vs := .ref xa :: ws) I1 (.cons rfl rw') .nil rfl q
theorem de_meth0 {m : Str} {pl : Sem Bool} (B : XB X c W N sc k bb) (hT : AllT (MethD c.toWd m [] j) tbl) (hj : j ≤ k) (ho : DE X c W o ra)
    (ht : eval (.Call (.Attribute o m apos) [] [] pos) X.env = (do
      let ov ← eval o X.env
      standAt apos.atName
      let (f, first) ← holding [ov] (getMethod ov m pl)
      callWith pos f first (backTo pos (starEach [] X.env)) (backToKw pos (keywordEach [] X.env))) := by rfl) :
    DE X c W (.Call (.Attribute o m apos) [] [] pos) (dMeth m tbl ra dNil dNil) := by
  refine ⟨fun pins st σ H Q I h => ?_⟩
  refine PySem.W.methodCall_KW (pl := pl) (thn (mAt_in hT ho I h) fun u s0 ⟨v, H0, I0, rv, xa, G0, δ0, dx, vs, C, fs, P, E, s, ev, R0, hG, rf, lk, hs, p1, kk, xx⟩ => ?_) ht
  subst ev
  obtain ⟨f, hm, hc⟩ := hs.ex
  cases (show u = Value.ref xa from rv)
  refine getmeth_ok I0 (R0.le _ _ hG) (by rw [B.hK]; exact hs.cl) (by rw [B.hK]; exact hm) (rf.look_none lk) ?_
  refine PySem.W.callWith_K0 (first := [.ref xa]) I0.kIn (by rw [B.hK]; exact hm.kp) (runC B hc hj (us := [.ref xa]) (vs := [.ref xa]) (ws := []) (zs := []) I0 (.cons rfl .nil) .nil rfl ?_)
  exact ⟨G0, [.ins C fs], [], δ0.z, _, _, R0.st, .cons (.ins hG rf) .nil, .nil, p1, fun d n' v G' H' q po rr => kk d _ v G' H' q (po.spf R0) (R0.post po) rr, fun er n' cls dd G' H' q po rr => xx er _ cls dd G' H' q po.go.g (R0.post po) rr⟩
end
end DL

/-! ELX: an own exception's __init__ that says super().__init__(..). -/
namespace DL
open PySem L2 PySem.Spec PyProof.Rows PySem.SeqAt
open NdefX (NF envF ncx NScope CellsAt startF inv_startN)
open PySem.W (ks_loadName_global kxs_getMethod kxs_callWith kxs_mw KxsAt)
abbrev veI : String := "ValueError.__init__"
/-- the bound ValueError.__init__, called -/
theorem call_mw {X : Cx} {pins : List (Addr × Obj)} {σ : L2.St} {H : Hp} {s : Shared} {a C u : Addr} {us : List Value} {A : Around} {Q : Value → Shared → Prop} {E : Value → Shared → Prop} (T : OexC X.K C) (I : Inv X pins σ H s) (e : H a = some (exo a C none)) (hu : s.heap.get? u = some (kxs_mw veI a)) (hl : us.length ≤ sizeLine)
    (h : ∀ s', Inv X pins σ H s' → Q .none s') : wpAny (model X.prog X.w) A (call (.ref u) us) Q E s := by
  obtain ⟨nm, q, N, bs, bm, sn, sub, ab, col, dd, k0, k1, k2, k3, k5, hC, hbm⟩ := T.cls
  obtain ⟨t1, ho⟩ := exo_at I.hok e
  have hC' := I.kIn _ _ hC
  obtain ⟨hp, g, d, t, os⟩ := s
  refine wpAny_call (codeAny_of_tree ?_)
  show wpAny _ A.in1 (callAny (.ref u) ⟨us, []⟩) _ _ _
  simp only [callAny]
  refine wpAny_bind (wpAny_load hu ?_)
  simp only [kxs_mw, show (Value.type "method-wrapper" == Value.type "method" || Value.type "method-wrapper" == Value.type "builtin_function_or_method" || Value.type "method-wrapper" == Value.type "method-wrapper") = true by decide, if_true]
  refine PySem.W.KFB.if_so (by decide) ?_
  refine wpAny_bind (PySem.W.check_bound_init F.excBase_ValueError.toExcCallFacts hC' ho rfl ?_)
  refine wpAny_bind (wpAny_pure (wpAny_pure ?_))
  refine ⟨plainId_quiet F.excBase_ValueError.init.plain _, codeAny_builtin F.excBase_ValueError.initEntry ?_⟩
  refine PySem.W.exc_init_tree (cls := .ref C) (t0 := t1) (dv := none) (c2 := .none) (c3 := .none) (b4 := .bool false) ho hl fun h' k hx _ => ?_
  have J := I.write (t' := t) (x := a) (e := a) (o := exo a C none) (by rw [e]; exact True.intro) (.inl rfl) k ⟨_, hx⟩ (exo_ok hx)
  have eu : upd H a (exo a C none) = H := by
    funext b
    by_cases hb : b = a
    · rw [hb, upd_same, e]
    · rw [upd_ne hb]
  rw [eu] at J
  exact h _ J
/-- what the written part says of an own __init__ that names its class by a cell -/
structure SupF (P : Program) (K : PySem.W.Frag) (mg : Str → Option Value) (D : Addr) (F : NF) (cc f : Addr) (fd : FuncData) : Prop where
  cl : F.cl = [(("__class__" : Str), cc)]
  ex : ∃ oc od dV kV doc pm an ct osl, fd = PySem.W.fnX F.name F.qual F.params F.body F.scope F.cl dV kV doc pm an (.ref F.c) ct ∧ K.lookup f = some ⟨oc, od, .func fd, osl⟩
  cd : PySem.W.codeIn K (.ref F.c) F.qual = true
  file : ∃ ccl cdd vs ccs file tf, K.lookup F.c = some ⟨ccl, cdd, .fields vs, ccs⟩ ∧ vs[2]? = some (.str file tf) ∧ ((P.main.file : Str) == file) = true
  cell : ∃ cl cld csl, K.lookup cc = some ⟨cl, cld, .cell (some (.ref D)), csl⟩
  top : (P.main.scope.names.lookup ("super" : Str)).isSome = false
  no : mg ("super" : Str) = none
  st : PySem.W.nsIn K cStatics "thirdparty.any" = some none
  sup : PySem.W.ks_superIn K D D "__init__" = some (some (.builtin veI))
  sb : PySem.W.subIn K (.ref D) (.type "ValueError") = some true
  me : PySem.W.mroIn K D (.ref D) = some true
  hks : F.scope.names.lookup ("super" : Str) = some .globalImplicit
  hkc : F.scope.names.lookup ("__class__" : Str) = some .free
  self : ∃ ar : Arg, (F.params.posonlyargs ++ F.params.args).head? = some ar ∧ ar.arg = ("self" : Str)
section
variable {X : Cx} {σ : L2.St} {H : Hp} {s : Shared} {D a cc f L : Addr} {F : NF} {fd : FuncData} {body rest : List Stmt} {e : Expr} {es : List Expr} {p0 p1 apos pos pos' : Pos} {t : TA} {u : TS} {E : Ends}
theorem super0 (S : SupF X.prog X.K X.mg D F cc f fd) (T : OexC X.K D) (henv : X.env = envF F f L) (I : Inv X [] σ H s) (h0 : X.N[0]? = some ("self" : Str)) (hs : F.scope.names.lookup ("self" : Str) = some .local) (hσ : σ[0]? = some (some (.ref a))) (ha : H a = some (exo a D none))
    (hp : PA X (e :: es) t) (h : t σ H (fun vs H1 => vs.length ≤ 1000 ∧ H1 a = some (exo a D none) ∧ u E σ H1))
    {pl : Sem Bool} (ht : eval (.Call (.Attribute (.Call (.Name "super" p0) [] [] p1) "__init__" apos) (e :: es) [] pos) X.env = (do
      let ov ← attributeBase (.Call (.Name "super" p0) [] [] p1) "__init__" X.env (eval (.Call (.Name "super" p0) [] [] p1) X.env)
      standAt apos.atName
      let (f, first) ← holding [ov] (getMethod ov "__init__" pl)
      callWith pos f first (backTo pos (starEach (e :: es) X.env)) (backToKw pos (keywordEach [] X.env))) := by rfl) (hk0 : backToKw pos (keywordEach [] X.env) = [] := by rfl)
    (hsw : swapsWith (.Call (.Attribute (.Call (.Name "super" p0) [] [] p1) "__init__" apos) (e :: es) [] pos) none pos'.line X.env = pure false := by rfl)
    (he : starEach (e :: es) X.env = (false, eval e X.env) :: starEach es X.env := by rfl) (hpl : (backTo pos (starEach es X.env)).any (·.1) = false := by rfl) :
    PySem.wpAt (model X.prog X.w) X.A (.func body X.env) (exec (.Expr (.Call (.Attribute (.Call (.Name "super" p0) [] [] p1) "__init__" apos) (e :: es) [] pos) pos') X.env) (fun fl s' => fl = .next ∧ ∃ H', Inv X [] σ H' s' ∧ u E σ H') X.xe s := by
  obtain ⟨nm, q, N, bs, bm, sn, sub, ab, col, dd, k0, k1, k2, k3, k5, hC, hbm⟩ := T.cls
  have hcl : PySem.W.clsIn X.K D = some { name := nm, bases := bs, mro := .ref D :: bm, ns := N, qualname := q, hasDict := true, slotNames := sn, subclasses := sub, abstract := ab, collection := col, hasDel := false } := by unfold PySem.W.clsIn; rw [hC] <;> rfl
  obtain ⟨oc, od, dV, kV, doc, pm, an, ct, osl, efd, hf⟩ := S.ex
  obtain ⟨ccl, cdd, vsc, ccs, file, tf, hcode, hvs, hfile⟩ := S.file
  obtain ⟨cl, cld, csl, hcell⟩ := S.cell
  obtain ⟨ar, har, hself⟩ := S.self
  have kin := I.kIn
  obtain ⟨t1, hx⟩ := exo_at I.hok ha
  have hk : X.env.scope.kind = .function := I.ok.kind
  have eks : X.env.kindOf "super" = some .globalImplicit := by rw [henv]; exact S.hks
  have ekc : X.env.kindOf "__class__" = some .free := by rw [henv]; exact S.hkc
  have efu : X.env.func = some f := by rw [henv]
  have eco : X.env.code = .ref F.c := by rw [henv]
  have ecl : X.env.cells.lookup ("__class__" : Str) = some cc := by rw [henv]; show F.cl.lookup _ = _; rw [S.cl]; rfl
  refine ks_wpAt_Expr_any ?_ I.quiet hsw
  rw [ht, hk0]
  refine PySem.wpAt_bind (ks_wpAt_mono (Q := fun ov s₁ => wpAny (model X.prog X.w) X.A (getMethod ov "__init__" pl) (fun fx s₂ => wpAny (model X.prog X.w) X.A (callWith pos fx.1 fx.2 (backTo pos (starEach (e :: es) X.env)) []) (fun _ s' => Flow.next = Flow.next ∧ ∃ H', Inv X [] σ H' s' ∧ u E σ H') X.xe s₂) X.xe s₁) ?_ (fun ov s₁ h₁ => PySem.wpAt_of_wpAny (wpAny_bind (wpAny_standAt (wpAny_bind (wpAny_holding (wpAny_mono h₁ (fun fx s₂ h₂ => h₂) fun _ _ x => x)))))) fun _ _ x => x)
  refine ks_wpAt_super_base (env := X.env) (ar := ar) (fd := fd) eks ekc (by decide) efu (kin _ _ hf) rfl (by rw [efd]; exact har) eco (kin _ _ hcode) rfl hvs hfile S.top ?_
  obtain ⟨mb, b1, b2⟩ := I.mod.blt
  refine ks_loadName_global hk eks (Calls.loadGlobal_builtin (by rw [I.ok.glob]; exact I.mod.glob.keeps I.bk) S.no (by rw [I.ok.blt]; exact b1.keeps I.bk) ((b2 "super" (by decide)).trans PyProof.Rows.Boot.«super») ⟨rfl, ?_⟩)
  refine wpAny_loadName_free hk ekc ecl ⟨_, kin _ _ hcell, rfl⟩ ?_
  obtain ⟨m, hns, hl⟩ := id I.loc
  obtain ⟨uv, rv, lk⟩ := hl 0 _ _ h0 hσ (by rw [henv]; exact .inl hs)
  obtain rfl : uv = Value.ref a := rv
  have hm : m ar.arg = some (.ref a) := by
    rw [hself]
    rcases lk with ⟨_, z⟩ | ⟨z | z, _⟩
    · exact z
    · rw [henv] at z; rw [show (envF F f L).kindOf "self" = some .local from hs] at z; cases z
    · rw [henv] at z; rw [show (envF F f L).kindOf "self" = some .local from hs] at z; cases z
  refine wpAny_loadName_local hk (by rw [hself, henv]; exact hs) hns hm ?_
  obtain ⟨hh, g, d, tk, os⟩ := s
  refine ks_wpAny_isType_cls (kin _ _ hC) rfl ⟨rfl, ?_⟩
  refine ks_wpAny_call_super (kin _ _ hC) rfl hx rfl (fun c z => by cases z) (PySem.W.looks_mroIn kin S.me) fun h1 e1 k1 => ?_
  have I1 : Inv X [] σ H ⟨h1, g, d, tk, os⟩ := I.kept (t' := tk) k1
  have kin1 := I1.kIn
  have hsup := S.sup
  unfold PySem.W.ks_superIn at hsup
  rw [hcl, Option.bind_some] at hsup
  have hIn : PySem.W.Looks (model X.prog X.w) h1 (isInstance (.ref a) (.type "ValueError")) true := (show PySem.W.Looks (model X.prog X.w) h1 (typeOf (.ref a)) (.ref D) from fun A Q E s k q => wpAny_typeOf_ref (k _ _ (k1 _ _ hx)) q).andThen (PySem.W.looks_subIn kin1 S.sb)
  have hne : a ≠ D := fun z => by
    have y := kin _ _ hC
    rw [← z] at y
    rw [hx] at y
    cases y
  refine kxs_getMethod PySem.W.kxs_ValueError e1 (PySem.W.looks_opaque kin1 S.st) (fun A Q E s k q => wpAny_bind ((PySem.W.looks_clsIn kin1 hcl) A _ E s k (wpAny_pure q))) rfl kin1 hsup hIn hne (by decide) ?_
  have I2 : Inv X [] σ H ⟨h1.push (kxs_mw veI a), g, d, tk + 1, os⟩ := I1.kept (t' := tk + 1) fun b o z => Heap.get?_push_of_some _ z
  have hu2 : (h1.push (kxs_mw veI a)).get? h1.objs.size = some (kxs_mw veI a) := Heap.get?_push_size _ rfl
  have J2 : Inv X [(h1.objs.size, kxs_mw veI a)] σ H ⟨h1.push (kxs_mw veI a), g, d, tk + 1, os⟩ := I2.pins_of fun p hp => by
    rw [List.mem_singleton] at hp
    subst hp
    exact ⟨hu2, I1.hok.fresh (Nat.le_refl _), Nat.ne_of_gt I1.lt, I1.nofs (Nat.le_refl _), fun v z => by cases z⟩
  rw [he]
  refine kxs_callWith (i := veI) (x := a) (by show (false || (backTo pos (starEach es X.env)).any (·.1)) = false; rw [hpl]; rfl) (Calls.evalArgs_plain ?_)
  have hrun := hp.run pos [(h1.objs.size, kxs_mw veI a)] _ σ H _ J2 h
  rw [he] at hrun
  refine thn hrun fun us s3 ⟨vs, H3, I3, r3, hz, ha3, q3⟩ => ⟨(I3.pin _ (List.mem_append_right _ (List.mem_singleton.mpr rfl))).1, ?_⟩
  refine call_mw T (I3.pins_of (pins' := []) fun p hp => absurd hp (by simp)) ha3 (I3.pin _ (List.mem_append_right _ (List.mem_singleton.mpr rfl))).1 (by show us.length ≤ _; rw [← r3.length, sizeLine_eq]; omega) fun s4 I4 => ⟨rfl, H3, I4, q3⟩
end
/-- such an __init__'s promise: its values stand in the fields fl, in this order -/
def spX (C : Addr) (fl : List Str) : Sp := fun vs H Q _ => ∃ (a : Addr) (ws : List V), vs = .ref a :: ws ∧ ws.length = fl.length ∧ H a = some (exo a C none) ∧
  ∀ d H', H d = none → d ≠ a → H' a = some (exo a C (some d)) → H' d = some (exd d (fl.zip ws).reverse) → (∀ b, b ≠ a → b ≠ d → H' b = H b) → Q .non H'
section
variable {c : Wd} {D cc f : Addr} {F : NF} {fd : FuncData} {k : Nat} {N ps : List Str} {sp : Sp}
/-- THE RULE for it -/
theorem sup_fn {rest : List Stmt} {e : Expr} {es : List Expr} {p0 p1 apos pos pos' : Pos} (S : SupF c.P c.K c.mg D F cc f fd) (T : OexC c.K D) (NS : NScope N ps ["__class__"] F.scope) (len : ∀ vs H Q E, sp vs H Q E → vs.length = ps.length) (h0 : N[0]? = some ("self" : Str)) (hs : F.scope.names.lookup ("self" : Str) = some .local)
    (hb0 : F.body = .Expr (.Call (.Attribute (.Call (.Name "super" p0) [] [] p1) "__init__" apos) (e :: es) [] pos) pos' :: rest)
    (hbody : ∀ (X : Cx) (L : Addr), X.prog = c.P → X.w = c.w → X.K = c.K → X.mg = c.mg → X.N = N → X.env = envF F f L → ∃ (t : TA) (u : TS), PA X (e :: es) t ∧ PSs X rest u ∧
      ∀ vs H Q E, sp vs H Q E → ∃ a, vs.head? = some (.ref a) ∧ H a = some (exo a D none) ∧ t (startF N vs [none]) H (fun ws H1 => ws.length ≤ 1000 ∧ H1 a = some (exo a D none) ∧ u { nx := fun _ H' => Q .non H', rt := Q } (startF N vs [none]) H1))
    {pl : Env → Sem Bool} (hev : ∀ env : Env, eval (.Call (.Attribute (.Call (.Name "super" p0) [] [] p1) "__init__" apos) (e :: es) [] pos) env = (do
      let ov ← attributeBase (.Call (.Name "super" p0) [] [] p1) "__init__" env (eval (.Call (.Name "super" p0) [] [] p1) env)
      standAt apos.atName
      let (f, first) ← holding [ov] (getMethod ov "__init__" (pl env))
      callWith pos f first (backTo pos (starEach (e :: es) env)) (backToKw pos (keywordEach [] env))) := by intro _; rfl) (hkw : ∀ env : Env, backToKw pos (keywordEach [] env) = [] := by intro _; rfl)
    (hsw : ∀ env : Env, swapsWith (.Call (.Attribute (.Call (.Name "super" p0) [] [] p1) "__init__" apos) (e :: es) [] pos) none pos'.line env = pure false := by intro _; rfl)
    (hst : starEach (e :: es) = fun env => (false, eval e env) :: starEach es env := by rfl) (hpl : ∀ env : Env, (backTo pos (starEach es env)).any (·.1) = false := by intro _; rfl) : FnG c (k + 1) f fd ps sp := by
  obtain ⟨oc, od, dV, kV, doc, pm, an, ct, osl, rfl, lk⟩ := S.ex
  refine ⟨len, fun A outer s H args us vs Q E room gd e0 bnd rv hsp => ?_⟩
  have kin : c.K.In s.heap := e0.mod.kin.keeps fun q o z => (e0.bs q o z).1
  have nolim : s.heap.NoLimit := e0.mod.nolimit.keeps fun q o z => (e0.bs q o z).1
  have hl := len _ _ _ _ hsp
  obtain ⟨cl, cld, csl, hcell⟩ := S.cell
  have hcc : H cc = none := (e0.bs _ _ (e0.mod.kin _ _ hcell)).2
  have CA : CellsAt F.cl ["__class__"] [none] s.heap H := by
    have only : ∀ y d, F.cl.lookup y = some d → y = "__class__" ∧ d = cc := fun y d z => by
      rw [S.cl] at z
      have z2 := PySem.mem_of_lookup z
      rw [List.mem_singleton] at z2
      cases z2
      exact ⟨rfl, rfl⟩
    refine ⟨rfl, fun y d z => ?_, fun x y d z1 z2 => (only _ _ z1).1.trans (only _ _ z2).1.symm, fun i y z => ?_⟩
    · obtain ⟨_, rfl⟩ := only _ _ z
      exact ⟨hcc, _, _, kin _ _ hcell, rfl⟩
    · match i, z with
      | 0, z =>
        cases z
        exact ⟨cc, by rw [S.cl]; rfl, fun v z => by cases z⟩
  refine ks_codeAny_call_defAt (binds := ps.zip us) room.depth (kin _ _ lk) rfl nolim (PySem.W.codeRec_of kin S.cd) rfl bnd NS.nocell (fun y hy => NS.par _ (List.of_mem_zip hy).1) (fun h1 hns hk1 => ?_) NS.co NS.gen NS.kind
  have I : Inv (ncx (L2.CX c.P c.w) c.P c.w c.K c.mg c.base N F f A outer s H E) [] (startF N vs [none]) H { s with heap := h1, toks := s.toks + (ps.zip us).length } := inv_startN NS room.hd e0 hl rv CA hns hk1
  obtain ⟨t, u, ht, hu, hq⟩ := hbody (ncx (L2.CX c.P c.w) c.P c.w c.K c.mg c.base N F f A outer s H E) s.heap.objs.size rfl rfl rfl rfl rfl rfl
  obtain ⟨a, ha0, ha, hr⟩ := hq vs H Q E hsp
  have hσ : (startF N vs [none])[0]? = some (some (.ref a)) := by
    cases vs with
    | nil => cases ha0
    | cons v vs => cases ha0; rfl
  have key : PySem.wpAt (model c.P c.w) (A.deeper (envF F f s.heap.objs.size)) (.func F.body (envF F f s.heap.objs.size)) (execs (.Expr (.Call (.Attribute (.Call (.Name "super" p0) [] [] p1) "__init__" apos) (e :: es) [] pos) pos' :: rest) (envF F f s.heap.objs.size))
      (fun f s' => CR (L2.CX c.P c.w) outer c.P c.w H s Q E (.ok (.ret (match f with | .ret v => v | _ => .none))) s') (ncx (L2.CX c.P c.w) c.P c.w c.K c.mg c.base N F f A outer s H E).xe { s with heap := h1, toks := s.toks + (ps.zip us).length } := by
    refine ks_wpAt_execs_cons (ks_wpAt_mono (super0 (X := ncx (L2.CX c.P c.w) c.P c.w c.K c.mg c.base N F f A outer s H E) (E := { nx := fun _ H' => Q .non H', rt := Q }) S T rfl I h0 hs hσ ha ht hr (hev _) (hkw _) (hsw _) (congrFun hst _) (hpl _)) (fun fl s1 ⟨efl, H1, I1, q1⟩ => ?_) fun _ _ z => z)
    subst efl
    refine PySem.wpAt_of_wpAny (wpAny_mono (hu.run [] s1 _ H1 _ I1 q1) (fun fl s' z => ?_) fun _ _ z => z)
    cases fl with
    | brk => exact z.elim fun _ z => z.elim fun _ z => z.2.elim
    | cont => exact z.elim fun _ z => z.elim fun _ z => z.2.elim
    | next => obtain ⟨σ', H', J', q⟩ := z; exact ⟨.non, H', J'.os, J'.bare, J'.base, J'.hok, rfl, q⟩
    | ret u => obtain ⟨v, σ', H', J', r', q⟩ := z; exact ⟨v, H', J'.os, J'.bare, J'.base, J'.hok, r', q⟩
  rw [← hb0] at key
  exact key
end
end DL

/-! ELY: own exceptions made: with one field, with two, with none. -/
namespace DL
open PySem L2 PySem.Spec PyProof.Rows PySem.SeqAt
open NdefX (NF envF ncx NScope CellsAt startF inv_startN)
section
variable {c : Wd} {D cc f : Addr} {F : NF} {fd : FuncData} {k : Nat} {x y : Str} {p0 p1 apos p2 p2' p3 p4 p5 p6 p7 p8 pos pos' pos2 pos3 : Pos}
theorem spX_len {fl : List Str} : ∀ vs H Q E, spX D fl vs H Q E → vs.length = fl.length + 1 := fun vs H Q E ⟨a, ws, e, h, _⟩ => by rw [e, List.length_cons, h]
theorem sup1 (S : SupF c.P c.K c.mg D F cc f fd) (T : OexC c.K D) (NS : NScope ["self", x, "__class__"] ["self", x] ["__class__"] F.scope) (hx : PySem.W.findIn c.K (.ref D) x = some none)
    (hb0 : F.body = [.Expr (.Call (.Attribute (.Call (.Name "super" p0) [] [] p1) "__init__" apos) [.Name x p2] [] pos) pos', .Assign [.Attribute (.Name "self" p3) x p4] (.Name x p5) pos2])
    {pl : Env → Sem Bool} (hev : ∀ env : Env, eval (.Call (.Attribute (.Call (.Name "super" p0) [] [] p1) "__init__" apos) [.Name x p2] [] pos) env = (do
      let ov ← attributeBase (.Call (.Name "super" p0) [] [] p1) "__init__" env (eval (.Call (.Name "super" p0) [] [] p1) env)
      standAt apos.atName
      let (f, first) ← holding [ov] (getMethod ov "__init__" (pl env))
      callWith pos f first (backTo pos (starEach [.Name x p2] env)) (backToKw pos (keywordEach [] env))) := by intro _; rfl) (hkw : ∀ env : Env, backToKw pos (keywordEach [] env) = [] := by intro _; rfl)
    (hsw : ∀ env : Env, swapsWith (.Call (.Attribute (.Call (.Name "super" p0) [] [] p1) "__init__" apos) [.Name x p2] [] pos) none pos'.line env = pure false := by intro _; rfl)
    (hd : (x == ("__debug__" : Str)) = false := by decide) (hcd : (x == ("__classdict__" : Str)) = false := by decide) : FnG c (k + 1) f fd ["self", x] (spX D [x]) := by
  have h0 : F.scope.names.lookup ("self" : Str) = some .local := NS.par _ (List.mem_cons_self ..)
  have h1 : F.scope.names.lookup x = some .local := NS.par _ (List.mem_cons_of_mem _ (List.mem_cons_self ..))
  refine sup_fn S T NS spX_len rfl h0 hb0 (fun X L e1 e2 e3 e4 e5 e6 => ?_) hev hkw hsw
  have vx : PE X (.Name x p2) _ := pe_var (i := 1) (by rw [e5]; rfl) (by rw [e6]; exact .inl h1) hd hcd
  have vx5 : PE X (.Name x p5) _ := pe_var (i := 1) (by rw [e5]; rfl) (by rw [e6]; exact .inl h1) hd hcd
  have v0 : PE X (.Name "self" p3) _ := pe_var (i := 0) (by rw [e5]; rfl) (by rw [e6]; exact .inl h0)
  refine ⟨_, _, pa_cons vx pa_nil rfl, pss_one (ps_ost v0 vx5), fun vs H Q E hsp => ?_⟩
  obtain ⟨a, ws, rfl, hl, ha, hq⟩ := hsp
  match ws, hl with
  | [w], _ =>
    refine ⟨a, rfl, ha, w, rfl, ?_⟩
    refine ⟨by simp, ha, w, rfl, .ref a, rfl, a, D, rfl, by rw [e3]; exact T, by rw [e3]; exact hx, .inl ⟨ha, fun d hn ne => ?_⟩⟩
    exact hq d _ hn ne upd_same (by rw [upd_ne ne, upd_same]; rfl) fun b b1 b2 => by rw [upd_ne b1, upd_ne b2]
theorem sup2 (S : SupF c.P c.K c.mg D F cc f fd) (T : OexC c.K D) (NS : NScope ["self", x, y, "__class__"] ["self", x, y] ["__class__"] F.scope) (hx : PySem.W.findIn c.K (.ref D) x = some none) (hy : PySem.W.findIn c.K (.ref D) y = some none)
    (hb0 : F.body = [.Expr (.Call (.Attribute (.Call (.Name "super" p0) [] [] p1) "__init__" apos) [.Name x p2, .Name y p2'] [] pos) pos', .Assign [.Attribute (.Name "self" p3) x p4] (.Name x p5) pos2, .Assign [.Attribute (.Name "self" p6) y p7] (.Name y p8) pos3])
    {pl : Env → Sem Bool} (hev : ∀ env : Env, eval (.Call (.Attribute (.Call (.Name "super" p0) [] [] p1) "__init__" apos) [.Name x p2, .Name y p2'] [] pos) env = (do
      let ov ← attributeBase (.Call (.Name "super" p0) [] [] p1) "__init__" env (eval (.Call (.Name "super" p0) [] [] p1) env)
      standAt apos.atName
      let (f, first) ← holding [ov] (getMethod ov "__init__" (pl env))
      callWith pos f first (backTo pos (starEach [.Name x p2, .Name y p2'] env)) (backToKw pos (keywordEach [] env))) := by intro _; rfl) (hkw : ∀ env : Env, backToKw pos (keywordEach [] env) = [] := by intro _; rfl)
    (hsw : ∀ env : Env, swapsWith (.Call (.Attribute (.Call (.Name "super" p0) [] [] p1) "__init__" apos) [.Name x p2, .Name y p2'] [] pos) none pos'.line env = pure false := by intro _; rfl)
    (hd : (x == ("__debug__" : Str)) = false := by decide) (hcd : (x == ("__classdict__" : Str)) = false := by decide) (hd' : (y == ("__debug__" : Str)) = false := by decide) (hcd' : (y == ("__classdict__" : Str)) = false := by decide) : FnG c (k + 1) f fd ["self", x, y] (spX D [x, y]) := by
  have h0 : F.scope.names.lookup ("self" : Str) = some .local := NS.par _ (List.mem_cons_self ..)
  have h1 : F.scope.names.lookup x = some .local := NS.par _ (List.mem_cons_of_mem _ (List.mem_cons_self ..))
  have h2 : F.scope.names.lookup y = some .local := NS.par _ (List.mem_cons_of_mem _ (List.mem_cons_of_mem _ (List.mem_cons_self ..)))
  refine sup_fn S T NS spX_len rfl h0 hb0 (fun X L e1 e2 e3 e4 e5 e6 => ?_) hev hkw hsw
  have vx : PE X (.Name x p2) _ := pe_var (i := 1) (by rw [e5]; rfl) (by rw [e6]; exact .inl h1) hd hcd
  have vy : PE X (.Name y p2') _ := pe_var (i := 2) (by rw [e5]; rfl) (by rw [e6]; exact .inl h2) hd' hcd'
  have vx5 : PE X (.Name x p5) _ := pe_var (i := 1) (by rw [e5]; rfl) (by rw [e6]; exact .inl h1) hd hcd
  have vy5 : PE X (.Name y p8) _ := pe_var (i := 2) (by rw [e5]; rfl) (by rw [e6]; exact .inl h2) hd' hcd'
  have v0 : PE X (.Name "self" p3) _ := pe_var (i := 0) (by rw [e5]; rfl) (by rw [e6]; exact .inl h0)
  have v0' : PE X (.Name "self" p6) _ := pe_var (i := 0) (by rw [e5]; rfl) (by rw [e6]; exact .inl h0)
  refine ⟨_, _, pa_cons vx (pa_cons vy pa_nil rfl) rfl, pss_cons (ps_ost v0 vx5) (pss_one (ps_ost v0' vy5)), fun vs H Q E hsp => ?_⟩
  obtain ⟨a, ws, rfl, hl, ha, hq⟩ := hsp
  match ws, hl with
  | [w, v], _ =>
    refine ⟨a, rfl, ha, w, rfl, v, rfl, ?_⟩
    refine ⟨by simp, ha, w, rfl, .ref a, rfl, a, D, rfl, by rw [e3]; exact T, by rw [e3]; exact hx, .inl ⟨ha, fun d hn ne => ?_⟩⟩
    refine ⟨v, rfl, .ref a, rfl, a, D, rfl, by rw [e3]; exact T, by rw [e3]; exact hy, .inr ⟨d, _, upd_same, by rw [upd_ne ne, upd_same], by simp, ?_⟩⟩
    exact hq d _ hn ne (by rw [upd_ne (Ne.symm ne), upd_same]) upd_same fun b b1 b2 => by rw [upd_ne b2, upd_ne b1, upd_ne b2]
end
end DL

/-! EM0: own exceptions are raised. -/
namespace DL
open PySem L2 PySem.Spec PyProof.Rows PySem.SeqAt
section
variable {K : PySem.W.Frag} {p0 : Addr} {G : Hp}
theorem RepF.app : ∀ {vs ws : List (Str × V)} {ds es : List (Str × D)}, RepF K p0 G vs ds → RepF K p0 G ws es → RepF K p0 G (vs ++ ws) (ds ++ es)
  | _, _, _, _, .nil, h => h
  | _, _, _, _, .cons a b, h => .cons a (RepF.app b h)
theorem RepF.rev : ∀ {vs : List (Str × V)} {ds : List (Str × D)}, RepF K p0 G vs ds → RepF K p0 G vs.reverse ds.reverse
  | _, _, .nil => .nil
  | _, _, .cons a b => by
    rw [List.reverse_cons, List.reverse_cons]
    exact RepF.app (RepF.rev b) (.cons a .nil)
theorem RepF.zip : ∀ {fl : List Str} {vs : List V} {ds : List D}, RepL K p0 G vs ds → RepF K p0 G (fl.zip vs) (fl.zip ds)
  | [], _, _, _ => by simp only [List.zip_nil_left]; exact .nil
  | _ :: _, _, _, .nil => by simp only [List.zip_nil_right]; exact .nil
  | _ :: _, _, _, .cons a b => by simp only [List.zip_cons_cons]; exact .cons a (RepF.zip b)
end
/-- a class of errors, its fields -/
structure ExcD (c : Wd) (C : Addr) (fl : List Str) (k : Nat) : Prop where
  T : OexC c.K C
  ini : ∃ (fI : Addr) (fd : FuncData), PySem.W.findIn c.K (.ref C) "__init__" = some (some (.ref fI)) ∧ PySem.W.typeIn c.K (.ref fI) = some (.type "function") ∧ FnG c k fI fd ("self" :: fl) (spX C fl) ∧ KBn c.K fd ("self" :: fl) (fl.length + 1) [] (fun us _ => us) (fun vs _ => vs)
theorem ExcD.mono {c : Wd} {C : Addr} {fl : List Str} {j k : Nat} (h : ExcD c C fl j) (l : j ≤ k) : ExcD c C fl k := by
  obtain ⟨fI, fd, h1, h2, F, h3⟩ := h.ini
  exact ⟨h.T, fI, fd, h1, h2, ⟨F.len, fun A o s H args us vs Q E r => F.run A o s H args us vs Q E (r.mono l)⟩, h3⟩
section
variable {X : Cx} {c : Fr} {W : WX} {N : List Str} {sc : Scope} {k j : Nat} {bb : Bool} {e a b o : Expr} {es : List Expr} {pos p p2 apos : Pos} {r ra rb : DTE} {rs rk : DTA} {x : Str} {st : Stmt}
theorem pmkG {C : Addr} {fl : List Str} {ta : TA} (B : XB X c W N sc k bb) (hx : ExcD c.toWd C fl j) (hj : j + 1 ≤ k) (hm : c.mg x = some (.ref C)) (hg : sc.names.lookup x = some .globalImplicit) (ha : PA X (e :: es) ta)
    (hdb : (x == ("__debug__" : Str)) = false := by decide) (he : starEach (e :: es) X.env = (false, eval e X.env) :: starEach es X.env := by rfl) (hpl : (backTo pos (starEach es X.env)).any (·.1) = false := by rfl) :
    PMk X (.Call (.Name x p) (e :: es) [] pos) (tMkO C (spX C fl) [] ta) := by
  intro pins st σ H Q I h
  have T := hx.T
  obtain ⟨fI, fd, iC, tI, F1, kb⟩ := hx.ini
  rw [← B.hK] at T iC tI
  obtain ⟨nm, q, NN, bs, bm, sn, sub, ab, col, dd, k0, k1, k2, k3, k5, hC, hbm⟩ := T.cls
  refine wpAny_Call_Name_kw (ld_glob I (glX B hg) (by rw [B.hm]; exact hm) ?_ hdb)
  refine PySem.W.callWith_K (h₀ := X.base) I.ok.mod.kin T.kC (thn (ha.run pos pins st σ H _ I h) fun us s1 ⟨vs, H1, I1, r1, hz, q1⟩ => ⟨I1.kIn, ?_⟩) he hpl
  obtain ⟨hp, g, dr, tk, os⟩ := s1
  let xa := hp.objs.size + 1
  let h2 := (hp.push (PySem.W.kdv_tup us)).push (PySem.HandSPX.excO C hp.objs.size)
  have ge : hp.objs.size ≤ xa := Nat.le_succ _
  have fresh : H1 xa = none := I1.hok.fresh ge
  have hq := q1 xa fresh
  have old : ∀ b o, hp.get? b = some o → h2.get? b = some o := fun b o z => Heap.get?_push_of_some _ (Heap.get?_push_of_some _ z)
  have here : Heap.get? ((hp.push (PySem.W.kdv_tup us)).push (PySem.HandSPX.excO C hp.objs.size)) (hp.objs.size + 1) = some (PySem.HandSPX.excO C hp.objs.size) := by heap_get
  have I2 : Inv X pins σ (upd H1 xa (exo xa C none)) ⟨h2, g, dr, tk, os⟩ := I1.laid (a := xa) (o := exo xa C none) (t' := tk) old ge (exo_ok here)
  have rv : Vals (V.ref xa :: (vs ++ [])) (Value.ref xa :: us) := by rw [List.append_nil]; exact .cons rfl r1
  have hlen : (V.ref xa :: (vs ++ [])).length = fl.length + 1 := F1.len _ _ _ _ hq
  have hul : (Value.ref xa :: us).length = fl.length + 1 := by rw [← rv.length]; exact hlen
  have small : us.length ≤ sizeLine := by rw [← r1.length, sizeLine_eq]; omega
  have E0 := I2.env0.make C us []
  rw [B.hP, B.hw, B.hK, B.hm, B.hb] at E0
  have room : Room (j + 1) X.A := B.room.mono hj
  have run := F1.run (X.A.under (.builtin "type.__call__" ⟨.ref C :: us, []⟩)) X.stack _ _ ⟨Value.ref xa :: us, []⟩ (Value.ref xa :: us) _ _ (fun _ _ _ => False) (room.make C us []) (make_guards B.gd) E0 (kb.to _ (Value.ref xa :: us) [] (by rw [← B.hK]; exact I2.kIn) hul rfl) rv hq
  rw [← B.hP, ← B.hw] at run
  refine wpAny_call (PySem.HandSPX.call_own F.excBase_ValueError (fun Y => PySem.HandSPX.refsVE_contains Y bm hbm) (I1.kIn _ _ hC) (PySem.W.looks_findIn I1.kIn iC) (fun self => PySem.W.bind_fn I1.kIn self tI) small (codeAny_mono run fun res s' hr => ?_))
  cases res with
  | error ee =>
    obtain ⟨_, _, _, _, _, _, _, _, _, _, _, _, z⟩ := hr
    exact z.elim
  | ok fl2 =>
    cases fl2 with
    | ret u =>
      obtain ⟨v, H2, os2, bare2, un2, hok2, rvv, ev, d, fs, ea, ed, hd1, q2⟩ := hr
      subst ev
      obtain ⟨h3, g3, d3, t3, os'⟩ := s'
      exact ⟨rvv, mk_end (raises_own T.exC T.tyC) I1 ge old un2 hok2 os2 bare2 ea ed hd1 q2⟩
    | next => exact hr.elim
    | brk => exact hr.elim
    | cont => exact hr.elim
/-- raise C(e, ..) -/
def dRaise (C : Addr) (fl : List Str) (rs : DTA) : DTS := fun N δ => rs δ (fun ds δ' => (ds.length = fl.length ∧ fl.length ≤ 900) ∧ N.ex ⟨.ref C, (fl.zip ds).reverse⟩ δ') N.ex
theorem ds_raise {C : Addr} {fl : List Str} (B : XB X c W N sc k bb) (hx : ExcD c.toWd C fl j) (hj : j + 1 ≤ k) (hm : c.mg x = some (.ref C)) (hg : sc.names.lookup x = some .globalImplicit) (ha : DA X c W (e :: es) rs)
    (hdb : (x == ("__debug__" : Str)) = false := by decide) (he : starEach (e :: es) X.env = (false, eval e X.env) :: starEach es X.env := by rfl) (hpl : (backTo pos (starEach es X.env)).any (·.1) = false := by rfl) :
    DS X c W (.Raise (some (.Call (.Name x p) (e :: es) [] pos)) none p2) (dRaise C fl rs) :=
  psI (ps_raise B.calm B.tk (pmkG B hx hj hm hg ha hdb he hpl)) fun D σ H ⟨G, δ, N, R, h, n⟩ => ⟨G, δ, _, N.ex, R, h, fun ds δ1 vs G1 H1 ⟨⟨l1, l2⟩, p1⟩ L R1 r1 => by
    have lv : vs.length = fl.length := by rw [r1.len, l1]
    refine ⟨by omega, fun a0 na => ⟨a0, vs ++ [], rfl, by rw [List.append_nil]; exact lv, upd_same, fun d H' hd hda e1 e2 same => ⟨rfl, d, _, e1, e2, by rwa [upd_ne hda] at hd, ?_⟩⟩⟩
    have hd1 : H1 d = none := by rwa [upd_ne hda] at hd
    rw [List.append_nil]
    have ext : upd (del H' a0) d (.xd (fl.zip vs).reverse) = upd H1 d (.xd (fl.zip vs).reverse) := by
      funext b
      by_cases q : b = d
      · subst q; rw [upd_same, upd_same]
      · rw [upd_ne q, upd_ne q]
        by_cases q2 : b = a0
        · subst q2; rw [del_same, na]
        · rw [del_ne q2, same b q2 q, upd_ne q2]
    rw [ext]
    exact n.ex _ δ1 _ _ _ _ σ p1 (L.g.trans (R1.laid hd1).go.g) (R1.laid' hd1) ⟨rfl, .inr ⟨d, _, rfl, upd_same, (RepF.zip (r1.mono (R1.laid hd1).go.g)).rev⟩⟩, exOf n⟩
end
end DL

/-! EM1: try: .. except C as e: x = e - the error is data from then on. -/
namespace DL
open PySem L2 PySem.Spec PyProof.Rows PySem.SeqAt
section
variable {X : Cx} {pins : List (Addr × Obj)} {σ : L2.St} {H : Hp} {s : Shared}
/-- an object that nothing tracked is tracked from now on -/
theorem adopt {a : Addr} {o : HO} {oe : Obj} (I : Inv X pins σ H s) (na : H a = none) (h0 : X.s_0.heap.get? a = none) (ha : s.heap.get? a = some oe) (nl : a ≠ X.env.locals) (nc : ∀ v, oe.data ≠ .cell v) (np : ∀ p ∈ X.pn ++ pins, p.1 ≠ a) (new : ObjOk X.prog X.w (upd H a o) s.heap a o) :
    Inv X pins σ (upd H a o) s := by
  have u := I.base
  have o1 : ∀ {b w}, H b = some w → upd H a o b = some w := fun {b w} e => by rw [upd_ne (show b ≠ a from fun q => by rw [q, na] at e; cases e)]; exact e
  have o2 : ∀ {b}, b ≠ a → H b = none → upd H a o b = none := fun {b} q e => by rw [upd_ne q]; exact e
  have n0 : ∀ {b w}, X.s_0.heap.get? b = some w → b ≠ a := fun {b w} e q => by rw [q, h0] at e; cases e
  refine ⟨I.ok, I.os, I.bare, ⟨u.keep, u.slot, fun b w e1 e2 e3 => o2 (n0 e1) (u.free b w e1 e2 e3), u.there, fun b xs e => o1 (u.tups b xs e), fun b w xs e => o1 (u.frzs b w xs e), fun b ps e => ?_⟩, I.loc, I.cell, o2 (Ne.symm nl) I.free, fun x c e => o2 (fun q => ?_) (I.freeC x c e), fun p hp => ?_, fun b w e => ?_, I.len⟩
  · obtain ⟨more, q⟩ := u.tbls b ps e
    exact ⟨more, o1 q⟩
  · obtain ⟨v, hv⟩ := I.cell x c e
    rw [q] at hv
    obtain ⟨o', h1, h2⟩ := hv
    rw [ha] at h1
    cases h1
    exact nc _ h2
  · obtain ⟨k1, k2, k3⟩ := I.pin p hp
    exact ⟨k1, o2 (np p hp) k2, k3⟩
  · by_cases q : b = a
    · subst q
      rw [upd_same] at e
      cases e
      exact new
    · rw [upd_ne q] at e
      exact (I.hok b w e).stay (fun _ _ _ z => z) (fun _ z => o1 z) fun _ _ z => o1 z
theorem exV_ok {P : Program} {w : World} {h : Heap} {a : Addr} {cls : Value} {d : Option Addr} {oe : Obj} {vs : Array Value} (he : h.get? a = some oe) (hz : Zc cls d oe) (hd : oe.data = .fields vs) : ObjOk P w H h a (ExV cls d a) :=
  ⟨⟨oe, vs, he, hz, hd⟩, ⟨_, he⟩, fun h1 h2 ⟨oe', vs', k1, k2, k3⟩ k => ⟨oe', vs', k _ k1, k2, k3⟩⟩
end
section
variable {X : Cx} {c : Fr} {W : WX} {N : List Str} {sc : Scope} {k j : Nat} {bb : Bool} {body : List Stmt} {tb : WX → TS} {x n y : Str} {cv : Value} {i jj : Nat} {np p1 p2 p3 pos' pos : Pos}
/-- what the error may do: caught, it is at a from then on -/
def wKeep (K : PySem.W.Frag) (cv : Value) (i jj : Nat) (Wout : WX) (D : Ends) : WX := fun cls d σ H =>
  ∃ b, PySem.W.exmOne K cls cv = some b ∧ (b = true → ∀ a, H a = none → D.nx ((σ.set jj (some (.ref a))).set i none) (upd H a (ExV cls d a))) ∧ (b = false → Wout cls d σ H)
theorem ps_tryKeep (hs : X.stack = X.env :: X.outer) (hf : X.env.frame = some X.env.locals) (hex : X.ex = []) (hN : X.N.Nodup) (hi : X.N[i]? = some n) (hj : X.N[jj]? = some y) (hij : jj ≠ i) (hln : X.env.kindOf n = some .local) (hly : Loc X.env.scope y) (hfy : X.fn y = true) (hc : Names X x cv) (tk : Takes X W)
    (hdn : (n == ("__debug__" : Str)) = false) (hcn : (n == ("__classdict__" : Str)) = false) (hsw : swapsWith (.Name n p2) (some (.Name y p1)) p3.line X.env = pure false)
    (hb : ∀ (W' : WX) (pn : List (Addr × Obj)) (xe : Value → Shared → Prop), Takes (X.tr pn xe) W' → PassesOwn (model X.prog X.w) X.A X.env xe → PSs (X.tr pn xe) body (tb W')) :
    PS X (.Try body [.ExceptHandler (some (.Name x np)) (some n) [.Assign [.Name y p1] (.Name n p2) p3] pos'] [] [] pos) (fun D σ H => tb (wKeep X.K cv i jj W D) D σ H) := by
  refine ⟨fun pins st σ H D I h => ?_⟩
  have ok := I.ok
  have frames : X.A.frames = some (X.env :: X.outer) := by rw [ok.frames, hs]
  have locn : Loc X.env.scope n := .inl hln
  refine wpAny_Try_except ?_
  let hnd : ExceptHandler := .ExceptHandler (some (.Name x np)) (some n) [.Assign [.Name y p1] (.Name n p2) p3] pos'
  refine wpAny_mono ((hb (wKeep X.K cv i jj W D) (X.pn ++ pins) (fun e s₁ => wpAny (model X.prog X.w) X.A (noteFrame e X.env) (fun _ s₂ => wpAny (model X.prog X.w) X.A (setFlight e none) (fun _ s₃ => wpAny (model X.prog X.w) X.A (handleBy e X.env [hnd]) (SP X pins D) X.xe s₃) X.xe s₂) X.xe s₁)
    (fun u s' xx => ?_) PassesOwn.looking).run [] st σ H D (I.toTry _) h) (fun f s1 hsp => ?_) (fun e s1 he => he)
  · obtain ⟨a, Bs, sI, pins', σ', H', cls, d, rfl, J', nb, up, sky, na, os, ag, b, hb1, hyes, hno⟩ := xx
    have J : Inv X pins σ' H' sI := J'.ofTry ok
    rw [hs] at sky
    show wpAny (model X.prog X.w) X.A (noteFrame (.ref a) X.env) _ _ _
    refine Sky.land Zc.steady frames hf sky fun h3 fl3 up3 => ?_
    have J3 : Inv X pins σ' H' { s' with heap := h3 } := J.landed nb fl3.1 (up.trans up3) os ag
    obtain ⟨oe3, vs3, he3, hz3, hd3⟩ := fl3.there
    have ba : Bs.get? a = none := fl3.2.1
    have out : a ∉ frs (X.env :: X.outer) := fun hm => by
      obtain ⟨_, o', e', z⟩ := fl3.2.2.1.mem hm
      rw [he3] at e'; cases e'
      exact z _ hd3
    have nL : a ≠ X.env.locals := fun z => out (List.mem_filterMap.mpr ⟨X.env, List.mem_cons_self, by rw [hf, z]⟩)
    have nF : a ∉ X.fs := fun hm => by
      obtain ⟨e, he, q⟩ := List.mem_filterMap.mp hm
      exact out (List.mem_filterMap.mpr ⟨e, List.mem_cons_of_mem _ he, q⟩)
    have nI : ∀ o, sI.heap.get? a ≠ some o := fun o e => by
      have z := nb a o e (by rw [hs]; exact out)
      rw [ba] at z; cases z
    have n0 : X.s_0.heap.get? a = none := by
      cases e : X.s_0.heap.get? a with
      | none => rfl
      | some o =>
        obtain ⟨o', e'⟩ := J.base.there a o e (by rw [hex]; simp)
        exact absurd e' (nI o')
    have nP : ∀ p ∈ X.pn ++ pins, p.1 ≠ a := fun p hp q => by
      have z := (J.pin p hp).1
      rw [q] at z
      exact nI _ z
    refine wpAny_handleBy_cons (codeAny_handlers_test ?_) (by intro q; cases q)
    have LT : PySem.W.Looks (model X.prog X.w) h3 (typeOf (.ref a)) cls := fun A Q E s k q => wpAny_typeOf_ref (k _ _ he3) (by rw [hz3.1]; exact q)
    have LM := PySem.W.exm_one (M := model X.prog X.w) (J3.kIn) LT hb1
    have S3 := J3.suite he3 hd3 na nL nF
    have test : ∀ {Q : Value → Shared → Prop} {E : Value → Shared → Prop}, Q cv { s' with heap := h3 } → wpAny (model X.prog X.w) (X.A.mark (some (.ref a))) (eval (.Name x np) X.env) Q E { s' with heap := h3 } := fun {Q E} q => by
      obtain ⟨hg, hdbg, hm | ⟨hm, hv, hnn⟩⟩ := hc
      · exact ld_glob (X := X.suite a ((a, oe3) :: (X.pn ++ pins))) S3 hg hm q hdbg
      · exact ld_blt (X := X.suite a ((a, oe3) :: (X.pn ++ pins))) S3 hg hm hv q hnn hdbg
    refine test (LM.here ?_)
    cases b with
    | true =>
      refine codeAny_handlers_suite_as ?_
      refine HandSPX.lands_againZ fl3 fun h4 fl4 up4 => ?_
      have J4 : Inv X pins σ' H' { s' with heap := h4 } := J.landed nb fl4.1 ((up.trans up3).trans up4) os ag
      obtain ⟨oe4, vs4, he4, hz4, hd4⟩ := fl4.there
      have S4 := J4.suite he4 hd4 na nL nF
      let X4 := X.suite a ((a, oe4) :: (X.pn ++ pins))
      have il : i < σ'.length := by rw [J.len]; exact (List.getElem?_eq_some_iff.mp hi).1
      refine store_ok (X := X4) (v := .ref a) S4 hN hi locn rfl (fun s5 S5 => ?_) (.inr hln)
      have asg : PSs X4 [.Assign [.Name y p1] (.Name n p2) p3] (tAsg (tVar i) (gName jj)) := pss_one (ps_set (X := X4) (i := jj) hN hj hly (pe_var (X := X4) (i := i) hi (.inl hln) hdn hcn) hsw (.inl hfy))
      refine wpAny_mono (asg.run [] s5 _ H' { nx := fun σ6 H6 => σ6 = ((σ'.set i (some (.ref a))).set jj (some (.ref a))) ∧ H6 = H', rt := fun _ _ => False } S5 ⟨.ref a, List.getElem?_set_self il, rfl, rfl⟩) (fun f s6 hsp => ?_) (fun _ _ z => False.elim z)
      cases f with
      | next =>
        obtain ⟨σ6, H6, S6, rfl, rfl⟩ := hsp
        have hob : s6.heap.get? a = some oe4 := (S6.pin (a, oe4) (List.mem_append_left _ (List.mem_cons_self))).1
        have A6 := adopt (o := ExV cls d a) (S6.unsuite ok) na n0 hob nL (fun v z => by rw [hd4] at z; cases z) nP (exV_ok hob hz4 hd4)
        refine gone_ok A6 hN hi hln fun s7 J7 => ⟨_, _, J7, ?_⟩
        have q := hyes rfl a na
        have e : ((List.set σ' i (some (V.ref a))).set jj (some (V.ref a))).set i none = (List.set σ' jj (some (V.ref a))).set i none := by
          rw [List.set_comm _ _ (Ne.symm hij), List.set_set]
        rw [e]
        exact q
      | brk => exact (by obtain ⟨_, _, _, z⟩ := hsp; exact z.elim)
      | cont => exact (by obtain ⟨_, _, _, z⟩ := hsp; exact z.elim)
      | ret u => exact (by obtain ⟨_, _, _, _, _, z⟩ := hsp; exact z.elim)
    | false =>
      show wpAny _ X.A (handleBy (.ref a) X.env []) _ _ _
      refine wpAny_handleBy_nil ?_
      obtain ⟨k1, k2, k3, oe, vs, T, oT, ts', he, hz, hd, h1, hr⟩ := id fl3
      unfold PySem.passOn
      refine wpAny_bind (wpAny_field he hd h1 ?_)
      rw [if_neg (show ¬ ((Value.ref T == Value.none) = true) from by simp)]
      have fin : wpAny (model X.prog X.w) X.A (setFlight (.ref a) X.env.frame) (fun _ s4 => wpAny (model X.prog X.w) X.A (throw (.ref a) : Sem Flow) (SP X pins D) X.xe s4) X.xe { s' with heap := h3 } := by
        rw [hf]
        exact HandSPX.setFlight_upZ fl3 fun h4 hh4 up4 => wpAny_throw (tk _ _ ⟨a, Bs, sI, pins, σ', H', cls, d, rfl, J, nb, (up.trans up3).trans up4, .inr (.inr (by rw [hs]; exact hh4)), na, os, ag, hno rfl⟩)
      first
        | exact wpAny_bind (wpAny_pure (wpAny_bind fin))
        | exact wpAny_bind fin
  · cases f with
    | next => obtain ⟨σ6, H6, I6, q6⟩ := hsp; exact wpAny_execs_nil ⟨σ6, H6, I6.ofTry ok, q6⟩
    | brk => obtain ⟨σ6, H6, I6, q6⟩ := hsp; exact ⟨σ6, H6, I6.ofTry ok, q6⟩
    | cont => obtain ⟨σ6, H6, I6, q6⟩ := hsp; exact ⟨σ6, H6, I6.ofTry ok, q6⟩
    | ret u => obtain ⟨v6, σ6, H6, I6, r6, q6⟩ := hsp; exact ⟨v6, σ6, H6, I6.ofTry ok, r6, q6⟩
/-- a slot is emptied -/
theorem Rel.unset {c : Fr} {G H : Hp} {σ : L2.St} {δ : S} (R : Rel c G H σ δ) (i : Nat) : Rel c G H (σ.set i none) { δ with sl := δ.sl.set i .un } := by
  have g : ∀ {j s a}, (δ.sl.set i .un)[j]? = some s → isOwn s = true → at_ (σ.set i none) j = some (.ref a) → δ.sl[j]? = some s ∧ at_ σ j = some (.ref a) := fun {j s a} h o h2 => by
    by_cases e : j = i
    · subst e
      by_cases hi : j < δ.sl.length
      · rw [List.getElem?_set_self hi] at h; cases h; cases o
      · rw [List.getElem?_eq_none (by simpa using hi)] at h; cases h
    · rw [List.getElem?_set_ne (Ne.symm e)] at h
      refine ⟨h, ?_⟩
      unfold at_ at h2 ⊢
      rwa [List.getElem?_set_ne (Ne.symm e)] at h2
  refine ⟨R.st, R.go.imp (fun _ s => s) fun a s => .inl (s.imp id fun ⟨j, s, h1, o, h2⟩ => ⟨j, s, (g h1 o h2).1, o, (g h1 o h2).2⟩), by simp [R.len], fun j s h => ?_, fun j k a s t ne h1 h2 o1 o2 a1 a2 => R.uq j k a s t ne (g h1 o1 a1).1 (g h2 o2 a2).1 o1 o2 (g h1 o1 a1).2 (g h2 o2 a2).2⟩
  by_cases e : j = i
  · subst e
    by_cases hi : j < δ.sl.length
    · rw [List.getElem?_set_self hi] at h; cases h; trivial
    · rw [List.getElem?_eq_none (by simpa using hi)] at h; cases h
  · rw [List.getElem?_set_ne (Ne.symm e)] at h
    have q := R.sl j s h
    unfold at_ at q ⊢
    rwa [List.getElem?_set_ne (Ne.symm e)]
theorem ErRep.rep {c : Wd} {G : Hp} {cls : Value} {dd : Option Addr} {er : Er} {a : Addr} (h : ErRep c G cls dd er) (ha : G a = some (ExV cls dd a)) : Rep c.K c.p0 G (.ref a) (.exc er.cls er.fs) := by
  obtain ⟨rfl, ⟨h, rfl⟩ | ⟨d, vs, rfl, h1, h2⟩⟩ := h
  · rw [h]; exact .exc0 ha
  · exact .exc ha h1 h2
theorem ErRep.mono {c : Wd} {G G' : Hp} {cls : Value} {dd : Option Addr} {er : Er} (h : ErRep c G cls dd er) (e : Le G G') : ErRep c G' cls dd er :=
  ⟨h.1, h.2.imp id fun ⟨d, vs, h0, h1, h2⟩ => ⟨d, vs, h0, e _ _ h1, h2.mono e⟩⟩
/-- try: t; except C as n: y = n -/
def dTryKeep (w : Wd) (cv : Value) (i jj : Nat) (t : DTS) : DTS := fun N δ => t { N with ex := fun er δ' => ∃ b, PySem.W.exmOne w.K er.cls cv = some b ∧ (if b = true then N.nx { δ' with sl := (δ'.sl.set jj (.d (.exc er.cls er.fs))).set i .un } else N.ex er δ') } δ
theorem ds_tryKeep {t : DTS} (B : XB X c W N sc k false) (hi : N[i]? = some n) (hj : N[jj]? = some y) (hln : sc.names.lookup n = some .local) (hly : Loc sc y) (hg : sc.names.lookup x = some .globalImplicit) (hm : c.mg x = some cv)
    (hb : ∀ (pn : List (Addr × Obj)) (xe : Value → Shared → Prop) (W' : WX), XB (X.tr pn xe) c W' N sc k false → DSs (X.tr pn xe) c W' body t) (hij : jj ≠ i := by decide) (hdb : (x == ("__debug__" : Str)) = false := by decide) (hdn : (n == ("__debug__" : Str)) = false := by decide) (hcn : (n == ("__classdict__" : Str)) = false := by decide)
    (hsw : swapsWith (.Name n p2) (some (.Name y p1)) p3.line X.env = pure false := by rfl) :
    DS X c W (.Try body [.ExceptHandler (some (.Name x np)) (some n) [.Assign [.Name y p1] (.Name n p2) p3] pos'] [] [] pos) (dTryKeep c.toWd cv i jj t) :=
  psI (ps_tryKeep (tb := fun W' => liftS c W' t) (B.stk rfl).1 (B.stk rfl).2 (B.ex rfl) (by rw [B.hN]; exact B.nd) (by rw [B.hN]; exact hi) (by rw [B.hN]; exact hj) hij (by show X.env.scope.names.lookup n = _; rw [B.hs]; exact hln) (by rw [B.hs]; exact hly) (B.fn rfl y) ⟨glX B hg, hdb, .inl (by rw [B.hm]; exact hm)⟩ B.tk hdn hcn hsw
    fun W' pn xe tk pw => hb pn xe W' ⟨B.hP, B.hw, B.hK, B.hm, B.hb, B.hN, B.nd, B.hs, B.calm, B.room, B.gd, tk, pw, B.fn, B.ex, B.stk⟩) fun D σ H ⟨G, δ, N, R, h, n⟩ =>
  ⟨G, δ, _, R, h, n.nx, n.rt, n.bk, n.ct, fun er δ' cls dd G' H' σ' ⟨b, hb1, hp⟩ L R' hE => by
    obtain rfl := hE.1
    refine ⟨b, by rw [B.hK]; exact hb1, fun e a na => ?_, fun e => ?_⟩
    · subst e
      simp only [if_true] at hp
      have po := R'.laid (o := ExV er.cls dd a) na
      have R2 := R'.laid' (o := ExV er.cls dd a) na
      exact n.nx _ _ _ _ hp (L.trans po.go.g) ((R2.set' (i := jj) ((hE.mono po.go.g).rep upd_same)).unset i)
    · subst e
      simp only [Bool.false_eq_true, if_false] at hp
      exact n.ex er δ' _ dd G' H' σ' hp L R' hE⟩
end
end DL

/-! EM2: attributes: fields, properties, an error's fields; isinstance of errors. -/
namespace PySem.W
section
variable {prog : Program} {w : World} {A : Around} {E : Value → Shared → Prop} {s : Shared} {K : Frag} {x D : Addr} {ox : Obj} {od : Option Obj}
/-- a data descriptor of the class goes ahead of the object's own dict -/
theorem findObj_dataX {C : Addr} {name : Str} {a g : Value} (hc : (clsIn K C).isSome = true) (ha : findIn K (.ref C) name = some (some a)) (hg : specialIn K a "__get__" = some (some g)) (ht : takesIn K a = some true) : findObj K C od name = some (.bind g a) := by
  cases e : clsIn K C with
  | none => rw [e] at hc; cases hc
  | some cd => simp only [findObj, e, ha, hg, ht, Option.bind_some]
/-- what an own error's class must say -/
structure XcC (K : Frag) (D : Addr) : Prop where
  ga : findIn K (.ref D) "__getattribute__" = some (some (.builtin "BaseException.__getattribute__"))
  gg : findIn K (.ref D) "__getattr__" = some none
  sb : subIn K (.ref D) (.type "BaseException") = some true
  hd : hasDictIn K D = true
  cc : findIn K (.ref D) "__class__" = some (some (.builtin "object.__class__"))
  cg : specialIn K (.builtin "object.__class__") "__get__" = some (some (.builtin "getset_descriptor.__get__"))
  ct : takesIn K (.builtin "object.__class__") = some true
  ob : mroIn K D (.type "object") = some true
theorem XcC.isCls (c : XcC K D) : (clsIn K D).isSome = true := by
  obtain ⟨cd, h, _⟩ := any_some c.hd
  rw [h]; rfl
theorem xc_class (c : XcC K D) {Q : Option Value → Shared → Prop} (X : K.In s.heap) (I : InstAt s.heap x ox D od) (h : Q (some (.ref D)) { s with toks := s.toks + 1 }) : wpAny (model prog w) A (getAttr? (.ref x) "__class__") Q E s := by
  have hf : findObj K D od "__class__" = some (.bind (.builtin "getset_descriptor.__get__") (.builtin "object.__class__")) := findObj_dataX c.isCls c.cc c.cg c.ct
  obtain ⟨hp, g, d, t, os⟩ := s
  have T0 := I.type (M := model prog w)
  have T1 := looks_findIn (M := model prog w) X c.ga
  have T2 := looks_findIn (M := model prog w) X c.gg
  have T3 := looks_find (M := model prog w) X I hf
  have sub : Looks (model prog w) hp (isInstance (.ref x) (.type "BaseException")) true := T0.andThen (looks_subIn X c.sb)
  have y2 : (Value.builtin "BaseException.__getattribute__" == Value.builtin "object.__getattribute__") = false := by decide +kernel
  unfold getAttr? getAttrBy? getAttrBy
  refine wpAny_bind (wpAny_mkText (wpAny_bind (wpAny_attempt (wpAny_holding (wpAny_bind (T0.at (wpAny_bind (T1.at ?_))))))))
  show wpAny _ _ (if (onTheHeap (Value.ref D) && Value.builtin "BaseException.__getattribute__" == Value.builtin "object.__getattribute__") = true then _ else _) _ _ _
  rw [y2, Bool.and_false, if_neg Bool.false_ne_true]
  unfold getAttrByItsOwn hookBefore
  refine wpAny_bind ?_
  rw [if_pos (show onTheHeap (Value.ref D) = true from rfl)]
  refine T2.at (wpAny_bind (wpAny_attempt (wpAny_holding ?_)))
  unfold callGetattribute
  rw [show (false && onTheHeap (Value.builtin "BaseException.__getattribute__")) = false from rfl, if_neg Bool.false_ne_true]
  unfold boundAndCalled
  rw [PySem.F.excAttr_ValueError.ga.bind (.ref x)]
  refine wpAny_bind (wpAny_pure ?_)
  show wpAny _ _ (call (.builtin "BaseException.__getattribute__") [.ref x, .str "__class__" t]) _ _ _
  refine wpAny_call (codeAny_call_builtin PySem.F.excAttr_ValueError.ga.plain PySem.F.entry_bexc_ga ?_)
  refine @check_slot (model prog w) _ _ ⟨hp, g, d, t + 1, os⟩ "BaseException.__getattribute__" "BaseException" "__getattribute__" (.ref x) [.str "__class__" t] [] _ (by decide +kernel) (by decide +kernel) sub (PySem.F.args_bexc_ga (.ref x) (.str "__class__" t)) ?_
  unfold Builtin.«object.__getattribute__»
  refine wpAny_bind (wpAny_of_eq (a := ((Value.ref x : Value), [Value.str "__class__" t])) (by first | rfl | (simp only [slotArgs]; rfl)) (wpAny_bind (wpAny_pure (wpAny_bind (T0.at (wpAny_bind (T3.at ?_)))))))
  show wpAny _ _ (holding [Value.builtin "object.__class__"] (call (.builtin "getset_descriptor.__get__") [.builtin "object.__class__", .ref x, .ref D]) >>= ret) _ _ _
  refine wpAny_bind (wpAny_holding (wpAny_call (class_get (s := ⟨hp, g, d, t + 1, os⟩) (ox := ox) (od := od) X I c.ob (wpAny_pure ?_))))
  show wpAny _ _ (handedOut (.ref D)) _ _ _
  rw [handedOut_of (v := .ref D) rfl]
  first
    | exact wpAny_pure (wpAny_pure h)
    | exact wpAny_pure h
    | exact wpAny_pure (wpAny_bind (wpAny_pure (wpAny_pure h)))
theorem xc_noTup (c : XcC K D) {h : Heap} {tp : Addr} {dd : Option Addr} {its : List Value} {n : Nat} {sl : Array (Option Value)} (X : K.In h) (htp : h.get? tp = some ⟨.type "tuple", dd, .seq its.toArray n, sl⟩) : (Value.ref D == .ref tp) = false := by
  refine Bool.eq_false_iff.mpr fun q => ?_
  cases Value.ref.inj (beq_iff_eq.mp q)
  have z := c.isCls
  unfold clsIn at z
  split at z
  · rename_i ho
    rw [X _ _ ho] at htp; cases htp
  · cases z
theorem kitx_exc (c : XcC K D) : KitX K (.ref x) (.ref D) (fun h => ∃ od, InstAt h x ox D od) where
  ty := fun _ _ _ ⟨_, I⟩ => I.type
  it := fun _ _ X _ => by
    have z := c.isCls
    unfold clsIn at z
    split at z
    · rename_i ho
      intro A' Q' E' s' k q
      unfold isType loadHead
      exact wpAny_bind (wpAny_loadPart (k _ _ (X _ _ ho)) (wpAny_pure q))
    · cases z
  ne := fun h tp dd its n sl X htp => xc_noTup c X htp
  ca := fun X ⟨_, I⟩ k => xc_class c X I k
end
end PySem.W
namespace DL
open PySem L2 PySem.Spec PyProof.Rows PySem.SeqAt
section
variable {X : Cx} {c : Fr} {W : WX} {N : List Str} {sc : Scope} {k j : Nat} {bb : Bool} {e a b o : Expr} {es : List Expr} {pos p p2 apos : Pos} {r ra rb : DTE} {rs rk : DTA} {x : Str} {st : Stmt} {s : DSp2}
/-- an error's object, its dict -/
theorem excAt {pins : List (Addr × Obj)} {σ : L2.St} {H G : Hp} {s : Shared} {K : PySem.W.Frag} {p0 : Addr} {v : V} {C : Addr} {fs : List (Str × D)} (I : Inv X pins σ H s) (le : Le G H) (h : Rep K p0 G v (.exc (.ref C) fs)) :
    ∃ xa ox od, v = .ref xa ∧ PySem.W.InstAt s.heap xa ox C od ∧ ∀ f y, fs.lookup f = some y → ∃ (dd : Addr) (ws : List (Str × V)), H dd = some (.xd ws) ∧ RepF K p0 G ws fs ∧ ox.dict = some dd := by
  have mk : ∀ {xa : Addr} {d : Option Addr}, G xa = some (ExV (.ref C) d xa) → ∃ oe, s.heap.get? xa = some oe ∧ oe.cls = .ref C ∧ oe.dict = d ∧ PySem.W.notCls oe = true := fun {xa d} hg => by
    obtain ⟨⟨oe, vs, q1, q2, q3⟩, _⟩ := (show ObjOk X.prog X.w H s.heap xa (ExV (.ref C) d xa) from I.hok xa _ (le _ _ hg))
    exact ⟨oe, q1, q2.1, q2.2, by unfold PySem.W.notCls; rw [q3] <;> rfl⟩
  cases h with
  | @exc0 xa _ hg =>
    obtain ⟨oe, q1, q2, q3, q4⟩ := mk hg
    exact ⟨xa, oe, none, rfl, ⟨q1, q2, q4, by rw [q3]; trivial⟩, fun f y z => by cases z⟩
  | @exc xa d _ vs _ hg hd rf =>
    obtain ⟨oe, q1, q2, q3, q4⟩ := mk hg
    obtain ⟨mA, hns, _⟩ := (show ObjOk X.prog X.w H s.heap d (.xd vs) from I.hok d _ (le _ _ hd))
    obtain ⟨od, ho, _⟩ := lookIn_ns hns
    exact ⟨xa, oe, some od, rfl, ⟨q1, q2, q4, by rw [q3]; exact ho⟩, fun f y z => ⟨d, vs, le _ _ hd, rf, q3⟩⟩
/-- what a value is, by its type; errors, too -/
def tyX (w : Wd) (d : D) (P : Value → Prop) : Prop := match d with
  | .exc (.ref C) _ => PySem.W.XcC w.K C ∧ P (.ref C)
  | d => tyD w d P
/-- a call of a built-in that the state bears on -/
def CalE (X : Cx) (c : Fr) (W : WX) (f : Value) (o : DSp) : Prop :=
  ∀ (pins : List (Addr × Obj)) (st : Shared) (σ : L2.St) (H : Hp) (vs : List V) (us : List Value) (ds : List D) (G : Hp) (δ : S) (P : D → Z → Prop) (E : Er → Z → Prop) (Q : VK),
    Inv X pins σ H st → Vals vs us → Rel c G H σ δ → RepL c.K c.p0 G vs ds → o ds δ.z P E → KP c G H σ δ P Q → KE c W G σ δ E →
    wpAny (model X.prog X.w) X.A (call f us) (EP X pins σ Q) X.xe st
theorem CalE.or {f : Value} {o o' : DSp} (h : CalE X c W f o) (h' : CalE X c W f o') : CalE X c W f (fun ds z P E => o ds z P E ∨ o' ds z P E) :=
  fun pins st σ H vs us ds G δ P E Q I r R rl q kp ke => q.elim (fun q => h pins st σ H vs us ds G δ P E Q I r R rl q kp ke) (fun q => h' pins st σ H vs us ds G δ P E Q I r R rl q kp ke)
theorem CalE.imp {f : Value} {o o' : DSp} (h : CalE X c W f o) (l : ∀ ds z P E, o' ds z P E → o ds z P E) : CalE X c W f o' :=
  fun pins st σ H vs us ds G δ P E Q I r R rl q kp ke => h pins st σ H vs us ds G δ P E Q I r R rl (l _ _ _ _ q) kp ke
theorem calE_of {f : Value} {o : DBu} (h : BuD X c f o) : CalE X c W f (fun ds z P _ => o ds (fun d => P d z)) := by
  obtain ⟨r, h1, h2⟩ := h.ex
  exact fun pins st σ H vs us ds G δ P E Q I rv R rl q kp ke => h1 pins st σ H vs us Q I rv (h2 G H σ δ vs ds (fun d => P d δ.z) Q R rl q fun d w G' H' p L R' rr => kp d δ.z w G' H' p L R' rr)
def dCalE (o : DSp) (rs : DTA) : DTE := fun δ P E => rs δ (fun ds δ1 => o ds δ1.z (fun d z => P d { δ1 with z := z }) (fun er z => E er { δ1 with z := z })) E
theorem dcalE_in {o : DSp} {σ : L2.St} {H : Hp} {Q : VK} : liftE c W (dCalE o rs) σ H Q → liftA c W rs σ H fun vs H1 => ∃ G δ ds P E, Rel c G H1 σ δ ∧ RepL c.K c.p0 G vs ds ∧ o ds δ.z P E ∧ KP c G H1 σ δ P Q ∧ KE c W G σ δ E := fun ⟨G, δ, P, E, R, h, kk, xx⟩ =>
  ⟨G, δ, _, E, R, h, fun ds δ1 vs G1 H1 p1 L1 R1 r1 => ⟨G1, δ1, ds, _, _, R1, r1, p1, fun d z' w G' H' p L R' rr => kk d _ w G' H' p (L1.trans L) R' rr, fun er z' cls dd G' H' p L R' q => xx er _ cls dd G' H' p (L1.g.trans L) R' q⟩, xx⟩
theorem de_calB {id : String} {o : DSp} (B : XB X c W N sc k bb) (hm : c.mg x = none) (hv : bootBuiltins x = some (.builtin id)) (ho : CalE X c W (.builtin id) o) (hg : sc.names.lookup x = some .globalImplicit) (ha : DA X c W (e :: es) rs) (hn : x ≠ "__name__" := by decide) (hdb : (x == ("__debug__" : Str)) = false := by decide)
    (he : starEach (e :: es) X.env = (false, eval e X.env) :: starEach es X.env := by rfl) (hpl : (backTo pos (starEach es X.env)).any (·.1) = false := by rfl) : DE X c W (.Call (.Name x p) (e :: es) [] pos) (dCalE o rs) := by
  refine ⟨fun pins s σ H Q I h => ?_⟩
  refine wpAny_Call_Name_kw (ld_blt I (glX B hg) (by rw [B.hm]; exact hm) hv ?_ hn hdb)
  exact PyProof.Rows.callWith_builtin1 (thn (ha.run pos pins s σ H _ I (dcalE_in h)) fun us s1 ⟨vs, H1, I1, r1, G, δ, ds, P, E, R, rl, q, kp, ke⟩ => ho pins s1 σ H1 vs us ds G δ P E Q I1 r1 R rl q kp ke) he hpl
theorem de_calT {T : String} {o : DSp} (B : XB X c W N sc k bb) (hm : c.mg x = none) (hv : bootBuiltins x = some (.type T)) (ho : CalE X c W (.type T) o) (hg : sc.names.lookup x = some .globalImplicit) (ha : DA X c W (e :: es) rs) (hn : x ≠ "__name__" := by decide) (hdb : (x == ("__debug__" : Str)) = false := by decide)
    (he : starEach (e :: es) X.env = (false, eval e X.env) :: starEach es X.env := by rfl) (hpl : (backTo pos (starEach es X.env)).any (·.1) = false := by rfl) : DE X c W (.Call (.Name x p) (e :: es) [] pos) (dCalE o rs) := by
  refine ⟨fun pins s σ H Q I h => ?_⟩
  refine wpAny_Call_Name_kw (ld_blt I (glX B hg) (by rw [B.hm]; exact hm) hv ?_ hn hdb)
  exact PyProof.Rows.callWith_type1 (thn (ha.run pos pins s σ H _ I (dcalE_in h)) fun us s1 ⟨vs, H1, I1, r1, G, δ, ds, P, E, R, rl, q, kp, ke⟩ => ho pins s1 σ H1 vs us ds G δ P E Q I1 r1 R rl q kp ke) he hpl
/-- isinstance(x, C) -/
def oIsA (w : Wd) : DSp := fun ds z P _ => match ds with
  | [d, k] => (match clD k with
    | some u => tyX w d (fun t => ∃ b, PySem.W.kitOne w.K t u = some b ∧ P (.bl b) z)
    | none => False)
  | _ => False
theorem clD_rep {K : PySem.W.Frag} {p0 : Addr} {G : Hp} {v : V} {d : D} {u : Value} (h : Rep K p0 G v d) (e : clD d = some u) : ClsV v u := by
  cases h <;> first | (cases e; done) | (simp only [clD, Option.some.injEq] at e; subst e; first | exact .ty _ | exact .own _)
theorem c_isa (B : XB X c W N sc k bb) : CalE X c W (.builtin "isinstance") (oIsA c.toWd) := by
  intro pins st σ H vs us ds G δ P E Q I rv R rl q kp ke
  match ds, rl, q with
  | [d, kd], rl, q =>
    have q0 := q
    unfold oIsA at q
    simp only at q
    cases e : clD kd with
    | none => rw [e] at q; exact q.elim
    | some u =>
      rw [e] at q
      by_cases hx : ∃ C fs, d = .exc (.ref C) fs
      · obtain ⟨C, fs, rfl⟩ := hx
        obtain ⟨hc, b, hb, hp⟩ := (show PySem.W.XcC c.K C ∧ ∃ b, PySem.W.kitOne c.K (.ref C) u = some b ∧ P (.bl b) δ.z from q)
        cases rl with
        | cons r1 rr =>
          cases rr with
          | cons r2 rr =>
            cases rr
            cases rv with
            | cons v1 vr =>
              cases vr with
              | cons v2 vr =>
                cases vr
                obtain ⟨xa, ox, od, rfl, J, _⟩ := excAt I R.le r1
                cases v1
                have e2 := (clD_rep r2 e).eq v2
                subst e2
                rw [← B.hK] at hc hb
                exact PySem.W.kia_one (PySem.W.kitx_exc hc) I.kIn ⟨od, J⟩ hb (fun z => nomatch z) fun tk => ⟨.bl b, H, I.tok tk, rfl, kp _ δ.z _ G H hp Go.refl R (.bl b)⟩
      · have q' : oIsi c.toWd [d, kd] (fun y => P y δ.z) := by
          unfold oIsi
          simp only [e]
          cases d with
          | exc cv fs =>
            cases cv with
            | ref C => exact absurd ⟨C, fs, rfl⟩ hx
            | _ => exact q.elim
          | _ => exact q
        exact calE_of (W := W) (b_isi B) pins st σ H vs us [d, kd] G δ P E Q I rv R rl q' kp ke
  | [], _, q => exact q.elim
  | [_], _, q => exact q.elim
  | _ :: _ :: _ :: _, _, q => exact q.elim
/-! ### attributes -/
theorem codeN {fv : Value} {ks : List Str} {A : Around} (B : XB X c W N sc k bb) (hc : Callee c.toWd fv ks j s) (hr : Room j A) (hg : A.guards = some []) (hf : A.frames = X.A.frames) {pins : List (Addr × Obj)} {st : Shared} {σ : L2.St} {H G : Hp} {δ : S} {us ws : List Value} {vs zs : List V} {ds es : List D} {P : D → Z → Prop} {Q : VK}
    (I : Inv X pins σ H st) (rv : Vals vs us) (rz : Vals zs ws) (hl : zs.length = ks.length) (R : Rel c G H σ δ) (rd : RepL c.K c.p0 G vs ds) (re : RepL c.K c.p0 G zs es) (h : s ds es δ.z P (fun _ _ => False)) (kp : KP c G H σ δ P Q) :
    codeAny (model X.prog X.w) A (.call fv ⟨us, ks.zip ws⟩) (fun r s' => ∃ v, r = .ok (.ret v) ∧ EP X pins σ Q v s') st := by
  have ok := I.ok
  let X' : Cx := { X with A := A, xe := fun _ _ => False }
  have I' : Inv X' pins σ H st := ⟨⟨ok.mod, ok.kind, ok.glob, ok.blt, ok.above, ok.inj, ok.has, ok.cab, fun _ => hr.hd, hf.trans ok.frames, ok.stk, ok.exf, ok.bs, ok.bsz, ok.noex, ok.exfs, ok.funs, ok.frf⟩, I.os, I.bare, I.base, I.loc, I.cell, I.free, I.freeC, I.pin, I.hok, I.len⟩
  refine codeAny_mono (hc.code X' never pins st σ H us ws vs zs Q B.hP B.hw B.hK B.hm B.hb hr hg (fun u s' ⟨_, _, _, _, _, _, _, _, _, _, _, _, _, _, _, _, z⟩ => z.elim) I' rv rz hl ⟨G, ds, es, δ.z, P, _, R.st, rd, re, h, fun d z' v G' H' p po rr => kp d z' v G' H' p (po.spf R) (R.post po) rr, fun _ _ _ _ _ _ p => p.elim⟩) fun r s' hq => ?_
  cases r with
  | error e => exact hq.elim
  | ok fl =>
    cases fl with
    | ret v =>
      obtain ⟨w, H', J, r', q⟩ := hq
      exact ⟨v, rfl, w, H', ⟨ok, J.os, J.bare, J.base, J.loc, J.cell, J.free, J.freeC, J.pin, J.hok, J.len⟩, r', q⟩
    | next => exact hq.elim
    | brk => exact hq.elim
    | cont => exact hq.elim
theorem runN {fv : Value} {ks : List Str} {A : Around} (B : XB X c W N sc k bb) (hc : Callee c.toWd fv ks j s) (hr : Room j A) (hg : A.guards = some []) (hf : A.frames = X.A.frames) {pins : List (Addr × Obj)} {st : Shared} {σ : L2.St} {H G : Hp} {δ : S} {us ws : List Value} {vs zs : List V} {ds es : List D} {P : D → Z → Prop} {Q : VK} {E' : Value → Shared → Prop}
    (I : Inv X pins σ H st) (rv : Vals vs us) (rz : Vals zs ws) (hl : zs.length = ks.length) (R : Rel c G H σ δ) (rd : RepL c.K c.p0 G vs ds) (re : RepL c.K c.p0 G zs es) (h : s ds es δ.z P (fun _ _ => False)) (kp : KP c G H σ δ P Q) :
    wpAny (model X.prog X.w) A (call fv us (ks.zip ws)) (EP X pins σ Q) E' st :=
  wpAny_call (codeAny_mono (codeN B hc hr hg hf I rv rz hl R rd re h kp) fun r s' ⟨v, e, q⟩ => by subst e; exact q)
/-- an error's attribute f stands in its own dict -/
structure XA (c : Wd) (C : Addr) (f : Str) : Prop where
  xc : PySem.W.XcC c.K C
  no : PySem.W.findIn c.K (.ref C) f = some none
structure PropD (c : Wd) (f : Str) (k : Nat) (C : Addr) (s : DSp2) : Prop where
  cl : Cls c.K C
  ex : ∃ p g : Addr, PropOf c.K C f p g ∧ Callee c (.ref g) [] k s
/-- o.f: a field, a property (C's stand in the table), an error's field -/
def dAt (w : Wd) (f : Str) (tbl : List (Addr × DSp2)) (r : DTE) : DTE := fun δ P E => r δ (fun d δ1 => match d with
  | .ins C fs => (match fs.lookup f with
    | some x => CA w C f ∧ P x δ1
    | none => dpt tbl C fun s => s [.ins C fs] [] δ1.z (fun y n => P y { δ1 with z := n }) (fun _ _ => False))
  | .exc (.ref C) fs => XA w C f ∧ (match fs.lookup f with
    | some x => P x δ1
    | none => False)
  | _ => False) E
theorem de_at {f : Str} {tbl : List (Addr × DSp2)} (B : XB X c W N sc (k + 1) bb) (hT : AllT (PropD c.toWd f j) tbl) (hj : j ≤ k) (he : DE X c W e r) (hb : attributeBase e f X.env (eval e X.env) = eval e X.env := by rfl) : DE X c W (.Attribute e f pos) (dAt c.toWd f tbl r) := by
  refine ⟨fun pins st σ H Q I ⟨G, δ, P, E, R, h, kk, xx⟩ => ?_⟩
  refine attr_of hb (thn (he.run pins st σ H (fun v H1 => ∃ G1 δ1 d, Rel c G1 H1 σ δ1 ∧ Rep c.K c.p0 G1 v d ∧ (∀ d δ' v G' H', P d δ' → Gof c δ1 δ' σ G1 H1 G' H' → Rel c G' H' σ δ' → Rep c.K c.p0 G' v d → Q v H') ∧ (match d with
    | .ins C fs => (match fs.lookup f with
      | some x => CA c.toWd C f ∧ P x δ1
      | none => dpt tbl C fun s => s [.ins C fs] [] δ1.z (fun y n => P y { δ1 with z := n }) (fun _ _ => False))
    | .exc (.ref C) fs => XA c.toWd C f ∧ (match fs.lookup f with
      | some x => P x δ1
      | none => False)
    | _ => False)) I ⟨G, δ, _, E, R, h, fun d δ1 v G1 H1 p L R1 rr => ⟨G1, δ1, d, R1, rr, fun d' δ' v' G' H' q L' R' r' => kk d' δ' v' G' H' q (L.trans L') R' r', p⟩, xx⟩) fun u s1 ⟨v, H1, I1, rx, G1, δ1, d, R1, rr, k1, p⟩ => ?_)
  cases d with
  | ins C fs =>
    simp only at p
    obtain ⟨xa, dx, vs, rfl, hG, rf⟩ := selfRep (H := H1) rr
    cases (show u = Value.ref xa from rx)
    cases hl : fs.lookup f with
    | some y =>
      rw [hl] at p
      obtain ⟨ca, p⟩ := p
      obtain ⟨w, hw, rw'⟩ := rf.look hl
      exact getattr_ok I1 (R1.le _ _ hG) (by rw [B.hK]; exact ca.cl) (by rw [B.hK]; exact ca.na) hw fun u' s2 I2 ru => ⟨w, H1, I2, ru, k1 y δ1 w G1 H1 p Go.refl R1 rw'⟩
    | none =>
      rw [hl] at p
      obtain ⟨s, hs, p⟩ := AllT.get hT p
      obtain ⟨pp, g, hp, hc⟩ := hs.ex
      have cl := hs.cl
      rw [← B.hK] at cl hp
      obtain ⟨mA, O, _, _, _, _⟩ := ins_get I1.hok (R1.le _ _ hG)
      obtain ⟨od, J, _⟩ := O.look
      obtain ⟨rest, hrec⟩ := hp.rec_
      have hC : (PySem.W.clsIn X.K C).isSome = true := by
        obtain ⟨cd, hc, _⟩ := PySem.W.any_some cl.hd
        rw [hc]; rfl
      refine PySem.W.get_bind I1.kIn J (PySem.W.plainGet_of (cl.get f)).1 (PySem.W.findObj_data hC hp.at_ hp.get hp.tak) (PySem.W.plainGet_of (cl.get f)).2 (wpAny_call (PySem.W.prop_get (s := { s1 with toks := s1.toks + 1 }) I1.kIn hrec ?_))
      refine codeAny_mono (codeN (A := X.A.in1) (ks := []) (ws := []) (zs := []) (es := []) (vs := [.ref xa]) (us := [.ref xa]) (Q := Q) B hc (B.room.in1.mono hj) B.gd rfl (I1.tok (s1.toks + 1)) (.cons rfl .nil) .nil rfl R1 (.cons rr .nil) .nil p (fun d z' w G' H' q L' R' r' => k1 d _ w G' H' q L' R' r')) fun r s' ⟨v, e, w, H', I3, rv, q3⟩ => ?_
      subst e
      show wpAny _ _ (handedOut v) _ _ _
      rw [PySem.W.handedOut_of (handed_of rv)]
      exact wpAny_pure ⟨w, H', I3, rv, q3⟩
  | exc cv fs =>
    cases cv with
    | ref C =>
      simp only at p
      obtain ⟨xa, p⟩ := p
      cases hl : fs.lookup f with
      | none => rw [hl] at p; exact p.elim
      | some y =>
        rw [hl] at p
        obtain ⟨a0, ox, od, rfl, J, hd⟩ := excAt I1 R1.le rr
        cases (show u = Value.ref a0 from rx)
        obtain ⟨dd, ws, h1, rf, hx⟩ := hd f y hl
        obtain ⟨w, hw, rw'⟩ := rf.look hl
        obtain ⟨mA, hns, hr⟩ := (show ObjOk X.prog X.w H1 s1.heap dd (.xd ws) from I1.hok dd _ h1)
        obtain ⟨od', ho, hlk⟩ := lookIn_ns hns
        obtain ⟨u', hu, ru⟩ := RelO.some_of (v := w) (o := mA f) (by rw [← hw]; exact hr f)
        have J' : PySem.W.InstAt s1.heap a0 ox C (some od') := ⟨J.at_, J.cls, J.no, by rw [hx]; exact ho⟩
        have xc := xa.xc
        have no := xa.no
        rw [← B.hK] at xc no
        exact HandSPX.exc_get I1.kIn J' xc.ga xc.gg xc.sb (PySem.W.findObj_own xc.hd no rfl (by rw [hlk, hu])) (handed_of ru) ⟨w, H1, I1.tok _, ru, k1 y δ1 w G1 H1 p Go.refl R1 rw'⟩
    | _ => exact p.elim
  | _ => exact p.elim
end
end DL

/-! EM3: g(lambda: body): a def that is handed something to do. -/
namespace DL
open PySem L2 PySem.Spec PyProof.Rows PySem.SeqAt
open LamX (CodeO Tabs ExtN LamS lamEnv lamCx TabB)
abbrev DAct := Z → (D → Z → Prop) → (Er → Z → Prop) → Prop
/-- from an exit's state on, as from any state that follows -/
def liftAct (c : Wd) (z0 : Z) (G0 H0 : Hp) (act : DAct) (HZ : Hp) (Q : VK) (E : XK) : Prop := ∃ (G : Hp) (z : Z) (P : D → Z → Prop) (R : Er → Z → Prop), Post c z0 G0 H0 G HZ z ∧ act z P R ∧
  (∀ d z' v G' H', P d z' → Post c z G HZ G' H' z' → Rep c.K c.p0 G' v d → Q v H') ∧
  (∀ er z' cls dd G' H', R er z' → Post c z G HZ G' H' z' → ErRep c G' cls dd er → E cls dd H')
/-- what stands at f may be called from any later frame: it keeps act -/
structure ActF (c : Wd) (fs : List Addr) (s0 : Shared) (z0 : Z) (G0 H0 : Hp) (f : Addr) (k : Nat) (act : DAct) : Prop where
  fn : ∃ o nm q ps b sc cl pm c' ctv, s0.heap.get? f = some (PySem.W.kla_obj nm q ps b sc cl pm c' ctv) ∧ o = f
  off : H0 f = none ∧ f ∉ fs
  run : ∀ (A : Around) (outer : List Env) (s1 : Shared) (HZ : Hp) (Q : VK) (E : XK), Env0 c.P c.w c.K c.mg c.base A outer s1 HZ → Room k A → A.guards = some [] → Un fs [] H0 HZ s0.heap s1.heap → liftAct c z0 G0 H0 act HZ Q E →
    codeAny (model c.P c.w) A (.call (.ref f) ⟨[], []⟩) (CR (L2.CX c.P c.w) outer c.P c.w HZ s1 Q E) s1
section
variable {X : Cx} {c : Fr} {W : WX} {N : List Str} {sc : Scope} {k j : Nat} {bb : Bool} {e a b o : Expr} {es : List Expr} {pos p p2 apos : Pos} {r ra rb : DTE} {rs rk : DTA} {x : Str} {st : Stmt} {s : DSp2}
/-- a(): slot i holds f -/
def dAct (f : Addr) (act : DAct) (i : Nat) : DTE := fun δ P E => δ.sl[i]? = some (.d (.ref f)) ∧ act δ.z (fun d z => P d { δ with z := z }) (fun er z => E er { δ with z := z })
theorem de_act {f : Addr} {act : DAct} {i : Nat} {n : Str} {s0 : Shared} {z0 : Z} {G0 H0 : Hp} (B : XB X c W N sc k false) (hA : ActF c.toWd X.fs s0 z0 G0 H0 f j act) (hj : j ≤ k) (h0 : X.s_0 = s0) (hH : X.H_0 = H0) (hc : c = frOf c.toWd G0 H0 z0 []) (hN : N[i]? = some n) (hv : Vis sc n)
    (hd : (n == ("__debug__" : Str)) = false := by decide) (hcd : (n == ("__classdict__" : Str)) = false := by decide) : DE X c W (.Call (.Name n p) [] [] pos) (dAct f act i) := by
  subst h0 hH
  refine ⟨fun pins st σ H Q I ⟨G, δ, P, E, R, ⟨hs, h⟩, kk, xx⟩ => ?_⟩
  refine wpAny_Call_Name_kw (thn ((pe_var (X := X) (pos := p) (i := i) (by rw [B.hN]; exact hN) (by rw [B.hs]; exact hv) hd hcd).run pins st σ H (fun v H1 => v = .ref f ∧ H1 = H) I ?_) fun u s1 ⟨v, H1, I1, r1, e1, e2⟩ => ?_)
  · obtain ⟨v, h1, h2⟩ := R.sl i _ hs
    cases h2
    exact ⟨_, at_some h1, rfl, rfl⟩
  subst e1
  subst e2
  cases (show u = Value.ref f from r1)
  obtain ⟨_, nm, q, ps, b, sc', cl, pm, c', ctv, hf, _⟩ := hA.fn
  have un : Un X.fs [] X.H_0 H1 X.s_0.heap s1.heap := by
    have u := I1.base
    rw [B.ex rfl] at u
    exact u
  have of1 := un.keep f _ hf hA.off.1 hA.off.2 (by simp)
  refine PySem.W.callWith_F0 ⟨_, _, _, _, of1⟩ ?_
  have po : Post c.toWd z0 G0 X.H_0 G H1 δ.z := by
    have g := R.go
    rw [hc] at g
    exact ⟨R.st, g.imp (fun a h => h.elim id fun m => absurd m (by simp)) fun a h => .inl (.inl h)⟩
  have E0 : Env0 c.P c.w c.K c.mg c.base X.A X.stack s1 H1 := by rw [← B.hP, ← B.hw, ← B.hK, ← B.hm, ← B.hb]; exact I1.env0
  have rc := hA.run X.A X.stack s1 H1 Q (fun cls dd H' => W cls dd σ H') E0 (B.room.mono hj) B.gd un ⟨G, δ.z, _, _, po, h, fun d z' v G' H' p1 po1 rr => kk d _ v G' H' p1 (po1.spf R) (R.post po1) rr, fun er z' cls dd G' H' p1 po1 hE => xx er _ cls dd G' H' p1 po1.go.g (R.post po1) hE⟩
  rw [← B.hP, ← B.hw] at rc
  refine wpAny_call (codeAny_mono rc fun res s' hq => ?_)
  cases res with
  | error ee => exact passAtW B.tk σ pins H1 s1 ee s' I1 hq
  | ok fl => cases fl <;> first | exact I1.after hq | exact hq.elim
/-! ### the slots that a lambda sees -/
/-- own lists and dicts are data from now on -/
def frzSl : List Sl → List Sl
  | [] => []
  | .own xs :: r => .d (.lst xs) :: frzSl r
  | .ownK xs :: r => .d (.dct xs) :: frzSl r
  | s :: r => s :: frzSl r
def frz1 : Sl → Sl
  | .own xs => .d (.lst xs)
  | .ownK xs => .d (.dct xs)
  | s => s
theorem frzSl_map : ∀ l : List Sl, frzSl l = l.map frz1
  | [] => rfl
  | s :: r => by cases s <;> simp only [frzSl, frz1, List.map_cons, frzSl_map r]
theorem frz_get {l : List Sl} {i : Nat} {s : Sl} (h : (frzSl l)[i]? = some s) : ∃ s0, l[i]? = some s0 ∧ s = frz1 s0 := by
  rw [frzSl_map, List.getElem?_map] at h
  cases e : l[i]? with
  | none => rw [e] at h; cases h
  | some s0 => rw [e] at h; exact ⟨s0, rfl, (Option.some.inj h).symm⟩
/-- a slot that is frozen now holds a -/
def OwnF (δ : S) (σ : L2.St) (a : Addr) : Prop := ∃ i s, δ.sl[i]? = some s ∧ isOwn s = true ∧ isOwn (frz1 s) = false ∧ at_ σ i = some (.ref a)
theorem Rel.frz {G H : Hp} {σ : L2.St} {δ : S} (R : Rel c G H σ δ) : ∃ G2, Le G G2 ∧ Rel c G2 H σ { δ with sl := frzSl δ.sl } ∧ Gof c δ { δ with sl := frzSl δ.sl } σ G H G2 H := by
  let G2 : Hp := fun a => @ite _ (OwnF δ σ a) (Classical.propDecidable _) (H a) (G a)
  have yes : ∀ {a}, OwnF δ σ a → G2 a = H a := fun h => if_pos h
  have no : ∀ {a}, ¬ OwnF δ σ a → G2 a = G a := fun h => if_neg h
  have info : ∀ {a}, OwnF δ σ a → ∃ u, H a = some u ∧ G a = none ∧ ¬ Spc c.toWd δ.z a ∧ ∀ ps, u ≠ .tbl ps := fun {a} ⟨i, s, h1, h2, h3, h4⟩ => by
    have q := R.sl i s h1
    rw [h4] at q
    cases s with
    | own xs => obtain ⟨_, vs, e, k1, k2, k3, _⟩ := q; cases e; exact ⟨_, k1, k2, k3, fun ps z => by cases z⟩
    | ownK xs => obtain ⟨_, vs, e, k1, k2, k3, _⟩ := q; cases e; exact ⟨_, k1, k2, k3, fun ps z => by cases z⟩
    | self C fs => cases h3
    | un => cases h2
    | d x => cases h2
  have L : Le G G2 := fun a o e => by
    rw [no fun h => by obtain ⟨_, _, z, _⟩ := info h; rw [z] at e; cases e]; exact e
  have st : StOk c.toWd G2 H δ.z := by
    refine ⟨fun a o e => ?_, R.st.pn.mono L rfl, R.st.tb, fun a m => ?_, fun a cl m => (R.st.ms a cl m).imp (fun k => k.mono L rfl) id, fun a ps e => ?_⟩
    · by_cases q : OwnF δ σ a
      · rw [yes q] at e; exact e
      · rw [no q] at e; exact R.le a o e
    · rw [no fun q => (info q).elim fun _ z => z.2.2.1 m]; exact R.st.sg a m
    · by_cases q : OwnF δ σ a
      · obtain ⟨u, h1, _, _, h4⟩ := info q
        rw [yes q, h1] at e; exact h4 ps (Option.some.inj e)
      · rw [no q] at e; exact R.st.nt a ps e
  have own : ∀ a, Own { δ with sl := frzSl δ.sl } σ a → Own δ σ a ∧ ¬ OwnF δ σ a := fun a ⟨i, s, h1, h2, h3⟩ => by
    obtain ⟨s0, e0, rfl⟩ := frz_get h1
    have o0 : isOwn s0 = true := by cases s0 <;> first | rfl | (cases h2; done)
    refine ⟨⟨i, s0, e0, o0, h3⟩, fun ⟨k, t, k1, k2, k3, k4⟩ => ?_⟩
    by_cases q : i = k
    · subst q; rw [e0] at k1; cases k1; rw [h2] at k3; cases k3
    · exact R.uq i k a s0 t q e0 k1 o0 k2 h3 k4
  have g : Gof c δ { δ with sl := frzSl δ.sl } σ G H G2 H := by
    refine ⟨L, fun _ _ h _ => h, fun _ u h => ⟨u, h⟩, fun a o e => ?_, fun a h => .inl (h.imp id fun z => (own a z).1)⟩
    by_cases q : OwnF δ σ a
    · obtain ⟨i, s, h1, h2, _, h4⟩ := q
      exact .inr (.inr (.inr ⟨i, s, h1, h2, h4⟩))
    · rw [no q] at e; exact .inl e
  refine ⟨G2, L, ⟨st, R.go.trans g, by rw [R.len]; simp [frzSl_map], fun i s h => ?_, fun i j a s t ne h1 h2 o1 o2 a1 a2 => ?_⟩, g⟩
  · obtain ⟨s0, e0, rfl⟩ := frz_get h
    have q := R.sl i s0 e0
    cases s0 with
    | un => trivial
    | d x => obtain ⟨v, k1, k2⟩ := q; exact ⟨v, k1, k2.mono L⟩
    | own xs =>
      obtain ⟨a, vs, k1, k2, k3, k4, k5⟩ := q
      exact ⟨.ref a, k1, .lst (.inl ((yes ⟨i, _, e0, rfl, rfl, k1⟩).trans k2)) (k5.mono L)⟩
    | ownK xs =>
      obtain ⟨a, vs, k1, k2, k3, k4, k5⟩ := q
      exact ⟨.ref a, k1, .dct (.inl ((yes ⟨i, _, e0, rfl, rfl, k1⟩).trans k2)) (k5.mono L)⟩
    | self C fs =>
      obtain ⟨a, dx, vs, k1, k2, k3, k4, k5, k6⟩ := q
      refine ⟨a, dx, vs, k1, k2, ?_, k4, k5, k6.mono L⟩
      rw [no ((own a ⟨i, _, h, rfl, k1⟩).2)]; exact k3
  · obtain ⟨s0, e0, rfl⟩ := frz_get h1
    obtain ⟨t0, f0, rfl⟩ := frz_get h2
    exact R.uq i j a s0 t0 ne e0 f0 (by cases s0 <;> first | rfl | (cases o1; done)) (by cases t0 <;> first | rfl | (cases o2; done)) a1 a2
/-! ### a lambda is made -/
theorem lamMk {pins : List (Addr × Obj)} {σ : L2.St} {H : Hp} {s : Shared} {cc P : Addr} {qn : Str} {params : Arguments} {body : Expr} {scope : Scope} {E : Value → Shared → Prop} {Q : Value → Shared → Prop} (I : Inv X pins σ H s) (TB : TabB X.base X.mg cc P) (code : X.env.code = .ref cc) (eq : qn = X.env.qual ++ "<lambda>") (tab : LamX.TabS H P qn)
    (df : defaultsOf params X.env = ([], [])) (fr : ∀ y ∈ scope.names, y.2 = .free → ∃ c, X.env.cells.lookup y.1 = some c)
    (h : ∀ (f c' : Addr) (pm ctv : Value) (H1 : Hp) (s' : Shared), Inv X pins σ H1 s' → (H1 = H ∨ ∃ ps, H c' = none ∧ H1 = upd (upd H P (.tbl ps)) c' (CodeO c' qn)) → LamX.TabS H1 P qn →
      s'.heap.get? f = some (PySem.W.kla_obj "<lambda>" qn params body scope (cloFrom X.env.cells scope.names []) pm c' ctv) → H1 f = none → f ∉ frs X.stack → H1 c' = some (CodeO c' qn) → Q (.ref f) s') :
    wpAny (model X.prog X.w) X.A (eval (.Lambda params body scope pos) X.env) Q E s := by
  subst eq
  obtain ⟨ps, eP, tr, am⟩ := tab
  refine PySem.W.kla_eval df ?_
  have objP : s.heap.get? P = some { cls := .none, data := .fields ps } := I.hok P _ eP
  have out : ∀ f, s.heap.objs.size ≤ f → f ∉ frs X.stack := fun f hf z => by
    rcases List.mem_cons.mp (I.stkSub _ z) with e | e
    · exact absurd (show f < s.heap.objs.size by rw [e]; exact I.lt) (Nat.not_lt.mpr hf)
    · exact I.nofs hf e
  cases hc : codeAmong pos ps.toList with
  | none =>
    refine PySem.W.kla_makeFunction (mg := X.mg) (c := cc) (P := P) (ps := ps) (closure_ok fr) I.ok.glob (I.mod.glob.keeps I.bk) code (TB.code.keeps I.bk) objP tr hc TB.gP (TB.bm.keeps I.bk) fun c' ctv h' tk hx ge lt rec tb => ?_
    obtain ⟨_, oc, vs, t, e2, hoc, hd, hv⟩ := rec
    cases e2
    have sz : s.heap.objs.size ≤ h'.objs.size := Nat.le_trans ge (Nat.le_of_lt lt)
    have nC : H c' = none := I.hok.fresh ge
    let fo := PySem.W.kla_obj "<lambda>" (X.env.qual ++ "<lambda>") params body scope (cloFrom X.env.cells scope.names []) ((X.mg "__name__").getD .none) c' ctv
    let ps' := ps ++ #[rawInt pos.line, rawInt pos.col, .ref c']
    have I1 : Inv X pins σ (upd (upd H P (.tbl ps')) c' (CodeO c' (X.env.qual ++ "<lambda>"))) { s with heap := h'.push fo, toks := tk } :=
      LamX.inv_table (more := #[rawInt pos.line, rawInt pos.col, .ref c']) I eP (fun b o hb e => Heap.get?_push_of_some _ (hx b o hb e)) (Heap.get?_push_of_some _ tb) ge ⟨oc, vs, t, Heap.get?_push_of_some _ hoc, hd, hv⟩
    have nPC : P ≠ c' := ne_of_none eP nC
    have lst : ps'.toList = ps.toList ++ [rawInt pos.line, rawInt pos.col, .ref c'] := by simp [ps']
    refine h h'.objs.size c' _ ctv _ _ I1 (.inr ⟨ps', nC, rfl⟩) ⟨ps', by rw [upd_ne nPC, upd_same], by rw [lst]; exact PySem.TriplesOk_snoc _ _ _ _ tr, fun p' cv hcv => ?_⟩ (Heap.get?_push_size _ rfl) ?_ (out _ sz) upd_same
    · rw [lst] at hcv
      rcases LamX.among_app _ tr hcv with z | z
      · obtain ⟨c0, e1, e2⟩ := am p' cv z
        refine ⟨c0, e1, ?_⟩
        by_cases q : c0 = c'
        · rw [q]; exact upd_same
        · rw [upd_ne q, upd_ne (fun w => by rw [w, eP] at e2; exact LamX.codeO_ne ps (Option.some.inj e2).symm)]; exact e2
      · exact ⟨c', z, upd_same⟩
    · have q1 : h'.objs.size ≠ c' := Nat.ne_of_gt lt
      have q2 : h'.objs.size ≠ P := Nat.ne_of_gt (Nat.lt_of_lt_of_le (Heap.lt_size objP) sz)
      rw [upd_ne q1, upd_ne q2]
      exact I.hok.fresh sz
  | some cv =>
    obtain ⟨c', e, hco⟩ := am pos cv hc
    subst e
    refine PySem.W.kla_makeFunctionHit (mg := X.mg) (c := cc) (P := P) (ps := ps) (closure_ok fr) I.ok.glob (I.mod.glob.keeps I.bk) code (TB.code.keeps I.bk) objP tr hc (TB.bm.keeps I.bk) fun ctv h' tk hx sz => ?_
    exact h h'.objs.size c' _ ctv H _ (I.kept fun b o e => Heap.get?_push_of_some _ (hx b o e)) (.inl rfl) ⟨ps, eP, tr, am⟩ (Heap.get?_push_size _ rfl) (I.hok.fresh sz) (out _ sz) hco
end
end DL

/-! EM4: g(lambda: body): the call; a def that holds lambdas. -/
namespace DL
open PySem L2 PySem.Spec PyProof.Rows PySem.SeqAt
open LamX (CodeO Tabs ExtN LamS lamEnv lamCx TabB)
/-- what a lambda's body does, over the slots sl -/
def lamAct (rb : DTE) (sl : List Sl) : DAct := fun z P R => rb ⟨cleanSl [] 0 sl, z⟩ (fun d δ' => P d δ'.z) (fun er δ' => R er δ'.z)
abbrev DSpA := Addr → DAct → Z → (D → Z → Prop) → Prop
/-- g is handed something to do; it lets nothing out -/
structure GAct (c : Wd) (g : Addr) (k ja : Nat) (sg : DSpA) : Prop where
  keeper : PySem.W.keepIn c.K (.ref g) = true
  run : ∀ (A : Around) (outer : List Env) (s : Shared) (H G : Hp) (f : Addr) (act : DAct) (z : Z) (P : D → Z → Prop) (Q : VK), Env0 c.P c.w c.K c.mg c.base A outer s H → Room k A → A.guards = some [] → StOk c G H z → ActF c (frs outer) s z G H f ja act → sg f act z P →
    (∀ d z' v G' H', P d z' → Post c z G H G' H' z' → Rep c.K c.p0 G' v d → Q v H') → codeAny (model c.P c.w) A (.call (.ref g) ⟨[.ref f], []⟩) (CR (L2.CX c.P c.w) outer c.P c.w H s Q (fun _ _ _ => False)) s
theorem GAct.mono {c : Wd} {g : Addr} {k k' ja : Nat} {sg : DSpA} (h : GAct c g k ja sg) (l : k ≤ k') : GAct c g k' ja sg :=
  ⟨h.keeper, fun A o s H G f act z P Q e r => h.run A o s H G f act z P Q e (r.mono l)⟩
/-- the maker's frame: its code object, its table -/
structure LamH (X : Cx) (c : Wd) (cc Pt : Addr) (qn : Str) : Prop where
  code : X.env.code = .ref cc
  qual : qn = X.env.qual ++ "<lambda>"
  tb : TabB c.base c.mg cc Pt
  mem : (Pt, qn) ∈ c.tb
  uniq : ∀ p ∈ c.tb, p.1 = Pt → p.2 = qn
section
variable {X : Cx} {c : Fr} {W : WX} {N : List Str} {sc : Scope} {k j : Nat} {bb : Bool} {e a b o : Expr} {es : List Expr} {pos p p2 apos lpos : Pos} {r ra rb : DTE} {rs rk : DTA} {x : Str} {st : Stmt} {s : DSp2}
/-- the table has grown, at most -/
theorem StOk.tbl {w : Wd} {G H H1 : Hp} {z : Z} {Pt c' : Addr} {qn : Str} (s : StOk w G H z) (hm : (Pt, qn) ∈ w.tb) (hu : ∀ p ∈ w.tb, p.1 = Pt → p.2 = qn) (h1 : H1 = H ∨ ∃ ps, H c' = none ∧ H1 = upd (upd H Pt (.tbl ps)) c' (CodeO c' qn)) (t1 : LamX.TabS H1 Pt qn) : Post w z G H G H1 z := by
  rcases h1 with rfl | ⟨ps, nc, e⟩
  · exact Post.refl s
  · obtain ⟨ps0, hp, _, _⟩ := s.tb _ hm
    have spt : Spc w z Pt := .inr (.inr (List.mem_map_of_mem hm))
    have keep : ∀ {a o}, H a = some o → a ≠ Pt → H1 a = some o := fun {a o} q n => by rw [e, upd_ne (ne_of_none q nc), upd_ne n]; exact q
    have npt : ∀ {a o}, H a = some o → (∀ ps, o ≠ .tbl ps) → a ≠ Pt := fun {a o} q n w => by rw [w, hp] at q; exact n _ (Option.some.inj q).symm
    obtain ⟨q0, b0, r0, cs0, hp0, _⟩ := s.pn
    refine ⟨⟨fun a o q => keep (s.le a o q) (fun w => s.nt a ps0 (by rw [w]; have := s.le a o q; rw [w, hp] at this; rw [← w, q, ← Option.some.inj this])), s.pn.mono (Le.refl _) ((keep hp0 (npt hp0 fun ps w => by cases w)).trans hp0.symm), fun p m => ?_, s.sg, fun a cl m => ?_, s.nt⟩, Le.refl _, fun a o q n => keep q (fun w => n (w ▸ spt)), fun a o q => ?_, fun _ _ q => .inl q, fun _ q => .inl q⟩
    · by_cases w : p.1 = Pt
      · have := hu p m w
        rw [w, this]; exact t1
      · obtain ⟨ps1, k1, k2, k3⟩ := s.tb p m
        refine ⟨ps1, keep k1 w, k2, fun pos cv hc => ?_⟩
        obtain ⟨cx, e1, e2⟩ := k3 pos cv hc
        exact ⟨cx, e1, keep e2 (npt e2 fun ps => LamX.codeO_ne ps)⟩
    · obtain ⟨k1, k2, k3⟩ := s.ms a cl m
      obtain ⟨u, q⟩ := k1.at
      have hne : a ≠ Pt := fun w => k3 (w ▸ List.mem_map_of_mem hm)
      exact ⟨k1.mono (Le.refl _) ((keep q hne).trans q.symm), k2, k3⟩
    · by_cases w : a = Pt
      · rw [w, e]
        exact ⟨.tbl ps, by rw [upd_ne (ne_of_none hp nc), upd_same]⟩
      · exact ⟨o, keep q w⟩
/-- a code object may not change -/
theorem StOk.code {w : Wd} {G H : Hp} {z : Z} {a : Addr} {q : Str} (s : StOk w G H z) (h : H a = some (CodeO a q)) : ¬ Spc w z a := fun m => by
  rcases m with m | m | m
  · obtain ⟨_, _, _, _, y, _⟩ := s.pn
    rw [m, y] at h; exact lst_code _ _ (Option.some.inj h)
  · cases y : z.ms a with
    | none => exact m y
    | some cl =>
      have ok := (s.ms a cl y).1
      cases cl with
      | lst xs => obtain ⟨vs, k, _⟩ := ok; rw [k] at h; unfold CodeO at h; cases h
      | dct xs => obtain ⟨vs, k, _⟩ := ok; rw [k] at h; unfold CodeO at h; cases h
      | ins C fs => obtain ⟨dx, vs, k, _⟩ := ok; rw [k] at h; unfold CodeO at h; cases h
  · obtain ⟨p, hp, e⟩ := List.mem_map.mp m
    obtain ⟨ps, y, _⟩ := s.tb p hp
    rw [e, h] at y; exact LamX.codeO_ne ps (Option.some.inj y)
/-- fr: what the frame owns is data from now on -/
def fz (fr : Bool) (l : List Sl) : List Sl := if fr = true then frzSl l else l
theorem Rel.fz {G H : Hp} {σ : L2.St} {δ : S} (R : Rel c G H σ δ) (fr : Bool) : ∃ G2, Le G G2 ∧ Rel c G2 H σ { δ with sl := DL.fz fr δ.sl } ∧ Gof c δ { δ with sl := DL.fz fr δ.sl } σ G H G2 H := by
  cases fr with
  | true => exact R.frz
  | false => exact ⟨G, Le.refl _, R, Go.refl⟩
/-- g(lambda: body) -/
def dLam (fr : Bool) (sg : DSpA) (rb : DTE) : DTE := fun δ P _ => ∀ f : Addr, sg f (lamAct rb (fz fr δ.sl)) δ.z (fun d z => P d ⟨fz fr δ.sl, z⟩)
theorem rel_lam {G H Gz HZ : Hp} {σ : L2.St} {δ : S} {zz : Z} (R : Rel c G H σ δ) (L : Le G Gz) (st : StOk c.toWd Gz HZ zz) : Rel (frOf c.toWd Gz HZ zz []) Gz HZ σ ⟨cleanSl [] 0 δ.sl, zz⟩ := by
  refine ⟨st, (Go.refl (S := Spc c.toWd zz)).imp (fun _ h => .inl h) (fun a h => .inl (spf_clean (fun i s h => clean_own h) h)), by rw [R.len]; exact (clean_len [] 0 δ.sl).symm, fun i s h => ?_, fun i j a s t _ h1 _ o1 _ _ _ => by rw [clean_own h1] at o1; cases o1⟩
  rcases clean_get h with rfl | ⟨_, x, rfl, hl⟩
  · trivial
  · obtain ⟨v, h1, h2⟩ := R.sl i _ hl
    exact ⟨v, h1, h2.mono L⟩
theorem de_lam {fr : Bool} {sg : DSpA} {g cc Pt : Addr} {qn : Str} {ja : Nat} {params : Arguments} {body : Expr} {scope : Scope} (B : XB X c W N sc k false) (LH : LamH X c.toWd cc Pt qn) (hm : c.mg x = some (.ref g)) (hG : GAct c.toWd g j (ja + 1) sg) (hj : j ≤ k) (hg : sc.names.lookup x = some .globalImplicit) (Ls : LamS sc scope)
    (hb : ∀ (X' : Cx) (cf : Fr) (W' : WX), cf.toWd = c.toWd → XB X' cf W' N scope ja true → DE X' cf W' body rb)
    (df : defaultsOf params X.env = ([], []) := by rfl) (bd : ∀ (q : Str) (cl : List (Str × Addr)) (pm cv ctv : Value), bindArgs (PySem.W.kla_fn "<lambda>" q params body scope cl pm cv ctv) ⟨[], []⟩ = pure [] := by intros; rfl) (hdb : (x == ("__debug__" : Str)) = false := by decide) :
    DE X c W (.Call (.Name x p) [.Lambda params body scope lpos] [] pos) (dLam fr sg rb) := by
  refine ⟨fun pins st σ H Q I ⟨G, δ, P, E, R, h, kk, xx⟩ => ?_⟩
  refine wpAny_Call_Name_kw (ld_glob I (glX B hg) (by rw [B.hm]; exact hm) ?_ hdb)
  refine PySem.W.callWith_K (h₀ := X.base) I.ok.mod.kin (by rw [B.hK]; exact hG.keeper) ?_ (by rfl) (by rfl)
  show wpAny _ _ (spliced ((false, eval (.Lambda params body scope lpos) X.env) :: backTo pos (starEach [] X.env))) _ _ st
  obtain ⟨G2, L2', R2, g2⟩ := R.fz fr
  have Ls' : LamS X.env.scope scope := by rw [B.hs]; exact Ls
  have TB : TabB X.base X.mg cc Pt := by rw [B.hb, B.hm]; exact LH.tb
  refine Calls.spliced_cons (lamMk I TB LH.code LH.qual (R.st.tb _ LH.mem) df (Ls'.has I.ok) fun f c' pm ctv H1 s' I1 eH t1 hf hfn hfr hco => ?_)
  refine Calls.spliced_nil ⟨I1.kIn, ?_⟩
  have po := R2.st.tbl LH.mem LH.uniq eH t1
  have R3 : Rel c G2 H1 σ { δ with sl := DL.fz fr δ.sl } := R2.post po
  have AF : ActF c.toWd (frs X.stack) s' δ.z G2 H1 f (ja + 1) (lamAct rb (DL.fz fr δ.sl)) := by
    refine ⟨⟨f, _, _, _, _, _, _, _, _, _, hf, rfl⟩, ⟨hfn, hfr⟩, fun A outer s1 HZ Q' E' E0 room gd un ⟨Gz, zz, P', R', pz, hact, kP, kR⟩ => ?_⟩
    have of1 := un.keep f _ hf hfn hfr (by simp)
    have hcz : HZ c' = some (CodeO c' qn) := pz.go.h _ _ hco (po.st.code hco)
    obtain ⟨⟨oc, vs, t, hoc, hdc, hvc⟩, _, _⟩ := E0.hok c' _ hcz
    rw [← B.hP, ← B.hw]
    have E0' : Env0 X.prog X.w X.K X.mg X.base A outer s1 HZ := by rw [B.hP, B.hw, B.hK, B.hm, B.hb]; exact E0
    have lim : s1.heap.NoLimit := E0'.mod.nolimit.keeps fun q o e => (E0'.bs q o e).1
    have hq := LH.qual
    refine PySem.W.kla_callFunE room.depth of1 rfl Ls.co Ls.gen rfl ⟨c', oc, vs, t, rfl, hoc, hdc, hvc⟩ ?_
    rw [bd]
    refine wpAny_pure (wpAny_newFunctionEnv (fun y hy => (Ls.own y hy).2) (fun y hy => absurd hy (by simp)) (fun h₁ hns hsb => ⟨lim.fresh _ hsb, ?_⟩) Ls.kind)
    subst hq
    show codeAny _ _ (.expr body (lamEnv X scope s1.heap.objs.size f c')) _ _
    have kp : ∀ b o, s1.heap.get? b = some o → h₁.get? b = some o := fun b o e => hsb.extBut b o (Nat.ne_of_lt (Heap.lt_size e)) (Heap.get?_push_of_some _ e)
    have un' : Un (frs X.stack) [] H1 HZ s'.heap s1.heap := un
    have J : L2.Inv (lamCx X A outer s1 HZ E' scope f c') [] σ HZ { s1 with heap := h₁, toks := s1.toks + ([] : List (Str × Value)).length } := LamX.lam_start2 I1 Ls' E0' room.hd un' hns kp
    let cl : Fr := frOf c.toWd Gz HZ zz []
    have tk : Takes (lamCx X A outer s1 HZ E' scope f c') (fun cls d _ H => E' cls d H) := takes_of (X := lamCx X A outer s1 HZ E' scope f c') (E := E') rfl rfl rfl rfl
    have rm : Room ja (A.deeper (lamEnv X scope s1.heap.objs.size f c')) := room.deeper _
    have XL : XB (lamCx X A outer s1 HZ E' scope f c') cl (fun cls d _ H => E' cls d H) N scope ja true :=
      ⟨B.hP, B.hw, B.hK, B.hm, B.hb, B.hN, B.nd, rfl, rfl, rm, gd, tk, passes_of rfl, (fun z => by cases z), (fun z => by cases z), fun z => by cases z⟩
    have po3 : ∀ {G' H' σ' δ'}, Rel cl G' H' σ' δ' → Post c.toWd zz Gz HZ G' H' δ'.z := fun {G' H' σ' δ'} Rx => ⟨Rx.st, Rx.go.imp (fun a h => h.elim id fun m => absurd m (by simp [cl])) fun a h => .inl (.inl h)⟩
    refine PySem.W.kla_codeExpr (wpAny_mono ((hb _ cl _ rfl XL).run [] _ _ HZ Q' J ⟨Gz, _, _, _, rel_lam R3 pz.go.g pz.st, hact, fun d δ' v G' H' p1 L1 R1 rr => kP d δ'.z v G' H' p1 (po3 R1) rr, fun er δ' cls dd G' H' p1 L1 R1 hE => kR er δ'.z cls dd G' H' p1 (po3 R1) hE⟩) (fun v s'' hq => ?_) fun e s'' hq => hq)
    obtain ⟨w', H', J', rv, q⟩ := hq
    exact ⟨w', H', J'.os, J'.bare, J'.base, J'.hok, rv, q⟩
  have E1 : Env0 c.P c.w c.K c.mg c.base X.A X.stack s' H1 := by rw [← B.hP, ← B.hw, ← B.hK, ← B.hm, ← B.hb]; exact I1.env0
  have rc := hG.run X.A X.stack s' H1 G2 f _ δ.z _ Q E1 (B.room.mono hj) B.gd R3.st AF (h f) (fun d z' v G' H' p1 po1 rr => kk d _ v G' H' p1 ((g2.trans (po.spf R2)).trans (po1.spf R3)) (R3.post po1) rr)
  rw [← B.hP, ← B.hw] at rc
  refine wpAny_call (codeAny_mono rc fun res s2 hq => ?_)
  cases res with
  | error ee =>
    obtain ⟨_, _, _, _, _, _, _, _, _, _, _, _, z⟩ := hq
    exact z.elim
  | ok fl => cases fl <;> first | exact I1.after hq | exact hq.elim
/-! ### the def that is handed the lambda -/
theorem g_act {w : Wd} {x qual : Str} {params : Arguments} {body : List Stmt} {scope : Scope} {dvs : List V} {kws : List (Str × V)} {g : Addr} {fd : FuncData} {N : List Str} {a : Str} {k ja : Nat} {t : Addr → DAct → DTS} (F : FunD w.K x qual params body scope dvs kws g fd) (S : FnScope N [a] scope) (bnd : ∀ (s : Shared) (u : Value), BindsTo s fd ⟨[u], []⟩ [(a, u)])
    (hb : ∀ (X : Cx) (cf : Fr) (W : WX) (f : Addr) (act : DAct), cf.toWd = w → XB X cf W N scope k false → (∀ pn xe W' (p pos : Pos), XB (X.tr pn xe) cf W' N scope k false → DE (X.tr pn xe) cf W' (.Call (.Name a p) [] [] pos) (dAct f act 0)) → DSs X cf W body (t f act))
    (hv : Vis scope a) (h0 : N[0]? = some a) (hk : ja ≤ k) (hd : (a == ("__debug__" : Str)) = false := by decide) (hcd : (a == ("__classdict__" : Str)) = false := by decide) :
    GAct w g (k + 1) ja (fun f act z P => t f act (fnN P (fun _ _ => False)) (startS N [.ref f] z)) := by
  refine ⟨F.kp, fun A outer s H G f act z P Q e0 room gd st AF h kP => ?_⟩
  obtain ⟨oc, od, dV, kV, doc, pm, an, cdv, ct, osl, rfl, lk, hcd', _, _⟩ := F.ex
  have kin : w.K.In s.heap := e0.mod.kin.keeps fun q o e => (e0.bs q o e).1
  have nolim : s.heap.NoLimit := e0.mod.nolimit.keeps fun q o e => (e0.bs q o e).1
  have kinds : ∀ y ∈ [(a, Value.ref f)], scope.names.lookup y.1 = some .local ∨ (scope.names.lookup y.1 = some .cell ∧ ((cellsFrom (s.heap.objs.size + 1) scope.names []).lookup y.1).isSome = true) := fun y hy => by
    have e : y = (a, Value.ref f) := by simpa using hy
    subst e
    rcases S.par a (by simp) with q | q
    · exact .inl q
    · exact .inr ⟨q, PySem.W.cellsFrom_some _ _ _ (.inl q)⟩
  refine codeAny_call_function room.depth (kin _ _ lk) rfl S.co S.gen rfl (PySem.W.codeRec_of kin hcd') (bnd s (.ref f) _ _ _ _ (wpAny_newFunctionEnv_cells S.kind kinds fun env he s1 x => ?_))
  subst he
  let E0 : XK := fun _ _ _ => False
  let X := cxOf (L2.CX w.P w.w) w.P w.w w.K w.mg w.base N qual scope g cdv A outer s H E0
  let cf : Fr := frOf w G H z []
  have tk : Takes X (fun cls d _ H => E0 cls d H) := takes_of (X := X) (E := E0) rfl rfl rfl rfl
  have XBt : XB X cf (fun cls d _ H => E0 cls d H) N scope k false := ⟨rfl, rfl, rfl, rfl, rfl, rfl, S.nd, rfl, rfl, room.deeper _, gd, tk, passes_of rfl, fun _ _ => rfl, fun _ => rfl, fun _ => ⟨rfl, rfl⟩⟩
  have body_ := hb X cf _ f act rfl XBt (fun pn xe W' p pos B' => de_act (X := X.tr pn xe) (c := cf) (s0 := s) (z0 := z) (G0 := G) (H0 := H) B' AF hk rfl rfl rfl h0 hv hd hcd)
  have J : L2.Inv X [] (L2.start N [.ref f]) H s1 := inv_start S room.hd e0 rfl (.cons rfl .nil) x
  have po : ∀ {δ' G' H' σ'}, Rel cf G' H' σ' δ' → Post w z G H G' H' δ'.z := fun {δ' G' H' σ'} R' => ⟨R'.st, R'.go.imp (fun a h => h.elim id fun m => absurd m (by simp [cf])) fun a h => .inl (.inl h)⟩
  have R0 : Rel cf G H (L2.start N [.ref f]) (startS N [.ref f] z) := rel_start st (.cons (.ref f) .nil)
  refine ⟨nolim.keeps x.toInCall.keep, codeAny_func (wpAny_mono (body_.run [] s1 _ H { nx := fun _ H' => Q .non H', rt := Q } J ⟨G, _, _, R0, h, fun δ' G' H' σ' p1 L R' => kP .non _ _ _ _ p1 (po R') .non, fun d δ' v G' H' σ' p1 L R' rr => kP d _ v _ _ p1 (po R') rr, fun _ _ _ _ p1 => p1.elim, fun _ _ _ _ p1 => p1.elim, fun er δ' cls dd G' H' σ' p1 => p1.elim⟩) (fun fl s' q => ?_) fun _ _ q => q)⟩
  cases fl with
  | brk => exact q.elim fun _ q => q.elim fun _ q => q.2.elim
  | cont => exact q.elim fun _ q => q.elim fun _ q => q.2.elim
  | next => obtain ⟨σ', H', J', q⟩ := q; exact ⟨.non, H', J'.os, J'.bare, J'.base, J'.hok, rfl, q⟩
  | ret u => obtain ⟨v, σ', H', J', r', q⟩ := q; exact ⟨v, H', J'.os, J'.bare, J'.base, J'.hok, r', q⟩
end
end DL

/-! EM5: -x, abs, bool, str, gcd; f-strings. -/
namespace PySem.W
section
variable {prog : Program} {w : World} {A : Around} {E : Value → Shared → Prop} {s : Shared} {K : Frag} {x C f : Addr} {ox : Obj} {od : Option Obj}
theorem own_abs {Q : Value → Shared → Prop} (X : K.In s.heap) (I : InstAt s.heap x ox C od) (hs : findIn K (.ref C) "__abs__" = some (some (.ref f))) (hf : isFn K (.ref f) = true) (h : wpAny (model prog w) A.in1 (call (.ref f) [.ref x]) Q E s) : wpAny (model prog w) A (call (.builtin "abs") [.ref x]) Q E s := by
  refine Calls.call_function_entry PyProof.Rows.kind_abs PyProof.Rows.plain_abs PyProof.Rows.entry_abs (PyProof.Rows.args_abs _) ?_
  unfold Builtin.«abs»
  refine wpAny_bind (m := oneArg "abs" _) (wpAny_pure ?_)
  refine wpAny_bind (m := callSpecial? (.ref x) (Str.ofString "__abs__")) (special_fn X I hs (beq_iff_eq.mp hf) (wpAny_mono h (fun r s' hr => wpAny_pure ⟨_, rfl, hr⟩) fun _ _ y => y))
theorem own_truthy {M : Model} {Q : Bool → Shared → Prop} (X : K.In s.heap) (I : InstAt s.heap x ox C od) (hs : findIn K (.ref C) "__bool__" = some (some (.ref f))) (hf : isFn K (.ref f) = true) (h : wpAny M A (call (.ref f) [.ref x]) (BoolBack Q) E s) : wpAny M A (truthy (.ref x)) Q E s := by
  unfold truthy
  refine wpAny_bind (m := callSpecial? (.ref x) (Str.ofString "__bool__")) (special_fn X I hs (beq_iff_eq.mp hf) (wpAny_mono h (fun v s' hv => ?_) fun _ _ y => y))
  cases v <;> first | exact hv.elim | exact wpAny_pure hv
theorem own_bool {Q : Value → Shared → Prop} (X : K.In s.heap) (I : InstAt s.heap x ox C od) (hs : findIn K (.ref C) "__bool__" = some (some (.ref f))) (hf : isFn K (.ref f) = true)
    (h : wpAny (model prog w) A.in1.in1 (call (.ref f) [.ref x]) (BoolBack fun b => Q (.bool b)) E s) : wpAny (model prog w) A (call (.type "bool") [.ref x]) Q E s := by
  refine callType_codes (T := "bool") (Bi := Builtin.«object.__init__») (Q₁ := fun r s₁ => ∃ b, r = .bool b ∧ Q r s₁) PySem.F.called_bool (PySem.F.typeCall_bool_1 _) PySem.F.entry_object_init ?_ ?_
  · refine codeAny_of_tree ?_
    show wpAny _ A.in1.in1 (do checkBuiltinCall "bool.__new__" ⟨[.type "bool", .ref x], []⟩; again (.builtin "bool.__new__" ⟨[.type "bool", .ref x], []⟩)) _ _ s
    refine wpAny_bind (wpAny_of_eq (PySem.F.newCall_bool_1 _) (wpAny_pure ⟨plainId_quiet (by decide +kernel) _, codeAny_builtin PySem.F.entry_bool_new ?_⟩))
    rw [Around.under_plainId (by decide +kernel) _]
    unfold Builtin.«bool.__new__»
    refine wpAny_bind (wpAny_pure ?_)
    refine wpAny_bind (wpAny_of_eq F.conv_sub_bool ?_)
    refine wpAny_bind (m := someArgs "bool" 0 1 _) (wpAny_pure ?_)
    refine wpAny_bind (own_truthy X I hs hf (wpAny_mono h (fun v s' hv => ?_) fun _ _ z => z))
    cases v <;> first | exact hv.elim | exact wpAny_pure ⟨_, rfl, hv⟩
  · rintro obj s₁ ⟨b, rfl, hq⟩
    exact ⟨rfl, PySem.F.args_object_init_2 _ _, object_init_meets PySem.F.called_bool.init.lookup PySem.F.called_bool.made (by decide) prog w A.in1 _ s₁ ⟨rfl, rfl, hq⟩⟩
theorem own_minus {M : Model} {Q : Value → Shared → Prop} (X : K.In s.heap) (I : InstAt s.heap x ox C od) (hs : findIn K (.ref C) "__neg__" = some (some (.ref f))) (hf : isFn K (.ref f) = true) (h : wpAny M A (call (.ref f) [.ref x]) Q E s) : wpAny M A (unaryOp .USub (.ref x)) Q E s := by
  unfold unaryOp
  exact wpAny_holding (wpAny_bind (special_fn X I hs (beq_iff_eq.mp hf) (wpAny_mono h (fun v s' hv => wpAny_pure hv) fun e s' he => he)))
end
end PySem.W
namespace DL
open PySem L2 PySem.Spec PyProof.Rows
section
variable {X : Cx} {c : Fr} {W : WX} {N : List Str} {sc : Scope} {k j : Nat} {bb : Bool} {e a b o : Expr} {es : List Expr} {pos p p2 apos : Pos} {r ra rb : DTE} {rs rk : DTA} {x : Str} {st : Stmt} {s : DSp2} {tbl : List (Addr × DSp2)}
/-- an own def of one operand -/
def oOwn1 (tbl : List (Addr × DSp2)) : DUnE := fun x z P E => match x with
  | .ins C fs => dpt tbl C fun s => s [.ins C fs] [] z P E
  | _ => False
/-- what an own def of one operand is run at -/
theorem own1 {nm : Str} {A : Around} {Q : VK} (B : XB X c W N sc k bb) (hT : AllT (fun C s => OwnD c.toWd C nm j s) tbl) (hr : Room j A) (hg : A.guards = some []) (hf : A.frames = X.A.frames) {pins : List (Addr × Obj)} {st : Shared} {σ : L2.St} {H G : Hp} {δ : S} {u : V} {x : Value} {dx : D} {P : D → Z → Prop} {E : Er → Z → Prop}
    (I : Inv X pins σ H st) (r1 : RelV u x) (R : Rel c G H σ δ) (p1 : Rep c.K c.p0 G u dx) (q : oOwn1 tbl dx δ.z P E) (kp : KP c G H σ δ P Q) (ke : KE c W G σ δ E) :
    ∃ (xa C f : Addr) (ox : Obj) (od : Option Obj), x = .ref xa ∧ PySem.W.InstAt st.heap xa ox C od ∧ PySem.W.findIn X.K (.ref C) nm = some (some (.ref f)) ∧ PySem.W.isFn X.K (.ref f) = true ∧ wpAny (model X.prog X.w) A (call (.ref f) [x]) (EP X pins σ Q) X.xe st := by
  cases dx with
  | ins C fs =>
    obtain ⟨s, hs, hq⟩ := hT.get q
    obtain ⟨xa, dd, vs, rfl, hG⟩ := rep_ins p1
    cases (show x = Value.ref xa from r1)
    obtain ⟨od, J⟩ := insAt I (R.le _ _ hG)
    obtain ⟨f, F, h1, h2⟩ := hs.ex
    exact ⟨xa, C, f, _, _, rfl, J, by rw [B.hK]; exact h1, by rw [B.hK]; exact h2, runD (ks := []) (ws := []) (zs := []) (vs := [.ref xa]) (us := [.ref xa]) B F hr hg hf I (.cons rfl .nil) .nil rfl R (.cons p1 .nil) .nil hq kp ke⟩
  | _ => exact q.elim
theorem un_own (B : XB X c W N sc k bb) (hT : AllT (fun C s => OwnD c.toWd C "__neg__" j s) tbl) (hj : j ≤ k) : UnE X c W (unaryOp .USub) (oOwn1 tbl) := by
  intro pins st σ H u x dx G δ P E Q I r1 R p1 q kp ke
  obtain ⟨xa, C, f, ox, od, rfl, J, h1, h2, h⟩ := own1 B hT (B.room.mono hj) B.gd rfl I r1 R p1 q kp ke
  exact PySem.W.own_minus I.kIn J h1 h2 h
theorem un_int : UnE X c W (unaryOp .USub) (fun x z P _ => match x with | .int i => P (.int (-i)) z | _ => False) := by
  intro pins st σ H u x dx G δ P E Q I r1 R p1 q kp ke
  cases p1 with
  | int i => exact un_neg pins st σ H (.int i) x Q I r1 ⟨i, rfl, kp _ δ.z _ G H q Go.refl R (.int _)⟩
  | _ => exact q.elim
def oNegA (tbl : List (Addr × DSp2)) : DUnE := fun x z P E => match x with
  | .int i => P (.int (-i)) z
  | .ins C fs => dpt tbl C fun s => s [.ins C fs] [] z P E
  | _ => False
theorem u_neg (B : XB X c W N sc k bb) (hT : AllT (fun C s => OwnD c.toWd C "__neg__" j s) tbl) (hj : j ≤ k) : UnE X c W (unaryOp .USub) (oNegA tbl) :=
  (un_int.or (un_own B hT hj)).imp fun x z P E h => by
    cases x with
    | int i => exact .inl h
    | ins C fs => exact .inr h
    | _ => exact h.elim
/-- a built-in called with one instance that has an own def for it -/
def oCal1 (tbl : List (Addr × DSp2)) : DSp := fun ds z P E => match ds with
  | [x] => oOwn1 tbl x z P E
  | _ => False
theorem cal1 {T : Value} (h : ∀ (pins : List (Addr × Obj)) (st : Shared) (σ : L2.St) (H : Hp) (u : V) (x : Value) (dx : D) (G : Hp) (δ : S) (P : D → Z → Prop) (E : Er → Z → Prop) (Q : VK), Inv X pins σ H st → RelV u x → Rel c G H σ δ → Rep c.K c.p0 G u dx → oOwn1 tbl dx δ.z P E → KP c G H σ δ P Q → KE c W G σ δ E → wpAny (model X.prog X.w) X.A (call T [x]) (EP X pins σ Q) X.xe st) : CalE X c W T (oCal1 tbl) := by
  intro pins st σ H vs us ds G δ P E Q I rv R rl q kp ke
  match ds, rl, q with
  | [d], .cons r1 .nil, q =>
    cases rv with
    | cons v1 vr =>
      cases vr
      exact h pins st σ H _ _ d G δ P E Q I v1 R r1 q kp ke
  | [], _, q => exact q.elim
  | _ :: _ :: _, _, q => exact q.elim
theorem room2 {A : Around} (h : Room (k + 2) A) : Room k A.in1.in1 := (h.in1).in1
def oAbsA (tbl : List (Addr × DSp2)) : DSp := fun ds z P E => match ds with
  | [.int i] => P (.int (if i < 0 then -i else i)) z
  | [.ins C fs] => dpt tbl C fun s => s [.ins C fs] [] z P E
  | _ => False
theorem c_abs (B : XB X c W N sc (k + 1) bb) (hT : AllT (fun C s => OwnD c.toWd C "__abs__" j s) tbl) (hj : j ≤ k) : CalE X c W (.builtin "abs") (oAbsA tbl) :=
  ((calE_of b_abs).or (cal1 (tbl := tbl) fun pins st σ H u x dx G δ P E Q I r1 R p1 q kp ke => by
    obtain ⟨xa, C, f, ox, od, rfl, J, h1, h2, h⟩ := own1 B hT (A := X.A.in1) (B.room.in1.mono hj) B.gd rfl I r1 R p1 q kp ke
    exact PySem.W.own_abs I.kIn J h1 h2 h)).imp fun ds z P E h => by
    match ds, h with
    | [.int i], h => exact .inl h
    | [.ins C fs], h => exact .inr h
def oBoolA (tbl : List (Addr × DSp2)) : DSp := fun ds z P E => match ds with
  | [.int i] => P (.bl (i != 0)) z
  | [.bl b] => P (.bl b) z
  | [.ins C fs] => dpt tbl C fun s => s [.ins C fs] [] z (fun d z' => ∃ b, d = .bl b ∧ P (.bl b) z') E
  | _ => False
def oBool : DBu := fun ds P => match ds with
  | [.int i] => P (.bl (i != 0))
  | [.bl b] => P (.bl b)
  | _ => False
theorem b_bool : BuD X c (.type "bool") oBool := by
  refine ⟨_, call_bool1, fun G H σ δ vs ds P Q R rr o kk => ?_⟩
  match ds, rr, o with
  | [.int i], .cons (.int _) .nil, o => exact .inl ⟨_, rfl, kk _ _ G H o Go.refl R (.bl _)⟩
  | [.bl b], .cons (.bl _) .nil, o => exact .inr ⟨_, rfl, kk _ _ G H o Go.refl R (.bl _)⟩
theorem c_bool (B : XB X c W N sc (k + 2) bb) (hT : AllT (fun C s => OwnD c.toWd C "__bool__" j s) tbl) (hj : j ≤ k) : CalE X c W (.type "bool") (oBoolA tbl) := by
  refine ((calE_of b_bool).or (o' := fun ds z P E => oCal1 tbl ds z (fun d z' => ∃ b, d = .bl b ∧ P (.bl b) z') E) ?_).imp fun ds z P E h => ?_
  · intro pins st σ H vs us ds G δ P E Q I rv R rl q kp ke
    match ds, rl, q with
    | [d], .cons r1 .nil, q =>
      cases rv with
      | cons v1 vr =>
        cases vr
        obtain ⟨xa, C, f, ox, od, rfl, J, h1, h2, h⟩ := own1 (Q := fun w H' => ∃ b, w = .bl b ∧ Q (.bl b) H') B hT (room2 (B.room)|>.mono hj) B.gd rfl I v1 R r1 q (fun d z' w G' H' ⟨b, e, hp⟩ L R' rr => by
          subst e
          cases rr
          exact ⟨b, rfl, kp _ z' _ G' H' hp L R' (.bl _)⟩) ke
        exact PySem.W.own_bool I.kIn J h1 h2 (wpAny_mono h (fun w s' ⟨wv, H', I', rw', b, e, hq⟩ => by
          subst e
          cases (show w = Value.bool b from rw')
          exact ⟨.bl b, H', I', rfl, hq⟩) fun _ _ z => z)
    | [], _, q => exact q.elim
    | _ :: _ :: _, _, q => exact q.elim
  · match ds, h with
    | [.int i], h => exact .inl h
    | [.bl b], h => exact .inl h
    | [.ins C fs], h => exact .inr h
def intS (i : Int) : Prop := i.natAbs.log2 < 1920
def oStrA (tbl : List (Addr × DSp2)) : DSp := fun ds z P E => match ds with
  | [.int i] => intS i ∧ P (.str (toString i)) z
  | [.str s] => P (.str s) z
  | [.ins C fs] => dpt tbl C fun s => s [.ins C fs] [] z (fun d z' => ∃ b, d = .str b ∧ P (.str b) z') E
  | _ => False
def oStrI : DBu := fun ds P => match ds with
  | [.int i] => intS i ∧ P (.str (toString i))
  | _ => False
def oStrS : DBu := fun ds P => match ds with
  | [.str s] => P (.str s)
  | _ => False
theorem b_strI : BuD X c (.type "str") oStrI := by
  refine ⟨_, call_str_int, fun G H σ δ vs ds P Q R rr o kk => ?_⟩
  match ds, rr, o with
  | [.int i], .cons (.int _) .nil, o => exact ⟨_, rfl, o.1, kk _ _ G H o.2 Go.refl R (.str _)⟩
theorem b_strS : BuD X c (.type "str") oStrS := by
  refine ⟨_, SkE.call_str_str, fun G H σ δ vs ds P Q R rr o kk => ?_⟩
  match ds, rr, o with
  | [.str i], .cons (.str _) .nil, o => exact ⟨_, rfl, kk _ _ G H o Go.refl R (.str _)⟩
theorem c_str (B : XB X c W N sc (k + 2) bb) (hT : AllT (fun C s => OwnD c.toWd C "__str__" j s) tbl) (hj : j ≤ k) : CalE X c W (.type "str") (oStrA tbl) := by
  refine (((calE_of b_strI).or (calE_of b_strS)).or (o' := fun ds z P E => oCal1 tbl ds z (fun d z' => ∃ b, d = .str b ∧ P (.str b) z') E) ?_).imp fun ds z P E h => ?_
  · intro pins st σ H vs us ds G δ P E Q I rv R rl q kp ke
    match ds, rl, q with
    | [d], .cons r1 .nil, q =>
      cases rv with
      | cons v1 vr =>
        cases vr
        obtain ⟨xa, C, f, ox, od, rfl, J, h1, h2, h⟩ := own1 (Q := fun w H' => ∃ b, w = .str b ∧ Q (.str b) H') B hT (room2 (B.room)|>.mono hj) B.gd rfl I v1 R r1 q (fun d z' w G' H' ⟨b, e, hp⟩ L R' rr => by
          subst e
          cases rr
          exact ⟨b, rfl, kp _ z' _ G' H' hp L R' (.str _)⟩) ke
        exact PySem.W.kso_call (by have := (room2 B.room).un; omega) I.kIn J h1 h2 (wpAny_mono h (fun w s' ⟨wv, H', I', rw', b, e, hq⟩ => by
          subst e
          obtain ⟨t, rfl⟩ := (show ∃ t, w = Value.str b t from rw')
          exact ⟨.str b, H', I', ⟨t, rfl⟩, hq⟩) fun _ _ z => z)
    | [], _, q => exact q.elim
    | _ :: _ :: _, _, q => exact q.elim
  · match ds, h with
    | [.int i], h => exact .inl (.inl h)
    | [.str i], h => exact .inl (.inr h)
    | [.ins C fs], h => exact .inr h
end
end DL


/-! EM6: gcd; f-strings; comparisons and truth of any value. -/
namespace DL
open PySem L2 PySem.Spec PyProof.Rows
section
variable {X : Cx} {c : Fr} {W : WX} {N : List Str} {sc : Scope} {k j : Nat} {bb : Bool} {e a b o : Expr} {es : List Expr} {pos p p2 apos : Pos} {r ra rb : DTE} {rs rk : DTA} {x : Str} {st : Stmt} {s : DSp2} {tbl : List (Addr × DSp2)}
/-! ### gcd -/
def oGcd : DBu := fun ds P => match ds with
  | [.int i, .int j] => P (.int ((Nat.gcd i.natAbs j.natAbs : Nat) : Int))
  | _ => False
theorem b_gcd : BuD X c (.builtin "math.gcd") oGcd := by
  refine ⟨_, cr_gcd, fun G H σ δ vs ds P Q R rr o kk => ?_⟩
  match ds, rr, o with
  | [.int i, .int j], .cons (.int _) (.cons (.int _) .nil), o => exact ⟨_, _, rfl, kk _ _ G H o Go.refl R (.int _)⟩
/-- a module's name for a built-in -/
theorem de_buM {id : String} {o : DBu} (B : XB X c W N sc k bb) (hm : c.mg x = some (.builtin id)) (ho : BuD X c (.builtin id) o) (hg : sc.names.lookup x = some .globalImplicit) (ha : DA X c W (e :: es) rs) (hdb : (x == ("__debug__" : Str)) = false := by decide)
    (he : starEach (e :: es) X.env = (false, eval e X.env) :: starEach es X.env := by rfl) (hpl : (backTo pos (starEach es X.env)).any (·.1) = false := by rfl) : DE X c W (.Call (.Name x p) (e :: es) [] pos) (dBu o rs) := by
  obtain ⟨r, h1, h2⟩ := ho.ex
  exact peI (pe_callBfun h1 (gX B hg) (by rw [B.hm]; exact hm) ha hdb he hpl) fun σ H Q => dbu_ok h2
/-! ### f-strings -/
def dFmt (r : DTE) : DTE := fun δ P E => r δ (fun d δ1 => match d with
  | .str y => y.length ≤ 1000000 ∧ P (.str y) δ1
  | .int i => intS i ∧ P (.str (toString i)) δ1
  | _ => False) E
theorem de_fmt (h : DE X c W e r) : DE X c W (.FormattedValue e (-1) none pos) (dFmt r) :=
  peI (pe_fmt h) fun σ H Q ⟨G, δ, P, E, R, h, kk, x⟩ => ⟨G, δ, _, E, R, h, fun d δ1 v G1 H1 p L R1 r1 => by
    cases r1 with
    | str y => exact .inl ⟨_, rfl, sz6 p.1, kk _ _ _ G1 H1 p.2 L R1 (.str _)⟩
    | int i => exact .inr ⟨_, rfl, p.1, kk _ _ _ G1 H1 p.2 L R1 (.str _)⟩
    | _ => exact p.elim, x⟩
/-- the parts, behind a text -/
def dJs (rs : List DTE) (acc : Str) : DTE := match rs with
  | [] => fun δ P _ => P (.str acc) δ
  | r :: rs => fun δ P E => r δ (fun d δ1 => match d with
    | .str y => (acc ++ y).length ≤ 1000000 ∧ dJs rs (acc ++ y) δ1 P E
    | _ => False) E
inductive DJ (X : Cx) (c : Fr) (W : WX) : List Expr → List DTE → Prop where
  | nil : DJ X c W [] []
  | cons {e : Expr} {t : DTE} {es : List Expr} {ts : List DTE} (h : DE X c W e t) (r : DJ X c W es ts) : DJ X c W (e :: es) (t :: ts)
theorem DJ.pj {es : List Expr} {ts : List DTE} (h : DJ X c W es ts) : PJ X es (ts.map (liftE c W)) := by
  induction h with
  | nil => exact .nil
  | cons h r ih => exact .cons h ih
theorem djs_in : ∀ (ts : List DTE) (acc : Str) {σ : L2.St} {H : Hp} {Q : VK}, liftE c W (dJs ts acc) σ H Q → tJs (ts.map (liftE c W)) acc σ H (fun out H1 => Q (.str out) H1)
  | [], acc, σ, H, Q, ⟨G, δ, P, E, R, h, kk, x⟩ => kk _ _ _ G H h Go.refl R (.str _)
  | t :: ts, acc, σ, H, Q, ⟨G, δ, P, E, R, h, kk, x⟩ => ⟨G, δ, _, E, R, h, fun d δ1 v G1 H1 p L R1 r1 => by
    cases r1 with
    | str y => exact ⟨y, rfl, sz6 p.1, djs_in ts (acc ++ y) ⟨G1, δ1, P, E, R1, p.2, fun d δ' v G' H' p' L' R' => kk d δ' v G' H' p' (L.trans L') R', x.mono L.g⟩⟩
    | _ => exact p.elim, x⟩
theorem de_joined {v1 v2 : Expr} {rest : List Expr} {ts : List DTE} (h : DJ X c W (v1 :: v2 :: rest) ts) : DE X c W (.JoinedStr (v1 :: v2 :: rest) pos) (dJs ts Str.empty) :=
  peI (pe_joined h.pj) fun σ H Q h => djs_in ts _ h
theorem de_joined1 (h : DE X c W e r) : DE X c W (.JoinedStr [e] pos) r := pe_joined1 h
/-! ### == of any values, by own defs -/
structure EqD (c : Wd) (j : Nat) (C : Addr) (s : DSp2) : Prop where
  eq : OwnD c C "__eq__" j s
  ne : NeC c C
  bt : BtC c C
def oEqA (w : Wd) (tbl : List (Addr × DSp2)) : DOpE := fun x y z P E => match x with
  | .ins C fs => notF w C y ∧ dpt tbl C fun s => s [.ins C fs, y] [] z P E
  | x => match y with
    | .ins C fs => plain x 40 = true ∧ dpt tbl C fun s => s [.ins C fs, x] [] z P E
    | y => (plain x 40 = true ∧ plain y 40 = true) ∧ P (.bl (eqD x y)) z
theorem op_eqA (B : XB X c W N sc k bb) (hT : AllT (fun C s => EqD c.toWd j C s) tbl) (hj : j ≤ k) : OpE X c W (compareOp .Eq) (oEqA c.toWd tbl) := by
  intro pins st σ H u v x y dx dy G δ P E Q I r1 r2 R p1 p2 q kp ke
  by_cases h1 : ∃ C fs, dx = .ins C fs
  · obtain ⟨C, fs, rfl⟩ := h1
    obtain ⟨s, hs, hq⟩ := hT.get q.2
    exact eq_left B hs.eq hj pins st σ H u v x y _ dy G δ P E Q I r1 r2 R p1 p2 ⟨rfl, q.1, hq⟩ kp ke
  · by_cases h2 : ∃ C fs, dy = .ins C fs
    · obtain ⟨C, fs, rfl⟩ := h2
      have q' : plain dx 40 = true ∧ dpt tbl C fun s => s [.ins C fs, dx] [] δ.z P E := by
        cases dx <;> first | exact q | exact absurd ⟨_, _, rfl⟩ h1
      obtain ⟨s, hs, hq⟩ := hT.get q'.2
      exact eq_right B hs.eq hs.bt hj pins st σ H u v x y dx _ G δ P E Q I r1 r2 R p1 p2 ⟨rfl, q'.1, hq⟩ kp ke
    · have q' : (plain dx 40 = true ∧ plain dy 40 = true) ∧ P (.bl (eqD dx dy)) δ.z := by
        cases dx <;> first | exact absurd ⟨_, _, rfl⟩ h1 | (cases dy <;> first | exact absurd ⟨_, _, rfl⟩ h2 | exact q)
      exact opE_of (o_eq B) pins st σ H u v x y dx dy G δ P E Q I r1 r2 R p1 p2 q' kp ke
def oNeA (w : Wd) (tbl : List (Addr × DSp2)) : DOpE := fun x y z P E => match x with
  | .ins C fs => notF w C y ∧ dpt tbl C fun s => s [.ins C fs, y] [] z (fun d z' => ∃ b, d = .bl b ∧ P (.bl (!b)) z') E
  | x => oNe x y fun d => P d z
theorem op_neA (B : XB X c W N sc (k + 1) bb) (hT : AllT (fun C s => EqD c.toWd j C s) tbl) (hj : j ≤ k) : OpE X c W (compareOp .NotEq) (oNeA c.toWd tbl) := by
  intro pins st σ H u v x y dx dy G δ P E Q I r1 r2 R p1 p2 q kp ke
  by_cases h1 : ∃ C fs, dx = .ins C fs
  · obtain ⟨C, fs, rfl⟩ := h1
    obtain ⟨s, hs, hq⟩ := hT.get q.2
    exact ne_left B hs.eq hs.ne hj pins st σ H u v x y _ dy G δ P E Q I r1 r2 R p1 p2 ⟨rfl, q.1, hq⟩ kp ke
  · have q' : oNe dx dy fun d => P d δ.z := by
      cases dx <;> first | exact q | exact absurd ⟨_, _, rfl⟩ h1
    exact opE_of (o_ne B) pins st σ H u v x y dx dy G δ P E Q I r1 r2 R p1 p2 q' kp ke
end
end DL

/-! EM7: own lists. -/
namespace DL
open PySem L2 PySem.Spec PyProof.Rows
section
variable {X : Cx} {c : Fr} {W : WX} {N : List Str} {sc : Scope} {k j : Nat} {bb : Bool} {e a b o : Expr} {es : List Expr} {pos p p2 apos : Pos} {r ra rb : DTE} {rs rk : DTA} {x : Str} {st : Stmt} {s : DSp2}
/-- a slot gets a list that was just made -/
theorem Rel.newO {G H : Hp} {σ : L2.St} {δ : S} {q : Addr} {o : HO} {s' : Sl} {i : Nat} (R : Rel c G H σ δ) (hq : H q = none) (hi : i < δ.sl.length) (ok : SlOk c.toWd c.mu G (upd H q o) δ.z (some (.ref q)) s') (ow : isOwn s' = true) :
    Rel c G (upd H q o) (σ.set i (some (.ref q))) { δ with sl := δ.sl.set i s' } := by
  have po := R.laidH (o := o) hq
  have R1 := R.post po
  have hs : i < σ.length := by rw [R.len]; exact hi
  have back : ∀ {j t}, j ≠ i → (δ.sl.set i s')[j]? = some t → δ.sl[j]? = some t := fun {j t} n h => by rw [List.getElem?_set_ne (Ne.symm n)] at h; exact h
  have at2 : ∀ {j t b}, j ≠ i → δ.sl[j]? = some t → isOwn t = true → at_ (σ.set i (some (.ref q))) j = some (.ref b) → at_ σ j = some (.ref b) ∧ b ≠ q := fun {j t b} n h o e => by
    rw [at_set hs, if_neg n] at e
    refine ⟨e, fun z => ?_⟩
    obtain ⟨b', u, e1, e2, _⟩ := (R.sl j t h).own_at o
    rw [e] at e1; cases e1
    rw [z, hq] at e2; cases e2
  refine ⟨R1.st, R.go.trans (S1 := Spf c.toWd δ σ) ⟨Le.refl _, fun b u h _ => by rw [upd_ne (ne_of_none h hq)]; exact h, fun b u h => ⟨u, by rw [upd_ne (ne_of_none h hq)]; exact h⟩, fun b u h => .inl h, fun b h => ?_⟩, by simp [R.len], fun j t h => ?_, fun j k' b t1 t2 ne h1 h2 o1 o2 a1 a2 => ?_⟩
  · rcases h with h | ⟨j, t, h1, o1, h2⟩
    · exact .inl (.inl h)
    · by_cases n : j = i
      · subst n
        rw [at_set hs, if_pos rfl] at h2
        cases h2
        exact .inr hq
      · exact .inl (.inr ⟨j, t, back n h1, o1, (at2 n (back n h1) o1 h2).1⟩)
  · by_cases n : j = i
    · subst n
      rw [List.getElem?_set_self hi] at h; cases h
      rw [at_set hs, if_pos rfl]; exact ok
    · rw [at_set hs, if_neg n]
      exact R1.sl j t (back n h)
  · by_cases n : j = i
    · subst n
      have m : k' ≠ j := fun z => ne z.symm
      rw [at_set hs, if_pos rfl] at a1; cases a1
      exact (at2 m (back m h2) o2 a2).2 rfl
    · by_cases m : k' = i
      · subst m
        rw [at_set hs, if_pos rfl] at a2; cases a2
        exact (at2 n (back n h1) o1 a1).2 rfl
      · exact R.uq j k' b t1 t2 ne (back n h1) (back m h2) o1 o2 (at2 n (back n h1) o1 a1).1 (at2 m (back m h2) o2 a2).1
theorem XB.xnd (B : XB X c W N sc k bb) : X.N.Nodup := by rw [B.hN]; exact B.nd
/-- x = [..], the list is the frame's own -/
def dOwn (i : Nat) (rs : DTA) : DTS := fun N δ => rs δ (fun ds δ1 => (ds.length ≤ 100000 ∧ i < δ1.sl.length) ∧ N.nx { δ1 with sl := δ1.sl.set i (.own ds) }) N.ex
theorem ds_own {i : Nat} {lp pos' : Pos} (B : XB X c W N sc k false) (hi : N[i]? = some x) (hx : Loc sc x) (ha : DA X c W es rs) (hs : swapsWith (.List es lp) (some (.Name x pos')) pos.line X.env = pure false := by rfl) : DS X c W (.Assign [.Name x pos'] (.List es lp) pos) (dOwn i rs) :=
  psI (ps_set B.xnd (i := i) (by rw [B.hN]; exact hi) (by rw [B.hs]; exact hx) (pe_lst ha) hs (.inl (B.fn rfl x))) fun D σ H ⟨G, δ, N', R, h, n⟩ => ⟨G, δ, _, _, R, h, fun ds δ1 vs G1 H1 p L R1 r1 =>
    ⟨by rw [r1.len]; exact sz5 p.1.1, fun q hq => n.nx _ G1 _ _ p.2 L.g (R1.newO hq p.1.2 ⟨q, vs, rfl, upd_same, R1.gnone hq, R1.st.pne hq, r1⟩ rfl)⟩, exOf n⟩
/-- x.append(e), x an own list -/
def dApp (i : Nat) (r : DTE) : DTS := fun N δ => (∃ ys, δ.sl[i]? = some (.own ys)) ∧ r δ (fun d δ1 => match δ1.sl[i]? with
  | some (.own xs) => xs.length < 100000 ∧ N.nx { δ1 with sl := δ1.sl.set i (.own (xs ++ [d])) }
  | _ => False) N.ex
theorem ds_app {i : Nat} {np : Pos} (B : XB X c W N sc k bb) (hi : N[i]? = some x) (hv : Vis sc x) (he : DE X c W e r) (hd : (x == ("__debug__" : Str)) = false := by decide) (hcd : (x == ("__classdict__" : Str)) = false := by decide)
    (hbase : attributeBase (.Name x np) "append" X.env (eval (.Name x np) X.env) = eval (.Name x np) X.env := by rfl)
    (hfew : ((backTo p (starEach [e] X.env)).all (fun x => !x.1) && (backToKw p (keywordEach [] X.env)).all (fun x => x.1.isSome) && decide ([e].length + ([] : List Keyword).length + (if ([] : List Keyword).isEmpty then 0 else 1) < 30)) = true := by rfl)
    (hline : (apos.endLine == p.line) = true := by rfl) (hst : starEach [e] X.env = (false, eval e X.env) :: starEach [] X.env := by rfl) (hplain : (backTo p (starEach [] X.env)).any (·.1) = false := by rfl)
    (hs : swapsWith (.Call (.Attribute (.Name x np) "append" apos) [e] [] p) none pos.line X.env = pure false := by rfl) : DS X c W (.Expr (.Call (.Attribute (.Name x np) "append" apos) [e] [] p) pos) (dApp i r) :=
  psI (ps_expr (pe_bm F.plainAttrs_list F.slot_list_append F.type_list_append mt_append (pe_var (i := i) (by rw [B.hN]; exact hi) (by rw [B.hs]; exact hv) hd hcd) (da_cons he da_nil hst) hbase hfew hline hst hplain) hs) fun Dn σ H ⟨G, δ, N', R, ⟨⟨ys, hy⟩, h⟩, n⟩ => by
    obtain ⟨a, vs, h1, h2, h3, h4, h5⟩ := R.sl i _ hy
    refine ⟨.ref a, at_some h1, .inl ⟨rfl, vs, .inl (.inl h2)⟩, G, δ, (fun ds δ' => ∃ d, ds = [d] ∧ (match δ'.sl[i]? with
      | some (.own xs) => xs.length < 100000 ∧ N'.nx { δ' with sl := δ'.sl.set i (.own (xs ++ [d])) }
      | _ => False)), _, R, ?_, fun ds δ1 us G1 H1 ⟨d, e, p⟩ L R1 r1 => ?_, exOf n⟩
    · unfold dCons dNil
      have : (fun (x : DL.D) (δ1 : S) => ∃ d, [x] = [d] ∧ (match δ1.sl[i]? with
        | some (.own xs) => xs.length < 100000 ∧ N'.nx { δ1 with sl := δ1.sl.set i (.own (xs ++ [d])) }
        | _ => False)) = fun (d : DL.D) (δ1 : S) => (match δ1.sl[i]? with
        | some (.own xs) => xs.length < 100000 ∧ N'.nx { δ1 with sl := δ1.sl.set i (.own (xs ++ [d])) }
        | _ => False) := by
        funext d δ1
        refine propext ⟨fun ⟨d', e, q⟩ => ?_, fun q => ⟨d, rfl, q⟩⟩
        cases e
        exact q
      rw [this]
      exact h
    · subst e
      cases r1 with
      | cons rd rr =>
        cases rr
        cases es : δ1.sl[i]? with
        | none => rw [es] at p; exact p.elim
        | some t =>
          rw [es] at p
          cases t with
          | own xs =>
            obtain ⟨a', ws, k1, k2, k3, k4, k5⟩ := R1.sl i _ es
            rw [h1] at k1; cases k1
            refine ⟨a, ws, _, rfl, rfl, k2, by rw [k5.len]; exact sl5 p.1, n.nx _ G1 _ _ p.2 L.g (R1.own (s' := .own (xs ++ [d])) es h1 rfl k3 k4 rfl ⟨a, _, rfl, upd_same, k3, k4, k5.app (.cons rd .nil)⟩)⟩
          | _ => exact p.elim
/-- x[e] = f, x an own list -/
def ixD (n : Nat) (i : Int) : Option Nat := ixN n i
def dOwnIx (i : Nat) (ri r : DTE) : DTS := fun N δ => r δ (fun d δ1 => (∃ ys, δ1.sl[i]? = some (.own ys)) ∧ ri δ1 (fun ix δ2 => match δ2.sl[i]?, ix with
  | some (.own xs), .int z => ∃ m, ixD xs.length z = some m ∧ N.nx { δ2 with sl := δ2.sl.set i (.own (xs.set m d)) }
  | _, _ => False) N.ex) N.ex
end
end DL

/-! EM8: what the generated texts lean on. -/
namespace DL
open PySem L2 PySem.Spec PyProof.Rows
open NdefX (NF envF ncx NScope CellsAt startF inv_startN)
open LamX (TabB)
section
variable {w : Wd} {x qual : Str} {st : Stmt} {params : Arguments} {body : List Stmt} {scope : Scope} {dvs : List V} {f : Addr} {fd : FuncData} {ps ks : List Str} {n : Nat}
theorem EqD.mono {C : Addr} {s : DSp2} {j k : Nat} (h : EqD w j C s) (l : j ≤ k) : EqD w k C s := ⟨h.eq.mono l, h.ne, h.bt⟩
theorem MethD.mono {C : Addr} {m : Str} {s : DSp2} {j k : Nat} (h : MethD w m ks j C s) (l : j ≤ k) : MethD w m ks k C s := by
  obtain ⟨f, h1, h2⟩ := h.ex
  exact ⟨h.cl, f, h1, h2.mono l⟩
theorem PropD.mono {C : Addr} {m : Str} {s : DSp2} {j k : Nat} (h : PropD w m j C s) (l : j ≤ k) : PropD w m k C s := by
  obtain ⟨p, g, h1, h2⟩ := h.ex
  exact ⟨h.cl, p, g, h1, h2.mono l⟩
/-- a def by what the written part says: without defaults -/
theorem fund0 {K : PySem.W.Frag} {oc : Value} {od an : Option Addr} {osl : Array (Option Value)} {kV doc pm cdv ct : Value} (l : K.lookup f = some ⟨oc, od, .func (PySem.W.fnOf x qual params body scope .none kV doc pm an cdv ct), osl⟩)
    (c : PySem.W.codeIn K cdv qual = true) (k : PySem.W.keepIn K (.ref f) = true) : FunD K x qual params body scope [] [] f (PySem.W.fnOf x qual params body scope .none kV doc pm an cdv ct) :=
  ⟨⟨oc, od, .none, kV, doc, pm, an, cdv, ct, osl, rfl, l, c, .inl ⟨rfl, rfl⟩, .inl rfl⟩, k⟩
/-- with defaults -/
theorem fundD {K : PySem.W.Frag} {oc oc2 : Value} {od an od2 : Option Addr} {osl osl2 : Array (Option Value)} {kV doc pm cdv ct : Value} {T : Addr} {its : Array Value} {m : Nat} (l : K.lookup f = some ⟨oc, od, .func (PySem.W.fnOf x qual params body scope (.ref T) kV doc pm an cdv ct), osl⟩)
    (c : PySem.W.codeIn K cdv qual = true) (k : PySem.W.keepIn K (.ref f) = true) (lT : K.lookup T = some ⟨oc2, od2, .seq its m, osl2⟩) (v : Vals dvs its.toList) (hd : dvs ≠ []) : FunD K x qual params body scope dvs [] f (PySem.W.fnOf x qual params body scope (.ref T) kV doc pm an cdv ct) :=
  ⟨⟨oc, od, .ref T, kV, doc, pm, an, cdv, ct, osl, rfl, l, c, .inr ⟨hd, T, _, its.toList, m, rfl, lT, by simp, v⟩, .inl rfl⟩, k⟩
/-- how the values of a call fall to the parameters -/
theorem shape_n (F : FunD w.K x qual params body scope [] [] f fd) (ix : List Nat)
    (h : ∀ (kV doc pm : Value) (an : Option Addr) (cdv ct : Value) (us ws : List Value), us.length = n → ws.length = ks.length → bindArgs (PySem.W.fnOf x qual params body scope .none kV doc pm an cdv ct) ⟨us, ks.zip ws⟩ = pure (ps.zip (pick ix (us ++ ws)))) :
    Shape w fd ps n ks (fun ds es => pick ix (ds ++ es)) := by
  obtain ⟨oc, od, dV, kV, doc, pm, an, cdv, ct, osl, rfl, lk, hcd, hdv, _⟩ := F.ex
  rcases hdv with ⟨_, rfl⟩ | ⟨h0, _⟩
  · exact ⟨_, _, ⟨fun s us ws _ h1 h2 => .of_eq (h kV doc pm an cdv ct us ws h1 h2), fun r1 r2 => Vals.pick (Vals.app r1 r2) ix⟩, fun G vs zs ds es r1 r2 => RepL.pick (r1.app r2) ix⟩
  · exact absurd rfl h0
theorem shape_n0 (F : FunD w.K x qual params body scope [] [] f fd) (h : ∀ (kV doc pm : Value) (an : Option Addr) (cdv ct : Value) (us : List Value), us.length = n → bindArgs (PySem.W.fnOf x qual params body scope .none kV doc pm an cdv ct) ⟨us, []⟩ = pure (ps.zip us)) :
    Shape w fd ps n [] (fun ds _ => ds) := by
  obtain ⟨oc, od, dV, kV, doc, pm, an, cdv, ct, osl, rfl, lk, hcd, hdv, _⟩ := F.ex
  rcases hdv with ⟨_, rfl⟩ | ⟨h0, _⟩
  · exact ⟨fun us _ => us, fun vs _ => vs, ⟨fun s us ws _ h1 h2 => by
      have e : ws = [] := List.length_eq_zero_iff.mp h2
      subst e
      exact .of_eq (h kV doc pm an cdv ct us h1), fun r1 _ => r1⟩, fun G vs zs ds es r1 _ => r1⟩
  · exact absurd rfl h0
theorem shape_d (F : FunD w.K x qual params body scope dvs [] f fd) (hd : dvs ≠ []) (dds : List D) (hD : ∀ G, RepL w.K w.p0 G dvs dds) (ix : List Nat)
    (h : ∀ (T : Addr) (kV doc pm : Value) (an : Option Addr) (cdv ct : Value) (us its ws : List Value), us.length = n → its.length = dvs.length → ws.length = ks.length →
      ∃ k, bindArgs (PySem.W.fnOf x qual params body scope (.ref T) kV doc pm an cdv ct) ⟨us, ks.zip ws⟩ = seqItems? (.ref T) >>= k ∧ k (some its.toArray) = pure (ps.zip (pick ix (us ++ its ++ ws)))) :
    Shape w fd ps n ks (fun ds es => pick ix (ds ++ dds ++ es)) := by
  obtain ⟨its, hb⟩ := F.kbindsD n ks (fun us its ws => pick ix (us ++ its ++ ws)) hd (fun r1 r2 r3 => Vals.pick (Vals.app (Vals.app r1 r2) r3) ix) h
  exact ⟨_, _, hb, fun G vs zs ds es r1 r2 => RepL.pick ((r1.app (hD G)).app r2) ix⟩
/-! ### lambdas -/
/-- a def that makes lambdas, its table -/
structure LamF (c : Wd) (f cc pt : Addr) (qual : Str) : Prop where
  code : ∃ oc od fd osl, c.K.lookup f = some ⟨oc, od, .func fd, osl⟩ ∧ fd.code = .ref cc
  tb : TabB c.base c.mg cc pt
  mem : (pt, qual ++ ".<locals>." ++ "<lambda>") ∈ c.tb
  uniq : ∀ p ∈ c.tb, p.1 = pt → p.2 = qual ++ ".<locals>." ++ "<lambda>"
theorem LamF.h {X : Cx} {c : Wd} {cc pt : Addr} (L : LamF c f cc pt qual) (a : AtF c.K f qual X.env) : LamH X c cc pt (qual ++ ".<locals>." ++ "<lambda>") := by
  obtain ⟨oc, od, fd, osl, h1, h2⟩ := L.code
  obtain ⟨oc', od', fd', osl', k1, k2⟩ := a.code
  rw [h1] at k1
  cases k1
  exact ⟨k2.symm.trans h2, by rw [a.qual], L.tb, L.mem, L.uniq⟩
theorem lam_mk {P : Program} {w : World} {K : PySem.W.Frag} {mg : Str → Option Value} {base : Heap} {p : Addr} {cs : List Int} {ts : List Tb} {cc pt : Addr} (HT : ∀ t ∈ ts, TabB base mg t.1 t.2.1) (nd : (ts.map fun t => t.2.1).Nodup) {oc : Value} {od : Option Addr} {fd : FuncData} {osl : Array (Option Value)}
    (h1 : K.lookup f = some ⟨oc, od, .func fd, osl⟩) (h2 : fd.code = .ref cc) (hm : (cc, pt, qual ++ ".<locals>." ++ "<lambda>") ∈ ts) : LamF (lawWd P w K mg base p cs (tbs ts)) f cc pt qual := by
  refine ⟨⟨oc, od, fd, osl, h1, h2⟩, HT _ hm, List.mem_map.mpr ⟨_, hm, rfl⟩, fun q hq e => ?_⟩
  obtain ⟨t, ht, rfl⟩ := List.mem_map.mp hq
  have inj : ∀ (l : List Tb), (l.map fun t => t.2.1).Nodup → ∀ a ∈ l, ∀ b ∈ l, a.2.1 = b.2.1 → a = b := by
    intro l
    induction l with
    | nil => intro _ a ha; cases ha
    | cons u r ih =>
      intro n a ha b hb e
      rw [List.map_cons, List.nodup_cons] at n
      rcases List.mem_cons.mp ha with h1 | h1
      · rcases List.mem_cons.mp hb with h2 | h2
        · rw [h1, h2]
        · exact absurd (List.mem_map.mpr ⟨b, h2, by rw [← e, h1]⟩) n.1
      · rcases List.mem_cons.mp hb with h2 | h2
        · exact absurd (List.mem_map.mpr ⟨a, h1, by rw [e, h2]⟩) n.1
        · exact ih n.2 a h1 b h2 e
  have := inj ts nd t ht _ hm e
  rw [this]
theorem tbOk_nil {K : PySem.W.Frag} {h : Heap} : TbOk K h [] := ⟨fun _ h => (by cases h), fun _ h => (by cases h), fun _ h => (by cases h)⟩
theorem tbOk_cons {K : PySem.W.Frag} {h : Heap} {ts : List Tb} {q : Program} {loose : List Str} {mean : ExcName → Option Value} {mg mb : Str → Option Value} {d : DefRec} {x : Str} {cc pt : Addr} {qn : Str} (T : Top q loose mean mg mb h) (X : K.In h) (hr : (recsOf q).find? (fun e => e.name == x) = some d) (ht : PySem.W.tabIn K x = some (cc, pt)) (hn : K.lookup pt = none)
    (r : TbOk K h ts) : TbOk K h ((cc, pt, qn) :: ts) := by
  obtain ⟨h1, h2⟩ := PySem.W.tab_of T X hr ht
  exact ⟨fun t m => (List.mem_cons.mp m).elim (fun e => by subst e; exact h2) (r.at_ t), fun t m => (List.mem_cons.mp m).elim (fun e => by subst e; exact hn) (r.no t), fun t m => (List.mem_cons.mp m).elim (fun e => by subst e; exact h1) (r.hd t)⟩
/-! ### own exceptions -/
/-- an own __init__ that names its class by a cell, as it is written -/
structure IniX (c : Wd) (D f : Addr) (qual : Str) (st : Stmt) (ps : List Str) : Prop where
  ex : ∃ (cc cf : Addr) (fd : FuncData), SupF c.P c.K c.mg D ⟨"__init__", qual, defArgs st, defBody st, defScope st, [(("__class__" : Str), cc)], cf⟩ cc f fd ∧ KBn c.K fd ps ps.length [] (fun us _ => us) (fun vs _ => vs)
  fi : PySem.W.findIn c.K (.ref D) "__init__" = some (some (.ref f))
  ty : PySem.W.typeIn c.K (.ref f) = some (.type "function")
  T : OexC c.K D
theorem IniX.one {c : Wd} {D f : Addr} {qual : Str} {st : Stmt} {x : Str} {k : Nat} (I : IniX c D f qual st ["self", x]) (h : ∀ (cc cf : Addr) (fd : FuncData), SupF c.P c.K c.mg D ⟨"__init__", qual, defArgs st, defBody st, defScope st, [(("__class__" : Str), cc)], cf⟩ cc f fd → FnG c k f fd ["self", x] (spX D [x])) : ExcD c D [x] k := by
  obtain ⟨cc, cf, fd, S, b⟩ := I.ex
  exact ⟨I.T, f, fd, I.fi, I.ty, h cc cf fd S, b⟩
theorem IniX.two {c : Wd} {D f : Addr} {qual : Str} {st : Stmt} {x y : Str} {k : Nat} (I : IniX c D f qual st ["self", x, y]) (h : ∀ (cc cf : Addr) (fd : FuncData), SupF c.P c.K c.mg D ⟨"__init__", qual, defArgs st, defBody st, defScope st, [(("__class__" : Str), cc)], cf⟩ cc f fd → FnG c k f fd ["self", x, y] (spX D [x, y])) : ExcD c D [x, y] k := by
  obtain ⟨cc, cf, fd, S, b⟩ := I.ex
  exact ⟨I.T, f, fd, I.fi, I.ty, h cc cf fd S, b⟩
theorem exm_of {K : PySem.W.Frag} {a b : Value} {r : Bool} (h1 : PySem.W.subIn K b (.type "BaseException") = some true) (h2 : PySem.W.kitCls K a b = some r) : PySem.W.exmOne K a b = some r := by
  unfold PySem.W.exmOne
  rw [h1]
  exact h2
theorem kbn_x {K : PySem.W.Frag} {x qual : Str} {params : Arguments} {body : List Stmt} {scope : Scope} {cl : List (Str × Addr)} {dV kV doc pm cdv ct : Value} {an : Option Addr} {ps : List Str}
    (h : ∀ us : List Value, us.length = ps.length → bindArgs (PySem.W.fnX x qual params body scope cl dV kV doc pm an cdv ct) ⟨us, []⟩ = pure (ps.zip us)) : KBn K (PySem.W.fnX x qual params body scope cl dV kV doc pm an cdv ct) ps ps.length [] (fun us _ => us) (fun vs _ => vs) :=
  ⟨fun s us ws _ h1 h2 => by
    have e : ws = [] := List.length_eq_zero_iff.mp h2
    subst e
    exact .of_eq (h us h1), fun r1 _ => r1⟩
end
end DL

/-! EM9: small rules for the generated texts. -/
namespace DL
open PySem L2 PySem.Spec PyProof.Rows
section
variable {X : Cx} {c : Fr} {W : WX} {N : List Str} {sc : Scope} {k j : Nat} {bb : Bool} {e a b o : Expr} {es : List Expr} {pos p p2 apos : Pos} {r ra rb : DTE} {rs rk : DTA} {x : Str} {st : Stmt}
theorem dcpE {op : CmpOp} {o : DOpE} (ho : OpE X c W (compareOp op) o) (ha : DE X c W a ra) (hb : DE X c W b rb) (hm : behindInMarks op b = false := by first | exact nobehind _ (by decide) (by decide) | rfl) : DE X c W (.Compare a [op] [b] pos) (dBinE o ra rb) := de_cmpE ho ha hb hm
theorem dtcE {op : CmpOp} {o : DOpE} (ho : OpE X c W (compareOp op) o) (ha : DE X c W a ra) (hb : DE X c W b rb) (hm : behindInMarks op b = false := by first | exact nobehind _ (by decide) (by decide) | rfl) : DT X c W (.Compare a [op] [b] pos) (dTB (dBinE o ra rb)) := dt_cmpE ho ha hb hm
theorem dapp {i : Nat} {np : Pos} (B : XB X c W N sc k bb) (he : DE X c W e r) (hi : N[i]? = some x := by rfl) (hv : Vis sc x := by first | exact Or.inl rfl | exact Or.inr (Or.inl rfl) | exact Or.inr (Or.inr rfl)) (hd : (x == ("__debug__" : Str)) = false := by decide) (hcd : (x == ("__classdict__" : Str)) = false := by decide)
    (hbase : attributeBase (.Name x np) "append" X.env (eval (.Name x np) X.env) = eval (.Name x np) X.env := by rfl)
    (hfew : ((backTo p (starEach [e] X.env)).all (fun x => !x.1) && (backToKw p (keywordEach [] X.env)).all (fun x => x.1.isSome) && decide ([e].length + ([] : List Keyword).length + (if ([] : List Keyword).isEmpty then 0 else 1) < 30)) = true := by rfl)
    (hline : (apos.endLine == p.line) = true := by rfl) (hst : starEach [e] X.env = (false, eval e X.env) :: starEach [] X.env := by rfl) (hplain : (backTo p (starEach [] X.env)).any (·.1) = false := by rfl)
    (hs : swapsWith (.Call (.Attribute (.Name x np) "append" apos) [e] [] p) none pos.line X.env = pure false := by rfl) : DS X c W (.Expr (.Call (.Attribute (.Name x np) "append" apos) [e] [] p) pos) (dApp i r) := ds_app B hi hv he hd hcd hbase hfew hline hst hplain hs
theorem down {i : Nat} {lp pos' : Pos} (B : XB X c W N sc k false) (ha : DA X c W es rs) (hi : N[i]? = some x := by rfl) (hx : Loc sc x := by first | exact Or.inl rfl | exact Or.inr rfl) (hs : swapsWith (.List es lp) (some (.Name x pos')) pos.line X.env = pure false := by rfl) : DS X c W (.Assign [.Name x pos'] (.List es lp) pos) (dOwn i rs) := ds_own B hi hx ha hs
end
section
variable {K : PySem.W.Frag} {x qual : Str} {params : Arguments} {body : List Stmt} {scope : Scope} {dvs : List V} {f : Addr} {fd : FuncData} {ps : List Str} {n : Nat} {w : Wd} {d kd : D} {u : Value} {T : String} {b : Bool} {z : Z} {P : D → Z → Prop} {E : Er → Z → Prop} {C : Addr} {fs : List (Str × D)}
theorem FunD.fd_eq {oc : Value} {od : Option Addr} {fd' : FuncData} {sl : Array (Option Value)} (F : FunD K x qual params body scope dvs [] f fd) (h : K.lookup f = some ⟨oc, od, .func fd', sl⟩) : fd = fd' := by
  obtain ⟨_, _, _, _, _, _, _, _, _, _, _, h2, _⟩ := F.ex
  rw [h] at h2
  cases h2
  rfl
theorem bnd1 {y : Str} (F : FunD K x qual params body scope [] [] f fd) (h : ∀ (kV doc pm : Value) (an : Option Addr) (cdv ct : Value) (u : Value), bindArgs (PySem.W.fnOf x qual params body scope .none kV doc pm an cdv ct) ⟨[u], []⟩ = pure [(y, u)]) (s : Shared) (u : Value) : BindsTo s fd ⟨[u], []⟩ [(y, u)] := by
  obtain ⟨oc, od, dV, kV, doc, pm, an, cdv, ct, osl, rfl, lk, hcd, hdv, _⟩ := F.ex
  rcases hdv with ⟨_, rfl⟩ | ⟨h0, _⟩
  · exact .of_eq (h kV doc pm an cdv ct u)
  · exact absurd rfl h0
theorem kbn_f (F : FunD K x qual params body scope [] [] f fd) (h : ∀ (kV doc pm : Value) (an : Option Addr) (cdv ct : Value) (us : List Value), us.length = n → bindArgs (PySem.W.fnOf x qual params body scope .none kV doc pm an cdv ct) ⟨us, []⟩ = pure (ps.zip us)) : KBn K fd ps n [] (fun us _ => us) (fun vs _ => vs) := by
  obtain ⟨oc, od, dV, kV, doc, pm, an, cdv, ct, osl, rfl, lk, hcd, hdv, _⟩ := F.ex
  rcases hdv with ⟨_, rfl⟩ | ⟨h0, _⟩
  · exact ⟨fun s us ws _ h1 h2 => by
      have e : ws = [] := List.length_eq_zero_iff.mp h2
      subst e
      exact .of_eq (h kV doc pm an cdv ct us h1), fun r1 _ => r1⟩
  · exact absurd rfl h0
theorem isa_bt (h : PySem.W.kitOne w.K (.type T) u = some b) (hu : clD kd = some u := by rfl) (ht : ∀ Q : Value → Prop, tyX w d Q = Q (.type T) := by intros; rfl) : oIsA w [d, kd] z P E ↔ P (.bl b) z := by
  show (match clD kd with | some u => tyX w d (fun t => ∃ b, PySem.W.kitOne w.K t u = some b ∧ P (.bl b) z) | none => False) ↔ _
  rw [hu]
  simp only
  rw [ht, h]
  exact ⟨fun ⟨b', e, hp⟩ => by cases e; exact hp, fun hp => ⟨b, rfl, hp⟩⟩
theorem isa_in (hc : CI w C) (h : PySem.W.kitOne w.K (.ref C) u = some b) (hu : clD kd = some u := by rfl) : oIsA w [.ins C fs, kd] z P E ↔ P (.bl b) z := by
  show (match clD kd with | some u => CI w C ∧ ∃ b, PySem.W.kitOne w.K (.ref C) u = some b ∧ P (.bl b) z | none => False) ↔ _
  rw [hu]
  simp only
  rw [h]
  exact ⟨fun ⟨_, b', e, hp⟩ => by cases e; exact hp, fun hp => ⟨hc, b, rfl, hp⟩⟩
theorem isa_ex (hc : PySem.W.XcC w.K C) (h : PySem.W.kitOne w.K (.ref C) u = some b) (hu : clD kd = some u := by rfl) : oIsA w [.exc (.ref C) fs, kd] z P E ↔ P (.bl b) z := by
  show (match clD kd with | some u => PySem.W.XcC w.K C ∧ ∃ b, PySem.W.kitOne w.K (.ref C) u = some b ∧ P (.bl b) z | none => False) ↔ _
  rw [hu]
  simp only
  rw [h]
  exact ⟨fun ⟨_, b', e, hp⟩ => by cases e; exact hp, fun hp => ⟨hc, b, rfl, hp⟩⟩
end
end DL

/-! EMA: sizes of numbers; // by any divisor. -/
namespace DL
open PySem L2 PySem.Spec PyProof.Rows
section
variable {X : Cx} {c : Fr}
theorem ib_lt {i : Int} {a : Nat} (h : i.natAbs < 2 ^ a) : Builtin.Int.intBits i ≤ a + 1 := by
  unfold Builtin.Int.intBits
  split
  · omega
  · rename_i h0
    have : i.natAbs.log2 < a := (Nat.log2_lt (by intro e; simp_all)).mpr h
    omega
/-- a small factor, or sizes that are known -/
def CMulE (i j : Int) : Prop := CMul i j ∨ CMulX i j
theorem o_mulE : OpD X c (binaryOp .Mult) (oI CMulE fun i j => .int (i * j)) := (o_mul.or o_mulX).imp fun x y P h => by
  cases x with
  | int i => cases y with
    | int j => exact h.1.imp (fun q => ⟨q, h.2⟩) fun q => ⟨q, h.2⟩
    | _ => exact h.elim
  | _ => exact h.elim
theorem mx_of' {i j : Int} (a b : Nat) (h1 : i.natAbs < 2 ^ a) (h2 : j.natAbs < 2 ^ b) (h : a + b ≤ 100000000 := by decide) : CMulX i j := by
  have := ib_lt h1
  have := ib_lt h2
  unfold CMulX
  omega
theorem mx_of {i j : Int} (a b : Nat) (h1 : i.natAbs < 2 ^ a) (h2 : j.natAbs < 2 ^ b) (h : a + b ≤ 100000000 := by decide) : CMulE i j := .inr (mx_of' a b h1 h2 h)
theorem me_l {x y : Int} (h1 : x.natAbs < 2 ^ 64) : CMulE x y := .inl (.inl ⟨by omega, by omega⟩)
theorem me_r {x y : Int} (h1 : y.natAbs < 2 ^ 64) : CMulE x y := .inl (.inr ⟨by omega, by omega⟩)
/-- any divisor below 2 ^ 9000 -/
def CDivG (j : Int) : Prop := j ≠ 0 ∧ j.natAbs.log2 < 9000
theorem o_fdivG : OpD X c (binaryOp .FloorDiv) (oI (fun _ j => CDivG j) fun i j => .int (i.fdiv j)) := oI_of (C := fun _ j => CDivG j) (g := fun i j => .int (i.fdiv j)) (opI fun i j _ _ _ _ _ hc q => floordiv_int hc.1 q (.inl (PyProof.noPylong_of_log2 hc.2))) fun G i j => .int _
theorem cdg_of {j : Int} (b : Nat) (h0 : j ≠ 0) (h1 : j.natAbs < 2 ^ b) (hb : 0 < b := by decide) (h9 : b ≤ 9000 := by decide) : CDivG j := ⟨h0, Nat.lt_of_lt_of_le (PySem.Flt.log2_lt_of hb h1) h9⟩
theorem cdw {i j : Int} (b : Nat) (h0 : 0 < j) (h1 : j.natAbs < 2 ^ b) (hb : 0 < b := by decide) (h9 : b ≤ 9000 := by decide) : CDivW i j := wide_div h0 h1 hb h9
theorem pow_lt {i : Int} {a : Nat} {n : Nat} (h : i.natAbs < 2 ^ a) (hn : 0 < n) : (i ^ n).natAbs < 2 ^ (a * n) := by
  rw [Int.natAbs_pow, Nat.pow_mul]
  exact Nat.pow_lt_pow_left h (by omega)
end
end DL

/-! EMB: a draw; plain lemmas. -/
namespace DL
open PySem L2 PySem.Spec PyProof.Rows
def drawA_8 (c : Wd) (k1 k2 k3 k4 k5 p1 p2 p3 : Int) : DTS := dRet (dBin (oI (fun _ j => 0 < j) fun i j => .int (i % j)) (dBu oInt (dCons (dBin (oI CDivW fun i j => .int (i / j)) (dBin (oI (fun _ j => 0 < j) fun i j => .int (i % j)) (dBu oInt (dCons (dBin (oI CPow fun i j => .int (i ^ j.toNat)) (dVar 6) (dC (.int 3))) (dNil))) (dC (.int p3))) (dC (.int 64))) (dNil))) (dVar 1))
def drawA_7 (c : Wd) (k1 k2 k3 k4 k5 p1 p2 p3 : Int) : DTS := dSeq (dSet 6 (dBin oAdd (dBin oAdd (dBin (oI CMulE fun i j => .int (i * j)) (dVar 6) (dBin oAdd (dBin (oI CMulE fun i j => .int (i * j)) (dC (.int 2)) (dVar 3)) (dC (.int k4)))) (dBin (oI CMulE fun i j => .int (i * j)) (dBin (oI CMulE fun i j => .int (i * j)) (dC (.int k1)) (dVar 3)) (dVar 3))) (dC (.int k5)))) (drawA_8 c k1 k2 k3 k4 k5 p1 p2 p3)
def drawA_6 (c : Wd) (k1 k2 k3 k4 k5 p1 p2 p3 : Int) : DTS := dSeq (dSet 6 (dBin (oI (fun _ j => 0 < j) fun i j => .int (i % j)) (dBu oInt (dCons (dBin (oI CPow fun i j => .int (i ^ j.toNat)) (dBin oAdd (dBin oAdd (dBin (oI (fun _ j => 0 < j) fun i j => .int (i % j)) (dBu oInt (dCons (dVar 4) (dNil))) (dC (.int p1))) (dBin (oI CMulE fun i j => .int (i * j)) (dC (.int k3)) (dVar 3))) (dC (.int k2))) (dC (.int 5))) (dNil))) (dC (.int p2)))) (drawA_7 c k1 k2 k3 k4 k5 p1 p2 p3)
def drawA_5 (c : Wd) (k1 k2 k3 k4 k5 p1 p2 p3 : Int) : DTS := dSeq (dIte (dAnd (dTB (dBin (oI (fun _ _ => True) fun i j => .bl (decide (i < j))) (dVar 3) (dBu oLen (dCons (dPen c 0 0) (dNil))))) (dTB (dBin (oI (fun _ _ => True) fun i j => .bl (decide (j ≤ i))) (dBu oAbs (dCons (dVar 4) (dNil))) (dBin (oI CPow fun i j => .int (i ^ j.toNat)) (dC (.int 10)) (dC (.int 18)))))) (dSeq (dSet 5 (dBin oAdd (dBin (oI CMulE fun i j => .int (i * j)) (dC (.int 2)) (dBin (oI (fun _ _ => True) fun i j => .int (i - j)) (dBu oAbs (dCons (dVar 4) (dNil))) (dBin (oI CPow fun i j => .int (i ^ j.toNat)) (dC (.int 10)) (dC (.int 18))))) (dBu oInt (dCons (dBin (oI (fun _ _ => True) fun i j => .bl (decide (i < j))) (dVar 4) (dC (.int 0))) (dNil))))) (dSeq (dAsg (dBin (oI CDivW fun i j => .int (i / j)) (dBu oInt (dCons (dVar 5) (dNil))) (dVar 1)) (gPen 0 2)) (dRet (dBin (oI (fun _ j => 0 < j) fun i j => .int (i % j)) (dBu oInt (dCons (dVar 5) (dNil))) (dVar 1))))) (dNext)) (drawA_6 c k1 k2 k3 k4 k5 p1 p2 p3)
def drawA_4 (c : Wd) (k1 k2 k3 k4 k5 p1 p2 p3 : Int) : DTS := dSeq (dIte (dTB (dBin oNe (dPen c 0 0) (dLst (dNil)))) (dSet 4 (dIx (dPen c 0 0) (dBin (oI (fun _ j => 0 < j) fun i j => .int (i % j)) (dBu oInt (dCons (dVar 3) (dNil))) (dBu oLen (dCons (dPen c 0 0) (dNil)))))) (dNext)) (drawA_5 c k1 k2 k3 k4 k5 p1 p2 p3)
def drawA_3 (c : Wd) (k1 k2 k3 k4 k5 p1 p2 p3 : Int) : DTS := dSeq (dSet 4 (dBin oAdd (dBin (oI CMulE fun i j => .int (i * j)) (dC (.int k1)) (dVar 3)) (dC (.int k2)))) (drawA_4 c k1 k2 k3 k4 k5 p1 p2 p3)
def drawA_2 (c : Wd) (k1 k2 k3 k4 k5 p1 p2 p3 : Int) : DTS := dSeq (dAsg (dBin oAdd (dVar 3) (dC (.int 1))) (gPen 0 1)) (drawA_3 c k1 k2 k3 k4 k5 p1 p2 p3)
def drawA_1 (c : Wd) (k1 k2 k3 k4 k5 p1 p2 p3 : Int) : DTS := dSeq (dSet 3 (dPen c 0 1)) (drawA_2 c k1 k2 k3 k4 k5 p1 p2 p3)
def drawA_0 (c : Wd) (k1 k2 k3 k4 k5 p1 p2 p3 : Int) : DTS := dSeq (dIte (dTB (dBin (oI (fun _ _ => True) fun i j => .bl (decide (j < i))) (dPen c 0 2) (dC (.int 0)))) (dSeq (dSet 2 (dBin (oI (fun _ j => 0 < j) fun i j => .int (i % j)) (dBu oInt (dCons (dPen c 0 2) (dNil))) (dVar 1))) (dSeq (dAsg (dBin (oI CDivW fun i j => .int (i / j)) (dBu oInt (dCons (dPen c 0 2) (dNil))) (dVar 1)) (gPen 0 2)) (dRet (dVar 2)))) (dNext)) (drawA_1 c k1 k2 k3 k4 k5 p1 p2 p3)
theorem pw18 : (10 : Int) ^ (18 : Int).toNat = 1000000000000000000 := rfl
theorem drawA_tail {c : Wd} {k1 k2 k3 k4 k5 p1 p2 p3 : Int} (hk : (0 ≤ k1 ∧ k1 < 1048576) ∧ (0 ≤ k2 ∧ k2 < 1048576) ∧ (0 ≤ k3 ∧ k3 < 1048576) ∧ (0 ≤ k4 ∧ k4 < 1048576) ∧ (0 ≤ k5 ∧ k5 < 1048576) ∧ (0 < p1 ∧ p1 < 4294967296) ∧ (0 < p2 ∧ p2 < 4294967296) ∧ (0 < p3 ∧ p3 < 4294967296))
    {fu : Nat} {ms : Addr → Option Cell} {b : Nat} {m : Int} {P : D → Z → Prop} {R : Er → Z → Prop} (h0 : 0 < m) (h1 : m < 2 ^ 200) (hb : b ≤ 1000000) (hp : ∀ (z : Int), 0 ≤ z → z < m → P (.int z) ⟨fu, ms⟩) (i : Int) :
    drawA_5 c k1 k2 k3 k4 k5 p1 p2 p3 (fnN P R) ⟨[.d .pen, .d (.int m), .un, .d (.int b), .d (.int i), .un, .un], ⟨fu, ms⟩⟩ := by
  obtain ⟨⟨a1, a2⟩, ⟨b1, b2⟩, ⟨c1, c2⟩, ⟨d1, d2⟩, ⟨e1, e2⟩, ⟨f1, f2⟩, ⟨g1, g2⟩, ⟨i1, i2⟩⟩ := hk
  have hm : (b : Int) ≤ 1000000 := by omega
  have hm0 : (0 : Int) ≤ b := by omega
  have hmm : m.natAbs < 2 ^ 200 := by omega
  have fin : ∀ x : Int, P (.int (x % m)) ⟨fu, ms⟩ := fun x => hp _ (emb x h0).1 (emb x h0).2
  have last : drawA_6 c k1 k2 k3 k4 k5 p1 p2 p3 (fnN P R) ⟨[.d .pen, .d (.int m), .un, .d (.int b), .d (.int i), .un, .un], ⟨fu, ms⟩⟩ := by
    unfold drawA_6
    rw [dSeq]
    simp only [dIte, dTB, dBin, dPen, isPen, dC, dVar, dNil, dCons, dSet, dAsg, dRet, dNext, dAnd, dOr, dNot, dAndV, dOrV, dNotV, dBu, oLen, oInt, oAbs, oI, oAdd, oIx, dIx, gPen, gN, gC, gT, gZ, dLst, dTup, dPar, dSl, dNone, dPart, oSl, dCall, dIf, dDrop, fnN, List.getElem?_cons_zero, List.getElem?_cons_succ, List.set_cons_zero, List.set_cons_succ, true_and, if_true, if_false, Bool.false_eq_true, List.length_cons, List.length_nil, Option.some.injEq, Int.reduceEq, ↓reduceIte, Nat.reduceAdd, Nat.reduceLeDiff, and_true, Nat.zero_le]
    have q1 := emb i f1
    have q2 := mulb c1 (Int.le_of_lt c2) hm0 hm
    refine ⟨f1, mx_of 40 20 (by omega) (by omega), cpow_of (by omega) (by omega) (by decide) (by decide), g1, ?_⟩
    have q3 := emb ((i % p1 + k3 * (b : Int) + k2) ^ Int.toNat 5) g1
    generalize (i % p1 + k3 * (b : Int) + k2) ^ Int.toNat 5 % p2 = x at q3 ⊢
    unfold drawA_7
    rw [dSeq]
    simp only [dIte, dTB, dBin, dPen, isPen, dC, dVar, dNil, dCons, dSet, dAsg, dRet, dNext, dAnd, dOr, dNot, dAndV, dOrV, dNotV, dBu, oLen, oInt, oAbs, oI, oAdd, oIx, dIx, gPen, gN, gC, gT, gZ, dLst, dTup, dPar, dSl, dNone, dPart, oSl, dCall, dIf, dDrop, fnN, List.getElem?_cons_zero, List.getElem?_cons_succ, List.set_cons_zero, List.set_cons_succ, true_and, if_true, if_false, Bool.false_eq_true, List.length_cons, List.length_nil, Option.some.injEq, Int.reduceEq, ↓reduceIte, Nat.reduceAdd, Nat.reduceLeDiff, and_true, Nat.zero_le]
    have q4 := mulb q3.1 (Int.le_of_lt q3.2) (y := 2 * (b : Int) + k4) (Y := 3048576) (by omega) (by omega)
    have q5 := mulb a1 (Int.le_of_lt a2) hm0 hm
    have q6 := mulb q5.1 q5.2 hm0 hm
    have q6' : k1 * (b : Int) * (b : Int) ≤ 1048576000000000000 := Int.le_trans q6.2 (by omega)
    refine ⟨mx_of 2 20 (by decide) (by omega), mx_of 33 41 (by omega) (by omega), mx_of 41 20 (by omega) (by omega), mx_of 61 20 (by omega) (by omega), ?_⟩
    have w : x * (2 * (b : Int) + k4) + k1 * (b : Int) * (b : Int) + k5 < 2 ^ 62 := by omega
    have w0 : 0 ≤ x * (2 * (b : Int) + k4) + k1 * (b : Int) * (b : Int) + k5 := by omega
    generalize x * (2 * (b : Int) + k4) + k1 * (b : Int) * (b : Int) + k5 = y at w w0 ⊢
    unfold drawA_8
    simp only [dIte, dTB, dBin, dPen, isPen, dC, dVar, dNil, dCons, dSet, dAsg, dRet, dNext, dAnd, dOr, dNot, dAndV, dOrV, dNotV, dBu, oLen, oInt, oAbs, oI, oAdd, oIx, dIx, gPen, gN, gC, gT, gZ, dLst, dTup, dPar, dSl, dNone, dPart, oSl, dCall, dIf, dDrop, fnN, List.getElem?_cons_zero, List.getElem?_cons_succ, List.set_cons_zero, List.set_cons_succ, true_and, if_true, if_false, Bool.false_eq_true, List.length_cons, List.length_nil, Option.some.injEq, Int.reduceEq, ↓reduceIte, Nat.reduceAdd, Nat.reduceLeDiff, and_true, Nat.zero_le]
    refine ⟨cpow_of w0 (by omega) (by decide) (by decide), i1, cdw 7 (by decide) (by decide), h0, fin _⟩
  unfold drawA_5
  rw [dSeq]
  simp only [dIte, dTB, dBin, dPen, isPen, dC, dVar, dNil, dCons, dSet, dAsg, dRet, dNext, dAnd, dOr, dNot, dAndV, dOrV, dNotV, dBu, oLen, oInt, oAbs, oI, oAdd, oIx, dIx, gPen, gN, gC, gT, gZ, dLst, dTup, dPar, dSl, dNone, dPart, oSl, dCall, dIf, dDrop, fnN, List.getElem?_cons_zero, List.getElem?_cons_succ, List.set_cons_zero, List.set_cons_succ, true_and, if_true, if_false, Bool.false_eq_true, List.length_cons, List.length_nil, Option.some.injEq, Int.reduceEq, ↓reduceIte, Nat.reduceAdd, Nat.reduceLeDiff, and_true, Nat.zero_le]
  intro hcs
  generalize (if i < 0 then -i else i) = ab
  have pc : CPow 10 18 := cpow_of (by decide) (by decide) (by decide) (by decide)
  split
  · refine ⟨pc, ?_⟩
    split
    · simp only [dSeq, dIte, dTB, dBin, dPen, isPen, dC, dVar, dNil, dCons, dSet, dAsg, dRet, dNext, dAnd, dOr, dNot, dAndV, dOrV, dNotV, dBu, oLen, oInt, oAbs, oI, oAdd, oIx, dIx, gPen, gN, gC, gT, gZ, dLst, dTup, dPar, dSl, dNone, dPart, oSl, dCall, dIf, dDrop, fnN, List.getElem?_cons_zero, List.getElem?_cons_succ, List.set_cons_zero, List.set_cons_succ, true_and, if_true, if_false, Bool.false_eq_true, List.length_cons, List.length_nil, Option.some.injEq, Int.reduceEq, ↓reduceIte, Nat.reduceAdd, Nat.reduceLeDiff, and_true, Nat.zero_le]
      generalize (if i < 0 then -i else i) = ab
      refine ⟨pc, me_l (by decide), ?_⟩
      exact ⟨cdw 200 h0 hmm, fu, Nat.le_refl _, h0, fin _⟩
    · exact last
  · exact last
theorem drawA_ok {c : Wd} {k1 k2 k3 k4 k5 p1 p2 p3 : Int} (hk : (0 ≤ k1 ∧ k1 < 1048576) ∧ (0 ≤ k2 ∧ k2 < 1048576) ∧ (0 ≤ k3 ∧ k3 < 1048576) ∧ (0 ≤ k4 ∧ k4 < 1048576) ∧ (0 ≤ k5 ∧ k5 < 1048576) ∧ (0 < p1 ∧ p1 < 4294967296) ∧ (0 < p2 ∧ p2 < 4294967296) ∧ (0 < p3 ∧ p3 < 4294967296))
    {z : Z} {m : Int} {P : D → Z → Prop} {R : Er → Z → Prop} (h0 : 0 < m) (h1 : m < 2 ^ 200) (hn : 0 < z.fu) (hp : ∀ (v : Int), 0 ≤ v → v < m → P (.int v) { z with fu := z.fu - 1 }) :
    drawA_0 c k1 k2 k3 k4 k5 p1 p2 p3 (fnN P R) ⟨[.d .pen, .d (.int m), .un, .un, .un, .un, .un], z⟩ := by
  obtain ⟨fu, ms⟩ := z
  replace hn : 0 < fu := hn
  have hmm : m.natAbs < 2 ^ 200 := by omega
  unfold drawA_0
  rw [dSeq]
  simp only [dIte, dTB, dBin, dPen, isPen, dC, dVar, dNil, dCons, dSet, dAsg, dRet, dNext, dAnd, dOr, dNot, dAndV, dOrV, dNotV, dBu, oLen, oInt, oAbs, oI, oAdd, oIx, dIx, gPen, gN, gC, gT, gZ, dLst, dTup, dPar, dSl, dNone, dPart, oSl, dCall, dIf, dDrop, fnN, List.getElem?_cons_zero, List.getElem?_cons_succ, List.set_cons_zero, List.set_cons_succ, true_and, if_true, if_false, Bool.false_eq_true, List.length_cons, List.length_nil, Option.some.injEq, Int.reduceEq, ↓reduceIte, Nat.reduceAdd, Nat.reduceLeDiff, and_true, Nat.zero_le]
  intro z
  by_cases hz : 0 < z
  · simp only [hz, decide_true, if_true, dSeq, dIte, dTB, dBin, dPen, isPen, dC, dVar, dNil, dCons, dSet, dAsg, dRet, dNext, dAnd, dOr, dNot, dAndV, dOrV, dNotV, dBu, oLen, oInt, oAbs, oI, oAdd, oIx, dIx, gPen, gN, gC, gT, gZ, dLst, dTup, dPar, dSl, dNone, dPart, oSl, dCall, dIf, dDrop, fnN, List.getElem?_cons_zero, List.getElem?_cons_succ, List.set_cons_zero, List.set_cons_succ, true_and, if_true, if_false, Bool.false_eq_true, List.length_cons, List.length_nil, Option.some.injEq, Int.reduceEq, ↓reduceIte, Nat.reduceAdd, Nat.reduceLeDiff, and_true, Nat.zero_le]
    intro z1
    exact ⟨h0, fun z2 => ⟨cdw 200 h0 hmm, fu - 1, by omega, hp _ (emb _ h0).1 (emb _ h0).2⟩⟩
  · simp only [hz, decide_false, if_false, Bool.false_eq_true]
    unfold drawA_1
    rw [dSeq]
    simp only [dIte, dTB, dBin, dPen, isPen, dC, dVar, dNil, dCons, dSet, dAsg, dRet, dNext, dAnd, dOr, dNot, dAndV, dOrV, dNotV, dBu, oLen, oInt, oAbs, oI, oAdd, oIx, dIx, gPen, gN, gC, gT, gZ, dLst, dTup, dPar, dSl, dNone, dPart, oSl, dCall, dIf, dDrop, fnN, List.getElem?_cons_zero, List.getElem?_cons_succ, List.set_cons_zero, List.set_cons_succ, true_and, if_true, if_false, Bool.false_eq_true, List.length_cons, List.length_nil, Option.some.injEq, Int.reduceEq, ↓reduceIte, Nat.reduceAdd, Nat.reduceLeDiff, and_true, Nat.zero_le]
    intro b hb
    unfold drawA_2
    rw [dSeq]
    simp only [dIte, dTB, dBin, dPen, isPen, dC, dVar, dNil, dCons, dSet, dAsg, dRet, dNext, dAnd, dOr, dNot, dAndV, dOrV, dNotV, dBu, oLen, oInt, oAbs, oI, oAdd, oIx, dIx, gPen, gN, gC, gT, gZ, dLst, dTup, dPar, dSl, dNone, dPart, oSl, dCall, dIf, dDrop, fnN, List.getElem?_cons_zero, List.getElem?_cons_succ, List.set_cons_zero, List.set_cons_succ, true_and, if_true, if_false, Bool.false_eq_true, List.length_cons, List.length_nil, Option.some.injEq, Int.reduceEq, ↓reduceIte, Nat.reduceAdd, Nat.reduceLeDiff, and_true, Nat.zero_le]
    refine ⟨b + 1, fu - 1, by simp, by omega, ?_⟩
    have hb2 : b ≤ 1000000 := by omega
    unfold drawA_3
    rw [dSeq]
    simp only [dIte, dTB, dBin, dPen, isPen, dC, dVar, dNil, dCons, dSet, dAsg, dRet, dNext, dAnd, dOr, dNot, dAndV, dOrV, dNotV, dBu, oLen, oInt, oAbs, oI, oAdd, oIx, dIx, gPen, gN, gC, gT, gZ, dLst, dTup, dPar, dSl, dNone, dPart, oSl, dCall, dIf, dDrop, fnN, List.getElem?_cons_zero, List.getElem?_cons_succ, List.set_cons_zero, List.set_cons_succ, true_and, if_true, if_false, Bool.false_eq_true, List.length_cons, List.length_nil, Option.some.injEq, Int.reduceEq, ↓reduceIte, Nat.reduceAdd, Nat.reduceLeDiff, and_true, Nat.zero_le]
    refine ⟨me_r (by omega), ?_⟩
    unfold drawA_4
    rw [dSeq]
    simp only [dIte, dTB, dBin, dPen, isPen, dC, dVar, dNil, dCons, dSet, dAsg, dRet, dNext, dAnd, dOr, dNot, dAndV, dOrV, dNotV, dBu, oLen, oInt, oAbs, oI, oAdd, oIx, dIx, gPen, gN, gC, gT, gZ, dLst, dTup, dPar, dSl, dNone, dPart, oSl, dCall, dIf, dDrop, fnN, List.getElem?_cons_zero, List.getElem?_cons_succ, List.set_cons_zero, List.set_cons_succ, true_and, if_true, if_false, Bool.false_eq_true, List.length_cons, List.length_nil, Option.some.injEq, Int.reduceEq, ↓reduceIte, Nat.reduceAdd, Nat.reduceLeDiff, and_true, Nat.zero_le]
    intro hcs
    unfold oNe
    simp only [eqD_ints_nil]
    refine ⟨⟨noDic_ints _, noDic_nil⟩, ?_⟩
    by_cases hc : c.cs = []
    · rw [hc]
      simp only [List.isEmpty_nil, Bool.not_true, Bool.false_eq_true, if_false]
      exact drawA_tail hk h0 h1 hb2 hp (k1 * b + k2)
    · have hi : c.cs.isEmpty = false := by cases q : c.cs with | nil => exact absurd q hc | cons _ _ => rfl
      rw [hi]
      simp only [Bool.not_false, if_true]
      intro _ _
      obtain ⟨i, e⟩ := atI_cell hc b
      exact ⟨len_pos hc, .int i, e, drawA_tail hk h0 h1 hb2 hp i⟩
theorem sDraw_len : ∀ ds n P R, sDraw ds n P R → ds.length = 2 := by
  rintro ds n P R ⟨m, rfl, _⟩; rfl
end DL

/-! EMC: plain lemmas: what readings say of data by sight. -/
namespace DL
open PySem L2 PySem.Spec PyProof.Rows
/-- at most n draws between -/
def Zd (n : Nat) (z z' : Z) : Prop := z'.ms = z.ms ∧ z.fu ≤ z'.fu + n
theorem Zd.refl (z : Z) : Zd 0 z z := ⟨rfl, Nat.le_refl _⟩
theorem Zd.trans {n m : Nat} {z z1 z2 : Z} (a : Zd n z z1) (b : Zd m z1 z2) : Zd (n + m) z z2 := ⟨b.1.trans a.1, by have := a.2; have := b.2; omega⟩
theorem Zd.le {n m : Nat} {z z' : Z} (a : Zd n z z') (h : n ≤ m) : Zd m z z' := ⟨a.1, by have := a.2; omega⟩
theorem sDraw_ok {m : Int} {z : Z} {P : D → Z → Prop} {R : Er → Z → Prop} (h0 : 0 < m) (h1 : m < 2 ^ 200) (hz : 0 < z.fu) (h : ∀ v z', 0 ≤ v → v < m → Zd 1 z z' → P (.int v) z') : sDraw [.pen, .int m] z P R :=
  ⟨m, rfl, h0, h1, hz, fun v a b => h v _ a b ⟨rfl, by show z.fu ≤ z.fu - 1 + 1; omega⟩⟩
theorem atI_in {xs : List D} {v : Int} (h0 : 0 ≤ v) (h1 : v < (xs.length : Int)) : ∃ d, atI xs v = some d ∧ d ∈ xs := by
  have hl : v.toNat < xs.length := by omega
  refine ⟨xs[v.toNat], ?_, List.getElem_mem hl⟩
  have : ¬ v < 0 := by omega
  simp only [atI, ixN]
  first
    | (rw [if_neg this]; simp [hl, this]; done)
    | (simp [hl, this, h0, h1]; done)
    | (simp [hl, this, h0, h1]; omega)
section
variable {i j : Int} {a b : Bool} {s t : Str} {P : D → Prop} {PZ : D → Z → Prop} {E : Er → Z → Prop} {z : Z} {w : Wd} {tbl : List (Addr × DSp2)} {x y : D} {C : Addr} {fs : List (Str × D)} {xs ys : List D}
theorem oEq_ii : oEq (.int i) (.int j) P ↔ P (.bl (decide (i = j))) := by
  have e : eqD (.int i) (.int j) = decide (i = j) := by rw [eqD]; exact Bool.eq_iff_iff.mpr (by simp)
  unfold oEq; rw [e]; exact ⟨fun h => h.2, fun h => ⟨⟨rfl, rfl⟩, h⟩⟩
theorem oEq_bb : oEq (.bl a) (.bl b) P ↔ P (.bl (a == b)) := by
  have e : eqD (.bl a) (.bl b) = (a == b) := by rw [eqD]
  unfold oEq; rw [e]; exact ⟨fun h => h.2, fun h => ⟨⟨rfl, rfl⟩, h⟩⟩
theorem oEq_ss : oEq (.str s) (.str t) P ↔ P (.bl (s == t)) := by
  have e : eqD (.str s) (.str t) = (s == t) := by rw [eqD]
  unfold oEq; rw [e]; exact ⟨fun h => h.2, fun h => ⟨⟨rfl, rfl⟩, h⟩⟩
theorem oNe_ii : oNe (.int i) (.int j) P ↔ P (.bl (!decide (i = j))) := by
  have e : eqD (.int i) (.int j) = decide (i = j) := by rw [eqD]; exact Bool.eq_iff_iff.mpr (by simp)
  unfold oNe; rw [e]; exact ⟨fun h => h.2, fun h => ⟨⟨rfl, rfl⟩, h⟩⟩
theorem oNe_ss : oNe (.str s) (.str t) P ↔ P (.bl (!(s == t))) := by
  have e : eqD (.str s) (.str t) = (s == t) := by rw [eqD]
  unfold oNe; rw [e]; exact ⟨fun h => h.2, fun h => ⟨trivial, h⟩⟩
theorem oEqA_ii : oEqA w tbl (.int i) (.int j) z PZ E ↔ PZ (.bl (decide (i = j))) z := oEq_ii (P := fun d => PZ d z)
theorem oEqA_bb : oEqA w tbl (.bl a) (.bl b) z PZ E ↔ PZ (.bl (a == b)) z := oEq_bb (P := fun d => PZ d z)
theorem oEqA_ss : oEqA w tbl (.str s) (.str t) z PZ E ↔ PZ (.bl (s == t)) z := oEq_ss (P := fun d => PZ d z)
theorem oEqA_in : oEqA w tbl (.ins C fs) y z PZ E ↔ notF w C y ∧ dpt tbl C fun s => s [.ins C fs, y] [] z PZ E := Iff.rfl
theorem oEqA_ri : oEqA w tbl (.int i) (.ins C fs) z PZ E ↔ dpt tbl C fun s => s [.ins C fs, .int i] [] z PZ E := ⟨fun h => h.2, fun h => ⟨rfl, h⟩⟩
theorem oEqA_ll : oEqA w tbl (.lst xs) (.lst ys) z PZ E ↔ (plain (.lst xs) 40 = true ∧ plain (.lst ys) 40 = true) ∧ PZ (.bl (eqD (.lst xs) (.lst ys))) z := Iff.rfl
theorem oNeA_ii : oNeA w tbl (.int i) (.int j) z PZ E ↔ PZ (.bl (!decide (i = j))) z := oNe_ii (P := fun d => PZ d z)
theorem oNeA_ss : oNeA w tbl (.str s) (.str t) z PZ E ↔ PZ (.bl (!(s == t))) z := oNe_ss (P := fun d => PZ d z)
theorem oNeA_in : oNeA w tbl (.ins C fs) y z PZ E ↔ notF w C y ∧ dpt tbl C fun s => s [.ins C fs, y] [] z (fun d z' => ∃ b, d = .bl b ∧ PZ (.bl (!b)) z') E := Iff.rfl
theorem dpt_one {α : Type} {C : Addr} {s : α} {r : List (Addr × α)} {k : α → Prop} : dpt ((C, s) :: r) C k ↔ k s := by unfold dpt; rw [if_pos rfl]
end
end DL

namespace K02
open PySem L2 DL
def top (i : Nat) : Stmt := PySem.Challenge.pw_creditturns_k02_ratios_made.main.body.getD i (.Pass ⟨0, 0, 0, 0⟩)
abbrev s_law_pen : Stmt := top 14
abbrev s_law_draw : Stmt := top 15
abbrev s_law_pick : Stmt := top 16
abbrev s_law_size : Stmt := top 17
abbrev s_law_pair : Stmt := top 18
abbrev s_is_int : Stmt := top 8
abbrev s_BadRatio___init__ : Stmt := inClass (top 5) 0
abbrev s_Ratio___init__ : Stmt := inClass (top 12) 0
abbrev s_Ratio___eq__ : Stmt := inClass (top 12) 17
abbrev s_Ratio___abs__ : Stmt := inClass (top 12) 15
abbrev s_law_divisor : Stmt := top 21
abbrev s_law_is : Stmt := top 20
abbrev s_Ratio___neg__ : Stmt := inClass (top 12) 14
abbrev s_Ratio___bool__ : Stmt := inClass (top 12) 16
abbrev s_Ratio___str__ : Stmt := inClass (top 12) 22
abbrev s_law_made_right : Stmt := top 22
abbrev s_law_heard : Stmt := top 19
abbrev s_law_refused_right : Stmt := top 23
abbrev s_law : Stmt := top 24
theorem boo_list : bootBuiltins ("list" : Str) = some (.type "list") := by decide +kernel
theorem boo_range : bootBuiltins ("range" : Str) = some (.type "range") := by decide +kernel
theorem boo_int : bootBuiltins ("int" : Str) = some (.type "int") := by decide +kernel
theorem boo_len : bootBuiltins ("len" : Str) = some (.builtin "len") := by decide +kernel
theorem boo_abs : bootBuiltins ("abs" : Str) = some (.builtin "abs") := by decide +kernel
theorem boo_isinstance : bootBuiltins ("isinstance" : Str) = some (.builtin "isinstance") := by decide +kernel
theorem boo_bool : bootBuiltins ("bool" : Str) = some (.type "bool") := by decide +kernel
theorem boo_super : bootBuiltins ("super" : Str) = some (.type "super") := by decide +kernel
theorem boo_repr : bootBuiltins ("repr" : Str) = some (.builtin "repr") := by decide +kernel
theorem boo_str : bootBuiltins ("str" : Str) = some (.type "str") := by decide +kernel
/-- where all stands -/
structure Ad where
  f_law : Addr
  f_law_pen : Addr
  f_law_made_right : Addr
  f_law_pair : Addr
  f_law_draw : Addr
  f_law_pick : Addr
  f_law_size : Addr
  f_Ratio___init__ : Addr
  c_Ratio : Addr
  f_is_int : Addr
  c_BadRatio : Addr
  f_BadRatio_init : Addr
  f_law_is : Addr
  f_Ratio___eq__ : Addr
  f_law_divisor : Addr
  f_Ratio___abs__ : Addr
  f_Ratio___neg__ : Addr
  f_Ratio___bool__ : Addr
  f_Ratio___str__ : Addr
  f_law_refused_right : Addr
  f_law_heard : Addr
  c_CreditError : Addr
  cc_law_refused_right : Addr
  pt_law_refused_right : Addr
/-- what the top has written -/
structure Txt (c : Wd) (A : Ad) : Prop where
  mg_law : c.mg ("law" : Str) = some (.ref A.f_law)
  F_law : ∃ fd, FunD c.K "law" "law" (defArgs s_law) (defBody s_law) (defScope s_law) [] [] A.f_law fd
  mg_law_pen : c.mg ("_law_pen" : Str) = some (.ref A.f_law_pen)
  F_law_pen : ∃ fd, FunD c.K "_law_pen" "_law_pen" (defArgs s_law_pen) (defBody s_law_pen) (defScope s_law_pen) [] [] A.f_law_pen fd
  no_list : c.mg ("list" : Str) = none
  no_range : c.mg ("range" : Str) = none
  mg_law_made_right : c.mg ("_law_made_right" : Str) = some (.ref A.f_law_made_right)
  F_law_made_right : ∃ fd, FunD c.K "_law_made_right" "_law_made_right" (defArgs s_law_made_right) (defBody s_law_made_right) (defScope s_law_made_right) [] [] A.f_law_made_right fd
  mg_law_pair : c.mg ("_law_pair" : Str) = some (.ref A.f_law_pair)
  F_law_pair : ∃ fd, FunD c.K "_law_pair" "_law_pair" (defArgs s_law_pair) (defBody s_law_pair) (defScope s_law_pair) [] [] A.f_law_pair fd
  mg_law_draw : c.mg ("_law_draw" : Str) = some (.ref A.f_law_draw)
  F_law_draw : ∃ fd, FunD c.K "_law_draw" "_law_draw" (defArgs s_law_draw) (defBody s_law_draw) (defScope s_law_draw) [] [] A.f_law_draw fd
  no_int : c.mg ("int" : Str) = none
  no_len : c.mg ("len" : Str) = none
  no_abs : c.mg ("abs" : Str) = none
  mg_law_pick : c.mg ("_law_pick" : Str) = some (.ref A.f_law_pick)
  F_law_pick : ∃ fd, FunD c.K "_law_pick" "_law_pick" (defArgs s_law_pick) (defBody s_law_pick) (defScope s_law_pick) [] [] A.f_law_pick fd
  mg_law_size : c.mg ("_law_size" : Str) = some (.ref A.f_law_size)
  F_law_size : ∃ fd, FunD c.K "_law_size" "_law_size" (defArgs s_law_size) (defBody s_law_size) (defScope s_law_size) [] [] A.f_law_size fd
  mg_c_Ratio : c.mg ("Ratio" : Str) = some (.ref A.c_Ratio)
  fi_Ratio___init__ : PySem.W.findIn c.K (.ref A.c_Ratio) "__init__" = some (some (.ref A.f_Ratio___init__))
  if_Ratio___init__ : PySem.W.isFn c.K (.ref A.f_Ratio___init__) = true
  F_Ratio___init__ : ∃ fd, FunD c.K "__init__" "Ratio.__init__" (defArgs s_Ratio___init__) (defBody s_Ratio___init__) (defScope s_Ratio___init__) [(.int 1 : V)] [] A.f_Ratio___init__ fd
  mg_is_int : c.mg ("is_int" : Str) = some (.ref A.f_is_int)
  F_is_int : ∃ fd, FunD c.K "is_int" "is_int" (defArgs s_is_int) (defBody s_is_int) (defScope s_is_int) [] [] A.f_is_int fd
  no_isinstance : c.mg ("isinstance" : Str) = none
  no_bool : c.mg ("bool" : Str) = none
  mg_c_BadRatio : c.mg ("BadRatio" : Str) = some (.ref A.c_BadRatio)
  nx_BadRatio_part : PySem.W.findIn c.K (.ref A.c_BadRatio) "part" = some none
  no_super : c.mg ("super" : Str) = none
  ix_BadRatio : IniX c A.c_BadRatio A.f_BadRatio_init "BadRatio.__init__" s_BadRatio___init__ ["self", "part"]
  xc_BadRatio : PySem.W.XcC c.K A.c_BadRatio
  xa_BadRatio_part : XA c A.c_BadRatio ("part" : Str)
  mo_gcd : c.mg ("gcd" : Str) = some (.builtin "math.gcd")
  cl_Ratio : Cls c.K A.c_Ratio
  na_Ratio_top : CA c A.c_Ratio ("top" : Str)
  na_Ratio_bottom : CA c A.c_Ratio ("bottom" : Str)
  mk_Ratio : Mk c.K A.c_Ratio A.f_Ratio___init__
  mg_law_is : c.mg ("_law_is" : Str) = some (.ref A.f_law_is)
  F_law_is : ∃ fd, FunD c.K "_law_is" "_law_is" (defArgs s_law_is) (defBody s_law_is) (defScope s_law_is) [] [] A.f_law_is fd
  fi_Ratio___eq__ : PySem.W.findIn c.K (.ref A.c_Ratio) "__eq__" = some (some (.ref A.f_Ratio___eq__))
  if_Ratio___eq__ : PySem.W.isFn c.K (.ref A.f_Ratio___eq__) = true
  F_Ratio___eq__ : ∃ fd, FunD c.K "__eq__" "Ratio.__eq__" (defArgs s_Ratio___eq__) (defBody s_Ratio___eq__) (defScope s_Ratio___eq__) [] [] A.f_Ratio___eq__ fd
  ci_Ratio : CI c A.c_Ratio
  ne_Ratio : NeC c A.c_Ratio
  bt_Ratio : BtC c A.c_Ratio
  nf_Ratio_NoneType : PySem.W.notFirst c.K A.c_Ratio (.type "NoneType") = true
  nf_Ratio_bool : PySem.W.notFirst c.K A.c_Ratio (.type "bool") = true
  nf_Ratio_int : PySem.W.notFirst c.K A.c_Ratio (.type "int") = true
  nf_Ratio_str : PySem.W.notFirst c.K A.c_Ratio (.type "str") = true
  nf_Ratio_list : PySem.W.notFirst c.K A.c_Ratio (.type "list") = true
  nf_Ratio_tuple : PySem.W.notFirst c.K A.c_Ratio (.type "tuple") = true
  nf_Ratio_dict : PySem.W.notFirst c.K A.c_Ratio (.type "dict") = true
  mg_law_divisor : c.mg ("_law_divisor" : Str) = some (.ref A.f_law_divisor)
  F_law_divisor : ∃ fd, FunD c.K "_law_divisor" "_law_divisor" (defArgs s_law_divisor) (defBody s_law_divisor) (defScope s_law_divisor) [] [] A.f_law_divisor fd
  fi_Ratio___abs__ : PySem.W.findIn c.K (.ref A.c_Ratio) "__abs__" = some (some (.ref A.f_Ratio___abs__))
  if_Ratio___abs__ : PySem.W.isFn c.K (.ref A.f_Ratio___abs__) = true
  F_Ratio___abs__ : ∃ fd, FunD c.K "__abs__" "Ratio.__abs__" (defArgs s_Ratio___abs__) (defBody s_Ratio___abs__) (defScope s_Ratio___abs__) [] [] A.f_Ratio___abs__ fd
  fi_Ratio___neg__ : PySem.W.findIn c.K (.ref A.c_Ratio) "__neg__" = some (some (.ref A.f_Ratio___neg__))
  if_Ratio___neg__ : PySem.W.isFn c.K (.ref A.f_Ratio___neg__) = true
  F_Ratio___neg__ : ∃ fd, FunD c.K "__neg__" "Ratio.__neg__" (defArgs s_Ratio___neg__) (defBody s_Ratio___neg__) (defScope s_Ratio___neg__) [] [] A.f_Ratio___neg__ fd
  no_repr : c.mg ("repr" : Str) = none
  fi_Ratio___bool__ : PySem.W.findIn c.K (.ref A.c_Ratio) "__bool__" = some (some (.ref A.f_Ratio___bool__))
  if_Ratio___bool__ : PySem.W.isFn c.K (.ref A.f_Ratio___bool__) = true
  F_Ratio___bool__ : ∃ fd, FunD c.K "__bool__" "Ratio.__bool__" (defArgs s_Ratio___bool__) (defBody s_Ratio___bool__) (defScope s_Ratio___bool__) [] [] A.f_Ratio___bool__ fd
  no_str : c.mg ("str" : Str) = none
  fi_Ratio___str__ : PySem.W.findIn c.K (.ref A.c_Ratio) "__str__" = some (some (.ref A.f_Ratio___str__))
  if_Ratio___str__ : PySem.W.isFn c.K (.ref A.f_Ratio___str__) = true
  F_Ratio___str__ : ∃ fd, FunD c.K "__str__" "Ratio.__str__" (defArgs s_Ratio___str__) (defBody s_Ratio___str__) (defScope s_Ratio___str__) [] [] A.f_Ratio___str__ fd
  mg_law_refused_right : c.mg ("_law_refused_right" : Str) = some (.ref A.f_law_refused_right)
  F_law_refused_right : ∃ fd, FunD c.K "_law_refused_right" "_law_refused_right" (defArgs s_law_refused_right) (defBody s_law_refused_right) (defScope s_law_refused_right) [] [] A.f_law_refused_right fd
  mg_law_heard : c.mg ("_law_heard" : Str) = some (.ref A.f_law_heard)
  F_law_heard : ∃ fd, FunD c.K "_law_heard" "_law_heard" (defArgs s_law_heard) (defBody s_law_heard) (defScope s_law_heard) [] [] A.f_law_heard fd
  mg_c_CreditError : c.mg ("CreditError" : Str) = some (.ref A.c_CreditError)
  lm_law_refused_right : LamF c A.f_law_refused_right A.cc_law_refused_right A.pt_law_refused_right "_law_refused_right"
  kt_NoneType_BadRatio : PySem.W.kitOne c.K (.type "NoneType") (.ref A.c_BadRatio) = some false
  kt_bool_BadRatio : PySem.W.kitOne c.K (.type "bool") (.ref A.c_BadRatio) = some false
  kt_int_BadRatio : PySem.W.kitOne c.K (.type "int") (.ref A.c_BadRatio) = some false
  kt_str_BadRatio : PySem.W.kitOne c.K (.type "str") (.ref A.c_BadRatio) = some false
  kt_list_BadRatio : PySem.W.kitOne c.K (.type "list") (.ref A.c_BadRatio) = some false
  kt_tuple_BadRatio : PySem.W.kitOne c.K (.type "tuple") (.ref A.c_BadRatio) = some false
  kt_dict_BadRatio : PySem.W.kitOne c.K (.type "dict") (.ref A.c_BadRatio) = some false
  kt_c_Ratio_BadRatio : PySem.W.kitOne c.K (.ref A.c_Ratio) (.ref A.c_BadRatio) = some false
  kt_c_BadRatio_BadRatio : PySem.W.kitOne c.K (.ref A.c_BadRatio) (.ref A.c_BadRatio) = some true
  kt_NoneType_Ratio : PySem.W.kitOne c.K (.type "NoneType") (.ref A.c_Ratio) = some false
  kt_bool_Ratio : PySem.W.kitOne c.K (.type "bool") (.ref A.c_Ratio) = some false
  kt_int_Ratio : PySem.W.kitOne c.K (.type "int") (.ref A.c_Ratio) = some false
  kt_str_Ratio : PySem.W.kitOne c.K (.type "str") (.ref A.c_Ratio) = some false
  kt_list_Ratio : PySem.W.kitOne c.K (.type "list") (.ref A.c_Ratio) = some false
  kt_tuple_Ratio : PySem.W.kitOne c.K (.type "tuple") (.ref A.c_Ratio) = some false
  kt_dict_Ratio : PySem.W.kitOne c.K (.type "dict") (.ref A.c_Ratio) = some false
  kt_c_Ratio_Ratio : PySem.W.kitOne c.K (.ref A.c_Ratio) (.ref A.c_Ratio) = some true
  kt_c_BadRatio_Ratio : PySem.W.kitOne c.K (.ref A.c_BadRatio) (.ref A.c_Ratio) = some false
  kt_NoneType_bool : PySem.W.kitOne c.K (.type "NoneType") (.type "bool") = some false
  kt_bool_bool : PySem.W.kitOne c.K (.type "bool") (.type "bool") = some true
  kt_int_bool : PySem.W.kitOne c.K (.type "int") (.type "bool") = some false
  kt_str_bool : PySem.W.kitOne c.K (.type "str") (.type "bool") = some false
  kt_list_bool : PySem.W.kitOne c.K (.type "list") (.type "bool") = some false
  kt_tuple_bool : PySem.W.kitOne c.K (.type "tuple") (.type "bool") = some false
  kt_dict_bool : PySem.W.kitOne c.K (.type "dict") (.type "bool") = some false
  kt_c_Ratio_bool : PySem.W.kitOne c.K (.ref A.c_Ratio) (.type "bool") = some false
  kt_c_BadRatio_bool : PySem.W.kitOne c.K (.ref A.c_BadRatio) (.type "bool") = some false
  kt_NoneType_int : PySem.W.kitOne c.K (.type "NoneType") (.type "int") = some false
  kt_bool_int : PySem.W.kitOne c.K (.type "bool") (.type "int") = some true
  kt_int_int : PySem.W.kitOne c.K (.type "int") (.type "int") = some true
  kt_str_int : PySem.W.kitOne c.K (.type "str") (.type "int") = some false
  kt_list_int : PySem.W.kitOne c.K (.type "list") (.type "int") = some false
  kt_tuple_int : PySem.W.kitOne c.K (.type "tuple") (.type "int") = some false
  kt_dict_int : PySem.W.kitOne c.K (.type "dict") (.type "int") = some false
  kt_c_Ratio_int : PySem.W.kitOne c.K (.ref A.c_Ratio) (.type "int") = some false
  kt_c_BadRatio_int : PySem.W.kitOne c.K (.ref A.c_BadRatio) (.type "int") = some false
  em_BadRatio_CreditError : PySem.W.exmOne c.K (.ref A.c_BadRatio) (.ref A.c_CreditError) = some true
  nf_Ratio_c_Ratio : PySem.W.notFirst c.K A.c_Ratio (.ref A.c_Ratio) = true
/-! _law_draw -/
def N_law_draw : List Str := [("_law_pen_here" : Str), ("_law_many" : Str), ("_law_digit" : Str), ("_law_begun" : Str), ("_law_cell" : Str), ("_law_great" : Str), ("_law_mixed" : Str)]
theorem sc_law_draw : FnScope N_law_draw [("_law_pen_here" : Str), ("_law_many" : Str)] (defScope s_law_draw) := ⟨rfl, rfl, rfl, by decide +kernel, rfl, by decide +kernel, by decide +kernel⟩
def u_law_draw_8 (c : Wd) (A : Ad) : DTS := dRet (dBin (oI (fun _ j => 0 < j) fun i j => .int (i % j)) (dBu oInt (dCons (dBin (oI CDivW fun i j => .int (i / j)) (dBin (oI (fun _ j => 0 < j) fun i j => .int (i % j)) (dBu oInt (dCons (dBin (oI CPow fun i j => .int (i ^ j.toNat)) (dVar 6) (dC (.int 3))) (dNil))) (dC (.int 2147483563))) (dC (.int 64))) (dNil))) (dVar 1))
def u_law_draw_7 (c : Wd) (A : Ad) : DTS := dSeq (dSet 6 (dBin oAdd (dBin oAdd (dBin (oI CMulE fun i j => .int (i * j)) (dVar 6) (dBin oAdd (dBin (oI CMulE fun i j => .int (i * j)) (dC (.int 2)) (dVar 3)) (dC (.int 123)))) (dBin (oI CMulE fun i j => .int (i * j)) (dBin (oI CMulE fun i j => .int (i * j)) (dC (.int 72019)) (dVar 3)) (dVar 3))) (dC (.int 73)))) (u_law_draw_8 c A)
def u_law_draw_6 (c : Wd) (A : Ad) : DTS := dSeq (dSet 6 (dBin (oI (fun _ j => 0 < j) fun i j => .int (i % j)) (dBu oInt (dCons (dBin (oI CPow fun i j => .int (i ^ j.toNat)) (dBin oAdd (dBin oAdd (dBin (oI (fun _ j => 0 < j) fun i j => .int (i % j)) (dBu oInt (dCons (dVar 4) (dNil))) (dC (.int 2147483587))) (dBin (oI CMulE fun i j => .int (i * j)) (dC (.int 82227)) (dVar 3))) (dC (.int 635))) (dC (.int 5))) (dNil))) (dC (.int 2147483629)))) (u_law_draw_7 c A)
def u_law_draw_5 (c : Wd) (A : Ad) : DTS := dSeq (dIte (dAnd (dTB (dBin (oI (fun _ _ => True) fun i j => .bl (decide (i < j))) (dVar 3) (dBu oLen (dCons (dPen c 0 0) (dNil))))) (dTB (dBin (oI (fun _ _ => True) fun i j => .bl (decide (j ≤ i))) (dBu oAbs (dCons (dVar 4) (dNil))) (dBin (oI CPow fun i j => .int (i ^ j.toNat)) (dC (.int 10)) (dC (.int 18)))))) (dSeq (dSet 5 (dBin oAdd (dBin (oI CMulE fun i j => .int (i * j)) (dC (.int 2)) (dBin (oI (fun _ _ => True) fun i j => .int (i - j)) (dBu oAbs (dCons (dVar 4) (dNil))) (dBin (oI CPow fun i j => .int (i ^ j.toNat)) (dC (.int 10)) (dC (.int 18))))) (dBu oInt (dCons (dBin (oI (fun _ _ => True) fun i j => .bl (decide (i < j))) (dVar 4) (dC (.int 0))) (dNil))))) (dSeq (dAsg (dBin (oI CDivW fun i j => .int (i / j)) (dBu oInt (dCons (dVar 5) (dNil))) (dVar 1)) (gPen 0 2)) (dRet (dBin (oI (fun _ j => 0 < j) fun i j => .int (i % j)) (dBu oInt (dCons (dVar 5) (dNil))) (dVar 1))))) (dNext)) (u_law_draw_6 c A)
def u_law_draw_4 (c : Wd) (A : Ad) : DTS := dSeq (dIte (dTB (dBin oNe (dPen c 0 0) (dLst (dNil)))) (dSet 4 (dIx (dPen c 0 0) (dBin (oI (fun _ j => 0 < j) fun i j => .int (i % j)) (dBu oInt (dCons (dVar 3) (dNil))) (dBu oLen (dCons (dPen c 0 0) (dNil)))))) (dNext)) (u_law_draw_5 c A)
def u_law_draw_3 (c : Wd) (A : Ad) : DTS := dSeq (dSet 4 (dBin oAdd (dBin (oI CMulE fun i j => .int (i * j)) (dC (.int 72019)) (dVar 3)) (dC (.int 635)))) (u_law_draw_4 c A)
def u_law_draw_2 (c : Wd) (A : Ad) : DTS := dSeq (dAsg (dBin oAdd (dVar 3) (dC (.int 1))) (gPen 0 1)) (u_law_draw_3 c A)
def u_law_draw_1 (c : Wd) (A : Ad) : DTS := dSeq (dSet 3 (dPen c 0 1)) (u_law_draw_2 c A)
def t_law_draw (c : Wd) (A : Ad) : DTS := dSeq (dIte (dTB (dBin (oI (fun _ _ => True) fun i j => .bl (decide (j < i))) (dPen c 0 2) (dC (.int 0)))) (dSeq (dSet 2 (dBin (oI (fun _ j => 0 < j) fun i j => .int (i % j)) (dBu oInt (dCons (dPen c 0 2) (dNil))) (dVar 1))) (dSeq (dAsg (dBin (oI CDivW fun i j => .int (i / j)) (dBu oInt (dCons (dPen c 0 2) (dNil))) (dVar 1)) (gPen 0 2)) (dRet (dVar 2)))) (dNext)) (u_law_draw_1 c A)
theorem dd_law_draw {c : Wd} {A : Ad} (T : Txt c A) (X : Cx) (cf : Fr) (W : WX) (ec : cf.toWd = c) (B : XB X cf W N_law_draw (defScope s_law_draw) 0 false) : DSs X cf W (defBody s_law_draw) (t_law_draw c A) := by
  subst ec
  exact (dss_cons (ds_if (dtc o_gt (de_pen B (i := 0) rfl (.inl rfl)) de_int) (dss_cons (dset B (i := 2) (de_bin o_mod (de_ty B T.no_int boo_int b_int rfl (da_cons (de_pen B (i := 0) rfl (.inl rfl)) da_nil)) (dv B (i := 1)))) (dss_cons (ds_asg (de_bin o_fdivW (de_ty B T.no_int boo_int b_int rfl (da_cons (de_pen B (i := 0) rfl (.inl rfl)) da_nil)) (dv B (i := 1))) (dg_pen B (i := 0) rfl (.inl rfl))) (dss_one (ds_ret (dv B (i := 2)))))) dss_nil) (dss_cons (dset B (i := 3) (de_pen B (i := 0) rfl (.inl rfl))) (dss_cons (ds_asg (de_bin (o_add B.hK) (dv B (i := 3)) de_int) (dg_pen B (i := 0) rfl (.inl rfl))) (dss_cons (dset B (i := 4) (de_bin (o_add B.hK) (de_bin o_mulE de_int (dv B (i := 3))) de_int)) (dss_cons (ds_if (dtc (o_ne B) (de_pen B (i := 0) rfl (.inl rfl)) (de_lst da_nil)) (dss_one (dset B (i := 4) (de_ix B (de_pen B (i := 0) rfl (.inl rfl)) (de_bin o_mod (de_ty B T.no_int boo_int b_int rfl (da_cons (dv B (i := 3)) da_nil)) (de_bu B T.no_len boo_len (b_len B) rfl (da_cons (de_pen B (i := 0) rfl (.inl rfl)) da_nil)))))) dss_nil) (dss_cons (ds_if (dw_and (dtc o_lt (dv B (i := 3)) (de_bu B T.no_len boo_len (b_len B) rfl (da_cons (de_pen B (i := 0) rfl (.inl rfl)) da_nil))) (dw_and1 (dtc o_ge (de_bu B T.no_abs boo_abs b_abs rfl (da_cons (dv B (i := 4)) da_nil)) (de_bin o_pow de_int de_int)))).pt (dss_cons (dset B (i := 5) (de_bin (o_add B.hK) (de_bin o_mulE de_int (de_bin o_sub (de_bu B T.no_abs boo_abs b_abs rfl (da_cons (dv B (i := 4)) da_nil)) (de_bin o_pow de_int de_int))) (de_ty B T.no_int boo_int b_int rfl (da_cons (dcp o_lt (dv B (i := 4)) de_int) da_nil)))) (dss_cons (ds_asg (de_bin o_fdivW (de_ty B T.no_int boo_int b_int rfl (da_cons (dv B (i := 5)) da_nil)) (dv B (i := 1))) (dg_pen B (i := 0) rfl (.inl rfl))) (dss_one (ds_ret (de_bin o_mod (de_ty B T.no_int boo_int b_int rfl (da_cons (dv B (i := 5)) da_nil)) (dv B (i := 1))))))) dss_nil) (dss_cons (dset B (i := 6) (de_bin o_mod (de_ty B T.no_int boo_int b_int rfl (da_cons (de_bin o_pow (de_bin (o_add B.hK) (de_bin (o_add B.hK) (de_bin o_mod (de_ty B T.no_int boo_int b_int rfl (da_cons (dv B (i := 4)) da_nil)) de_int) (de_bin o_mulE de_int (dv B (i := 3)))) de_int) de_int) da_nil)) de_int)) (dss_cons (dset B (i := 6) (de_bin (o_add B.hK) (de_bin (o_add B.hK) (de_bin o_mulE (dv B (i := 6)) (de_bin (o_add B.hK) (de_bin o_mulE de_int (dv B (i := 3))) de_int)) (de_bin o_mulE (de_bin o_mulE de_int (dv B (i := 3))) (dv B (i := 3)))) de_int)) (dss_one (ds_ret (de_bin o_mod (de_ty B T.no_int boo_int b_int rfl (da_cons (de_bin o_fdivW (de_bin o_mod (de_ty B T.no_int boo_int b_int rfl (da_cons (de_bin o_pow (dv B (i := 6)) de_int) da_nil)) de_int) de_int) da_nil)) (dv B (i := 1)))))))))))))
theorem rd_law_draw {c : Wd} {A : Ad} : ∀ ds n P R, sDraw ds n P R → t_law_draw c A (fnN P R) (startS N_law_draw ds n) := by
  rintro ds z P R ⟨m, rfl, h0, h1, h2, h3⟩
  exact drawA_ok (c := c) (k1 := 72019) (k2 := 635) (k3 := 82227) (k4 := 123) (k5 := 73) (p1 := 2147483587) (p2 := 2147483629) (p3 := 2147483563) (by decide) h0 h1 h2 h3
theorem ok_law_draw {c : Wd} {A : Ad} (T : Txt c A) : ∃ fd, FunD c.K "_law_draw" "_law_draw" (defArgs s_law_draw) (defBody s_law_draw) (defScope s_law_draw) [] [] A.f_law_draw fd ∧ FnG c 1 A.f_law_draw fd [("_law_pen_here" : Str), ("_law_many" : Str)] (liftSp c sDraw) := by
  obtain ⟨fd, F⟩ := T.F_law_draw
  exact ⟨fd, F, fn_ok F sc_law_draw sDraw_len (dd_law_draw T) rd_law_draw⟩
def cs_law_draw_2 (c : Wd) (A : Ad) : DSp2 := fun ds es m P R => ds.length = 2 ∧ sDraw ds m P R
theorem ca_law_draw_2 {c : Wd} {A : Ad} (T : Txt c A) : Callee c (.ref A.f_law_draw) [] 1 (cs_law_draw_2 c A) := by
  obtain ⟨fd, F, G⟩ := ok_law_draw T
  exact callee_fn G F.kp (shape_n0 F fun _ _ _ _ _ _ us hl => match us, hl with | [_, _], _ => rfl)
theorem cq_law_draw_2 {c : Wd} {A : Ad} {x0 x1 : D} {z : Z} {P : D → Z → Prop} {R : Er → Z → Prop} : cs_law_draw_2 c A [x0, x1] [] z P R ↔ sDraw [x0, x1] z P R := ⟨fun h => h.2, fun h => ⟨rfl, h⟩⟩
/-! _law_pick -/
def N_law_pick : List Str := [("_law_pen_here" : Str), ("_law_some" : Str)]
theorem sc_law_pick : FnScope N_law_pick [("_law_pen_here" : Str), ("_law_some" : Str)] (defScope s_law_pick) := ⟨rfl, rfl, rfl, by decide +kernel, rfl, by decide +kernel, by decide +kernel⟩
def t_law_pick (c : Wd) (A : Ad) : DTS := dRet (dIx (dVar 1) (dCall (fun ds zs n P R => zs = [] ∧ (cs_law_draw_2 c A) ds [] n P R) (dCons (dVar 0) (dCons (dBu oLen (dCons (dVar 1) (dNil))) (dNil))) dNil))
theorem dd_law_pick {c : Wd} {A : Ad} (T : Txt c A) (X : Cx) (cf : Fr) (W : WX) (ec : cf.toWd = c) (B : XB X cf W N_law_pick (defScope s_law_pick) 1 false) : DSs X cf W (defBody s_law_pick) (t_law_pick c A) := by
  subst ec
  exact (dss_one (ds_ret (de_ix B (dv B (i := 1)) (de_call B T.mg_law_draw (ca_law_draw_2 T) (by decide) rfl (da_cons (dv B (i := 0)) (da_cons (de_bu B T.no_len boo_len (b_len B) rfl (da_cons (dv B (i := 1)) da_nil)) da_nil))))))
def sp_law_pick (c : Wd) (A : Ad) : DSp := fun ds n P R => ds.length = 2 ∧ t_law_pick c A (fnN P R) (startS N_law_pick ds n)
theorem ok_law_pick {c : Wd} {A : Ad} (T : Txt c A) : ∃ fd, FunD c.K "_law_pick" "_law_pick" (defArgs s_law_pick) (defBody s_law_pick) (defScope s_law_pick) [] [] A.f_law_pick fd ∧ FnG c 2 A.f_law_pick fd [("_law_pen_here" : Str), ("_law_some" : Str)] (liftSp c (sp_law_pick c A)) := by
  obtain ⟨fd, F⟩ := T.F_law_pick
  exact ⟨fd, F, fn_ok F sc_law_pick (fun _ _ _ _ h => h.1) (dd_law_pick T) (fun _ _ _ _ h => h.2)⟩
def cs_law_pick_2 (c : Wd) (A : Ad) : DSp2 := fun ds es m P R => ds.length = 2 ∧ (sp_law_pick c A) ds m P R
theorem ca_law_pick_2 {c : Wd} {A : Ad} (T : Txt c A) : Callee c (.ref A.f_law_pick) [] 2 (cs_law_pick_2 c A) := by
  obtain ⟨fd, F, G⟩ := ok_law_pick T
  exact callee_fn G F.kp (shape_n0 F fun _ _ _ _ _ _ us hl => match us, hl with | [_, _], _ => rfl)
theorem cq_law_pick_2 {c : Wd} {A : Ad} {x0 x1 : D} {z : Z} {P : D → Z → Prop} {R : Er → Z → Prop} : cs_law_pick_2 c A [x0, x1] [] z P R ↔ (sp_law_pick c A) [x0, x1] z P R := ⟨fun h => h.2, fun h => ⟨rfl, h⟩⟩
/-! _law_size -/
def N_law_size : List Str := [("_law_pen_here" : Str), ("_law_size_here" : Str), ("_law_found" : Str)]
theorem sc_law_size : FnScope N_law_size [("_law_pen_here" : Str)] (defScope s_law_size) := ⟨rfl, rfl, rfl, by decide +kernel, rfl, by decide +kernel, by decide +kernel⟩
def u_law_size_3 (c : Wd) (A : Ad) : DTS := dRet (dIf (dTB (dBin oEq (dCall (fun ds zs n P R => zs = [] ∧ (cs_law_draw_2 c A) ds [] n P R) (dCons (dVar 0) (dCons (dC (.int 2)) (dNil))) dNil) (dC (.int 0)))) (dVar 2) (dBin (oI (fun _ _ => True) fun i j => .int (i - j)) (dC (.int 0)) (dVar 2)))
def u_law_size_2 (c : Wd) (A : Ad) : DTS := dSeq (dIte (dTB (dBin oEq (dCall (fun ds zs n P R => zs = [] ∧ (cs_law_draw_2 c A) ds [] n P R) (dCons (dVar 0) (dCons (dC (.int 4)) (dNil))) dNil) (dC (.int 0)))) (dSet 2 (dBin oAdd (dBin (oI CMulE fun i j => .int (i * j)) (dVar 2) (dBin (oI CPow fun i j => .int (i ^ j.toNat)) (dC (.int 10)) (dC (.int 22)))) (dCall (fun ds zs n P R => zs = [] ∧ (cs_law_draw_2 c A) ds [] n P R) (dCons (dVar 0) (dCons (dBin (oI CPow fun i j => .int (i ^ j.toNat)) (dC (.int 10)) (dC (.int 9))) (dNil))) dNil))) (dNext)) (u_law_size_3 c A)
def u_law_size_1 (c : Wd) (A : Ad) : DTS := dSeq (dSet 2 (dCall (fun ds zs n P R => zs = [] ∧ (cs_law_draw_2 c A) ds [] n P R) (dCons (dVar 0) (dCons (dVar 1) (dNil))) dNil)) (u_law_size_2 c A)
def t_law_size (c : Wd) (A : Ad) : DTS := dSeq (dSet 1 (dCall (fun ds zs n P R => zs = [] ∧ (cs_law_pick_2 c A) ds [] n P R) (dCons (dVar 0) (dCons (dLst (dCons (dC (.int 3)) (dCons (dC (.int 10)) (dCons (dC (.int 60)) (dCons (dBin (oI CPow fun i j => .int (i ^ j.toNat)) (dC (.int 10)) (dC (.int 6))) (dCons (dBin (oI CPow fun i j => .int (i ^ j.toNat)) (dC (.int 10)) (dC (.int 18))) (dNil))))))) (dNil))) dNil)) (u_law_size_1 c A)
theorem dd_law_size {c : Wd} {A : Ad} (T : Txt c A) (X : Cx) (cf : Fr) (W : WX) (ec : cf.toWd = c) (B : XB X cf W N_law_size (defScope s_law_size) 2 false) : DSs X cf W (defBody s_law_size) (t_law_size c A) := by
  subst ec
  exact (dss_cons (dset B (i := 1) (de_call B T.mg_law_pick (ca_law_pick_2 T) (by decide) rfl (da_cons (dv B (i := 0)) (da_cons (de_lst (da_cons de_int (da_cons de_int (da_cons de_int (da_cons (de_bin o_pow de_int de_int) (da_cons (de_bin o_pow de_int de_int) da_nil)))))) da_nil)))) (dss_cons (dset B (i := 2) (de_call B T.mg_law_draw (ca_law_draw_2 T) (by decide) rfl (da_cons (dv B (i := 0)) (da_cons (dv B (i := 1)) da_nil)))) (dss_cons (ds_if (dtc (o_eq B) (de_call B T.mg_law_draw (ca_law_draw_2 T) (by decide) rfl (da_cons (dv B (i := 0)) (da_cons de_int da_nil))) de_int) (dss_one (dset B (i := 2) (de_bin (o_add B.hK) (de_bin o_mulE (dv B (i := 2)) (de_bin o_pow de_int de_int)) (de_call B T.mg_law_draw (ca_law_draw_2 T) (by decide) rfl (da_cons (dv B (i := 0)) (da_cons (de_bin o_pow de_int de_int) da_nil)))))) dss_nil) (dss_one (ds_ret (de_if (dtc (o_eq B) (de_call B T.mg_law_draw (ca_law_draw_2 T) (by decide) rfl (da_cons (dv B (i := 0)) (da_cons de_int da_nil))) de_int) (dv B (i := 2)) (de_bin o_sub de_int (dv B (i := 2)))))))))
def sp_law_size (c : Wd) (A : Ad) : DSp := fun ds n P R => ds.length = 1 ∧ t_law_size c A (fnN P R) (startS N_law_size ds n)
theorem ok_law_size {c : Wd} {A : Ad} (T : Txt c A) : ∃ fd, FunD c.K "_law_size" "_law_size" (defArgs s_law_size) (defBody s_law_size) (defScope s_law_size) [] [] A.f_law_size fd ∧ FnG c 3 A.f_law_size fd [("_law_pen_here" : Str)] (liftSp c (sp_law_size c A)) := by
  obtain ⟨fd, F⟩ := T.F_law_size
  exact ⟨fd, F, fn_ok F sc_law_size (fun _ _ _ _ h => h.1) (dd_law_size T) (fun _ _ _ _ h => h.2)⟩
def cs_law_size_1 (c : Wd) (A : Ad) : DSp2 := fun ds es m P R => ds.length = 1 ∧ (sp_law_size c A) ds m P R
theorem ca_law_size_1 {c : Wd} {A : Ad} (T : Txt c A) : Callee c (.ref A.f_law_size) [] 3 (cs_law_size_1 c A) := by
  obtain ⟨fd, F, G⟩ := ok_law_size T
  exact callee_fn G F.kp (shape_n0 F fun _ _ _ _ _ _ us hl => match us, hl with | [_], _ => rfl)
theorem cq_law_size_1 {c : Wd} {A : Ad} {x0 : D} {z : Z} {P : D → Z → Prop} {R : Er → Z → Prop} : cs_law_size_1 c A [x0] [] z P R ↔ (sp_law_size c A) [x0] z P R := ⟨fun h => h.2, fun h => ⟨rfl, h⟩⟩
/-! _law_pair -/
def N_law_pair : List Str := [("_law_pen_here" : Str), ("_law_low" : Str), ("_law_by" : Str)]
theorem sc_law_pair : FnScope N_law_pair [("_law_pen_here" : Str)] (defScope s_law_pair) := ⟨rfl, rfl, rfl, by decide +kernel, rfl, by decide +kernel, by decide +kernel⟩
def u_law_pair_2 (c : Wd) (A : Ad) : DTS := dRet (dTup (dCons (dBin (oI CMulE fun i j => .int (i * j)) (dCall (fun ds zs n P R => zs = [] ∧ (cs_law_size_1 c A) ds [] n P R) (dCons (dVar 0) (dNil)) dNil) (dVar 2)) (dCons (dBin (oI CMulE fun i j => .int (i * j)) (dVar 1) (dVar 2)) (dNil))))
def u_law_pair_1 (c : Wd) (A : Ad) : DTS := dSeq (dSet 2 (dBin oAdd (dC (.int 1)) (dCall (fun ds zs n P R => zs = [] ∧ (cs_law_draw_2 c A) ds [] n P R) (dCons (dVar 0) (dCons (dC (.int 6)) (dNil))) dNil))) (u_law_pair_2 c A)
def t_law_pair (c : Wd) (A : Ad) : DTS := dSeq (dSet 1 (dBin oAdd (dC (.int 1)) (dCall (fun ds zs n P R => zs = [] ∧ (cs_law_draw_2 c A) ds [] n P R) (dCons (dVar 0) (dCons (dCall (fun ds zs n P R => zs = [] ∧ (cs_law_pick_2 c A) ds [] n P R) (dCons (dVar 0) (dCons (dLst (dCons (dC (.int 1)) (dCons (dC (.int 6)) (dCons (dC (.int 12)) (dCons (dBin (oI CPow fun i j => .int (i ^ j.toNat)) (dC (.int 10)) (dC (.int 12))) (dNil)))))) (dNil))) dNil) (dNil))) dNil))) (u_law_pair_1 c A)
theorem dd_law_pair {c : Wd} {A : Ad} (T : Txt c A) (X : Cx) (cf : Fr) (W : WX) (ec : cf.toWd = c) (B : XB X cf W N_law_pair (defScope s_law_pair) 3 false) : DSs X cf W (defBody s_law_pair) (t_law_pair c A) := by
  subst ec
  exact (dss_cons (dset B (i := 1) (de_bin (o_add B.hK) de_int (de_call B T.mg_law_draw (ca_law_draw_2 T) (by decide) rfl (da_cons (dv B (i := 0)) (da_cons (de_call B T.mg_law_pick (ca_law_pick_2 T) (by decide) rfl (da_cons (dv B (i := 0)) (da_cons (de_lst (da_cons de_int (da_cons de_int (da_cons de_int (da_cons (de_bin o_pow de_int de_int) da_nil))))) da_nil))) da_nil))))) (dss_cons (dset B (i := 2) (de_bin (o_add B.hK) de_int (de_call B T.mg_law_draw (ca_law_draw_2 T) (by decide) rfl (da_cons (dv B (i := 0)) (da_cons de_int da_nil))))) (dss_one (ds_ret (de_tup (da_cons (de_bin o_mulE (de_call B T.mg_law_size (ca_law_size_1 T) (by decide) rfl (da_cons (dv B (i := 0)) da_nil)) (dv B (i := 2))) (da_cons (de_bin o_mulE (dv B (i := 1)) (dv B (i := 2))) da_nil)))))))
def sp_law_pair (c : Wd) (A : Ad) : DSp := fun ds n P R => ds.length = 1 ∧ t_law_pair c A (fnN P R) (startS N_law_pair ds n)
theorem ok_law_pair {c : Wd} {A : Ad} (T : Txt c A) : ∃ fd, FunD c.K "_law_pair" "_law_pair" (defArgs s_law_pair) (defBody s_law_pair) (defScope s_law_pair) [] [] A.f_law_pair fd ∧ FnG c 4 A.f_law_pair fd [("_law_pen_here" : Str)] (liftSp c (sp_law_pair c A)) := by
  obtain ⟨fd, F⟩ := T.F_law_pair
  exact ⟨fd, F, fn_ok F sc_law_pair (fun _ _ _ _ h => h.1) (dd_law_pair T) (fun _ _ _ _ h => h.2)⟩
def cs_law_pair_1 (c : Wd) (A : Ad) : DSp2 := fun ds es m P R => ds.length = 1 ∧ (sp_law_pair c A) ds m P R
theorem ca_law_pair_1 {c : Wd} {A : Ad} (T : Txt c A) : Callee c (.ref A.f_law_pair) [] 4 (cs_law_pair_1 c A) := by
  obtain ⟨fd, F, G⟩ := ok_law_pair T
  exact callee_fn G F.kp (shape_n0 F fun _ _ _ _ _ _ us hl => match us, hl with | [_], _ => rfl)
theorem cq_law_pair_1 {c : Wd} {A : Ad} {x0 : D} {z : Z} {P : D → Z → Prop} {R : Er → Z → Prop} : cs_law_pair_1 c A [x0] [] z P R ↔ (sp_law_pair c A) [x0] z P R := ⟨fun h => h.2, fun h => ⟨rfl, h⟩⟩
/-! is_int -/
def N_is_int : List Str := [("value" : Str)]
theorem sc_is_int : FnScope N_is_int [("value" : Str)] (defScope s_is_int) := ⟨rfl, rfl, rfl, by decide +kernel, rfl, by decide +kernel, by decide +kernel⟩
def t_is_int (c : Wd) (A : Ad) : DTS := dRet (dAndV (dCalE (oIsA c) (dCons (dVar 0) (dCons (dC (.ty "int")) (dNil)))) (dNotV (dCalE (oIsA c) (dCons (dVar 0) (dCons (dC (.ty "bool")) (dNil))))))
theorem dd_is_int {c : Wd} {A : Ad} (T : Txt c A) (X : Cx) (cf : Fr) (W : WX) (ec : cf.toWd = c) (B : XB X cf W N_is_int (defScope s_is_int) 0 false) : DSs X cf W (defBody s_is_int) (t_is_int c A) := by
  subst ec
  exact (dss_one (ds_ret (de_and (de_calB B T.no_isinstance boo_isinstance (c_isa B) rfl (da_cons (dv B (i := 0)) (da_cons (de_blt B (v := .ty "int") rfl T.no_int boo_int rfl (fun _ => .ty _)) da_nil))) (de_one (de_not (de_calB B T.no_isinstance boo_isinstance (c_isa B) rfl (da_cons (dv B (i := 0)) (da_cons (de_blt B (v := .ty "bool") rfl T.no_bool boo_bool rfl (fun _ => .ty _)) da_nil))))))))
def sp_is_int (c : Wd) (A : Ad) : DSp := fun ds n P R => ds.length = 1 ∧ t_is_int c A (fnN P R) (startS N_is_int ds n)
theorem ok_is_int {c : Wd} {A : Ad} (T : Txt c A) : ∃ fd, FunD c.K "is_int" "is_int" (defArgs s_is_int) (defBody s_is_int) (defScope s_is_int) [] [] A.f_is_int fd ∧ FnG c 1 A.f_is_int fd [("value" : Str)] (liftSp c (sp_is_int c A)) := by
  obtain ⟨fd, F⟩ := T.F_is_int
  exact ⟨fd, F, fn_ok F sc_is_int (fun _ _ _ _ h => h.1) (dd_is_int T) (fun _ _ _ _ h => h.2)⟩
def cs_is_int_1 (c : Wd) (A : Ad) : DSp2 := fun ds es m P R => ds.length = 1 ∧ (sp_is_int c A) ds m P R
theorem ca_is_int_1 {c : Wd} {A : Ad} (T : Txt c A) : Callee c (.ref A.f_is_int) [] 1 (cs_is_int_1 c A) := by
  obtain ⟨fd, F, G⟩ := ok_is_int T
  exact callee_fn G F.kp (shape_n0 F fun _ _ _ _ _ _ us hl => match us, hl with | [_], _ => rfl)
theorem cq_is_int_1 {c : Wd} {A : Ad} {x0 : D} {z : Z} {P : D → Z → Prop} {R : Er → Z → Prop} : cs_is_int_1 c A [x0] [] z P R ↔ (sp_is_int c A) [x0] z P R := ⟨fun h => h.2, fun h => ⟨rfl, h⟩⟩
theorem nsx_BadRatio : NdefX.NScope ["self", "part", "__class__"] ["self", "part"] ["__class__"] (defScope s_BadRatio___init__) := ⟨rfl, rfl, rfl, by decide +kernel, rfl, by decide +kernel, by decide +kernel, by decide +kernel, by decide +kernel⟩
theorem ex_BadRatio {c : Wd} {A : Ad} (T : Txt c A) : ExcD c A.c_BadRatio [("part" : Str)] 1 := T.ix_BadRatio.one fun cc cf fd S => sup1 S T.ix_BadRatio.T nsx_BadRatio T.nx_BadRatio_part rfl
/-! Ratio.__init__ -/
def N_Ratio___init__ : List Str := [("self" : Str), ("top" : Str), ("bottom" : Str), ("shared" : Str)]
theorem sc_Ratio___init__ : FnScope N_Ratio___init__ [("self" : Str), ("top" : Str), ("bottom" : Str)] (defScope s_Ratio___init__) := ⟨rfl, rfl, rfl, by decide +kernel, rfl, by decide +kernel, by decide +kernel⟩
def u_Ratio___init___4 (c : Wd) (A : Ad) : DTS := dSelfSet c 0 ("bottom" : Str) (dBin (oI (fun _ j => CDivG j) fun i j => .int (i.fdiv j)) (dVar 2) (dVar 3))
def u_Ratio___init___3 (c : Wd) (A : Ad) : DTS := dSeq (dSelfSet c 0 ("top" : Str) (dBin (oI (fun _ j => CDivG j) fun i j => .int (i.fdiv j)) (dVar 1) (dVar 3))) (u_Ratio___init___4 c A)
def u_Ratio___init___2 (c : Wd) (A : Ad) : DTS := dSeq (dSet 3 (dIf (dTB (dBin (oI (fun _ _ => True) fun i j => .bl (decide (j < i))) (dVar 2) (dC (.int 0)))) (dBu oGcd (dCons (dVar 1) (dCons (dVar 2) (dNil)))) (dBin (oI (fun _ _ => True) fun i j => .int (i - j)) (dC (.int 0)) (dBu oGcd (dCons (dVar 1) (dCons (dVar 2) (dNil))))))) (u_Ratio___init___3 c A)
def u_Ratio___init___1 (c : Wd) (A : Ad) : DTS := dSeq (dIte (dOr (dNot (dTB (dCall (fun ds zs n P R => zs = [] ∧ (cs_is_int_1 c A) ds [] n P R) (dCons (dVar 2) (dNil)) dNil))) (dTB (dBin oEq (dVar 2) (dC (.int 0))))) (dRaise A.c_BadRatio [("part" : Str)] (dCons (dC (.str ("bottom" : Str))) (dNil))) (dNext)) (u_Ratio___init___2 c A)
def t_Ratio___init__ (c : Wd) (A : Ad) : DTS := dSeq (dIte (dNot (dTB (dCall (fun ds zs n P R => zs = [] ∧ (cs_is_int_1 c A) ds [] n P R) (dCons (dVar 1) (dNil)) dNil))) (dRaise A.c_BadRatio [("part" : Str)] (dCons (dC (.str ("top" : Str))) (dNil))) (dNext)) (u_Ratio___init___1 c A)
theorem dd_Ratio___init__ {c : Wd} {A : Ad} (T : Txt c A) (X : Cx) (cf : Fr) (W : WX) (ec : cf.toWd = c) (B : XB X cf W N_Ratio___init__ (defScope s_Ratio___init__) 2 false) : DSs X cf W (defBody s_Ratio___init__) (t_Ratio___init__ c A) := by
  subst ec
  exact (dss_cons (ds_if (dt_not (dt_val (de_call B T.mg_is_int (ca_is_int_1 T) (by decide) rfl (da_cons (dv B (i := 1)) da_nil)))) (dss_one (ds_raise B (ex_BadRatio T) (by decide) T.mg_c_BadRatio rfl (da_cons de_str da_nil))) dss_nil) (dss_cons (ds_if (dw_or (dt_not (dt_val (de_call B T.mg_is_int (ca_is_int_1 T) (by decide) rfl (da_cons (dv B (i := 2)) da_nil)))) (dw_or1 (dtc (o_eq B) (dv B (i := 2)) de_int))).pt (dss_one (ds_raise B (ex_BadRatio T) (by decide) T.mg_c_BadRatio rfl (da_cons de_str da_nil))) dss_nil) (dss_cons (dset B (i := 3) (de_if (dtc o_gt (dv B (i := 2)) de_int) (de_buM B T.mo_gcd b_gcd rfl (da_cons (dv B (i := 1)) (da_cons (dv B (i := 2)) da_nil))) (de_bin o_sub de_int (de_buM B T.mo_gcd b_gcd rfl (da_cons (dv B (i := 1)) (da_cons (dv B (i := 2)) da_nil)))))) (dss_cons (ds_self B rfl (.inl rfl) (de_bin o_fdivG (dv B (i := 1)) (dv B (i := 3)))) (dss_one (ds_self B rfl (.inl rfl) (de_bin o_fdivG (dv B (i := 2)) (dv B (i := 3)))))))))
def si_Ratio___init__ (c : Wd) (A : Ad) : DInit := fun ds n P R => ds.length = 2 ∧ t_Ratio___init__ c A (inN A.c_Ratio P R) (startI A.c_Ratio N_Ratio___init__ ds n)
theorem ok_Ratio___init__ {c : Wd} {A : Ad} (T : Txt c A) : ∃ fd, FunD c.K "__init__" "Ratio.__init__" (defArgs s_Ratio___init__) (defBody s_Ratio___init__) (defScope s_Ratio___init__) [(.int 1 : V)] [] A.f_Ratio___init__ fd ∧ FnG c 3 A.f_Ratio___init__ fd [("self" : Str), ("top" : Str), ("bottom" : Str)] (liftInit c A.c_Ratio (si_Ratio___init__ c A)) := by
  obtain ⟨fd, F⟩ := T.F_Ratio___init__
  exact ⟨fd, F, init_ok F sc_Ratio___init__ (by decide) (fun _ _ _ _ h => by rw [h.1]; rfl) (dd_Ratio___init__ T) (fun _ _ _ _ h => h.2)⟩
def cs_Ratio_Ratio___init___2 (c : Wd) (A : Ad) : DSp2 := fun ds es m P R => ds.length = 2 ∧ si_Ratio___init__ c A (pick [0, 1] (ds ++ [(.int 1 : D)] ++ es)) m (fun fs m' => P (.ins A.c_Ratio fs) m') R
theorem ca_Ratio_Ratio___init___2 {c : Wd} {A : Ad} (T : Txt c A) : Callee c (.ref A.c_Ratio) [] 4 (cs_Ratio_Ratio___init___2 c A) := by
  obtain ⟨fd, F, G⟩ := ok_Ratio___init__ T
  exact callee_cls (n := 2) (gD := fun ds es => pick [0, 1] (ds ++ [(.int 1 : D)] ++ es)) T.mk_Ratio G (shape_d F (by simp) [(.int 1 : D)] (fun _ => (RepL.cons (.int _) RepL.nil)) [0, 1, 2] fun _ _ _ _ _ _ _ us its ws h1 h2 h3 => match us, h1, its, h2, ws, h3 with | [_, _, _], _, [_], _, [], _ => ⟨_, rfl, rfl⟩) (fun _ _ _ => rfl)
theorem cq_Ratio_Ratio___init___2 {c : Wd} {A : Ad} {x0 x1 : D} {z : Z} {P : D → Z → Prop} {R : Er → Z → Prop} : cs_Ratio_Ratio___init___2 c A [x0, x1] [] z P R ↔ si_Ratio___init__ c A [x0, x1] z (fun fs m' => P (.ins A.c_Ratio fs) m') R := ⟨fun h => h.2, fun h => ⟨rfl, h⟩⟩
/-! Ratio.__eq__ -/
def N_Ratio___eq__ : List Str := [("self" : Str), ("other" : Str)]
theorem sc_Ratio___eq__ : FnScope N_Ratio___eq__ [("self" : Str), ("other" : Str)] (defScope s_Ratio___eq__) := ⟨rfl, rfl, rfl, by decide +kernel, rfl, by decide +kernel, by decide +kernel⟩
def u_Ratio___eq___1 (c : Wd) (A : Ad) : DTS := dRet (dAndV (dCalE (oIsA c) (dCons (dVar 1) (dCons (dC (.ref A.c_Ratio)) (dNil)))) (dAndV (dBin oEq (dAt c ("top" : Str) [] (dVar 0)) (dAt c ("top" : Str) [] (dVar 1))) (dBin oEq (dAt c ("bottom" : Str) [] (dVar 0)) (dAt c ("bottom" : Str) [] (dVar 1)))))
def t_Ratio___eq__ (c : Wd) (A : Ad) : DTS := dSeq (dIte (dTB (dCall (fun ds zs n P R => zs = [] ∧ (cs_is_int_1 c A) ds [] n P R) (dCons (dVar 1) (dNil)) dNil)) (dRet (dAndV (dBin oEq (dAt c ("bottom" : Str) [] (dVar 0)) (dC (.int 1))) (dBin oEq (dAt c ("top" : Str) [] (dVar 0)) (dVar 1)))) (dNext)) (u_Ratio___eq___1 c A)
theorem dd_Ratio___eq__ {c : Wd} {A : Ad} (T : Txt c A) (X : Cx) (cf : Fr) (W : WX) (ec : cf.toWd = c) (B : XB X cf W N_Ratio___eq__ (defScope s_Ratio___eq__) 1 false) : DSs X cf W (defBody s_Ratio___eq__) (t_Ratio___eq__ c A) := by
  subst ec
  exact (dss_cons (ds_if (dt_val (de_call B T.mg_is_int (ca_is_int_1 T) (by decide) rfl (da_cons (dv B (i := 1)) da_nil))) (dss_one (ds_ret (de_and (dcp (o_eq B) (de_at (tbl := []) (j := 0) B trivial (Nat.zero_le _) (dv B (i := 0))) de_int) (de_one (dcp (o_eq B) (de_at (tbl := []) (j := 0) B trivial (Nat.zero_le _) (dv B (i := 0))) (dv B (i := 1))))))) dss_nil) (dss_one (ds_ret (de_and (de_calB B T.no_isinstance boo_isinstance (c_isa B) rfl (da_cons (dv B (i := 1)) (da_cons (de_glob B (v := .ref A.c_Ratio) rfl T.mg_c_Ratio rfl (fun _ => .ref _)) da_nil))) (de_and (dcp (o_eq B) (de_at (tbl := []) (j := 0) B trivial (Nat.zero_le _) (dv B (i := 0))) (de_at (tbl := []) (j := 0) B trivial (Nat.zero_le _) (dv B (i := 1)))) (de_one (dcp (o_eq B) (de_at (tbl := []) (j := 0) B trivial (Nat.zero_le _) (dv B (i := 0))) (de_at (tbl := []) (j := 0) B trivial (Nat.zero_le _) (dv B (i := 1))))))))))
def sp_Ratio___eq__ (c : Wd) (A : Ad) : DSp := fun ds n P R => ds.length = 2 ∧ t_Ratio___eq__ c A (fnN P R) (startS N_Ratio___eq__ ds n)
theorem ok_Ratio___eq__ {c : Wd} {A : Ad} (T : Txt c A) : ∃ fd, FunD c.K "__eq__" "Ratio.__eq__" (defArgs s_Ratio___eq__) (defBody s_Ratio___eq__) (defScope s_Ratio___eq__) [] [] A.f_Ratio___eq__ fd ∧ FnG c 2 A.f_Ratio___eq__ fd [("self" : Str), ("other" : Str)] (liftSp c (sp_Ratio___eq__ c A)) := by
  obtain ⟨fd, F⟩ := T.F_Ratio___eq__
  exact ⟨fd, F, fn_ok F sc_Ratio___eq__ (fun _ _ _ _ h => h.1) (dd_Ratio___eq__ T) (fun _ _ _ _ h => h.2)⟩
def cs_Ratio___eq___2 (c : Wd) (A : Ad) : DSp2 := fun ds es m P R => ds.length = 2 ∧ (sp_Ratio___eq__ c A) ds m P R
theorem ca_Ratio___eq___2 {c : Wd} {A : Ad} (T : Txt c A) : Callee c (.ref A.f_Ratio___eq__) [] 2 (cs_Ratio___eq___2 c A) := by
  obtain ⟨fd, F, G⟩ := ok_Ratio___eq__ T
  exact callee_fn G F.kp (shape_n0 F fun _ _ _ _ _ _ us hl => match us, hl with | [_, _], _ => rfl)
theorem cq_Ratio___eq___2 {c : Wd} {A : Ad} {x0 x1 : D} {z : Z} {P : D → Z → Prop} {R : Er → Z → Prop} : cs_Ratio___eq___2 c A [x0, x1] [] z P R ↔ (sp_Ratio___eq__ c A) [x0, x1] z P R := ⟨fun h => h.2, fun h => ⟨rfl, h⟩⟩
theorem eq_Ratio_eq {c : Wd} {A : Ad} (T : Txt c A) : EqD c 2 A.c_Ratio (cs_Ratio___eq___2 c A) := ⟨⟨⟨_, ca_Ratio___eq___2 T, T.fi_Ratio___eq__, T.if_Ratio___eq__⟩⟩, T.ne_Ratio, T.bt_Ratio⟩
def tq_eq_eq_Ratio (c : Wd) (A : Ad) : List (Addr × DSp2) := [(A.c_Ratio, cs_Ratio___eq___2 c A)]
theorem ta_eq_eq_Ratio {c : Wd} {A : Ad} (T : Txt c A) : AllT (fun C s => EqD c 2 C s) (tq_eq_eq_Ratio c A) := ⟨(eq_Ratio_eq T).mono (by decide), trivial⟩
/-! Ratio.__abs__ -/
def N_Ratio___abs__ : List Str := [("self" : Str)]
theorem sc_Ratio___abs__ : FnScope N_Ratio___abs__ [("self" : Str)] (defScope s_Ratio___abs__) := ⟨rfl, rfl, rfl, by decide +kernel, rfl, by decide +kernel, by decide +kernel⟩
def t_Ratio___abs__ (c : Wd) (A : Ad) : DTS := dRet (dCall (fun ds zs n P R => zs = [] ∧ (cs_Ratio_Ratio___init___2 c A) ds [] n P R) (dCons (dBu oAbs (dCons (dAt c ("top" : Str) [] (dVar 0)) (dNil))) (dCons (dAt c ("bottom" : Str) [] (dVar 0)) (dNil))) dNil)
theorem dd_Ratio___abs__ {c : Wd} {A : Ad} (T : Txt c A) (X : Cx) (cf : Fr) (W : WX) (ec : cf.toWd = c) (B : XB X cf W N_Ratio___abs__ (defScope s_Ratio___abs__) 4 false) : DSs X cf W (defBody s_Ratio___abs__) (t_Ratio___abs__ c A) := by
  subst ec
  exact (dss_one (ds_ret (de_call B T.mg_c_Ratio (ca_Ratio_Ratio___init___2 T) (by decide) rfl (da_cons (de_bu B T.no_abs boo_abs b_abs rfl (da_cons (de_at (tbl := []) (j := 0) B trivial (Nat.zero_le _) (dv B (i := 0))) da_nil)) (da_cons (de_at (tbl := []) (j := 0) B trivial (Nat.zero_le _) (dv B (i := 0))) da_nil)))))
def sp_Ratio___abs__ (c : Wd) (A : Ad) : DSp := fun ds n P R => ds.length = 1 ∧ t_Ratio___abs__ c A (fnN P R) (startS N_Ratio___abs__ ds n)
theorem ok_Ratio___abs__ {c : Wd} {A : Ad} (T : Txt c A) : ∃ fd, FunD c.K "__abs__" "Ratio.__abs__" (defArgs s_Ratio___abs__) (defBody s_Ratio___abs__) (defScope s_Ratio___abs__) [] [] A.f_Ratio___abs__ fd ∧ FnG c 5 A.f_Ratio___abs__ fd [("self" : Str)] (liftSp c (sp_Ratio___abs__ c A)) := by
  obtain ⟨fd, F⟩ := T.F_Ratio___abs__
  exact ⟨fd, F, fn_ok F sc_Ratio___abs__ (fun _ _ _ _ h => h.1) (dd_Ratio___abs__ T) (fun _ _ _ _ h => h.2)⟩
def cs_Ratio___abs___1 (c : Wd) (A : Ad) : DSp2 := fun ds es m P R => ds.length = 1 ∧ (sp_Ratio___abs__ c A) ds m P R
theorem ca_Ratio___abs___1 {c : Wd} {A : Ad} (T : Txt c A) : Callee c (.ref A.f_Ratio___abs__) [] 5 (cs_Ratio___abs___1 c A) := by
  obtain ⟨fd, F, G⟩ := ok_Ratio___abs__ T
  exact callee_fn G F.kp (shape_n0 F fun _ _ _ _ _ _ us hl => match us, hl with | [_], _ => rfl)
theorem cq_Ratio___abs___1 {c : Wd} {A : Ad} {x0 : D} {z : Z} {P : D → Z → Prop} {R : Er → Z → Prop} : cs_Ratio___abs___1 c A [x0] [] z P R ↔ (sp_Ratio___abs__ c A) [x0] z P R := ⟨fun h => h.2, fun h => ⟨rfl, h⟩⟩
theorem own_Ratio_abs {c : Wd} {A : Ad} (T : Txt c A) : OwnD c A.c_Ratio "__abs__" 5 (cs_Ratio___abs___1 c A) := ⟨⟨_, ca_Ratio___abs___1 T, T.fi_Ratio___abs__, T.if_Ratio___abs__⟩⟩
def tq_own_abs_Ratio (c : Wd) (A : Ad) : List (Addr × DSp2) := [(A.c_Ratio, cs_Ratio___abs___1 c A)]
theorem ta_own_abs_Ratio {c : Wd} {A : Ad} (T : Txt c A) : AllT (fun C s => OwnD c C "__abs__" 5 s) (tq_own_abs_Ratio c A) := ⟨(own_Ratio_abs T).mono (by decide), trivial⟩
/-! _law_divisor -/
def N_law_divisor : List Str := [("_law_one" : Str), ("_law_other" : Str), ("_law_high" : Str), ("_law_low" : Str)]
theorem sc_law_divisor : FnScope N_law_divisor [("_law_one" : Str), ("_law_other" : Str)] (defScope s_law_divisor) := ⟨rfl, rfl, rfl, by decide +kernel, rfl, by decide +kernel, by decide +kernel⟩
def u_law_divisor_2 (c : Wd) (A : Ad) : DTS := dRet (dVar 2)
def u_law_divisor_1 (c : Wd) (A : Ad) : DTS := dSeq (dWhile (dTB (dBinE (oNeA c (tq_eq_eq_Ratio c A)) (dVar 3) (dC (.int 0)))) (dPar 2 3 (dCons (dVar 3) (dCons (dBin (oI (fun _ j => 0 < j) fun i j => .int (i % j)) (dBu oInt (dCons (dVar 2) (dNil))) (dVar 3)) (dNil))))) (u_law_divisor_2 c A)
def t_law_divisor (c : Wd) (A : Ad) : DTS := dSeq (dPar 2 3 (dCons (dCalE (oAbsA (tq_own_abs_Ratio c A)) (dCons (dVar 0) (dNil))) (dCons (dCalE (oAbsA (tq_own_abs_Ratio c A)) (dCons (dVar 1) (dNil))) (dNil)))) (u_law_divisor_1 c A)
theorem dd_law_divisor {c : Wd} {A : Ad} (T : Txt c A) (X : Cx) (cf : Fr) (W : WX) (ec : cf.toWd = c) (B : XB X cf W N_law_divisor (defScope s_law_divisor) 6 false) : DSs X cf W (defBody s_law_divisor) (t_law_divisor c A) := by
  subst ec
  exact (dss_cons (ds_par B (i := 2) (j := 3) rfl rfl (by decide) rfl rfl (da_cons (de_calB B T.no_abs boo_abs (c_abs B (ta_own_abs_Ratio T) (by decide)) rfl (da_cons (dv B (i := 0)) da_nil)) (da_cons (de_calB B T.no_abs boo_abs (c_abs B (ta_own_abs_Ratio T) (by decide)) rfl (da_cons (dv B (i := 1)) da_nil)) da_nil)) (fun env h => by cases env; cases h; rfl)) (dss_cons (ds_while B (dtcE (op_neA B (ta_eq_eq_Ratio T) (by decide)) (dv B (i := 3)) de_int) (dss_one (ds_par B (i := 2) (j := 3) rfl rfl (by decide) rfl rfl (da_cons (dv B (i := 3)) (da_cons (de_bin o_mod (de_ty B T.no_int boo_int b_int rfl (da_cons (dv B (i := 2)) da_nil)) (dv B (i := 3))) da_nil)) (fun env h => by cases env; cases h; rfl)))) (dss_one (ds_ret (dv B (i := 2))))))
def sp_law_divisor (c : Wd) (A : Ad) : DSp := fun ds n P R => ds.length = 2 ∧ t_law_divisor c A (fnN P R) (startS N_law_divisor ds n)
theorem ok_law_divisor {c : Wd} {A : Ad} (T : Txt c A) : ∃ fd, FunD c.K "_law_divisor" "_law_divisor" (defArgs s_law_divisor) (defBody s_law_divisor) (defScope s_law_divisor) [] [] A.f_law_divisor fd ∧ FnG c 7 A.f_law_divisor fd [("_law_one" : Str), ("_law_other" : Str)] (liftSp c (sp_law_divisor c A)) := by
  obtain ⟨fd, F⟩ := T.F_law_divisor
  exact ⟨fd, F, fn_ok F sc_law_divisor (fun _ _ _ _ h => h.1) (dd_law_divisor T) (fun _ _ _ _ h => h.2)⟩
def cs_law_divisor_2 (c : Wd) (A : Ad) : DSp2 := fun ds es m P R => ds.length = 2 ∧ (sp_law_divisor c A) ds m P R
theorem ca_law_divisor_2 {c : Wd} {A : Ad} (T : Txt c A) : Callee c (.ref A.f_law_divisor) [] 7 (cs_law_divisor_2 c A) := by
  obtain ⟨fd, F, G⟩ := ok_law_divisor T
  exact callee_fn G F.kp (shape_n0 F fun _ _ _ _ _ _ us hl => match us, hl with | [_, _], _ => rfl)
theorem cq_law_divisor_2 {c : Wd} {A : Ad} {x0 x1 : D} {z : Z} {P : D → Z → Prop} {R : Er → Z → Prop} : cs_law_divisor_2 c A [x0, x1] [] z P R ↔ (sp_law_divisor c A) [x0, x1] z P R := ⟨fun h => h.2, fun h => ⟨rfl, h⟩⟩
/-! _law_is -/
def N_law_is : List Str := [("_law_value" : Str), ("_law_high" : Str), ("_law_low" : Str)]
theorem sc_law_is : FnScope N_law_is [("_law_value" : Str), ("_law_high" : Str), ("_law_low" : Str)] (defScope s_law_is) := ⟨rfl, rfl, rfl, by decide +kernel, rfl, by decide +kernel, by decide +kernel⟩
def u_law_is_1 (c : Wd) (A : Ad) : DTS := dRet (dBinE (oEqA c (tq_eq_eq_Ratio c A)) (dCall (fun ds zs n P R => zs = [] ∧ (cs_law_divisor_2 c A) ds [] n P R) (dCons (dAt c ("top" : Str) [] (dVar 0)) (dCons (dAt c ("bottom" : Str) [] (dVar 0)) (dNil))) dNil) (dC (.int 1)))
def t_law_is (c : Wd) (A : Ad) : DTS := dSeq (dIte (dOr (dNot (dTB (dCalE (oIsA c) (dCons (dVar 0) (dCons (dC (.ref A.c_Ratio)) (dNil)))))) (dOr (dTB (dBin (oI (fun _ _ => True) fun i j => .bl (decide (i < j))) (dAt c ("bottom" : Str) [] (dVar 0)) (dC (.int 1)))) (dTB (dBinE (oNeA c (tq_eq_eq_Ratio c A)) (dBin (oI CMulE fun i j => .int (i * j)) (dAt c ("top" : Str) [] (dVar 0)) (dVar 2)) (dBin (oI CMulE fun i j => .int (i * j)) (dVar 1) (dAt c ("bottom" : Str) [] (dVar 0))))))) (dRet (dC (.bl false))) (dNext)) (u_law_is_1 c A)
theorem dd_law_is {c : Wd} {A : Ad} (T : Txt c A) (X : Cx) (cf : Fr) (W : WX) (ec : cf.toWd = c) (B : XB X cf W N_law_is (defScope s_law_is) 7 false) : DSs X cf W (defBody s_law_is) (t_law_is c A) := by
  subst ec
  exact (dss_cons (ds_if (dw_or (dt_not (dt_val (de_calB B T.no_isinstance boo_isinstance (c_isa B) rfl (da_cons (dv B (i := 0)) (da_cons (de_glob B (v := .ref A.c_Ratio) rfl T.mg_c_Ratio rfl (fun _ => .ref _)) da_nil))))) (dw_or (dtc o_lt (de_at (tbl := []) (j := 0) B trivial (Nat.zero_le _) (dv B (i := 0))) de_int) (dw_or1 (dtcE (op_neA B (ta_eq_eq_Ratio T) (by decide)) (de_bin o_mulE (de_at (tbl := []) (j := 0) B trivial (Nat.zero_le _) (dv B (i := 0))) (dv B (i := 2))) (de_bin o_mulE (dv B (i := 1)) (de_at (tbl := []) (j := 0) B trivial (Nat.zero_le _) (dv B (i := 0)))))))).pt (dss_one (ds_ret de_bl)) dss_nil) (dss_one (ds_ret (dcpE (op_eqA B (ta_eq_eq_Ratio T) (by decide)) (de_call B T.mg_law_divisor (ca_law_divisor_2 T) (by decide) rfl (da_cons (de_at (tbl := []) (j := 0) B trivial (Nat.zero_le _) (dv B (i := 0))) (da_cons (de_at (tbl := []) (j := 0) B trivial (Nat.zero_le _) (dv B (i := 0))) da_nil))) de_int))))
def sp_law_is (c : Wd) (A : Ad) : DSp := fun ds n P R => ds.length = 3 ∧ t_law_is c A (fnN P R) (startS N_law_is ds n)
theorem ok_law_is {c : Wd} {A : Ad} (T : Txt c A) : ∃ fd, FunD c.K "_law_is" "_law_is" (defArgs s_law_is) (defBody s_law_is) (defScope s_law_is) [] [] A.f_law_is fd ∧ FnG c 8 A.f_law_is fd [("_law_value" : Str), ("_law_high" : Str), ("_law_low" : Str)] (liftSp c (sp_law_is c A)) := by
  obtain ⟨fd, F⟩ := T.F_law_is
  exact ⟨fd, F, fn_ok F sc_law_is (fun _ _ _ _ h => h.1) (dd_law_is T) (fun _ _ _ _ h => h.2)⟩
def cs_law_is_3 (c : Wd) (A : Ad) : DSp2 := fun ds es m P R => ds.length = 3 ∧ (sp_law_is c A) ds m P R
theorem ca_law_is_3 {c : Wd} {A : Ad} (T : Txt c A) : Callee c (.ref A.f_law_is) [] 8 (cs_law_is_3 c A) := by
  obtain ⟨fd, F, G⟩ := ok_law_is T
  exact callee_fn G F.kp (shape_n0 F fun _ _ _ _ _ _ us hl => match us, hl with | [_, _, _], _ => rfl)
theorem cq_law_is_3 {c : Wd} {A : Ad} {x0 x1 x2 : D} {z : Z} {P : D → Z → Prop} {R : Er → Z → Prop} : cs_law_is_3 c A [x0, x1, x2] [] z P R ↔ (sp_law_is c A) [x0, x1, x2] z P R := ⟨fun h => h.2, fun h => ⟨rfl, h⟩⟩
def cs_Ratio_Ratio___init___0_bottom_top (c : Wd) (A : Ad) : DSp2 := fun ds es m P R => ds.length = 0 ∧ si_Ratio___init__ c A (pick [2, 1] (ds ++ [(.int 1 : D)] ++ es)) m (fun fs m' => P (.ins A.c_Ratio fs) m') R
theorem ca_Ratio_Ratio___init___0_bottom_top {c : Wd} {A : Ad} (T : Txt c A) : Callee c (.ref A.c_Ratio) [("bottom" : Str), ("top" : Str)] 4 (cs_Ratio_Ratio___init___0_bottom_top c A) := by
  obtain ⟨fd, F, G⟩ := ok_Ratio___init__ T
  exact callee_cls (n := 0) (gD := fun ds es => pick [2, 1] (ds ++ [(.int 1 : D)] ++ es)) T.mk_Ratio G (shape_d F (by simp) [(.int 1 : D)] (fun _ => (RepL.cons (.int _) RepL.nil)) [0, 3, 2] fun _ _ _ _ _ _ _ us its ws h1 h2 h3 => match us, h1, its, h2, ws, h3 with | [_], _, [_], _, [_, _], _ => ⟨_, rfl, rfl⟩) (fun _ _ _ => rfl)
theorem cq_Ratio_Ratio___init___0_bottom_top {c : Wd} {A : Ad} {y0 y1 : D} {z : Z} {P : D → Z → Prop} {R : Er → Z → Prop} : cs_Ratio_Ratio___init___0_bottom_top c A [] [y0, y1] z P R ↔ si_Ratio___init__ c A [y1, y0] z (fun fs m' => P (.ins A.c_Ratio fs) m') R := ⟨fun h => h.2, fun h => ⟨rfl, h⟩⟩
/-! Ratio.__neg__ -/
def N_Ratio___neg__ : List Str := [("self" : Str)]
theorem sc_Ratio___neg__ : FnScope N_Ratio___neg__ [("self" : Str)] (defScope s_Ratio___neg__) := ⟨rfl, rfl, rfl, by decide +kernel, rfl, by decide +kernel, by decide +kernel⟩
def t_Ratio___neg__ (c : Wd) (A : Ad) : DTS := dRet (dCall (fun ds zs n P R => zs = [] ∧ (cs_Ratio_Ratio___init___2 c A) ds [] n P R) (dCons (dBin (oI (fun _ _ => True) fun i j => .int (i - j)) (dC (.int 0)) (dAt c ("top" : Str) [] (dVar 0))) (dCons (dAt c ("bottom" : Str) [] (dVar 0)) (dNil))) dNil)
theorem dd_Ratio___neg__ {c : Wd} {A : Ad} (T : Txt c A) (X : Cx) (cf : Fr) (W : WX) (ec : cf.toWd = c) (B : XB X cf W N_Ratio___neg__ (defScope s_Ratio___neg__) 4 false) : DSs X cf W (defBody s_Ratio___neg__) (t_Ratio___neg__ c A) := by
  subst ec
  exact (dss_one (ds_ret (de_call B T.mg_c_Ratio (ca_Ratio_Ratio___init___2 T) (by decide) rfl (da_cons (de_bin o_sub de_int (de_at (tbl := []) (j := 0) B trivial (Nat.zero_le _) (dv B (i := 0)))) (da_cons (de_at (tbl := []) (j := 0) B trivial (Nat.zero_le _) (dv B (i := 0))) da_nil)))))
def sp_Ratio___neg__ (c : Wd) (A : Ad) : DSp := fun ds n P R => ds.length = 1 ∧ t_Ratio___neg__ c A (fnN P R) (startS N_Ratio___neg__ ds n)
theorem ok_Ratio___neg__ {c : Wd} {A : Ad} (T : Txt c A) : ∃ fd, FunD c.K "__neg__" "Ratio.__neg__" (defArgs s_Ratio___neg__) (defBody s_Ratio___neg__) (defScope s_Ratio___neg__) [] [] A.f_Ratio___neg__ fd ∧ FnG c 5 A.f_Ratio___neg__ fd [("self" : Str)] (liftSp c (sp_Ratio___neg__ c A)) := by
  obtain ⟨fd, F⟩ := T.F_Ratio___neg__
  exact ⟨fd, F, fn_ok F sc_Ratio___neg__ (fun _ _ _ _ h => h.1) (dd_Ratio___neg__ T) (fun _ _ _ _ h => h.2)⟩
def cs_Ratio___neg___1 (c : Wd) (A : Ad) : DSp2 := fun ds es m P R => ds.length = 1 ∧ (sp_Ratio___neg__ c A) ds m P R
theorem ca_Ratio___neg___1 {c : Wd} {A : Ad} (T : Txt c A) : Callee c (.ref A.f_Ratio___neg__) [] 5 (cs_Ratio___neg___1 c A) := by
  obtain ⟨fd, F, G⟩ := ok_Ratio___neg__ T
  exact callee_fn G F.kp (shape_n0 F fun _ _ _ _ _ _ us hl => match us, hl with | [_], _ => rfl)
theorem cq_Ratio___neg___1 {c : Wd} {A : Ad} {x0 : D} {z : Z} {P : D → Z → Prop} {R : Er → Z → Prop} : cs_Ratio___neg___1 c A [x0] [] z P R ↔ (sp_Ratio___neg__ c A) [x0] z P R := ⟨fun h => h.2, fun h => ⟨rfl, h⟩⟩
theorem own_Ratio_neg {c : Wd} {A : Ad} (T : Txt c A) : OwnD c A.c_Ratio "__neg__" 5 (cs_Ratio___neg___1 c A) := ⟨⟨_, ca_Ratio___neg___1 T, T.fi_Ratio___neg__, T.if_Ratio___neg__⟩⟩
def tq_own_neg_Ratio (c : Wd) (A : Ad) : List (Addr × DSp2) := [(A.c_Ratio, cs_Ratio___neg___1 c A)]
theorem ta_own_neg_Ratio {c : Wd} {A : Ad} (T : Txt c A) : AllT (fun C s => OwnD c C "__neg__" 5 s) (tq_own_neg_Ratio c A) := ⟨(own_Ratio_neg T).mono (by decide), trivial⟩
/-! Ratio.__bool__ -/
def N_Ratio___bool__ : List Str := [("self" : Str)]
theorem sc_Ratio___bool__ : FnScope N_Ratio___bool__ [("self" : Str)] (defScope s_Ratio___bool__) := ⟨rfl, rfl, rfl, by decide +kernel, rfl, by decide +kernel, by decide +kernel⟩
def t_Ratio___bool__ (c : Wd) (A : Ad) : DTS := dRet (dCalE (oBoolA []) (dCons (dAt c ("top" : Str) [] (dVar 0)) (dNil)))
theorem dd_Ratio___bool__ {c : Wd} {A : Ad} (T : Txt c A) (X : Cx) (cf : Fr) (W : WX) (ec : cf.toWd = c) (B : XB X cf W N_Ratio___bool__ (defScope s_Ratio___bool__) 2 false) : DSs X cf W (defBody s_Ratio___bool__) (t_Ratio___bool__ c A) := by
  subst ec
  exact (dss_one (ds_ret (de_calT B T.no_bool boo_bool (c_bool (j := 0) B trivial (Nat.zero_le _)) rfl (da_cons (de_at (tbl := []) (j := 0) B trivial (Nat.zero_le _) (dv B (i := 0))) da_nil))))
def sp_Ratio___bool__ (c : Wd) (A : Ad) : DSp := fun ds n P R => ds.length = 1 ∧ t_Ratio___bool__ c A (fnN P R) (startS N_Ratio___bool__ ds n)
theorem ok_Ratio___bool__ {c : Wd} {A : Ad} (T : Txt c A) : ∃ fd, FunD c.K "__bool__" "Ratio.__bool__" (defArgs s_Ratio___bool__) (defBody s_Ratio___bool__) (defScope s_Ratio___bool__) [] [] A.f_Ratio___bool__ fd ∧ FnG c 3 A.f_Ratio___bool__ fd [("self" : Str)] (liftSp c (sp_Ratio___bool__ c A)) := by
  obtain ⟨fd, F⟩ := T.F_Ratio___bool__
  exact ⟨fd, F, fn_ok F sc_Ratio___bool__ (fun _ _ _ _ h => h.1) (dd_Ratio___bool__ T) (fun _ _ _ _ h => h.2)⟩
def cs_Ratio___bool___1 (c : Wd) (A : Ad) : DSp2 := fun ds es m P R => ds.length = 1 ∧ (sp_Ratio___bool__ c A) ds m P R
theorem ca_Ratio___bool___1 {c : Wd} {A : Ad} (T : Txt c A) : Callee c (.ref A.f_Ratio___bool__) [] 3 (cs_Ratio___bool___1 c A) := by
  obtain ⟨fd, F, G⟩ := ok_Ratio___bool__ T
  exact callee_fn G F.kp (shape_n0 F fun _ _ _ _ _ _ us hl => match us, hl with | [_], _ => rfl)
theorem cq_Ratio___bool___1 {c : Wd} {A : Ad} {x0 : D} {z : Z} {P : D → Z → Prop} {R : Er → Z → Prop} : cs_Ratio___bool___1 c A [x0] [] z P R ↔ (sp_Ratio___bool__ c A) [x0] z P R := ⟨fun h => h.2, fun h => ⟨rfl, h⟩⟩
theorem own_Ratio_bool {c : Wd} {A : Ad} (T : Txt c A) : OwnD c A.c_Ratio "__bool__" 3 (cs_Ratio___bool___1 c A) := ⟨⟨_, ca_Ratio___bool___1 T, T.fi_Ratio___bool__, T.if_Ratio___bool__⟩⟩
def tq_own_bool_Ratio (c : Wd) (A : Ad) : List (Addr × DSp2) := [(A.c_Ratio, cs_Ratio___bool___1 c A)]
theorem ta_own_bool_Ratio {c : Wd} {A : Ad} (T : Txt c A) : AllT (fun C s => OwnD c C "__bool__" 3 s) (tq_own_bool_Ratio c A) := ⟨(own_Ratio_bool T).mono (by decide), trivial⟩
def cs_Ratio_Ratio___init___1 (c : Wd) (A : Ad) : DSp2 := fun ds es m P R => ds.length = 1 ∧ si_Ratio___init__ c A (pick [0, 1] (ds ++ [(.int 1 : D)] ++ es)) m (fun fs m' => P (.ins A.c_Ratio fs) m') R
theorem ca_Ratio_Ratio___init___1 {c : Wd} {A : Ad} (T : Txt c A) : Callee c (.ref A.c_Ratio) [] 4 (cs_Ratio_Ratio___init___1 c A) := by
  obtain ⟨fd, F, G⟩ := ok_Ratio___init__ T
  exact callee_cls (n := 1) (gD := fun ds es => pick [0, 1] (ds ++ [(.int 1 : D)] ++ es)) T.mk_Ratio G (shape_d F (by simp) [(.int 1 : D)] (fun _ => (RepL.cons (.int _) RepL.nil)) [0, 1, 2] fun _ _ _ _ _ _ _ us its ws h1 h2 h3 => match us, h1, its, h2, ws, h3 with | [_, _], _, [_], _, [], _ => ⟨_, rfl, rfl⟩) (fun _ _ _ => rfl)
theorem cq_Ratio_Ratio___init___1 {c : Wd} {A : Ad} {x0 : D} {z : Z} {P : D → Z → Prop} {R : Er → Z → Prop} : cs_Ratio_Ratio___init___1 c A [x0] [] z P R ↔ si_Ratio___init__ c A [x0, .int 1] z (fun fs m' => P (.ins A.c_Ratio fs) m') R := ⟨fun h => h.2, fun h => ⟨rfl, h⟩⟩
/-! Ratio.__str__ -/
def N_Ratio___str__ : List Str := [("self" : Str)]
theorem sc_Ratio___str__ : FnScope N_Ratio___str__ [("self" : Str)] (defScope s_Ratio___str__) := ⟨rfl, rfl, rfl, by decide +kernel, rfl, by decide +kernel, by decide +kernel⟩
def u_Ratio___str___1 (c : Wd) (A : Ad) : DTS := dRet (dJs [dFmt (dAt c ("top" : Str) [] (dVar 0)), dC (.str ("/" : Str)), dFmt (dAt c ("bottom" : Str) [] (dVar 0))] Str.empty)
def t_Ratio___str__ (c : Wd) (A : Ad) : DTS := dSeq (dIte (dTB (dBin oEq (dAt c ("bottom" : Str) [] (dVar 0)) (dC (.int 1)))) (dRet (dCalE (oStrA []) (dCons (dAt c ("top" : Str) [] (dVar 0)) (dNil)))) (dNext)) (u_Ratio___str___1 c A)
theorem dd_Ratio___str__ {c : Wd} {A : Ad} (T : Txt c A) (X : Cx) (cf : Fr) (W : WX) (ec : cf.toWd = c) (B : XB X cf W N_Ratio___str__ (defScope s_Ratio___str__) 2 false) : DSs X cf W (defBody s_Ratio___str__) (t_Ratio___str__ c A) := by
  subst ec
  exact (dss_cons (ds_if (dtc (o_eq B) (de_at (tbl := []) (j := 0) B trivial (Nat.zero_le _) (dv B (i := 0))) de_int) (dss_one (ds_ret (de_calT B T.no_str boo_str (c_str (j := 0) B trivial (Nat.zero_le _)) rfl (da_cons (de_at (tbl := []) (j := 0) B trivial (Nat.zero_le _) (dv B (i := 0))) da_nil)))) dss_nil) (dss_one (ds_ret (de_joined (DJ.cons (de_fmt (de_at (tbl := []) (j := 0) B trivial (Nat.zero_le _) (dv B (i := 0)))) (DJ.cons de_str (DJ.cons (de_fmt (de_at (tbl := []) (j := 0) B trivial (Nat.zero_le _) (dv B (i := 0)))) DJ.nil)))))))
def sp_Ratio___str__ (c : Wd) (A : Ad) : DSp := fun ds n P R => ds.length = 1 ∧ t_Ratio___str__ c A (fnN P R) (startS N_Ratio___str__ ds n)
theorem ok_Ratio___str__ {c : Wd} {A : Ad} (T : Txt c A) : ∃ fd, FunD c.K "__str__" "Ratio.__str__" (defArgs s_Ratio___str__) (defBody s_Ratio___str__) (defScope s_Ratio___str__) [] [] A.f_Ratio___str__ fd ∧ FnG c 3 A.f_Ratio___str__ fd [("self" : Str)] (liftSp c (sp_Ratio___str__ c A)) := by
  obtain ⟨fd, F⟩ := T.F_Ratio___str__
  exact ⟨fd, F, fn_ok F sc_Ratio___str__ (fun _ _ _ _ h => h.1) (dd_Ratio___str__ T) (fun _ _ _ _ h => h.2)⟩
def cs_Ratio___str___1 (c : Wd) (A : Ad) : DSp2 := fun ds es m P R => ds.length = 1 ∧ (sp_Ratio___str__ c A) ds m P R
theorem ca_Ratio___str___1 {c : Wd} {A : Ad} (T : Txt c A) : Callee c (.ref A.f_Ratio___str__) [] 3 (cs_Ratio___str___1 c A) := by
  obtain ⟨fd, F, G⟩ := ok_Ratio___str__ T
  exact callee_fn G F.kp (shape_n0 F fun _ _ _ _ _ _ us hl => match us, hl with | [_], _ => rfl)
theorem cq_Ratio___str___1 {c : Wd} {A : Ad} {x0 : D} {z : Z} {P : D → Z → Prop} {R : Er → Z → Prop} : cs_Ratio___str___1 c A [x0] [] z P R ↔ (sp_Ratio___str__ c A) [x0] z P R := ⟨fun h => h.2, fun h => ⟨rfl, h⟩⟩
theorem own_Ratio_str {c : Wd} {A : Ad} (T : Txt c A) : OwnD c A.c_Ratio "__str__" 3 (cs_Ratio___str___1 c A) := ⟨⟨_, ca_Ratio___str___1 T, T.fi_Ratio___str__, T.if_Ratio___str__⟩⟩
def tq_own_str_Ratio (c : Wd) (A : Ad) : List (Addr × DSp2) := [(A.c_Ratio, cs_Ratio___str___1 c A)]
theorem ta_own_str_Ratio {c : Wd} {A : Ad} (T : Txt c A) : AllT (fun C s => OwnD c C "__str__" 3 s) (tq_own_str_Ratio c A) := ⟨(own_Ratio_str T).mono (by decide), trivial⟩
/-! _law_made_right -/
def N_law_made_right : List Str := [("_law_pen_here" : Str), ("_law_high" : Str), ("_law_low" : Str), ("_law_made" : Str), ("_law_whole" : Str), ("_law_odd" : Str)]
theorem sc_law_made_right : FnScope N_law_made_right [("_law_pen_here" : Str)] (defScope s_law_made_right) := ⟨rfl, rfl, rfl, by decide +kernel, rfl, by decide +kernel, by decide +kernel⟩
def u_law_made_right_7 (c : Wd) (A : Ad) : DTS := dRet (dBinE (oEqA c (tq_eq_eq_Ratio c A)) (dLC (dItL (dLst (dCons (dC .non) (dCons (dCalE (oStrA (tq_own_str_Ratio c A)) (dCons (dVar 3) (dNil))) (dCons (dTup (dCons (dVar 1) (dCons (dVar 2) (dNil)))) (dCons (dC (.bl true)) (dCons (dC (.bl false)) (dCons (dLst (dCons (dVar 3) (dNil))) (dCons (dC (.dct [])) (dNil)))))))))) (gN 5) (dTB (dBinE (oEqA c (tq_eq_eq_Ratio c A)) (dVar 3) (dVar 5))) (dVar 5) [5]) (dLst (dNil)))
def u_law_made_right_6 (c : Wd) (A : Ad) : DTS := dSeq (dIte (dOr (dTB (dBin oNe (dBu oRepr (dCons (dCalE (oBoolA (tq_own_bool_Ratio c A)) (dCons (dVar 3) (dNil))) (dNil))) (dBu oRepr (dCons (dBinE (oNeA c (tq_eq_eq_Ratio c A)) (dVar 1) (dC (.int 0))) (dNil))))) (dOr (dTB (dBinE (oEqA c (tq_eq_eq_Ratio c A)) (dVar 3) (dCall (fun ds zs n P R => zs = [] ∧ (cs_Ratio_Ratio___init___2 c A) ds [] n P R) (dCons (dBin oAdd (dVar 1) (dC (.int 1))) (dCons (dVar 2) (dNil))) dNil))) (dTB (dBinE (oNeA c (tq_eq_eq_Ratio c A)) (dCall (fun ds zs n P R => zs = [] ∧ (cs_Ratio_Ratio___init___1 c A) ds [] n P R) (dCons (dVar 1) (dNil)) dNil) (dVar 1))))) (dRet (dC (.bl false))) (dNext)) (u_law_made_right_7 c A)
def u_law_made_right_5 (c : Wd) (A : Ad) : DTS := dSeq (dIte (dTB (dBin oNe (dBu oRepr (dCons (dLst (dCons (dBinE (oEqA c (tq_eq_eq_Ratio c A)) (dVar 3) (dAt c ("top" : Str) [] (dVar 3))) (dCons (dBinE (oEqA c (tq_eq_eq_Ratio c A)) (dAt c ("top" : Str) [] (dVar 3)) (dVar 3)) (dCons (dBinE (oNeA c (tq_eq_eq_Ratio c A)) (dVar 3) (dAt c ("top" : Str) [] (dVar 3))) (dNil))))) (dNil))) (dBu oRepr (dCons (dLst (dCons (dVar 4) (dCons (dVar 4) (dCons (dNotV (dVar 4)) (dNil))))) (dNil))))) (dRet (dC (.bl false))) (dNext)) (u_law_made_right_6 c A)
def u_law_made_right_4 (c : Wd) (A : Ad) : DTS := dSeq (dSet 4 (dBinE (oEqA c (tq_eq_eq_Ratio c A)) (dAt c ("bottom" : Str) [] (dVar 3)) (dC (.int 1)))) (u_law_made_right_5 c A)
def u_law_made_right_3 (c : Wd) (A : Ad) : DTS := dSeq (dIte (dOr (dNot (dTB (dCall (fun ds zs n P R => zs = [] ∧ (cs_law_is_3 c A) ds [] n P R) (dCons (dUnE (oNegA (tq_own_neg_Ratio c A)) (dVar 3)) (dCons (dBin (oI (fun _ _ => True) fun i j => .int (i - j)) (dC (.int 0)) (dVar 1)) (dCons (dVar 2) (dNil)))) dNil))) (dOr (dNot (dTB (dCall (fun ds zs n P R => zs = [] ∧ (cs_law_is_3 c A) ds [] n P R) (dCons (dCalE (oAbsA (tq_own_abs_Ratio c A)) (dCons (dVar 3) (dNil))) (dCons (dCalE (oAbsA (tq_own_abs_Ratio c A)) (dCons (dVar 1) (dNil))) (dCons (dVar 2) (dNil)))) dNil))) (dNot (dTB (dCall (fun ds zs n P R => zs = [] ∧ (cs_law_is_3 c A) ds [] n P R) (dCons (dVar 3) (dCons (dVar 1) (dCons (dVar 2) (dNil)))) dNil))))) (dRet (dC (.bl false))) (dNext)) (u_law_made_right_4 c A)
def u_law_made_right_2 (c : Wd) (A : Ad) : DTS := dSeq (dIte (dOr (dNot (dTB (dCall (fun ds zs n P R => zs = [] ∧ (cs_law_is_3 c A) ds [] n P R) (dCons (dVar 3) (dCons (dVar 1) (dCons (dVar 2) (dNil)))) dNil))) (dOr (dTB (dBinE (oNeA c (tq_eq_eq_Ratio c A)) (dVar 3) (dCall (fun ds zs n P R => zs = [] ∧ (cs_Ratio_Ratio___init___2 c A) ds [] n P R) (dCons (dBin (oI (fun _ _ => True) fun i j => .int (i - j)) (dC (.int 0)) (dVar 1)) (dCons (dBin (oI (fun _ _ => True) fun i j => .int (i - j)) (dC (.int 0)) (dVar 2)) (dNil))) dNil))) (dTB (dBinE (oNeA c (tq_eq_eq_Ratio c A)) (dVar 3) (dCall (fun ds zs n P R => zs.length = 2 ∧ (cs_Ratio_Ratio___init___0_bottom_top c A) ds zs n P R) dNil (dCons (dVar 2) (dCons (dVar 1) (dNil)))))))) (dRet (dC (.bl false))) (dNext)) (u_law_made_right_3 c A)
def u_law_made_right_1 (c : Wd) (A : Ad) : DTS := dSeq (dSet 3 (dCall (fun ds zs n P R => zs = [] ∧ (cs_Ratio_Ratio___init___2 c A) ds [] n P R) (dCons (dVar 1) (dCons (dVar 2) (dNil))) dNil)) (u_law_made_right_2 c A)
def t_law_made_right (c : Wd) (A : Ad) : DTS := dSeq (dAsg (dCall (fun ds zs n P R => zs = [] ∧ (cs_law_pair_1 c A) ds [] n P R) (dCons (dVar 0) (dNil)) dNil) (gT 2 (gC (gN 1) (gC (gN 2) (gZ))))) (u_law_made_right_1 c A)
theorem dd_law_made_right {c : Wd} {A : Ad} (T : Txt c A) (X : Cx) (cf : Fr) (W : WX) (ec : cf.toWd = c) (B : XB X cf W N_law_made_right (defScope s_law_made_right) 8 false) : DSs X cf W (defBody s_law_made_right) (t_law_made_right c A) := by
  subst ec
  exact (dss_cons (ds_asg (de_call B T.mg_law_pair (ca_law_pair_1 T) (by decide) rfl (da_cons (dv B (i := 0)) da_nil)) (dg_tup B (dgs_cons (dgn B (i := 1)) (dgs_cons (dgn B (i := 2)) dgs_nil)))) (dss_cons (dset B (i := 3) (de_call B T.mg_c_Ratio (ca_Ratio_Ratio___init___2 T) (by decide) rfl (da_cons (dv B (i := 1)) (da_cons (dv B (i := 2)) da_nil)))) (dss_cons (ds_if (dw_or (dt_not (dt_val (de_call B T.mg_law_is (ca_law_is_3 T) (by decide) rfl (da_cons (dv B (i := 3)) (da_cons (dv B (i := 1)) (da_cons (dv B (i := 2)) da_nil)))))) (dw_or (dtcE (op_neA B (ta_eq_eq_Ratio T) (by decide)) (dv B (i := 3)) (de_call B T.mg_c_Ratio (ca_Ratio_Ratio___init___2 T) (by decide) rfl (da_cons (de_bin o_sub de_int (dv B (i := 1))) (da_cons (de_bin o_sub de_int (dv B (i := 2))) da_nil)))) (dw_or1 (dtcE (op_neA B (ta_eq_eq_Ratio T) (by decide)) (dv B (i := 3)) (de_callK0 B T.mg_c_Ratio (ca_Ratio_Ratio___init___0_bottom_top T) (by decide) rfl (dk_cons (dv B (i := 2)) (dk_cons (dv B (i := 1)) dk_nil))))))).pt (dss_one (ds_ret de_bl)) dss_nil) (dss_cons (ds_if (dw_or (dt_not (dt_val (de_call B T.mg_law_is (ca_law_is_3 T) (by decide) rfl (da_cons (de_unE (u_neg B (ta_own_neg_Ratio T) (by decide)) (dv B (i := 3))) (da_cons (de_bin o_sub de_int (dv B (i := 1))) (da_cons (dv B (i := 2)) da_nil)))))) (dw_or (dt_not (dt_val (de_call B T.mg_law_is (ca_law_is_3 T) (by decide) rfl (da_cons (de_calB B T.no_abs boo_abs (c_abs B (ta_own_abs_Ratio T) (by decide)) rfl (da_cons (dv B (i := 3)) da_nil)) (da_cons (de_calB B T.no_abs boo_abs (c_abs B (ta_own_abs_Ratio T) (by decide)) rfl (da_cons (dv B (i := 1)) da_nil)) (da_cons (dv B (i := 2)) da_nil)))))) (dw_or1 (dt_not (dt_val (de_call B T.mg_law_is (ca_law_is_3 T) (by decide) rfl (da_cons (dv B (i := 3)) (da_cons (dv B (i := 1)) (da_cons (dv B (i := 2)) da_nil))))))))).pt (dss_one (ds_ret de_bl)) dss_nil) (dss_cons (dset B (i := 4) (dcpE (op_eqA B (ta_eq_eq_Ratio T) (by decide)) (de_at (tbl := []) (j := 0) B trivial (Nat.zero_le _) (dv B (i := 3))) de_int)) (dss_cons (ds_if (dtc (o_ne B) (de_bu B T.no_repr boo_repr (b_repr B) rfl (da_cons (de_lst (da_cons (dcpE (op_eqA B (ta_eq_eq_Ratio T) (by decide)) (dv B (i := 3)) (de_at (tbl := []) (j := 0) B trivial (Nat.zero_le _) (dv B (i := 3)))) (da_cons (dcpE (op_eqA B (ta_eq_eq_Ratio T) (by decide)) (de_at (tbl := []) (j := 0) B trivial (Nat.zero_le _) (dv B (i := 3))) (dv B (i := 3))) (da_cons (dcpE (op_neA B (ta_eq_eq_Ratio T) (by decide)) (dv B (i := 3)) (de_at (tbl := []) (j := 0) B trivial (Nat.zero_le _) (dv B (i := 3)))) da_nil)))) da_nil)) (de_bu B T.no_repr boo_repr (b_repr B) rfl (da_cons (de_lst (da_cons (dv B (i := 4)) (da_cons (dv B (i := 4)) (da_cons (de_not (dv B (i := 4))) da_nil)))) da_nil))) (dss_one (ds_ret de_bl)) dss_nil) (dss_cons (ds_if (dw_or (dtc (o_ne B) (de_bu B T.no_repr boo_repr (b_repr B) rfl (da_cons (de_calT B T.no_bool boo_bool (c_bool B (ta_own_bool_Ratio T) (by decide)) rfl (da_cons (dv B (i := 3)) da_nil)) da_nil)) (de_bu B T.no_repr boo_repr (b_repr B) rfl (da_cons (dcpE (op_neA B (ta_eq_eq_Ratio T) (by decide)) (dv B (i := 1)) de_int) da_nil))) (dw_or (dtcE (op_eqA B (ta_eq_eq_Ratio T) (by decide)) (dv B (i := 3)) (de_call B T.mg_c_Ratio (ca_Ratio_Ratio___init___2 T) (by decide) rfl (da_cons (de_bin (o_add B.hK) (dv B (i := 1)) de_int) (da_cons (dv B (i := 2)) da_nil)))) (dw_or1 (dtcE (op_neA B (ta_eq_eq_Ratio T) (by decide)) (de_call B T.mg_c_Ratio (ca_Ratio_Ratio___init___1 T) (by decide) rfl (da_cons (dv B (i := 1)) da_nil)) (dv B (i := 1)))))).pt (dss_one (ds_ret de_bl)) dss_nil) (dss_one (ds_ret (dcpE (op_eqA B (ta_eq_eq_Ratio T) (by decide)) (de_lc B (own := [(("_law_odd" : Str), 5)]) (di_list B (de_lst (da_cons de_non (da_cons (de_calT B T.no_str boo_str (c_str B (ta_own_str_Ratio T) (by decide)) rfl (da_cons (dv B (i := 3)) da_nil)) (da_cons (de_tup (da_cons (dv B (i := 1)) (da_cons (dv B (i := 2)) da_nil))) (da_cons de_bl (da_cons de_bl (da_cons (de_lst (da_cons (dv B (i := 3)) da_nil)) (da_cons de_dct0 da_nil))))))))) (blkOk_by (by decide +kernel)) (fun X' c' ec B' => by
  have T : Txt c'.toWd A := by rw [ec]; exact T
  try rw [← ec]
  exact ⟨(dgo_name B' (i := 5) rfl rfl (by decide)), (dts_one (dtcE (op_eqA B' (ta_eq_eq_Ratio T) (by decide)) (dv B' (i := 3)) (dv B' (i := 5)))), (dv B' (i := 5))⟩)) (de_lst da_nil)))))))))))
def sp_law_made_right (c : Wd) (A : Ad) : DSp := fun ds n P R => ds.length = 1 ∧ t_law_made_right c A (fnN P R) (startS N_law_made_right ds n)
theorem ok_law_made_right {c : Wd} {A : Ad} (T : Txt c A) : ∃ fd, FunD c.K "_law_made_right" "_law_made_right" (defArgs s_law_made_right) (defBody s_law_made_right) (defScope s_law_made_right) [] [] A.f_law_made_right fd ∧ FnG c 9 A.f_law_made_right fd [("_law_pen_here" : Str)] (liftSp c (sp_law_made_right c A)) := by
  obtain ⟨fd, F⟩ := T.F_law_made_right
  exact ⟨fd, F, fn_ok F sc_law_made_right (fun _ _ _ _ h => h.1) (dd_law_made_right T) (fun _ _ _ _ h => h.2)⟩
def cs_law_made_right_1 (c : Wd) (A : Ad) : DSp2 := fun ds es m P R => ds.length = 1 ∧ (sp_law_made_right c A) ds m P R
theorem ca_law_made_right_1 {c : Wd} {A : Ad} (T : Txt c A) : Callee c (.ref A.f_law_made_right) [] 9 (cs_law_made_right_1 c A) := by
  obtain ⟨fd, F, G⟩ := ok_law_made_right T
  exact callee_fn G F.kp (shape_n0 F fun _ _ _ _ _ _ us hl => match us, hl with | [_], _ => rfl)
theorem cq_law_made_right_1 {c : Wd} {A : Ad} {x0 : D} {z : Z} {P : D → Z → Prop} {R : Er → Z → Prop} : cs_law_made_right_1 c A [x0] [] z P R ↔ (sp_law_made_right c A) [x0] z P R := ⟨fun h => h.2, fun h => ⟨rfl, h⟩⟩
/-! _law_heard -/
def N_law_heard : List Str := [("_law_ask" : Str), ("_law_caught" : Str), ("error" : Str)]
theorem sc_law_heard : FnScope N_law_heard [("_law_ask" : Str)] (defScope s_law_heard) := ⟨rfl, rfl, rfl, by decide +kernel, rfl, by decide +kernel, by decide +kernel⟩
def u_law_heard_3 (c : Wd) (A : Ad) (f : Addr) (act : DAct) : DTS := dRet (dIf (dTB (dCalE (oIsA c) (dCons (dVar 1) (dCons (dC (.ref A.c_BadRatio)) (dNil))))) (dAt c ("part" : Str) [] (dVar 1)) (dC (.str ("odd" : Str))))
def u_law_heard_2 (c : Wd) (A : Ad) (f : Addr) (act : DAct) : DTS := dSeq (dIte (dTB (dBin (oIsN false) (dVar 1) (dC .non))) (dRet (dC .non)) (dNext)) (u_law_heard_3 c A f act)
def u_law_heard_1 (c : Wd) (A : Ad) (f : Addr) (act : DAct) : DTS := dSeq (dTryKeep c (.ref A.c_CreditError) 2 1 (dDrop (dAct f act 0))) (u_law_heard_2 c A f act)
def t_law_heard (c : Wd) (A : Ad) (f : Addr) (act : DAct) : DTS := dSeq (dSet 1 (dC .non)) (u_law_heard_1 c A f act)
theorem dd_law_heard {c : Wd} {A : Ad} (T : Txt c A) (X : Cx) (cf : Fr) (W : WX) (f : Addr) (act : DAct) (ec : cf.toWd = c) (B : XB X cf W N_law_heard (defScope s_law_heard) 7 false) (hact : ∀ pn xe W1 (p pos : Pos), XB (X.tr pn xe) cf W1 N_law_heard (defScope s_law_heard) 7 false → DE (X.tr pn xe) cf W1 (.Call (.Name "_law_ask" p) [] [] pos) (dAct f act 0)) : DSs X cf W (defBody s_law_heard) (t_law_heard c A f act) := by
  subst ec
  exact (dss_cons (dset B (i := 1) de_non) (dss_cons (ds_tryKeep B (i := 2) (jj := 1) rfl rfl rfl (by first | exact Or.inl rfl | exact Or.inr rfl) rfl T.mg_c_CreditError (fun pn xe W1 B1 => (dss_one (ds_expr (hact pn xe W1 _ _ B1))))) (dss_cons (ds_if (dtc o_isN (dv B (i := 1)) de_non) (dss_one (ds_ret de_non)) dss_nil) (dss_one (ds_ret (de_if (dt_val (de_calB B T.no_isinstance boo_isinstance (c_isa B) rfl (da_cons (dv B (i := 1)) (da_cons (de_glob B (v := .ref A.c_BadRatio) rfl T.mg_c_BadRatio rfl (fun _ => .ref _)) da_nil)))) (de_at (tbl := []) (j := 0) B trivial (Nat.zero_le _) (dv B (i := 1))) de_str))))))
def ga_law_heard (c : Wd) (A : Ad) : DSpA := fun f act z P => t_law_heard c A f act (fnN P (fun _ _ => False)) (startS N_law_heard [.ref f] z)
theorem gok_law_heard {c : Wd} {A : Ad} (T : Txt c A) : GAct c A.f_law_heard 8 7 (ga_law_heard c A) := by
  obtain ⟨fd, F⟩ := T.F_law_heard
  exact g_act F sc_law_heard (bnd1 F fun _ _ _ _ _ _ u => rfl) (fun X cf W f act ec B hact => dd_law_heard T X cf W f act ec B hact) (by first | exact .inl rfl | exact .inr (.inl rfl)) rfl (by decide)
/-! _law_refused_right -/
def N_law_refused_right : List Str := [("_law_pen_here" : Str), ("_law_odd" : Str), ("_law_more" : Str), ("_law_fine" : Str), ("_law_heard_here" : Str)]
theorem sc_law_refused_right : FnScope N_law_refused_right [("_law_pen_here" : Str)] (defScope s_law_refused_right) := ⟨rfl, rfl, rfl, by decide +kernel, rfl, by decide +kernel, by decide +kernel⟩
def u_law_refused_right_8 (c : Wd) (A : Ad) : DTS := dRet (dBinE (oEqA c (tq_eq_eq_Ratio c A)) (dVar 4) (dLst (dCons (dC (.str ("top" : Str))) (dCons (dC (.str ("top" : Str))) (dCons (dC (.str ("bottom" : Str))) (dCons (dC (.str ("bottom" : Str))) (dCons (dC .non) (dNil))))))))
def u_law_refused_right_7 (c : Wd) (A : Ad) : DTS := dSeq (dApp 4 (dLam false (ga_law_heard c A) (dCall (fun ds zs n P R => zs = [] ∧ (cs_Ratio_Ratio___init___1 c A) ds [] n P R) (dCons (dVar 3) (dNil)) dNil))) (u_law_refused_right_8 c A)
def u_law_refused_right_6 (c : Wd) (A : Ad) : DTS := dSeq (dApp 4 (dLam false (ga_law_heard c A) (dCall (fun ds zs n P R => zs.length = 2 ∧ (cs_Ratio_Ratio___init___0_bottom_top c A) ds zs n P R) dNil (dCons (dVar 2) (dCons (dVar 3) (dNil)))))) (u_law_refused_right_7 c A)
def u_law_refused_right_5 (c : Wd) (A : Ad) : DTS := dSeq (dApp 4 (dLam false (ga_law_heard c A) (dCall (fun ds zs n P R => zs = [] ∧ (cs_Ratio_Ratio___init___2 c A) ds [] n P R) (dCons (dVar 3) (dCons (dVar 2) (dNil))) dNil))) (u_law_refused_right_6 c A)
def u_law_refused_right_4 (c : Wd) (A : Ad) : DTS := dSeq (dApp 4 (dLam false (ga_law_heard c A) (dCall (fun ds zs n P R => zs = [] ∧ (cs_Ratio_Ratio___init___1 c A) ds [] n P R) (dCons (dVar 1) (dNil)) dNil))) (u_law_refused_right_5 c A)
def u_law_refused_right_3 (c : Wd) (A : Ad) : DTS := dSeq (dOwn 4 (dCons (dLam false (ga_law_heard c A) (dCall (fun ds zs n P R => zs = [] ∧ (cs_Ratio_Ratio___init___2 c A) ds [] n P R) (dCons (dVar 1) (dCons (dVar 2) (dNil))) dNil)) (dNil))) (u_law_refused_right_4 c A)
def u_law_refused_right_2 (c : Wd) (A : Ad) : DTS := dSeq (dSet 3 (dCall (fun ds zs n P R => zs = [] ∧ (cs_law_size_1 c A) ds [] n P R) (dCons (dVar 0) (dNil)) dNil)) (u_law_refused_right_3 c A)
def u_law_refused_right_1 (c : Wd) (A : Ad) : DTS := dSeq (dSet 2 (dCall (fun ds zs n P R => zs = [] ∧ (cs_law_pick_2 c A) ds [] n P R) (dCons (dVar 0) (dCons (dLst (dCons (dC .non) (dCons (dC (.int 0)) (dCons (dC (.bl true)) (dCons (dC (.str ("1" : Str))) (dCons (dTup (dCons (dC (.int 1)) (dNil))) (dCons (dLst (dCons (dC (.int 2)) (dNil))) (dCons (dC (.dct [])) (dCons (dCall (fun ds zs n P R => zs = [] ∧ (cs_Ratio_Ratio___init___1 c A) ds [] n P R) (dCons (dC (.int 3)) (dNil)) dNil) (dNil)))))))))) (dNil))) dNil)) (u_law_refused_right_2 c A)
def t_law_refused_right (c : Wd) (A : Ad) : DTS := dSeq (dSet 1 (dCall (fun ds zs n P R => zs = [] ∧ (cs_law_pick_2 c A) ds [] n P R) (dCons (dVar 0) (dCons (dLst (dCons (dC .non) (dCons (dC (.bl true)) (dCons (dC (.bl false)) (dCons (dC (.str ("3" : Str))) (dCons (dTup (dCons (dC (.int 3)) (dNil))) (dCons (dLst (dNil)) (dCons (dC (.dct [])) (dCons (dCall (fun ds zs n P R => zs = [] ∧ (cs_Ratio_Ratio___init___2 c A) ds [] n P R) (dCons (dC (.int 1)) (dCons (dC (.int 2)) (dNil))) dNil) (dNil)))))))))) (dNil))) dNil)) (u_law_refused_right_1 c A)
theorem dd_law_refused_right {c : Wd} {A : Ad} (T : Txt c A) (X : Cx) (cf : Fr) (W : WX) (ec : cf.toWd = c) (B : XB X cf W N_law_refused_right (defScope s_law_refused_right) 8 false) (at_ : AtF c.K A.f_law_refused_right ("_law_refused_right" : Str) X.env) : DSs X cf W (defBody s_law_refused_right) (t_law_refused_right c A) := by
  subst ec
  have LH := T.lm_law_refused_right.h at_
  exact (dss_cons (dset B (i := 1) (de_call B T.mg_law_pick (ca_law_pick_2 T) (by decide) rfl (da_cons (dv B (i := 0)) (da_cons (de_lst (da_cons de_non (da_cons de_bl (da_cons de_bl (da_cons de_str (da_cons (de_tup (da_cons de_int da_nil)) (da_cons (de_lst da_nil) (da_cons de_dct0 (da_cons (de_call B T.mg_c_Ratio (ca_Ratio_Ratio___init___2 T) (by decide) rfl (da_cons de_int (da_cons de_int da_nil))) da_nil))))))))) da_nil)))) (dss_cons (dset B (i := 2) (de_call B T.mg_law_pick (ca_law_pick_2 T) (by decide) rfl (da_cons (dv B (i := 0)) (da_cons (de_lst (da_cons de_non (da_cons de_int (da_cons de_bl (da_cons de_str (da_cons (de_tup (da_cons de_int da_nil)) (da_cons (de_lst (da_cons de_int da_nil)) (da_cons de_dct0 (da_cons (de_call B T.mg_c_Ratio (ca_Ratio_Ratio___init___1 T) (by decide) rfl (da_cons de_int da_nil)) da_nil))))))))) da_nil)))) (dss_cons (dset B (i := 3) (de_call B T.mg_law_size (ca_law_size_1 T) (by decide) rfl (da_cons (dv B (i := 0)) da_nil))) (dss_cons (down B (i := 4) (da_cons (de_lam (ja := 6) B LH T.mg_law_heard (gok_law_heard T) (by decide) rfl (by first | exact ⟨rfl, rfl, rfl, by decide +kernel, by decide +kernel⟩) (fun X' c' W' ec B' => by
  have T : Txt c'.toWd A := by rw [ec]; exact T
  try rw [← ec]
  exact (de_call B' T.mg_c_Ratio (ca_Ratio_Ratio___init___2 T) (by decide) rfl (da_cons (dv B' (i := 1)) (da_cons (dv B' (i := 2)) da_nil))))) da_nil)) (dss_cons (dapp B (i := 4) (de_lam (ja := 6) B LH T.mg_law_heard (gok_law_heard T) (by decide) rfl (by first | exact ⟨rfl, rfl, rfl, by decide +kernel, by decide +kernel⟩) (fun X' c' W' ec B' => by
  have T : Txt c'.toWd A := by rw [ec]; exact T
  try rw [← ec]
  exact (de_call B' T.mg_c_Ratio (ca_Ratio_Ratio___init___1 T) (by decide) rfl (da_cons (dv B' (i := 1)) da_nil))))) (dss_cons (dapp B (i := 4) (de_lam (ja := 6) B LH T.mg_law_heard (gok_law_heard T) (by decide) rfl (by first | exact ⟨rfl, rfl, rfl, by decide +kernel, by decide +kernel⟩) (fun X' c' W' ec B' => by
  have T : Txt c'.toWd A := by rw [ec]; exact T
  try rw [← ec]
  exact (de_call B' T.mg_c_Ratio (ca_Ratio_Ratio___init___2 T) (by decide) rfl (da_cons (dv B' (i := 3)) (da_cons (dv B' (i := 2)) da_nil)))))) (dss_cons (dapp B (i := 4) (de_lam (ja := 6) B LH T.mg_law_heard (gok_law_heard T) (by decide) rfl (by first | exact ⟨rfl, rfl, rfl, by decide +kernel, by decide +kernel⟩) (fun X' c' W' ec B' => by
  have T : Txt c'.toWd A := by rw [ec]; exact T
  try rw [← ec]
  exact (de_callK0 B' T.mg_c_Ratio (ca_Ratio_Ratio___init___0_bottom_top T) (by decide) rfl (dk_cons (dv B' (i := 2)) (dk_cons (dv B' (i := 3)) dk_nil)))))) (dss_cons (dapp B (i := 4) (de_lam (ja := 6) B LH T.mg_law_heard (gok_law_heard T) (by decide) rfl (by first | exact ⟨rfl, rfl, rfl, by decide +kernel, by decide +kernel⟩) (fun X' c' W' ec B' => by
  have T : Txt c'.toWd A := by rw [ec]; exact T
  try rw [← ec]
  exact (de_call B' T.mg_c_Ratio (ca_Ratio_Ratio___init___1 T) (by decide) rfl (da_cons (dv B' (i := 3)) da_nil))))) (dss_one (ds_ret (dcpE (op_eqA B (ta_eq_eq_Ratio T) (by decide)) (dv B (i := 4)) (de_lst (da_cons de_str (da_cons de_str (da_cons de_str (da_cons de_str (da_cons de_non da_nil)))))))))))))))))
def sp_law_refused_right (c : Wd) (A : Ad) : DSp := fun ds n P R => ds.length = 1 ∧ t_law_refused_right c A (fnN P R) (startS N_law_refused_right ds n)
theorem ok_law_refused_right {c : Wd} {A : Ad} (T : Txt c A) : ∃ fd, FunD c.K "_law_refused_right" "_law_refused_right" (defArgs s_law_refused_right) (defBody s_law_refused_right) (defScope s_law_refused_right) [] [] A.f_law_refused_right fd ∧ FnG c 9 A.f_law_refused_right fd [("_law_pen_here" : Str)] (liftSp c (sp_law_refused_right c A)) := by
  obtain ⟨fd, F⟩ := T.F_law_refused_right
  exact ⟨fd, F, fn_okL F sc_law_refused_right (fun _ _ _ _ h => h.1) (dd_law_refused_right T) (fun _ _ _ _ h => h.2)⟩
def cs_law_refused_right_1 (c : Wd) (A : Ad) : DSp2 := fun ds es m P R => ds.length = 1 ∧ (sp_law_refused_right c A) ds m P R
theorem ca_law_refused_right_1 {c : Wd} {A : Ad} (T : Txt c A) : Callee c (.ref A.f_law_refused_right) [] 9 (cs_law_refused_right_1 c A) := by
  obtain ⟨fd, F, G⟩ := ok_law_refused_right T
  exact callee_fn G F.kp (shape_n0 F fun _ _ _ _ _ _ us hl => match us, hl with | [_], _ => rfl)
theorem cq_law_refused_right_1 {c : Wd} {A : Ad} {x0 : D} {z : Z} {P : D → Z → Prop} {R : Er → Z → Prop} : cs_law_refused_right_1 c A [x0] [] z P R ↔ (sp_law_refused_right c A) [x0] z P R := ⟨fun h => h.2, fun h => ⟨rfl, h⟩⟩
/-! law -/
def N_law : List Str := [("_law_script" : Str), ("_law_pen_here" : Str), ("_law_lap" : Str)]
theorem sc_law : FnScope N_law [("_law_script" : Str)] (defScope s_law) := ⟨rfl, rfl, rfl, by decide +kernel, rfl, by decide +kernel, by decide +kernel⟩
def u_law_1 (c : Wd) (A : Ad) : DTS := dRet (dBinE (oEqA c (tq_eq_eq_Ratio c A)) (dLst (dCons (dAt c ("top" : Str) [] (dCall (fun ds zs n P R => zs = [] ∧ (cs_Ratio_Ratio___init___2 c A) ds [] n P R) (dCons (dC (.int 0)) (dCons (dUnE (oNegA []) (dC (.int 5))) (dNil))) dNil)) (dCons (dAt c ("bottom" : Str) [] (dCall (fun ds zs n P R => zs = [] ∧ (cs_Ratio_Ratio___init___2 c A) ds [] n P R) (dCons (dC (.int 0)) (dCons (dUnE (oNegA []) (dC (.int 5))) (dNil))) dNil)) (dCons (dBinE (oEqA c (tq_eq_eq_Ratio c A)) (dCall (fun ds zs n P R => zs = [] ∧ (cs_Ratio_Ratio___init___2 c A) ds [] n P R) (dCons (dC (.int 0)) (dCons (dC (.int 9)) (dNil))) dNil) (dC (.int 0))) (dCons (dCalE (oBoolA (tq_own_bool_Ratio c A)) (dCons (dCall (fun ds zs n P R => zs = [] ∧ (cs_Ratio_Ratio___init___1 c A) ds [] n P R) (dCons (dC (.int 0)) (dNil)) dNil) (dNil))) (dNil)))))) (dLst (dCons (dC (.int 0)) (dCons (dC (.int 1)) (dCons (dC (.bl true)) (dCons (dC (.bl false)) (dNil)))))))
def t_law (c : Wd) (A : Ad) : DTS := dSeq (dFor (dRng1 (dCons (dC (.int 10)) (dNil))) (gN 2) (dIte (dOr (dNot (dTB (dCall (fun ds zs n P R => zs = [] ∧ (cs_law_made_right_1 c A) ds [] n P R) (dCons (dVar 1) (dNil)) dNil))) (dNot (dTB (dCall (fun ds zs n P R => zs = [] ∧ (cs_law_refused_right_1 c A) ds [] n P R) (dCons (dVar 1) (dNil)) dNil)))) (dRet (dC (.bl false))) (dNext))) (u_law_1 c A)
theorem dd_law {c : Wd} {A : Ad} (T : Txt c A) (X : Cx) (cf : Fr) (W : WX) (ec : cf.toWd = c) (B : XB X cf W N_law (defScope s_law) 9 false) : DSs X cf W (List.drop 1 (defBody s_law)) (t_law c A) := by
  subst ec
  exact (dss_cons (ds_for B (di_range1 B rfl T.no_range (da_cons de_int da_nil)) (dgn B (i := 2)) (dss_one (ds_if (dw_or (dt_not (dt_val (de_call B T.mg_law_made_right (ca_law_made_right_1 T) (by decide) rfl (da_cons (dv B (i := 1)) da_nil)))) (dw_or1 (dt_not (dt_val (de_call B T.mg_law_refused_right (ca_law_refused_right_1 T) (by decide) rfl (da_cons (dv B (i := 1)) da_nil)))))).pt (dss_one (ds_ret de_bl)) dss_nil))) (dss_one (ds_ret (dcpE (op_eqA B (ta_eq_eq_Ratio T) (by decide)) (de_lst (da_cons (de_at (tbl := []) (j := 0) B trivial (Nat.zero_le _) (de_call B T.mg_c_Ratio (ca_Ratio_Ratio___init___2 T) (by decide) rfl (da_cons de_int (da_cons (de_unE (u_neg (j := 0) B trivial (Nat.zero_le _)) de_int) da_nil)))) (da_cons (de_at (tbl := []) (j := 0) B trivial (Nat.zero_le _) (de_call B T.mg_c_Ratio (ca_Ratio_Ratio___init___2 T) (by decide) rfl (da_cons de_int (da_cons (de_unE (u_neg (j := 0) B trivial (Nat.zero_le _)) de_int) da_nil)))) (da_cons (dcpE (op_eqA B (ta_eq_eq_Ratio T) (by decide)) (de_call B T.mg_c_Ratio (ca_Ratio_Ratio___init___2 T) (by decide) rfl (da_cons de_int (da_cons de_int da_nil))) de_int) (da_cons (de_calT B T.no_bool boo_bool (c_bool B (ta_own_bool_Ratio T) (by decide)) rfl (da_cons (de_call B T.mg_c_Ratio (ca_Ratio_Ratio___init___1 T) (by decide) rfl (da_cons de_int da_nil)) da_nil)) da_nil))))) (de_lst (da_cons de_int (da_cons de_int (da_cons de_bl (da_cons de_bl da_nil)))))))))
theorem isa_NoneType_BadRatio {c : Wd} {A : Ad} (T : Txt c A) {z : Z} {P : D → Z → Prop} {E : Er → Z → Prop} : oIsA c [.non, (.ref A.c_BadRatio)] z P E ↔ P (.bl false) z := isa_bt T.kt_NoneType_BadRatio
theorem isa_bool_BadRatio {c : Wd} {A : Ad} (T : Txt c A) {b : Bool} {z : Z} {P : D → Z → Prop} {E : Er → Z → Prop} : oIsA c [(.bl b), (.ref A.c_BadRatio)] z P E ↔ P (.bl false) z := isa_bt T.kt_bool_BadRatio
theorem isa_int_BadRatio {c : Wd} {A : Ad} (T : Txt c A) {i : Int} {z : Z} {P : D → Z → Prop} {E : Er → Z → Prop} : oIsA c [(.int i), (.ref A.c_BadRatio)] z P E ↔ P (.bl false) z := isa_bt T.kt_int_BadRatio
theorem isa_str_BadRatio {c : Wd} {A : Ad} (T : Txt c A) {s : Str} {z : Z} {P : D → Z → Prop} {E : Er → Z → Prop} : oIsA c [(.str s), (.ref A.c_BadRatio)] z P E ↔ P (.bl false) z := isa_bt T.kt_str_BadRatio
theorem isa_list_BadRatio {c : Wd} {A : Ad} (T : Txt c A) {xs : List D} {z : Z} {P : D → Z → Prop} {E : Er → Z → Prop} : oIsA c [(.lst xs), (.ref A.c_BadRatio)] z P E ↔ P (.bl false) z := isa_bt T.kt_list_BadRatio
theorem isa_tuple_BadRatio {c : Wd} {A : Ad} (T : Txt c A) {xs : List D} {z : Z} {P : D → Z → Prop} {E : Er → Z → Prop} : oIsA c [(.tup xs), (.ref A.c_BadRatio)] z P E ↔ P (.bl false) z := isa_bt T.kt_tuple_BadRatio
theorem isa_dict_BadRatio {c : Wd} {A : Ad} (T : Txt c A) {xs : List (Key × D)} {z : Z} {P : D → Z → Prop} {E : Er → Z → Prop} : oIsA c [(.dct xs), (.ref A.c_BadRatio)] z P E ↔ P (.bl false) z := isa_bt T.kt_dict_BadRatio
theorem isa_c_Ratio_BadRatio {c : Wd} {A : Ad} (T : Txt c A) {fs : List (Str × D)} {z : Z} {P : D → Z → Prop} {E : Er → Z → Prop} : oIsA c [.ins A.c_Ratio fs, (.ref A.c_BadRatio)] z P E ↔ P (.bl false) z := isa_in T.ci_Ratio T.kt_c_Ratio_BadRatio
theorem isa_x_BadRatio_BadRatio {c : Wd} {A : Ad} (T : Txt c A) {fs : List (Str × D)} {z : Z} {P : D → Z → Prop} {E : Er → Z → Prop} : oIsA c [.exc (.ref A.c_BadRatio) fs, (.ref A.c_BadRatio)] z P E ↔ P (.bl true) z := isa_ex T.xc_BadRatio T.kt_c_BadRatio_BadRatio
theorem isa_NoneType_Ratio {c : Wd} {A : Ad} (T : Txt c A) {z : Z} {P : D → Z → Prop} {E : Er → Z → Prop} : oIsA c [.non, (.ref A.c_Ratio)] z P E ↔ P (.bl false) z := isa_bt T.kt_NoneType_Ratio
theorem isa_bool_Ratio {c : Wd} {A : Ad} (T : Txt c A) {b : Bool} {z : Z} {P : D → Z → Prop} {E : Er → Z → Prop} : oIsA c [(.bl b), (.ref A.c_Ratio)] z P E ↔ P (.bl false) z := isa_bt T.kt_bool_Ratio
theorem isa_int_Ratio {c : Wd} {A : Ad} (T : Txt c A) {i : Int} {z : Z} {P : D → Z → Prop} {E : Er → Z → Prop} : oIsA c [(.int i), (.ref A.c_Ratio)] z P E ↔ P (.bl false) z := isa_bt T.kt_int_Ratio
theorem isa_str_Ratio {c : Wd} {A : Ad} (T : Txt c A) {s : Str} {z : Z} {P : D → Z → Prop} {E : Er → Z → Prop} : oIsA c [(.str s), (.ref A.c_Ratio)] z P E ↔ P (.bl false) z := isa_bt T.kt_str_Ratio
theorem isa_list_Ratio {c : Wd} {A : Ad} (T : Txt c A) {xs : List D} {z : Z} {P : D → Z → Prop} {E : Er → Z → Prop} : oIsA c [(.lst xs), (.ref A.c_Ratio)] z P E ↔ P (.bl false) z := isa_bt T.kt_list_Ratio
theorem isa_tuple_Ratio {c : Wd} {A : Ad} (T : Txt c A) {xs : List D} {z : Z} {P : D → Z → Prop} {E : Er → Z → Prop} : oIsA c [(.tup xs), (.ref A.c_Ratio)] z P E ↔ P (.bl false) z := isa_bt T.kt_tuple_Ratio
theorem isa_dict_Ratio {c : Wd} {A : Ad} (T : Txt c A) {xs : List (Key × D)} {z : Z} {P : D → Z → Prop} {E : Er → Z → Prop} : oIsA c [(.dct xs), (.ref A.c_Ratio)] z P E ↔ P (.bl false) z := isa_bt T.kt_dict_Ratio
theorem isa_c_Ratio_Ratio {c : Wd} {A : Ad} (T : Txt c A) {fs : List (Str × D)} {z : Z} {P : D → Z → Prop} {E : Er → Z → Prop} : oIsA c [.ins A.c_Ratio fs, (.ref A.c_Ratio)] z P E ↔ P (.bl true) z := isa_in T.ci_Ratio T.kt_c_Ratio_Ratio
theorem isa_x_BadRatio_Ratio {c : Wd} {A : Ad} (T : Txt c A) {fs : List (Str × D)} {z : Z} {P : D → Z → Prop} {E : Er → Z → Prop} : oIsA c [.exc (.ref A.c_BadRatio) fs, (.ref A.c_Ratio)] z P E ↔ P (.bl false) z := isa_ex T.xc_BadRatio T.kt_c_BadRatio_Ratio
theorem isa_NoneType_bool {c : Wd} {A : Ad} (T : Txt c A) {z : Z} {P : D → Z → Prop} {E : Er → Z → Prop} : oIsA c [.non, (.ty "bool")] z P E ↔ P (.bl false) z := isa_bt T.kt_NoneType_bool
theorem isa_bool_bool {c : Wd} {A : Ad} (T : Txt c A) {b : Bool} {z : Z} {P : D → Z → Prop} {E : Er → Z → Prop} : oIsA c [(.bl b), (.ty "bool")] z P E ↔ P (.bl true) z := isa_bt T.kt_bool_bool
theorem isa_int_bool {c : Wd} {A : Ad} (T : Txt c A) {i : Int} {z : Z} {P : D → Z → Prop} {E : Er → Z → Prop} : oIsA c [(.int i), (.ty "bool")] z P E ↔ P (.bl false) z := isa_bt T.kt_int_bool
theorem isa_str_bool {c : Wd} {A : Ad} (T : Txt c A) {s : Str} {z : Z} {P : D → Z → Prop} {E : Er → Z → Prop} : oIsA c [(.str s), (.ty "bool")] z P E ↔ P (.bl false) z := isa_bt T.kt_str_bool
theorem isa_list_bool {c : Wd} {A : Ad} (T : Txt c A) {xs : List D} {z : Z} {P : D → Z → Prop} {E : Er → Z → Prop} : oIsA c [(.lst xs), (.ty "bool")] z P E ↔ P (.bl false) z := isa_bt T.kt_list_bool
theorem isa_tuple_bool {c : Wd} {A : Ad} (T : Txt c A) {xs : List D} {z : Z} {P : D → Z → Prop} {E : Er → Z → Prop} : oIsA c [(.tup xs), (.ty "bool")] z P E ↔ P (.bl false) z := isa_bt T.kt_tuple_bool
theorem isa_dict_bool {c : Wd} {A : Ad} (T : Txt c A) {xs : List (Key × D)} {z : Z} {P : D → Z → Prop} {E : Er → Z → Prop} : oIsA c [(.dct xs), (.ty "bool")] z P E ↔ P (.bl false) z := isa_bt T.kt_dict_bool
theorem isa_c_Ratio_bool {c : Wd} {A : Ad} (T : Txt c A) {fs : List (Str × D)} {z : Z} {P : D → Z → Prop} {E : Er → Z → Prop} : oIsA c [.ins A.c_Ratio fs, (.ty "bool")] z P E ↔ P (.bl false) z := isa_in T.ci_Ratio T.kt_c_Ratio_bool
theorem isa_x_BadRatio_bool {c : Wd} {A : Ad} (T : Txt c A) {fs : List (Str × D)} {z : Z} {P : D → Z → Prop} {E : Er → Z → Prop} : oIsA c [.exc (.ref A.c_BadRatio) fs, (.ty "bool")] z P E ↔ P (.bl false) z := isa_ex T.xc_BadRatio T.kt_c_BadRatio_bool
theorem isa_NoneType_int {c : Wd} {A : Ad} (T : Txt c A) {z : Z} {P : D → Z → Prop} {E : Er → Z → Prop} : oIsA c [.non, (.ty "int")] z P E ↔ P (.bl false) z := isa_bt T.kt_NoneType_int
theorem isa_bool_int {c : Wd} {A : Ad} (T : Txt c A) {b : Bool} {z : Z} {P : D → Z → Prop} {E : Er → Z → Prop} : oIsA c [(.bl b), (.ty "int")] z P E ↔ P (.bl true) z := isa_bt T.kt_bool_int
theorem isa_int_int {c : Wd} {A : Ad} (T : Txt c A) {i : Int} {z : Z} {P : D → Z → Prop} {E : Er → Z → Prop} : oIsA c [(.int i), (.ty "int")] z P E ↔ P (.bl true) z := isa_bt T.kt_int_int
theorem isa_str_int {c : Wd} {A : Ad} (T : Txt c A) {s : Str} {z : Z} {P : D → Z → Prop} {E : Er → Z → Prop} : oIsA c [(.str s), (.ty "int")] z P E ↔ P (.bl false) z := isa_bt T.kt_str_int
theorem isa_list_int {c : Wd} {A : Ad} (T : Txt c A) {xs : List D} {z : Z} {P : D → Z → Prop} {E : Er → Z → Prop} : oIsA c [(.lst xs), (.ty "int")] z P E ↔ P (.bl false) z := isa_bt T.kt_list_int
theorem isa_tuple_int {c : Wd} {A : Ad} (T : Txt c A) {xs : List D} {z : Z} {P : D → Z → Prop} {E : Er → Z → Prop} : oIsA c [(.tup xs), (.ty "int")] z P E ↔ P (.bl false) z := isa_bt T.kt_tuple_int
theorem isa_dict_int {c : Wd} {A : Ad} (T : Txt c A) {xs : List (Key × D)} {z : Z} {P : D → Z → Prop} {E : Er → Z → Prop} : oIsA c [(.dct xs), (.ty "int")] z P E ↔ P (.bl false) z := isa_bt T.kt_dict_int
theorem isa_c_Ratio_int {c : Wd} {A : Ad} (T : Txt c A) {fs : List (Str × D)} {z : Z} {P : D → Z → Prop} {E : Er → Z → Prop} : oIsA c [.ins A.c_Ratio fs, (.ty "int")] z P E ↔ P (.bl false) z := isa_in T.ci_Ratio T.kt_c_Ratio_int
theorem isa_x_BadRatio_int {c : Wd} {A : Ad} (T : Txt c A) {fs : List (Str × D)} {z : Z} {P : D → Z → Prop} {E : Er → Z → Prop} : oIsA c [.exc (.ref A.c_BadRatio) fs, (.ty "int")] z P E ↔ P (.bl false) z := isa_ex T.xc_BadRatio T.kt_c_BadRatio_int
theorem np_Ratio_NoneType {c : Wd} {A : Ad} (T : Txt c A) : notF c A.c_Ratio .non := T.nf_Ratio_NoneType
theorem np_Ratio_bool {c : Wd} {A : Ad} (T : Txt c A) {b : Bool} : notF c A.c_Ratio (.bl b) := T.nf_Ratio_bool
theorem np_Ratio_int {c : Wd} {A : Ad} (T : Txt c A) {i : Int} : notF c A.c_Ratio (.int i) := T.nf_Ratio_int
theorem np_Ratio_str {c : Wd} {A : Ad} (T : Txt c A) {s : Str} : notF c A.c_Ratio (.str s) := T.nf_Ratio_str
theorem np_Ratio_list {c : Wd} {A : Ad} (T : Txt c A) {xs : List D} : notF c A.c_Ratio (.lst xs) := T.nf_Ratio_list
theorem np_Ratio_tuple {c : Wd} {A : Ad} (T : Txt c A) {xs : List D} : notF c A.c_Ratio (.tup xs) := T.nf_Ratio_tuple
theorem np_Ratio_dict {c : Wd} {A : Ad} (T : Txt c A) {xs : List (Key × D)} : notF c A.c_Ratio (.dct xs) := T.nf_Ratio_dict
theorem np_Ratio_c_Ratio {c : Wd} {A : Ad} (T : Txt c A) {fs : List (Str × D)} : notF c A.c_Ratio (.ins A.c_Ratio fs) := ⟨T.ci_Ratio, T.nf_Ratio_c_Ratio⟩
abbrev o_Ratio (A : Ad) (x0 x1 : D) : D := .ins A.c_Ratio [(("top" : Str), x0), (("bottom" : Str), x1)]
theorem lk_Ratio_top {x0 x1 : D} : List.lookup ("top" : Str) [(("top" : Str), x0), (("bottom" : Str), x1)] = some x0 := rfl
theorem lk_Ratio_bottom {x0 x1 : D} : List.lookup ("bottom" : Str) [(("top" : Str), x0), (("bottom" : Str), x1)] = some x1 := rfl
theorem pd_Ratio_top {x0 : D} : putD ("top" : Str) x0 [] = [(("top" : Str), x0)] := rfl
theorem pd_Ratio_bottom {x0 x1 : D} : putD ("bottom" : Str) x1 [(("top" : Str), x0)] = [(("top" : Str), x0), (("bottom" : Str), x1)] := rfl
abbrev xo_BadRatio (A : Ad) (x0 : D) : Er := ⟨.ref A.c_BadRatio, [(("part" : Str), x0)]⟩
theorem lx_BadRatio_part {x0 : D} : List.lookup ("part" : Str) [(("part" : Str), x0)] = some x0 := rfl
theorem txt {P : Program} {w : World} {K : PySem.W.Frag} {mg : Str → Option Value} {base h : Heap} {p : Addr} {cs : List Int} {f_law f_law_pen f_law_made_right f_law_pair f_law_draw f_law_pick f_law_size f_Ratio___init__ c_Ratio f_is_int c_BadRatio f_BadRatio_init f_law_is f_Ratio___eq__ f_law_divisor f_Ratio___abs__ f_Ratio___neg__ f_Ratio___bool__ f_Ratio___str__ f_law_refused_right f_law_heard c_CreditError cc_law_refused_right pt_law_refused_right : Addr} (X : K.In h) (G : h.Ns mainGlobals mg)
    {oc_law kV_law dc_law pm_law cd_law ct_law : Value} {od_law an_law : Option Addr} {sl_law : Array (Option Value)}
    {oc_law_pen kV_law_pen dc_law_pen pm_law_pen cd_law_pen ct_law_pen : Value} {od_law_pen an_law_pen : Option Addr} {sl_law_pen : Array (Option Value)}
    {oc_law_made_right kV_law_made_right dc_law_made_right pm_law_made_right cd_law_made_right ct_law_made_right : Value} {od_law_made_right an_law_made_right : Option Addr} {sl_law_made_right : Array (Option Value)}
    {oc_law_pair kV_law_pair dc_law_pair pm_law_pair cd_law_pair ct_law_pair : Value} {od_law_pair an_law_pair : Option Addr} {sl_law_pair : Array (Option Value)}
    {oc_law_draw kV_law_draw dc_law_draw pm_law_draw cd_law_draw ct_law_draw : Value} {od_law_draw an_law_draw : Option Addr} {sl_law_draw : Array (Option Value)}
    {oc_law_pick kV_law_pick dc_law_pick pm_law_pick cd_law_pick ct_law_pick : Value} {od_law_pick an_law_pick : Option Addr} {sl_law_pick : Array (Option Value)}
    {oc_law_size kV_law_size dc_law_size pm_law_size cd_law_size ct_law_size : Value} {od_law_size an_law_size : Option Addr} {sl_law_size : Array (Option Value)}
    {oc_Ratio___init__ kV_Ratio___init__ dc_Ratio___init__ pm_Ratio___init__ cd_Ratio___init__ ct_Ratio___init__ : Value} {od_Ratio___init__ an_Ratio___init__ : Option Addr} {sl_Ratio___init__ : Array (Option Value)}
    {dt_Ratio___init__ : Addr} {oe_Ratio___init__ : Value} {of_Ratio___init__ : Option Addr} {it_Ratio___init__ : Array Value} {im_Ratio___init__ : Nat} {sm_Ratio___init__ : Array (Option Value)}
    {oc_is_int kV_is_int dc_is_int pm_is_int cd_is_int ct_is_int : Value} {od_is_int an_is_int : Option Addr} {sl_is_int : Array (Option Value)}
    {oc_BadRatio_init kV_BadRatio_init dc_BadRatio_init pm_BadRatio_init ct_BadRatio_init : Value} {od_BadRatio_init an_BadRatio_init : Option Addr} {sl_BadRatio_init : Array (Option Value)} {cc_BadRatio_init cf_BadRatio_init : Addr}
    {nm_BadRatio_init : Str} {q_BadRatio_init : Str} {N_BadRatio_init : Addr} {bs_BadRatio_init : List Value} {bm_BadRatio_init : List Value} {sn_BadRatio_init : List Str} {sub_BadRatio_init : List Value} {ab_BadRatio_init : Bool} {col_BadRatio_init : Option Bool} {dd_BadRatio_init : Option Addr} {k0_BadRatio_init : Option Value} {k1_BadRatio_init : Option Value} {k2_BadRatio_init : Option Value} {k3_BadRatio_init : Option Value} {k5_BadRatio_init : Option Value}
    {fc_BadRatio_init : Value} {fd_BadRatio_init : Option Addr} {fv_BadRatio_init : Array Value} {fs_BadRatio_init : Array (Option Value)} {ff_BadRatio_init : Str} {ft_BadRatio_init : Tok} {gc_BadRatio_init : Value} {gd_BadRatio_init : Option Addr} {gs_BadRatio_init : Array (Option Value)}
    {oc_law_is kV_law_is dc_law_is pm_law_is cd_law_is ct_law_is : Value} {od_law_is an_law_is : Option Addr} {sl_law_is : Array (Option Value)}
    {oc_Ratio___eq__ kV_Ratio___eq__ dc_Ratio___eq__ pm_Ratio___eq__ cd_Ratio___eq__ ct_Ratio___eq__ : Value} {od_Ratio___eq__ an_Ratio___eq__ : Option Addr} {sl_Ratio___eq__ : Array (Option Value)}
    {oc_law_divisor kV_law_divisor dc_law_divisor pm_law_divisor cd_law_divisor ct_law_divisor : Value} {od_law_divisor an_law_divisor : Option Addr} {sl_law_divisor : Array (Option Value)}
    {oc_Ratio___abs__ kV_Ratio___abs__ dc_Ratio___abs__ pm_Ratio___abs__ cd_Ratio___abs__ ct_Ratio___abs__ : Value} {od_Ratio___abs__ an_Ratio___abs__ : Option Addr} {sl_Ratio___abs__ : Array (Option Value)}
    {oc_Ratio___neg__ kV_Ratio___neg__ dc_Ratio___neg__ pm_Ratio___neg__ cd_Ratio___neg__ ct_Ratio___neg__ : Value} {od_Ratio___neg__ an_Ratio___neg__ : Option Addr} {sl_Ratio___neg__ : Array (Option Value)}
    {oc_Ratio___bool__ kV_Ratio___bool__ dc_Ratio___bool__ pm_Ratio___bool__ cd_Ratio___bool__ ct_Ratio___bool__ : Value} {od_Ratio___bool__ an_Ratio___bool__ : Option Addr} {sl_Ratio___bool__ : Array (Option Value)}
    {oc_Ratio___str__ kV_Ratio___str__ dc_Ratio___str__ pm_Ratio___str__ cd_Ratio___str__ ct_Ratio___str__ : Value} {od_Ratio___str__ an_Ratio___str__ : Option Addr} {sl_Ratio___str__ : Array (Option Value)}
    {oc_law_refused_right kV_law_refused_right dc_law_refused_right pm_law_refused_right cd_law_refused_right ct_law_refused_right : Value} {od_law_refused_right an_law_refused_right : Option Addr} {sl_law_refused_right : Array (Option Value)}
    {oc_law_heard kV_law_heard dc_law_heard pm_law_heard cd_law_heard ct_law_heard : Value} {od_law_heard an_law_heard : Option Addr} {sl_law_heard : Array (Option Value)}
    {ko_law_refused_right : Value} {kd_law_refused_right : Option Addr} {kv_law_refused_right : Array Value} {ks_law_refused_right : Array (Option Value)}
    (h_a_law : PySem.W.nsIn K mainGlobals "law" = some (some (.ref f_law)))
    (h_l_law : K.lookup f_law = some ⟨oc_law, od_law, .func (PySem.W.fnOf "law" "law" (defArgs s_law) (defBody s_law) (defScope s_law) .none kV_law dc_law pm_law an_law cd_law ct_law), sl_law⟩)
    (h_c_law : PySem.W.codeIn K cd_law "law" = true)
    (h_k_law : PySem.W.keepIn K (.ref f_law) = true)
    (h_a_law_pen : PySem.W.nsIn K mainGlobals "_law_pen" = some (some (.ref f_law_pen)))
    (h_l_law_pen : K.lookup f_law_pen = some ⟨oc_law_pen, od_law_pen, .func (PySem.W.fnOf "_law_pen" "_law_pen" (defArgs s_law_pen) (defBody s_law_pen) (defScope s_law_pen) .none kV_law_pen dc_law_pen pm_law_pen an_law_pen cd_law_pen ct_law_pen), sl_law_pen⟩)
    (h_c_law_pen : PySem.W.codeIn K cd_law_pen "_law_pen" = true)
    (h_k_law_pen : PySem.W.keepIn K (.ref f_law_pen) = true)
    (h_no_list : PySem.W.nsIn K mainGlobals "list" = some none)
    (h_no_range : PySem.W.nsIn K mainGlobals "range" = some none)
    (h_a_law_made_right : PySem.W.nsIn K mainGlobals "_law_made_right" = some (some (.ref f_law_made_right)))
    (h_l_law_made_right : K.lookup f_law_made_right = some ⟨oc_law_made_right, od_law_made_right, .func (PySem.W.fnOf "_law_made_right" "_law_made_right" (defArgs s_law_made_right) (defBody s_law_made_right) (defScope s_law_made_right) .none kV_law_made_right dc_law_made_right pm_law_made_right an_law_made_right cd_law_made_right ct_law_made_right), sl_law_made_right⟩)
    (h_c_law_made_right : PySem.W.codeIn K cd_law_made_right "_law_made_right" = true)
    (h_k_law_made_right : PySem.W.keepIn K (.ref f_law_made_right) = true)
    (h_a_law_pair : PySem.W.nsIn K mainGlobals "_law_pair" = some (some (.ref f_law_pair)))
    (h_l_law_pair : K.lookup f_law_pair = some ⟨oc_law_pair, od_law_pair, .func (PySem.W.fnOf "_law_pair" "_law_pair" (defArgs s_law_pair) (defBody s_law_pair) (defScope s_law_pair) .none kV_law_pair dc_law_pair pm_law_pair an_law_pair cd_law_pair ct_law_pair), sl_law_pair⟩)
    (h_c_law_pair : PySem.W.codeIn K cd_law_pair "_law_pair" = true)
    (h_k_law_pair : PySem.W.keepIn K (.ref f_law_pair) = true)
    (h_a_law_draw : PySem.W.nsIn K mainGlobals "_law_draw" = some (some (.ref f_law_draw)))
    (h_l_law_draw : K.lookup f_law_draw = some ⟨oc_law_draw, od_law_draw, .func (PySem.W.fnOf "_law_draw" "_law_draw" (defArgs s_law_draw) (defBody s_law_draw) (defScope s_law_draw) .none kV_law_draw dc_law_draw pm_law_draw an_law_draw cd_law_draw ct_law_draw), sl_law_draw⟩)
    (h_c_law_draw : PySem.W.codeIn K cd_law_draw "_law_draw" = true)
    (h_k_law_draw : PySem.W.keepIn K (.ref f_law_draw) = true)
    (h_no_int : PySem.W.nsIn K mainGlobals "int" = some none)
    (h_no_len : PySem.W.nsIn K mainGlobals "len" = some none)
    (h_no_abs : PySem.W.nsIn K mainGlobals "abs" = some none)
    (h_a_law_pick : PySem.W.nsIn K mainGlobals "_law_pick" = some (some (.ref f_law_pick)))
    (h_l_law_pick : K.lookup f_law_pick = some ⟨oc_law_pick, od_law_pick, .func (PySem.W.fnOf "_law_pick" "_law_pick" (defArgs s_law_pick) (defBody s_law_pick) (defScope s_law_pick) .none kV_law_pick dc_law_pick pm_law_pick an_law_pick cd_law_pick ct_law_pick), sl_law_pick⟩)
    (h_c_law_pick : PySem.W.codeIn K cd_law_pick "_law_pick" = true)
    (h_k_law_pick : PySem.W.keepIn K (.ref f_law_pick) = true)
    (h_a_law_size : PySem.W.nsIn K mainGlobals "_law_size" = some (some (.ref f_law_size)))
    (h_l_law_size : K.lookup f_law_size = some ⟨oc_law_size, od_law_size, .func (PySem.W.fnOf "_law_size" "_law_size" (defArgs s_law_size) (defBody s_law_size) (defScope s_law_size) .none kV_law_size dc_law_size pm_law_size an_law_size cd_law_size ct_law_size), sl_law_size⟩)
    (h_c_law_size : PySem.W.codeIn K cd_law_size "_law_size" = true)
    (h_k_law_size : PySem.W.keepIn K (.ref f_law_size) = true)
    (h_g_Ratio : PySem.W.nsIn K mainGlobals "Ratio" = some (some (.ref c_Ratio)))
    (h_a_Ratio___init__ : PySem.W.findIn K (.ref c_Ratio) "__init__" = some (some (.ref f_Ratio___init__)))
    (h_i_Ratio___init__ : PySem.W.isFn K (.ref f_Ratio___init__) = true)
    (h_l_Ratio___init__ : K.lookup f_Ratio___init__ = some ⟨oc_Ratio___init__, od_Ratio___init__, .func (PySem.W.fnOf "__init__" "Ratio.__init__" (defArgs s_Ratio___init__) (defBody s_Ratio___init__) (defScope s_Ratio___init__) (.ref dt_Ratio___init__) kV_Ratio___init__ dc_Ratio___init__ pm_Ratio___init__ an_Ratio___init__ cd_Ratio___init__ ct_Ratio___init__), sl_Ratio___init__⟩)
    (h_c_Ratio___init__ : PySem.W.codeIn K cd_Ratio___init__ "Ratio.__init__" = true)
    (h_k_Ratio___init__ : PySem.W.keepIn K (.ref f_Ratio___init__) = true)
    (h_dt_Ratio___init__ : K.lookup dt_Ratio___init__ = some ⟨oe_Ratio___init__, of_Ratio___init__, .seq it_Ratio___init__ im_Ratio___init__, sm_Ratio___init__⟩)
    (h_dv_Ratio___init__ : Vals [(.int 1 : V)] it_Ratio___init__.toList)
    (h_a_is_int : PySem.W.nsIn K mainGlobals "is_int" = some (some (.ref f_is_int)))
    (h_l_is_int : K.lookup f_is_int = some ⟨oc_is_int, od_is_int, .func (PySem.W.fnOf "is_int" "is_int" (defArgs s_is_int) (defBody s_is_int) (defScope s_is_int) .none kV_is_int dc_is_int pm_is_int an_is_int cd_is_int ct_is_int), sl_is_int⟩)
    (h_c_is_int : PySem.W.codeIn K cd_is_int "is_int" = true)
    (h_k_is_int : PySem.W.keepIn K (.ref f_is_int) = true)
    (h_no_isinstance : PySem.W.nsIn K mainGlobals "isinstance" = some none)
    (h_no_bool : PySem.W.nsIn K mainGlobals "bool" = some none)
    (h_g_BadRatio : PySem.W.nsIn K mainGlobals "BadRatio" = some (some (.ref c_BadRatio)))
    (h_oc_BadRatio_init : K.lookup c_BadRatio = some (excClassObj nm_BadRatio_init q_BadRatio_init c_BadRatio N_BadRatio_init bs_BadRatio_init bm_BadRatio_init true sn_BadRatio_init sub_BadRatio_init ab_BadRatio_init col_BadRatio_init dd_BadRatio_init k0_BadRatio_init k1_BadRatio_init k2_BadRatio_init k3_BadRatio_init k5_BadRatio_init "ValueError.__new__"))
    (h_rv_BadRatio_init : PySem.HandSPX.refsVE bm_BadRatio_init = true)
    (h_sa_BadRatio : PySem.W.findIn K (.ref c_BadRatio) "__setattr__" = some (some (.builtin "object.__setattr__")))
    (h_bx_BadRatio : PySem.W.subIn K (.ref c_BadRatio) (.type "BaseException") = some true)
    (h_tc_BadRatio : PySem.W.typeIn K (.ref c_BadRatio) = some (.type "type"))
    (h_kc_BadRatio : PySem.W.keepIn K (.ref c_BadRatio) = true)
    (h_a_BadRatio_init : PySem.W.findIn K (.ref c_BadRatio) "__init__" = some (some (.ref f_BadRatio_init)))
    (h_ty_BadRatio_init : PySem.W.typeIn K (.ref f_BadRatio_init) = some (.type "function"))
    (h_nx_BadRatio_part : PySem.W.findIn K (.ref c_BadRatio) "part" = some none)
    (h_l_BadRatio_init : K.lookup f_BadRatio_init = some ⟨oc_BadRatio_init, od_BadRatio_init, .func (PySem.W.fnX "__init__" "BadRatio.__init__" (defArgs s_BadRatio___init__) (defBody s_BadRatio___init__) (defScope s_BadRatio___init__) [(("__class__" : Str), cc_BadRatio_init)] .none kV_BadRatio_init dc_BadRatio_init pm_BadRatio_init an_BadRatio_init (.ref cf_BadRatio_init) ct_BadRatio_init), sl_BadRatio_init⟩)
    (h_c_BadRatio_init : PySem.W.codeIn K (.ref cf_BadRatio_init) "BadRatio.__init__" = true)
    (h_f1_BadRatio_init : K.lookup cf_BadRatio_init = some ⟨fc_BadRatio_init, fd_BadRatio_init, .fields fv_BadRatio_init, fs_BadRatio_init⟩)
    (h_f2_BadRatio_init : fv_BadRatio_init[2]? = some (.str ff_BadRatio_init ft_BadRatio_init))
    (h_f3_BadRatio_init : ((P.main.file : Str) == ff_BadRatio_init) = true)
    (h_ce_BadRatio_init : K.lookup cc_BadRatio_init = some ⟨gc_BadRatio_init, gd_BadRatio_init, .cell (some (.ref c_BadRatio)), gs_BadRatio_init⟩)
    (h_top_super : (P.main.scope.names.lookup ("super" : Str)).isSome = false)
    (h_no_super : PySem.W.nsIn K mainGlobals "super" = some none)
    (h_st_any : PySem.W.nsIn K cStatics "thirdparty.any" = some none)
    (h_su_BadRatio_init : PySem.W.ks_superIn K c_BadRatio c_BadRatio "__init__" = some (some (.builtin veI)))
    (h_sb_BadRatio_init : PySem.W.subIn K (.ref c_BadRatio) (.type "ValueError") = some true)
    (h_me_BadRatio_init : PySem.W.mroIn K c_BadRatio (.ref c_BadRatio) = some true)
    (h_cg : PySem.W.specialIn K (.builtin "object.__class__") "__get__" = some (some (.builtin "getset_descriptor.__get__")))
    (h_ct : PySem.W.takesIn K (.builtin "object.__class__") = some true)
    (h_xg_BadRatio : PySem.W.findIn K (.ref c_BadRatio) "__getattribute__" = some (some (.builtin "BaseException.__getattribute__")))
    (h_xa_BadRatio : PySem.W.findIn K (.ref c_BadRatio) "__getattr__" = some none)
    (h_xd_BadRatio : PySem.W.hasDictIn K c_BadRatio = true)
    (h_cc_BadRatio : PySem.W.findIn K (.ref c_BadRatio) "__class__" = some (some (.builtin "object.__class__")))
    (h_ob_BadRatio : PySem.W.mroIn K c_BadRatio (.type "object") = some true)
    (h_mo_gcd : PySem.W.nsIn K mainGlobals "gcd" = some (some (.builtin "math.gcd")))
    (h_pg_Ratio : PySem.W.plainGet K c_Ratio Str.empty = true)
    (h_hd_Ratio : PySem.W.hasDictIn K c_Ratio = true)
    (h_po_Ratio : PySem.W.plainOver K c_Ratio = true)
    (h_sa_Ratio : PySem.W.findIn K (.ref c_Ratio) "__setattr__" = some (some (.builtin "object.__setattr__")))
    (h_na_Ratio_top : PySem.W.findIn K (.ref c_Ratio) "top" = some none)
    (h_na_Ratio_bottom : PySem.W.findIn K (.ref c_Ratio) "bottom" = some none)
    (h_mk_Ratio : PySem.W.makesIn K c_Ratio = true)
    (h_kc_Ratio : PySem.W.keepIn K (.ref c_Ratio) = true)
    (h_a_law_is : PySem.W.nsIn K mainGlobals "_law_is" = some (some (.ref f_law_is)))
    (h_l_law_is : K.lookup f_law_is = some ⟨oc_law_is, od_law_is, .func (PySem.W.fnOf "_law_is" "_law_is" (defArgs s_law_is) (defBody s_law_is) (defScope s_law_is) .none kV_law_is dc_law_is pm_law_is an_law_is cd_law_is ct_law_is), sl_law_is⟩)
    (h_c_law_is : PySem.W.codeIn K cd_law_is "_law_is" = true)
    (h_k_law_is : PySem.W.keepIn K (.ref f_law_is) = true)
    (h_a_Ratio___eq__ : PySem.W.findIn K (.ref c_Ratio) "__eq__" = some (some (.ref f_Ratio___eq__)))
    (h_i_Ratio___eq__ : PySem.W.isFn K (.ref f_Ratio___eq__) = true)
    (h_l_Ratio___eq__ : K.lookup f_Ratio___eq__ = some ⟨oc_Ratio___eq__, od_Ratio___eq__, .func (PySem.W.fnOf "__eq__" "Ratio.__eq__" (defArgs s_Ratio___eq__) (defBody s_Ratio___eq__) (defScope s_Ratio___eq__) .none kV_Ratio___eq__ dc_Ratio___eq__ pm_Ratio___eq__ an_Ratio___eq__ cd_Ratio___eq__ ct_Ratio___eq__), sl_Ratio___eq__⟩)
    (h_c_Ratio___eq__ : PySem.W.codeIn K cd_Ratio___eq__ "Ratio.__eq__" = true)
    (h_k_Ratio___eq__ : PySem.W.keepIn K (.ref f_Ratio___eq__) = true)
    (h_cc_Ratio : PySem.W.findIn K (.ref c_Ratio) "__class__" = some (some (.builtin "object.__class__")))
    (h_ob_Ratio : PySem.W.mroIn K c_Ratio (.type "object") = some true)
    (h_ne_Ratio : PySem.W.findIn K (.ref c_Ratio) "__ne__" = some (some (.builtin "object.__ne__")))
    (h_bt_Ratio_NoneType : PySem.W.mroIn K c_Ratio (.type "NoneType") = some false)
    (h_bt_Ratio_bool : PySem.W.mroIn K c_Ratio (.type "bool") = some false)
    (h_bt_Ratio_int : PySem.W.mroIn K c_Ratio (.type "int") = some false)
    (h_bt_Ratio_str : PySem.W.mroIn K c_Ratio (.type "str") = some false)
    (h_bt_Ratio_list : PySem.W.mroIn K c_Ratio (.type "list") = some false)
    (h_bt_Ratio_tuple : PySem.W.mroIn K c_Ratio (.type "tuple") = some false)
    (h_bt_Ratio_dict : PySem.W.mroIn K c_Ratio (.type "dict") = some false)
    (h_nf_Ratio_NoneType : PySem.W.notFirst K c_Ratio (.type "NoneType") = true)
    (h_nf_Ratio_bool : PySem.W.notFirst K c_Ratio (.type "bool") = true)
    (h_nf_Ratio_int : PySem.W.notFirst K c_Ratio (.type "int") = true)
    (h_nf_Ratio_str : PySem.W.notFirst K c_Ratio (.type "str") = true)
    (h_nf_Ratio_list : PySem.W.notFirst K c_Ratio (.type "list") = true)
    (h_nf_Ratio_tuple : PySem.W.notFirst K c_Ratio (.type "tuple") = true)
    (h_nf_Ratio_dict : PySem.W.notFirst K c_Ratio (.type "dict") = true)
    (h_a_law_divisor : PySem.W.nsIn K mainGlobals "_law_divisor" = some (some (.ref f_law_divisor)))
    (h_l_law_divisor : K.lookup f_law_divisor = some ⟨oc_law_divisor, od_law_divisor, .func (PySem.W.fnOf "_law_divisor" "_law_divisor" (defArgs s_law_divisor) (defBody s_law_divisor) (defScope s_law_divisor) .none kV_law_divisor dc_law_divisor pm_law_divisor an_law_divisor cd_law_divisor ct_law_divisor), sl_law_divisor⟩)
    (h_c_law_divisor : PySem.W.codeIn K cd_law_divisor "_law_divisor" = true)
    (h_k_law_divisor : PySem.W.keepIn K (.ref f_law_divisor) = true)
    (h_a_Ratio___abs__ : PySem.W.findIn K (.ref c_Ratio) "__abs__" = some (some (.ref f_Ratio___abs__)))
    (h_i_Ratio___abs__ : PySem.W.isFn K (.ref f_Ratio___abs__) = true)
    (h_l_Ratio___abs__ : K.lookup f_Ratio___abs__ = some ⟨oc_Ratio___abs__, od_Ratio___abs__, .func (PySem.W.fnOf "__abs__" "Ratio.__abs__" (defArgs s_Ratio___abs__) (defBody s_Ratio___abs__) (defScope s_Ratio___abs__) .none kV_Ratio___abs__ dc_Ratio___abs__ pm_Ratio___abs__ an_Ratio___abs__ cd_Ratio___abs__ ct_Ratio___abs__), sl_Ratio___abs__⟩)
    (h_c_Ratio___abs__ : PySem.W.codeIn K cd_Ratio___abs__ "Ratio.__abs__" = true)
    (h_k_Ratio___abs__ : PySem.W.keepIn K (.ref f_Ratio___abs__) = true)
    (h_a_Ratio___neg__ : PySem.W.findIn K (.ref c_Ratio) "__neg__" = some (some (.ref f_Ratio___neg__)))
    (h_i_Ratio___neg__ : PySem.W.isFn K (.ref f_Ratio___neg__) = true)
    (h_l_Ratio___neg__ : K.lookup f_Ratio___neg__ = some ⟨oc_Ratio___neg__, od_Ratio___neg__, .func (PySem.W.fnOf "__neg__" "Ratio.__neg__" (defArgs s_Ratio___neg__) (defBody s_Ratio___neg__) (defScope s_Ratio___neg__) .none kV_Ratio___neg__ dc_Ratio___neg__ pm_Ratio___neg__ an_Ratio___neg__ cd_Ratio___neg__ ct_Ratio___neg__), sl_Ratio___neg__⟩)
    (h_c_Ratio___neg__ : PySem.W.codeIn K cd_Ratio___neg__ "Ratio.__neg__" = true)
    (h_k_Ratio___neg__ : PySem.W.keepIn K (.ref f_Ratio___neg__) = true)
    (h_no_repr : PySem.W.nsIn K mainGlobals "repr" = some none)
    (h_a_Ratio___bool__ : PySem.W.findIn K (.ref c_Ratio) "__bool__" = some (some (.ref f_Ratio___bool__)))
    (h_i_Ratio___bool__ : PySem.W.isFn K (.ref f_Ratio___bool__) = true)
    (h_l_Ratio___bool__ : K.lookup f_Ratio___bool__ = some ⟨oc_Ratio___bool__, od_Ratio___bool__, .func (PySem.W.fnOf "__bool__" "Ratio.__bool__" (defArgs s_Ratio___bool__) (defBody s_Ratio___bool__) (defScope s_Ratio___bool__) .none kV_Ratio___bool__ dc_Ratio___bool__ pm_Ratio___bool__ an_Ratio___bool__ cd_Ratio___bool__ ct_Ratio___bool__), sl_Ratio___bool__⟩)
    (h_c_Ratio___bool__ : PySem.W.codeIn K cd_Ratio___bool__ "Ratio.__bool__" = true)
    (h_k_Ratio___bool__ : PySem.W.keepIn K (.ref f_Ratio___bool__) = true)
    (h_no_str : PySem.W.nsIn K mainGlobals "str" = some none)
    (h_a_Ratio___str__ : PySem.W.findIn K (.ref c_Ratio) "__str__" = some (some (.ref f_Ratio___str__)))
    (h_i_Ratio___str__ : PySem.W.isFn K (.ref f_Ratio___str__) = true)
    (h_l_Ratio___str__ : K.lookup f_Ratio___str__ = some ⟨oc_Ratio___str__, od_Ratio___str__, .func (PySem.W.fnOf "__str__" "Ratio.__str__" (defArgs s_Ratio___str__) (defBody s_Ratio___str__) (defScope s_Ratio___str__) .none kV_Ratio___str__ dc_Ratio___str__ pm_Ratio___str__ an_Ratio___str__ cd_Ratio___str__ ct_Ratio___str__), sl_Ratio___str__⟩)
    (h_c_Ratio___str__ : PySem.W.codeIn K cd_Ratio___str__ "Ratio.__str__" = true)
    (h_k_Ratio___str__ : PySem.W.keepIn K (.ref f_Ratio___str__) = true)
    (h_a_law_refused_right : PySem.W.nsIn K mainGlobals "_law_refused_right" = some (some (.ref f_law_refused_right)))
    (h_l_law_refused_right : K.lookup f_law_refused_right = some ⟨oc_law_refused_right, od_law_refused_right, .func (PySem.W.fnOf "_law_refused_right" "_law_refused_right" (defArgs s_law_refused_right) (defBody s_law_refused_right) (defScope s_law_refused_right) .none kV_law_refused_right dc_law_refused_right pm_law_refused_right an_law_refused_right cd_law_refused_right ct_law_refused_right), sl_law_refused_right⟩)
    (h_c_law_refused_right : PySem.W.codeIn K cd_law_refused_right "_law_refused_right" = true)
    (h_k_law_refused_right : PySem.W.keepIn K (.ref f_law_refused_right) = true)
    (h_a_law_heard : PySem.W.nsIn K mainGlobals "_law_heard" = some (some (.ref f_law_heard)))
    (h_l_law_heard : K.lookup f_law_heard = some ⟨oc_law_heard, od_law_heard, .func (PySem.W.fnOf "_law_heard" "_law_heard" (defArgs s_law_heard) (defBody s_law_heard) (defScope s_law_heard) .none kV_law_heard dc_law_heard pm_law_heard an_law_heard cd_law_heard ct_law_heard), sl_law_heard⟩)
    (h_c_law_heard : PySem.W.codeIn K cd_law_heard "_law_heard" = true)
    (h_k_law_heard : PySem.W.keepIn K (.ref f_law_heard) = true)
    (h_g_CreditError : PySem.W.nsIn K mainGlobals "CreditError" = some (some (.ref c_CreditError)))
    (h_ld_law_refused_right : (PySem.W.fnOf "_law_refused_right" "_law_refused_right" (defArgs s_law_refused_right) (defBody s_law_refused_right) (defScope s_law_refused_right) .none kV_law_refused_right dc_law_refused_right pm_law_refused_right an_law_refused_right cd_law_refused_right ct_law_refused_right).code = .ref cc_law_refused_right)
    (h_lc_law_refused_right : K.lookup cc_law_refused_right = some ⟨ko_law_refused_right, kd_law_refused_right, .fields kv_law_refused_right, ks_law_refused_right⟩)
    (h_lp_law_refused_right : kv_law_refused_right[11]? = some (.ref pt_law_refused_right))
    (h_lt_law_refused_right : PySem.W.tabIn K "_law_refused_right" = some (cc_law_refused_right, pt_law_refused_right))
    (h_ln_law_refused_right : K.lookup pt_law_refused_right = none)
    (h_kt_NoneType_BadRatio : PySem.W.kitOne K (.type "NoneType") (.ref c_BadRatio) = some false)
    (h_kt_bool_BadRatio : PySem.W.kitOne K (.type "bool") (.ref c_BadRatio) = some false)
    (h_kt_int_BadRatio : PySem.W.kitOne K (.type "int") (.ref c_BadRatio) = some false)
    (h_kt_str_BadRatio : PySem.W.kitOne K (.type "str") (.ref c_BadRatio) = some false)
    (h_kt_list_BadRatio : PySem.W.kitOne K (.type "list") (.ref c_BadRatio) = some false)
    (h_kt_tuple_BadRatio : PySem.W.kitOne K (.type "tuple") (.ref c_BadRatio) = some false)
    (h_kt_dict_BadRatio : PySem.W.kitOne K (.type "dict") (.ref c_BadRatio) = some false)
    (h_kt_c_Ratio_BadRatio : PySem.W.kitOne K (.ref c_Ratio) (.ref c_BadRatio) = some false)
    (h_kt_c_BadRatio_BadRatio : PySem.W.kitOne K (.ref c_BadRatio) (.ref c_BadRatio) = some true)
    (h_kt_NoneType_Ratio : PySem.W.kitOne K (.type "NoneType") (.ref c_Ratio) = some false)
    (h_kt_bool_Ratio : PySem.W.kitOne K (.type "bool") (.ref c_Ratio) = some false)
    (h_kt_int_Ratio : PySem.W.kitOne K (.type "int") (.ref c_Ratio) = some false)
    (h_kt_str_Ratio : PySem.W.kitOne K (.type "str") (.ref c_Ratio) = some false)
    (h_kt_list_Ratio : PySem.W.kitOne K (.type "list") (.ref c_Ratio) = some false)
    (h_kt_tuple_Ratio : PySem.W.kitOne K (.type "tuple") (.ref c_Ratio) = some false)
    (h_kt_dict_Ratio : PySem.W.kitOne K (.type "dict") (.ref c_Ratio) = some false)
    (h_kt_c_Ratio_Ratio : PySem.W.kitOne K (.ref c_Ratio) (.ref c_Ratio) = some true)
    (h_kt_c_BadRatio_Ratio : PySem.W.kitOne K (.ref c_BadRatio) (.ref c_Ratio) = some false)
    (h_kt_NoneType_bool : PySem.W.kitOne K (.type "NoneType") (.type "bool") = some false)
    (h_kt_bool_bool : PySem.W.kitOne K (.type "bool") (.type "bool") = some true)
    (h_kt_int_bool : PySem.W.kitOne K (.type "int") (.type "bool") = some false)
    (h_kt_str_bool : PySem.W.kitOne K (.type "str") (.type "bool") = some false)
    (h_kt_list_bool : PySem.W.kitOne K (.type "list") (.type "bool") = some false)
    (h_kt_tuple_bool : PySem.W.kitOne K (.type "tuple") (.type "bool") = some false)
    (h_kt_dict_bool : PySem.W.kitOne K (.type "dict") (.type "bool") = some false)
    (h_kt_c_Ratio_bool : PySem.W.kitOne K (.ref c_Ratio) (.type "bool") = some false)
    (h_kt_c_BadRatio_bool : PySem.W.kitOne K (.ref c_BadRatio) (.type "bool") = some false)
    (h_kt_NoneType_int : PySem.W.kitOne K (.type "NoneType") (.type "int") = some false)
    (h_kt_bool_int : PySem.W.kitOne K (.type "bool") (.type "int") = some true)
    (h_kt_int_int : PySem.W.kitOne K (.type "int") (.type "int") = some true)
    (h_kt_str_int : PySem.W.kitOne K (.type "str") (.type "int") = some false)
    (h_kt_list_int : PySem.W.kitOne K (.type "list") (.type "int") = some false)
    (h_kt_tuple_int : PySem.W.kitOne K (.type "tuple") (.type "int") = some false)
    (h_kt_dict_int : PySem.W.kitOne K (.type "dict") (.type "int") = some false)
    (h_kt_c_Ratio_int : PySem.W.kitOne K (.ref c_Ratio) (.type "int") = some false)
    (h_kt_c_BadRatio_int : PySem.W.kitOne K (.ref c_BadRatio) (.type "int") = some false)
    (h_em_BadRatio_CreditError : PySem.W.exmOne K (.ref c_BadRatio) (.ref c_CreditError) = some true)
    (h_nf_Ratio_c_Ratio : PySem.W.notFirst K c_Ratio (.ref c_Ratio) = true)
    (hnd : (([(cc_law_refused_right, pt_law_refused_right, ("_law_refused_right" : Str) ++ ".<locals>." ++ "<lambda>")] : List Tb).map fun t => t.2.1).Nodup) (HT : ∀ t ∈ ([(cc_law_refused_right, pt_law_refused_right, ("_law_refused_right" : Str) ++ ".<locals>." ++ "<lambda>")] : List Tb), LamX.TabB base mg t.1 t.2.1) :
    Txt (lawWd P w K mg base p cs (tbs [(cc_law_refused_right, pt_law_refused_right, ("_law_refused_right" : Str) ++ ".<locals>." ++ "<lambda>")])) ⟨f_law, f_law_pen, f_law_made_right, f_law_pair, f_law_draw, f_law_pick, f_law_size, f_Ratio___init__, c_Ratio, f_is_int, c_BadRatio, f_BadRatio_init, f_law_is, f_Ratio___eq__, f_law_divisor, f_Ratio___abs__, f_Ratio___neg__, f_Ratio___bool__, f_Ratio___str__, f_law_refused_right, f_law_heard, c_CreditError, cc_law_refused_right, pt_law_refused_right⟩ := by
  refine ⟨?_, ?_, ?_, ?_, ?_, ?_, ?_, ?_, ?_, ?_, ?_, ?_, ?_, ?_, ?_, ?_, ?_, ?_, ?_, ?_, ?_, ?_, ?_, ?_, ?_, ?_, ?_, ?_, ?_, ?_, ?_, ?_, ?_, ?_, ?_, ?_, ?_, ?_, ?_, ?_, ?_, ?_, ?_, ?_, ?_, ?_, ?_, ?_, ?_, ?_, ?_, ?_, ?_, ?_, ?_, ?_, ?_, ?_, ?_, ?_, ?_, ?_, ?_, ?_, ?_, ?_, ?_, ?_, ?_, ?_, ?_, ?_, ?_, ?_, ?_, ?_, ?_, ?_, ?_, ?_, ?_, ?_, ?_, ?_, ?_, ?_, ?_, ?_, ?_, ?_, ?_, ?_, ?_, ?_, ?_, ?_, ?_, ?_, ?_, ?_, ?_, ?_, ?_, ?_, ?_, ?_, ?_, ?_, ?_, ?_, ?_, ?_, ?_⟩
  · exact PySem.W.mg_of X G h_a_law
  · exact ⟨_, fund0 h_l_law h_c_law h_k_law⟩
  · exact PySem.W.mg_of X G h_a_law_pen
  · exact ⟨_, fund0 h_l_law_pen h_c_law_pen h_k_law_pen⟩
  · exact PySem.W.mg_none_of X G h_no_list
  · exact PySem.W.mg_none_of X G h_no_range
  · exact PySem.W.mg_of X G h_a_law_made_right
  · exact ⟨_, fund0 h_l_law_made_right h_c_law_made_right h_k_law_made_right⟩
  · exact PySem.W.mg_of X G h_a_law_pair
  · exact ⟨_, fund0 h_l_law_pair h_c_law_pair h_k_law_pair⟩
  · exact PySem.W.mg_of X G h_a_law_draw
  · exact ⟨_, fund0 h_l_law_draw h_c_law_draw h_k_law_draw⟩
  · exact PySem.W.mg_none_of X G h_no_int
  · exact PySem.W.mg_none_of X G h_no_len
  · exact PySem.W.mg_none_of X G h_no_abs
  · exact PySem.W.mg_of X G h_a_law_pick
  · exact ⟨_, fund0 h_l_law_pick h_c_law_pick h_k_law_pick⟩
  · exact PySem.W.mg_of X G h_a_law_size
  · exact ⟨_, fund0 h_l_law_size h_c_law_size h_k_law_size⟩
  · exact PySem.W.mg_of X G h_g_Ratio
  · exact h_a_Ratio___init__
  · exact h_i_Ratio___init__
  · exact ⟨_, fundD h_l_Ratio___init__ h_c_Ratio___init__ h_k_Ratio___init__ h_dt_Ratio___init__ h_dv_Ratio___init__ (by simp)⟩
  · exact PySem.W.mg_of X G h_a_is_int
  · exact ⟨_, fund0 h_l_is_int h_c_is_int h_k_is_int⟩
  · exact PySem.W.mg_none_of X G h_no_isinstance
  · exact PySem.W.mg_none_of X G h_no_bool
  · exact PySem.W.mg_of X G h_g_BadRatio
  · exact h_nx_BadRatio_part
  · exact PySem.W.mg_none_of X G h_no_super
  · exact ⟨⟨cc_BadRatio_init, cf_BadRatio_init, _, ⟨rfl, ⟨_, _, _, _, _, _, _, _, _, rfl, h_l_BadRatio_init⟩, h_c_BadRatio_init, ⟨_, _, _, _, _, _, h_f1_BadRatio_init, h_f2_BadRatio_init, h_f3_BadRatio_init⟩, ⟨_, _, _, h_ce_BadRatio_init⟩, h_top_super, PySem.W.mg_none_of X G h_no_super, h_st_any, h_su_BadRatio_init, h_sb_BadRatio_init, h_me_BadRatio_init, rfl, rfl, ⟨_, rfl, rfl⟩⟩, kbn_x fun us hl => match us, hl with | [_, _], _ => rfl⟩, h_a_BadRatio_init, h_ty_BadRatio_init, ⟨⟨_, _, _, _, _, _, _, _, _, _, _, _, _, _, _, h_oc_BadRatio_init, h_rv_BadRatio_init⟩, h_sa_BadRatio, h_bx_BadRatio, h_tc_BadRatio, h_kc_BadRatio⟩⟩
  · exact ⟨h_xg_BadRatio, h_xa_BadRatio, h_bx_BadRatio, h_xd_BadRatio, h_cc_BadRatio, h_cg, h_ct, h_ob_BadRatio⟩
  · exact ⟨⟨h_xg_BadRatio, h_xa_BadRatio, h_bx_BadRatio, h_xd_BadRatio, h_cc_BadRatio, h_cg, h_ct, h_ob_BadRatio⟩, h_nx_BadRatio_part⟩
  · exact PySem.W.mg_of X G h_mo_gcd
  · exact ⟨h_pg_Ratio, h_hd_Ratio, h_po_Ratio, h_sa_Ratio⟩
  · exact ⟨⟨h_pg_Ratio, h_hd_Ratio, h_po_Ratio, h_sa_Ratio⟩, h_na_Ratio_top⟩
  · exact ⟨⟨h_pg_Ratio, h_hd_Ratio, h_po_Ratio, h_sa_Ratio⟩, h_na_Ratio_bottom⟩
  · exact ⟨h_mk_Ratio, h_a_Ratio___init__, h_i_Ratio___init__, h_kc_Ratio⟩
  · exact PySem.W.mg_of X G h_a_law_is
  · exact ⟨_, fund0 h_l_law_is h_c_law_is h_k_law_is⟩
  · exact h_a_Ratio___eq__
  · exact h_i_Ratio___eq__
  · exact ⟨_, fund0 h_l_Ratio___eq__ h_c_Ratio___eq__ h_k_Ratio___eq__⟩
  · exact ⟨⟨h_pg_Ratio, h_hd_Ratio, h_po_Ratio, h_sa_Ratio⟩, h_cc_Ratio, h_cg, h_ct, h_ob_Ratio⟩
  · exact ⟨h_ne_Ratio, h_ob_Ratio⟩
  · refine ⟨fun T hT => ?_⟩
    simp only [List.mem_cons, List.not_mem_nil, or_false] at hT
    rcases hT with rfl | rfl | rfl | rfl | rfl | rfl | rfl
    · exact h_bt_Ratio_NoneType
    · exact h_bt_Ratio_bool
    · exact h_bt_Ratio_int
    · exact h_bt_Ratio_str
    · exact h_bt_Ratio_list
    · exact h_bt_Ratio_tuple
    · exact h_bt_Ratio_dict
  · exact h_nf_Ratio_NoneType
  · exact h_nf_Ratio_bool
  · exact h_nf_Ratio_int
  · exact h_nf_Ratio_str
  · exact h_nf_Ratio_list
  · exact h_nf_Ratio_tuple
  · exact h_nf_Ratio_dict
  · exact PySem.W.mg_of X G h_a_law_divisor
  · exact ⟨_, fund0 h_l_law_divisor h_c_law_divisor h_k_law_divisor⟩
  · exact h_a_Ratio___abs__
  · exact h_i_Ratio___abs__
  · exact ⟨_, fund0 h_l_Ratio___abs__ h_c_Ratio___abs__ h_k_Ratio___abs__⟩
  · exact h_a_Ratio___neg__
  · exact h_i_Ratio___neg__
  · exact ⟨_, fund0 h_l_Ratio___neg__ h_c_Ratio___neg__ h_k_Ratio___neg__⟩
  · exact PySem.W.mg_none_of X G h_no_repr
  · exact h_a_Ratio___bool__
  · exact h_i_Ratio___bool__
  · exact ⟨_, fund0 h_l_Ratio___bool__ h_c_Ratio___bool__ h_k_Ratio___bool__⟩
  · exact PySem.W.mg_none_of X G h_no_str
  · exact h_a_Ratio___str__
  · exact h_i_Ratio___str__
  · exact ⟨_, fund0 h_l_Ratio___str__ h_c_Ratio___str__ h_k_Ratio___str__⟩
  · exact PySem.W.mg_of X G h_a_law_refused_right
  · exact ⟨_, fund0 h_l_law_refused_right h_c_law_refused_right h_k_law_refused_right⟩
  · exact PySem.W.mg_of X G h_a_law_heard
  · exact ⟨_, fund0 h_l_law_heard h_c_law_heard h_k_law_heard⟩
  · exact PySem.W.mg_of X G h_g_CreditError
  · exact lam_mk HT hnd h_l_law_refused_right h_ld_law_refused_right (by simp)
  · exact h_kt_NoneType_BadRatio
  · exact h_kt_bool_BadRatio
  · exact h_kt_int_BadRatio
  · exact h_kt_str_BadRatio
  · exact h_kt_list_BadRatio
  · exact h_kt_tuple_BadRatio
  · exact h_kt_dict_BadRatio
  · exact h_kt_c_Ratio_BadRatio
  · exact h_kt_c_BadRatio_BadRatio
  · exact h_kt_NoneType_Ratio
  · exact h_kt_bool_Ratio
  · exact h_kt_int_Ratio
  · exact h_kt_str_Ratio
  · exact h_kt_list_Ratio
  · exact h_kt_tuple_Ratio
  · exact h_kt_dict_Ratio
  · exact h_kt_c_Ratio_Ratio
  · exact h_kt_c_BadRatio_Ratio
  · exact h_kt_NoneType_bool
  · exact h_kt_bool_bool
  · exact h_kt_int_bool
  · exact h_kt_str_bool
  · exact h_kt_list_bool
  · exact h_kt_tuple_bool
  · exact h_kt_dict_bool
  · exact h_kt_c_Ratio_bool
  · exact h_kt_c_BadRatio_bool
  · exact h_kt_NoneType_int
  · exact h_kt_bool_int
  · exact h_kt_int_int
  · exact h_kt_str_int
  · exact h_kt_list_int
  · exact h_kt_tuple_int
  · exact h_kt_dict_int
  · exact h_kt_c_Ratio_int
  · exact h_kt_c_BadRatio_int
  · exact h_em_BadRatio_CreditError
  · exact h_nf_Ratio_c_Ratio
end K02

/-! RA: ratios, as numbers. -/
namespace DL
def rg (t b : Int) : Int := if 0 < b then ((Nat.gcd t.natAbs b.natAbs : Nat) : Int) else 0 - ((Nat.gcd t.natAbs b.natAbs : Nat) : Int)
def rT (t b : Int) : Int := t.fdiv (rg t b)
def rB (t b : Int) : Int := b.fdiv (rg t b)
theorem gcd_pos' {t b : Int} (h : b ≠ 0) : 0 < Nat.gcd t.natAbs b.natAbs := Nat.gcd_pos_of_pos_right _ (by omega)
theorem rg_abs (t b : Int) : (rg t b).natAbs = Nat.gcd t.natAbs b.natAbs := by unfold rg; split <;> omega
theorem rg_ne {t b : Int} (h : b ≠ 0) : rg t b ≠ 0 := by
  have := gcd_pos' (t := t) h
  have := rg_abs t b
  omega
theorem rg_dvd_t (t b : Int) : rg t b ∣ t := by
  rw [← Int.natAbs_dvd_natAbs, rg_abs]; exact Nat.gcd_dvd_left _ _
theorem rg_dvd_b (t b : Int) : rg t b ∣ b := by
  rw [← Int.natAbs_dvd_natAbs, rg_abs]; exact Nat.gcd_dvd_right _ _
theorem rT_mul (t b : Int) : rT t b * rg t b = t := Int.fdiv_mul_cancel (rg_dvd_t t b)
theorem rB_mul (t b : Int) : rB t b * rg t b = b := Int.fdiv_mul_cancel (rg_dvd_b t b)
theorem rB_pos {t b : Int} (h : b ≠ 0) : 0 < rB t b := by
  have e := rB_mul t b
  have g0 := gcd_pos' (t := t) h
  by_cases hb : 0 < b
  · have hg : 0 < rg t b := by unfold rg; rw [if_pos hb]; omega
    apply Int.not_le.mp
    intro h2
    have := Int.mul_nonpos_of_nonpos_of_nonneg h2 (Int.le_of_lt hg)
    omega
  · have hg : rg t b < 0 := by unfold rg; rw [if_neg hb]; omega
    apply Int.not_le.mp
    intro h2
    have := Int.mul_nonneg_of_nonpos_of_nonpos h2 (Int.le_of_lt hg)
    omega
theorem r_cop {t b : Int} (h : b ≠ 0) : Nat.gcd (rT t b).natAbs (rB t b).natAbs = 1 := by
  have g0 := gcd_pos' (t := t) h
  have e1 : t.natAbs = (rT t b).natAbs * Nat.gcd t.natAbs b.natAbs := by
    rw [← rg_abs, ← Int.natAbs_mul, rT_mul]
  have e2 : b.natAbs = (rB t b).natAbs * Nat.gcd t.natAbs b.natAbs := by
    rw [← rg_abs, ← Int.natAbs_mul, rB_mul]
  have e3 : Nat.gcd ((rT t b).natAbs * Nat.gcd t.natAbs b.natAbs) ((rB t b).natAbs * Nat.gcd t.natAbs b.natAbs) = Nat.gcd t.natAbs b.natAbs := by rw [← e1, ← e2]
  rw [Nat.gcd_mul_right] at e3
  have : (Nat.gcd (rT t b).natAbs (rB t b).natAbs) * Nat.gcd t.natAbs b.natAbs = 1 * Nat.gcd t.natAbs b.natAbs := by rw [e3, Nat.one_mul]
  exact Nat.eq_of_mul_eq_mul_right g0 this
theorem r_cross (t b : Int) : rT t b * b = t * rB t b := by
  have e1 := rT_mul t b
  have e2 := rB_mul t b
  calc rT t b * b = rT t b * (rB t b * rg t b) := by rw [e2]
    _ = (rT t b * rg t b) * rB t b := by rw [Int.mul_assoc, Int.mul_comm (rg t b)]
    _ = t * rB t b := by rw [e1]
/-- lowest terms are one -/
theorem low_uniq {x y x' y' : Int} (hy : 0 < y) (hy' : 0 < y') (c : Nat.gcd x.natAbs y.natAbs = 1) (c' : Nat.gcd x'.natAbs y'.natAbs = 1) (h : x * y' = x' * y) : x = x' ∧ y = y' := by
  have hn : x.natAbs * y'.natAbs = x'.natAbs * y.natAbs := by rw [← Int.natAbs_mul, ← Int.natAbs_mul, h]
  have d1 : y.natAbs ∣ y'.natAbs := by
    have : y.natAbs ∣ x.natAbs * y'.natAbs := hn ▸ Nat.dvd_mul_left _ _
    exact (Nat.Coprime.dvd_of_dvd_mul_left (k := y.natAbs) (m := x.natAbs) (n := y'.natAbs) (by rw [Nat.Coprime, Nat.gcd_comm]; exact c) this)
  have d2 : y'.natAbs ∣ y.natAbs := by
    have : y'.natAbs ∣ x'.natAbs * y.natAbs := hn ▸ Nat.dvd_mul_left _ _
    exact (Nat.Coprime.dvd_of_dvd_mul_left (k := y'.natAbs) (m := x'.natAbs) (n := y.natAbs) (by rw [Nat.Coprime, Nat.gcd_comm]; exact c') this)
  have e : y.natAbs = y'.natAbs := Nat.dvd_antisymm d1 d2
  have e2 : y = y' := by omega
  subst e2
  exact ⟨Int.eq_of_mul_eq_mul_right (by omega) h, rfl⟩
theorem rT_lt {t b : Int} (h : b ≠ 0) {n : Nat} (hn : t.natAbs < n) : (rT t b).natAbs < n := by
  have g0 := gcd_pos' (t := t) h
  have e1 : t.natAbs = (rT t b).natAbs * Nat.gcd t.natAbs b.natAbs := by
    rw [← rg_abs, ← Int.natAbs_mul, rT_mul]
  have := Nat.le_mul_of_pos_right (rT t b).natAbs g0
  omega
theorem rB_lt {t b : Int} (h : b ≠ 0) {n : Nat} (hn : b.natAbs < n) : (rB t b).natAbs < n := by
  have g0 := gcd_pos' (t := t) h
  have e1 : b.natAbs = (rB t b).natAbs * Nat.gcd t.natAbs b.natAbs := by
    rw [← rg_abs, ← Int.natAbs_mul, rB_mul]
  have := Nat.le_mul_of_pos_right (rB t b).natAbs g0
  omega
theorem rg_lt {t b : Int} (h : b ≠ 0) {n : Nat} (hn : b.natAbs < n) : (rg t b).natAbs < n := by
  rw [rg_abs]
  exact Nat.lt_of_le_of_lt (Nat.le_of_dvd (by omega) (Nat.gcd_dvd_right _ _)) hn
/-- equal as numbers: made alike -/
theorem r_same {t b t' b' : Int} (h : b ≠ 0) (h' : b' ≠ 0) (e : t * b' = t' * b) : rT t b = rT t' b' ∧ rB t b = rB t' b' := by
  refine low_uniq (rB_pos h) (rB_pos h') (r_cop h) (r_cop h') ?_
  have c1 := r_cross t b
  have c2 := r_cross t' b'
  have g : (rT t b * rB t' b') * (b * b') = (rT t' b' * rB t b) * (b * b') := by
    calc (rT t b * rB t' b') * (b * b') = (rT t b * b) * (rB t' b' * b') := by simp only [Int.mul_assoc, Int.mul_comm, Int.mul_left_comm]
      _ = (t * rB t b) * (rB t' b' * b') := by rw [c1]
      _ = (t * b') * (rB t b * rB t' b') := by simp only [Int.mul_assoc, Int.mul_comm, Int.mul_left_comm]
      _ = (t' * b) * (rB t b * rB t' b') := by rw [e]
      _ = (t' * rB t' b') * (rB t b * b) := by simp only [Int.mul_assoc, Int.mul_comm, Int.mul_left_comm]
      _ = (rT t' b' * b') * (rB t b * b) := by rw [c2]
      _ = (rT t' b' * rB t b) * (b * b') := by simp only [Int.mul_assoc, Int.mul_comm, Int.mul_left_comm]
  exact Int.eq_of_mul_eq_mul_right (Int.mul_ne_zero h h') g
/-- already lowest terms -/
theorem r_low {x y : Int} (hy : 0 < y) (c : Nat.gcd x.natAbs y.natAbs = 1) : rT x y = x ∧ rB x y = y := by
  have hr : rg x y = 1 := by unfold rg; rw [if_pos hy, c]; rfl
  have e1 := rT_mul x y
  have e2 := rB_mul x y
  rw [hr, Int.mul_one] at e1 e2
  exact ⟨e1, e2⟩
end DL

namespace K02
open PySem L2 DL
section
variable {c : Wd} {A : Ad} {z : Z} {P : D → Z → Prop} {R : Er → Z → Prop}
theorem is_int_i (T : Txt c A) {i : Int} : sp_is_int c A [.int i] z P R ↔ P (.bl true) z := by
  show 1 = 1 ∧ t_is_int c A _ ⟨[.d (.int i)], z⟩ ↔ _
  simp only [t_is_int, dSeq, dIte, dTB, dBin, dBinE, dUnE, dCalE, dPen, isPen, dC, dVar, dNil, dCons, dSet, dAsg, dRet, dNext, dAnd, dOr, dNot, dAndV, dOrV, dNotV, dBu, oLen, oInt, oAbs, oI, oAdd, oIx, dIx, gPen, gN, gC, gT, gZ, dLst, dTup, dPar, dSl, dNone, dPart, oSl, dCall, dIf, dDrop, fnN, inN, dAt, dSelfFld, dSelfSet, dOwn, dApp, dRaise, oNegA, oAbsA, oBoolA, oStrA, oIsN, oGcd, dFmt, dJs, dpt_one, oEq_ii, oEq_bb, oEq_ss, oNe_ii, oNe_ss, oEqA_ii, oEqA_bb, oEqA_ss, oEqA_in, oEqA_ri, oNeA_ii, oNeA_ss, oNeA_in, List.getElem?_cons_zero, List.getElem?_cons_succ, List.set_cons_zero, List.set_cons_succ, true_and, and_true, if_true, if_false, Bool.false_eq_true, List.length_cons, List.length_nil, Option.some.injEq, Int.reduceEq, ↓reduceIte, Nat.reduceAdd, Nat.reduceLeDiff, Nat.zero_le, decide_true, decide_false, Bool.not_true, Bool.not_false, D.bl.injEq, D.int.injEq, D.str.injEq, exists_eq_left', exists_eq_left, cq_law_draw_2, cq_law_pick_2, cq_law_size_1, cq_law_pair_1, cq_is_int_1, cq_Ratio_Ratio___init___2, cq_Ratio___eq___2, tq_eq_eq_Ratio, cq_Ratio___abs___1, tq_own_abs_Ratio, cq_law_divisor_2, cq_law_is_3, cq_Ratio_Ratio___init___0_bottom_top, cq_Ratio___neg___1, tq_own_neg_Ratio, cq_Ratio___bool___1, tq_own_bool_Ratio, cq_Ratio_Ratio___init___1, cq_Ratio___str___1, tq_own_str_Ratio, cq_law_made_right_1, cq_law_refused_right_1, isa_NoneType_BadRatio T, isa_bool_BadRatio T, isa_int_BadRatio T, isa_str_BadRatio T, isa_list_BadRatio T, isa_tuple_BadRatio T, isa_dict_BadRatio T, isa_c_Ratio_BadRatio T, isa_x_BadRatio_BadRatio T, isa_NoneType_Ratio T, isa_bool_Ratio T, isa_int_Ratio T, isa_str_Ratio T, isa_list_Ratio T, isa_tuple_Ratio T, isa_dict_Ratio T, isa_c_Ratio_Ratio T, isa_x_BadRatio_Ratio T, isa_NoneType_bool T, isa_bool_bool T, isa_int_bool T, isa_str_bool T, isa_list_bool T, isa_tuple_bool T, isa_dict_bool T, isa_c_Ratio_bool T, isa_x_BadRatio_bool T, isa_NoneType_int T, isa_bool_int T, isa_int_int T, isa_str_int T, isa_list_int T, isa_tuple_int T, isa_dict_int T, isa_c_Ratio_int T, isa_x_BadRatio_int T, T.em_BadRatio_CreditError, np_Ratio_NoneType T, np_Ratio_bool T, np_Ratio_int T, np_Ratio_str T, np_Ratio_list T, np_Ratio_tuple T, np_Ratio_dict T, np_Ratio_c_Ratio T, lk_Ratio_top, T.na_Ratio_top, lk_Ratio_bottom, T.na_Ratio_bottom, pd_Ratio_top, pd_Ratio_bottom, lx_BadRatio_part, T.xa_BadRatio_part]
theorem is_int_b (T : Txt c A) {b : Bool} : sp_is_int c A [.bl b] z P R ↔ P (.bl false) z := by
  show 1 = 1 ∧ t_is_int c A _ ⟨[.d (.bl b)], z⟩ ↔ _
  simp only [t_is_int, dSeq, dIte, dTB, dBin, dBinE, dUnE, dCalE, dPen, isPen, dC, dVar, dNil, dCons, dSet, dAsg, dRet, dNext, dAnd, dOr, dNot, dAndV, dOrV, dNotV, dBu, oLen, oInt, oAbs, oI, oAdd, oIx, dIx, gPen, gN, gC, gT, gZ, dLst, dTup, dPar, dSl, dNone, dPart, oSl, dCall, dIf, dDrop, fnN, inN, dAt, dSelfFld, dSelfSet, dOwn, dApp, dRaise, oNegA, oAbsA, oBoolA, oStrA, oIsN, oGcd, dFmt, dJs, dpt_one, oEq_ii, oEq_bb, oEq_ss, oNe_ii, oNe_ss, oEqA_ii, oEqA_bb, oEqA_ss, oEqA_in, oEqA_ri, oNeA_ii, oNeA_ss, oNeA_in, List.getElem?_cons_zero, List.getElem?_cons_succ, List.set_cons_zero, List.set_cons_succ, true_and, and_true, if_true, if_false, Bool.false_eq_true, List.length_cons, List.length_nil, Option.some.injEq, Int.reduceEq, ↓reduceIte, Nat.reduceAdd, Nat.reduceLeDiff, Nat.zero_le, decide_true, decide_false, Bool.not_true, Bool.not_false, D.bl.injEq, D.int.injEq, D.str.injEq, exists_eq_left', exists_eq_left, cq_law_draw_2, cq_law_pick_2, cq_law_size_1, cq_law_pair_1, cq_is_int_1, cq_Ratio_Ratio___init___2, cq_Ratio___eq___2, tq_eq_eq_Ratio, cq_Ratio___abs___1, tq_own_abs_Ratio, cq_law_divisor_2, cq_law_is_3, cq_Ratio_Ratio___init___0_bottom_top, cq_Ratio___neg___1, tq_own_neg_Ratio, cq_Ratio___bool___1, tq_own_bool_Ratio, cq_Ratio_Ratio___init___1, cq_Ratio___str___1, tq_own_str_Ratio, cq_law_made_right_1, cq_law_refused_right_1, isa_NoneType_BadRatio T, isa_bool_BadRatio T, isa_int_BadRatio T, isa_str_BadRatio T, isa_list_BadRatio T, isa_tuple_BadRatio T, isa_dict_BadRatio T, isa_c_Ratio_BadRatio T, isa_x_BadRatio_BadRatio T, isa_NoneType_Ratio T, isa_bool_Ratio T, isa_int_Ratio T, isa_str_Ratio T, isa_list_Ratio T, isa_tuple_Ratio T, isa_dict_Ratio T, isa_c_Ratio_Ratio T, isa_x_BadRatio_Ratio T, isa_NoneType_bool T, isa_bool_bool T, isa_int_bool T, isa_str_bool T, isa_list_bool T, isa_tuple_bool T, isa_dict_bool T, isa_c_Ratio_bool T, isa_x_BadRatio_bool T, isa_NoneType_int T, isa_bool_int T, isa_int_int T, isa_str_int T, isa_list_int T, isa_tuple_int T, isa_dict_int T, isa_c_Ratio_int T, isa_x_BadRatio_int T, T.em_BadRatio_CreditError, np_Ratio_NoneType T, np_Ratio_bool T, np_Ratio_int T, np_Ratio_str T, np_Ratio_list T, np_Ratio_tuple T, np_Ratio_dict T, np_Ratio_c_Ratio T, lk_Ratio_top, T.na_Ratio_top, lk_Ratio_bottom, T.na_Ratio_bottom, pd_Ratio_top, pd_Ratio_bottom, lx_BadRatio_part, T.xa_BadRatio_part]
theorem is_int_n (T : Txt c A) : sp_is_int c A [.non] z P R ↔ P (.bl false) z := by
  show 1 = 1 ∧ t_is_int c A _ ⟨[.d .non], z⟩ ↔ _
  simp only [t_is_int, dSeq, dIte, dTB, dBin, dBinE, dUnE, dCalE, dPen, isPen, dC, dVar, dNil, dCons, dSet, dAsg, dRet, dNext, dAnd, dOr, dNot, dAndV, dOrV, dNotV, dBu, oLen, oInt, oAbs, oI, oAdd, oIx, dIx, gPen, gN, gC, gT, gZ, dLst, dTup, dPar, dSl, dNone, dPart, oSl, dCall, dIf, dDrop, fnN, inN, dAt, dSelfFld, dSelfSet, dOwn, dApp, dRaise, oNegA, oAbsA, oBoolA, oStrA, oIsN, oGcd, dFmt, dJs, dpt_one, oEq_ii, oEq_bb, oEq_ss, oNe_ii, oNe_ss, oEqA_ii, oEqA_bb, oEqA_ss, oEqA_in, oEqA_ri, oNeA_ii, oNeA_ss, oNeA_in, List.getElem?_cons_zero, List.getElem?_cons_succ, List.set_cons_zero, List.set_cons_succ, true_and, and_true, if_true, if_false, Bool.false_eq_true, List.length_cons, List.length_nil, Option.some.injEq, Int.reduceEq, ↓reduceIte, Nat.reduceAdd, Nat.reduceLeDiff, Nat.zero_le, decide_true, decide_false, Bool.not_true, Bool.not_false, D.bl.injEq, D.int.injEq, D.str.injEq, exists_eq_left', exists_eq_left, cq_law_draw_2, cq_law_pick_2, cq_law_size_1, cq_law_pair_1, cq_is_int_1, cq_Ratio_Ratio___init___2, cq_Ratio___eq___2, tq_eq_eq_Ratio, cq_Ratio___abs___1, tq_own_abs_Ratio, cq_law_divisor_2, cq_law_is_3, cq_Ratio_Ratio___init___0_bottom_top, cq_Ratio___neg___1, tq_own_neg_Ratio, cq_Ratio___bool___1, tq_own_bool_Ratio, cq_Ratio_Ratio___init___1, cq_Ratio___str___1, tq_own_str_Ratio, cq_law_made_right_1, cq_law_refused_right_1, isa_NoneType_BadRatio T, isa_bool_BadRatio T, isa_int_BadRatio T, isa_str_BadRatio T, isa_list_BadRatio T, isa_tuple_BadRatio T, isa_dict_BadRatio T, isa_c_Ratio_BadRatio T, isa_x_BadRatio_BadRatio T, isa_NoneType_Ratio T, isa_bool_Ratio T, isa_int_Ratio T, isa_str_Ratio T, isa_list_Ratio T, isa_tuple_Ratio T, isa_dict_Ratio T, isa_c_Ratio_Ratio T, isa_x_BadRatio_Ratio T, isa_NoneType_bool T, isa_bool_bool T, isa_int_bool T, isa_str_bool T, isa_list_bool T, isa_tuple_bool T, isa_dict_bool T, isa_c_Ratio_bool T, isa_x_BadRatio_bool T, isa_NoneType_int T, isa_bool_int T, isa_int_int T, isa_str_int T, isa_list_int T, isa_tuple_int T, isa_dict_int T, isa_c_Ratio_int T, isa_x_BadRatio_int T, T.em_BadRatio_CreditError, np_Ratio_NoneType T, np_Ratio_bool T, np_Ratio_int T, np_Ratio_str T, np_Ratio_list T, np_Ratio_tuple T, np_Ratio_dict T, np_Ratio_c_Ratio T, lk_Ratio_top, T.na_Ratio_top, lk_Ratio_bottom, T.na_Ratio_bottom, pd_Ratio_top, pd_Ratio_bottom, lx_BadRatio_part, T.xa_BadRatio_part]
theorem is_int_s (T : Txt c A) {s : Str} : sp_is_int c A [.str s] z P R ↔ P (.bl false) z := by
  show 1 = 1 ∧ t_is_int c A _ ⟨[.d (.str s)], z⟩ ↔ _
  simp only [t_is_int, dSeq, dIte, dTB, dBin, dBinE, dUnE, dCalE, dPen, isPen, dC, dVar, dNil, dCons, dSet, dAsg, dRet, dNext, dAnd, dOr, dNot, dAndV, dOrV, dNotV, dBu, oLen, oInt, oAbs, oI, oAdd, oIx, dIx, gPen, gN, gC, gT, gZ, dLst, dTup, dPar, dSl, dNone, dPart, oSl, dCall, dIf, dDrop, fnN, inN, dAt, dSelfFld, dSelfSet, dOwn, dApp, dRaise, oNegA, oAbsA, oBoolA, oStrA, oIsN, oGcd, dFmt, dJs, dpt_one, oEq_ii, oEq_bb, oEq_ss, oNe_ii, oNe_ss, oEqA_ii, oEqA_bb, oEqA_ss, oEqA_in, oEqA_ri, oNeA_ii, oNeA_ss, oNeA_in, List.getElem?_cons_zero, List.getElem?_cons_succ, List.set_cons_zero, List.set_cons_succ, true_and, and_true, if_true, if_false, Bool.false_eq_true, List.length_cons, List.length_nil, Option.some.injEq, Int.reduceEq, ↓reduceIte, Nat.reduceAdd, Nat.reduceLeDiff, Nat.zero_le, decide_true, decide_false, Bool.not_true, Bool.not_false, D.bl.injEq, D.int.injEq, D.str.injEq, exists_eq_left', exists_eq_left, cq_law_draw_2, cq_law_pick_2, cq_law_size_1, cq_law_pair_1, cq_is_int_1, cq_Ratio_Ratio___init___2, cq_Ratio___eq___2, tq_eq_eq_Ratio, cq_Ratio___abs___1, tq_own_abs_Ratio, cq_law_divisor_2, cq_law_is_3, cq_Ratio_Ratio___init___0_bottom_top, cq_Ratio___neg___1, tq_own_neg_Ratio, cq_Ratio___bool___1, tq_own_bool_Ratio, cq_Ratio_Ratio___init___1, cq_Ratio___str___1, tq_own_str_Ratio, cq_law_made_right_1, cq_law_refused_right_1, isa_NoneType_BadRatio T, isa_bool_BadRatio T, isa_int_BadRatio T, isa_str_BadRatio T, isa_list_BadRatio T, isa_tuple_BadRatio T, isa_dict_BadRatio T, isa_c_Ratio_BadRatio T, isa_x_BadRatio_BadRatio T, isa_NoneType_Ratio T, isa_bool_Ratio T, isa_int_Ratio T, isa_str_Ratio T, isa_list_Ratio T, isa_tuple_Ratio T, isa_dict_Ratio T, isa_c_Ratio_Ratio T, isa_x_BadRatio_Ratio T, isa_NoneType_bool T, isa_bool_bool T, isa_int_bool T, isa_str_bool T, isa_list_bool T, isa_tuple_bool T, isa_dict_bool T, isa_c_Ratio_bool T, isa_x_BadRatio_bool T, isa_NoneType_int T, isa_bool_int T, isa_int_int T, isa_str_int T, isa_list_int T, isa_tuple_int T, isa_dict_int T, isa_c_Ratio_int T, isa_x_BadRatio_int T, T.em_BadRatio_CreditError, np_Ratio_NoneType T, np_Ratio_bool T, np_Ratio_int T, np_Ratio_str T, np_Ratio_list T, np_Ratio_tuple T, np_Ratio_dict T, np_Ratio_c_Ratio T, lk_Ratio_top, T.na_Ratio_top, lk_Ratio_bottom, T.na_Ratio_bottom, pd_Ratio_top, pd_Ratio_bottom, lx_BadRatio_part, T.xa_BadRatio_part]
theorem is_int_l (T : Txt c A) {xs : List D} : sp_is_int c A [.lst xs] z P R ↔ P (.bl false) z := by
  show 1 = 1 ∧ t_is_int c A _ ⟨[.d (.lst xs)], z⟩ ↔ _
  simp only [t_is_int, dSeq, dIte, dTB, dBin, dBinE, dUnE, dCalE, dPen, isPen, dC, dVar, dNil, dCons, dSet, dAsg, dRet, dNext, dAnd, dOr, dNot, dAndV, dOrV, dNotV, dBu, oLen, oInt, oAbs, oI, oAdd, oIx, dIx, gPen, gN, gC, gT, gZ, dLst, dTup, dPar, dSl, dNone, dPart, oSl, dCall, dIf, dDrop, fnN, inN, dAt, dSelfFld, dSelfSet, dOwn, dApp, dRaise, oNegA, oAbsA, oBoolA, oStrA, oIsN, oGcd, dFmt, dJs, dpt_one, oEq_ii, oEq_bb, oEq_ss, oNe_ii, oNe_ss, oEqA_ii, oEqA_bb, oEqA_ss, oEqA_in, oEqA_ri, oNeA_ii, oNeA_ss, oNeA_in, List.getElem?_cons_zero, List.getElem?_cons_succ, List.set_cons_zero, List.set_cons_succ, true_and, and_true, if_true, if_false, Bool.false_eq_true, List.length_cons, List.length_nil, Option.some.injEq, Int.reduceEq, ↓reduceIte, Nat.reduceAdd, Nat.reduceLeDiff, Nat.zero_le, decide_true, decide_false, Bool.not_true, Bool.not_false, D.bl.injEq, D.int.injEq, D.str.injEq, exists_eq_left', exists_eq_left, cq_law_draw_2, cq_law_pick_2, cq_law_size_1, cq_law_pair_1, cq_is_int_1, cq_Ratio_Ratio___init___2, cq_Ratio___eq___2, tq_eq_eq_Ratio, cq_Ratio___abs___1, tq_own_abs_Ratio, cq_law_divisor_2, cq_law_is_3, cq_Ratio_Ratio___init___0_bottom_top, cq_Ratio___neg___1, tq_own_neg_Ratio, cq_Ratio___bool___1, tq_own_bool_Ratio, cq_Ratio_Ratio___init___1, cq_Ratio___str___1, tq_own_str_Ratio, cq_law_made_right_1, cq_law_refused_right_1, isa_NoneType_BadRatio T, isa_bool_BadRatio T, isa_int_BadRatio T, isa_str_BadRatio T, isa_list_BadRatio T, isa_tuple_BadRatio T, isa_dict_BadRatio T, isa_c_Ratio_BadRatio T, isa_x_BadRatio_BadRatio T, isa_NoneType_Ratio T, isa_bool_Ratio T, isa_int_Ratio T, isa_str_Ratio T, isa_list_Ratio T, isa_tuple_Ratio T, isa_dict_Ratio T, isa_c_Ratio_Ratio T, isa_x_BadRatio_Ratio T, isa_NoneType_bool T, isa_bool_bool T, isa_int_bool T, isa_str_bool T, isa_list_bool T, isa_tuple_bool T, isa_dict_bool T, isa_c_Ratio_bool T, isa_x_BadRatio_bool T, isa_NoneType_int T, isa_bool_int T, isa_int_int T, isa_str_int T, isa_list_int T, isa_tuple_int T, isa_dict_int T, isa_c_Ratio_int T, isa_x_BadRatio_int T, T.em_BadRatio_CreditError, np_Ratio_NoneType T, np_Ratio_bool T, np_Ratio_int T, np_Ratio_str T, np_Ratio_list T, np_Ratio_tuple T, np_Ratio_dict T, np_Ratio_c_Ratio T, lk_Ratio_top, T.na_Ratio_top, lk_Ratio_bottom, T.na_Ratio_bottom, pd_Ratio_top, pd_Ratio_bottom, lx_BadRatio_part, T.xa_BadRatio_part]
theorem is_int_t (T : Txt c A) {xs : List D} : sp_is_int c A [.tup xs] z P R ↔ P (.bl false) z := by
  show 1 = 1 ∧ t_is_int c A _ ⟨[.d (.tup xs)], z⟩ ↔ _
  simp only [t_is_int, dSeq, dIte, dTB, dBin, dBinE, dUnE, dCalE, dPen, isPen, dC, dVar, dNil, dCons, dSet, dAsg, dRet, dNext, dAnd, dOr, dNot, dAndV, dOrV, dNotV, dBu, oLen, oInt, oAbs, oI, oAdd, oIx, dIx, gPen, gN, gC, gT, gZ, dLst, dTup, dPar, dSl, dNone, dPart, oSl, dCall, dIf, dDrop, fnN, inN, dAt, dSelfFld, dSelfSet, dOwn, dApp, dRaise, oNegA, oAbsA, oBoolA, oStrA, oIsN, oGcd, dFmt, dJs, dpt_one, oEq_ii, oEq_bb, oEq_ss, oNe_ii, oNe_ss, oEqA_ii, oEqA_bb, oEqA_ss, oEqA_in, oEqA_ri, oNeA_ii, oNeA_ss, oNeA_in, List.getElem?_cons_zero, List.getElem?_cons_succ, List.set_cons_zero, List.set_cons_succ, true_and, and_true, if_true, if_false, Bool.false_eq_true, List.length_cons, List.length_nil, Option.some.injEq, Int.reduceEq, ↓reduceIte, Nat.reduceAdd, Nat.reduceLeDiff, Nat.zero_le, decide_true, decide_false, Bool.not_true, Bool.not_false, D.bl.injEq, D.int.injEq, D.str.injEq, exists_eq_left', exists_eq_left, cq_law_draw_2, cq_law_pick_2, cq_law_size_1, cq_law_pair_1, cq_is_int_1, cq_Ratio_Ratio___init___2, cq_Ratio___eq___2, tq_eq_eq_Ratio, cq_Ratio___abs___1, tq_own_abs_Ratio, cq_law_divisor_2, cq_law_is_3, cq_Ratio_Ratio___init___0_bottom_top, cq_Ratio___neg___1, tq_own_neg_Ratio, cq_Ratio___bool___1, tq_own_bool_Ratio, cq_Ratio_Ratio___init___1, cq_Ratio___str___1, tq_own_str_Ratio, cq_law_made_right_1, cq_law_refused_right_1, isa_NoneType_BadRatio T, isa_bool_BadRatio T, isa_int_BadRatio T, isa_str_BadRatio T, isa_list_BadRatio T, isa_tuple_BadRatio T, isa_dict_BadRatio T, isa_c_Ratio_BadRatio T, isa_x_BadRatio_BadRatio T, isa_NoneType_Ratio T, isa_bool_Ratio T, isa_int_Ratio T, isa_str_Ratio T, isa_list_Ratio T, isa_tuple_Ratio T, isa_dict_Ratio T, isa_c_Ratio_Ratio T, isa_x_BadRatio_Ratio T, isa_NoneType_bool T, isa_bool_bool T, isa_int_bool T, isa_str_bool T, isa_list_bool T, isa_tuple_bool T, isa_dict_bool T, isa_c_Ratio_bool T, isa_x_BadRatio_bool T, isa_NoneType_int T, isa_bool_int T, isa_int_int T, isa_str_int T, isa_list_int T, isa_tuple_int T, isa_dict_int T, isa_c_Ratio_int T, isa_x_BadRatio_int T, T.em_BadRatio_CreditError, np_Ratio_NoneType T, np_Ratio_bool T, np_Ratio_int T, np_Ratio_str T, np_Ratio_list T, np_Ratio_tuple T, np_Ratio_dict T, np_Ratio_c_Ratio T, lk_Ratio_top, T.na_Ratio_top, lk_Ratio_bottom, T.na_Ratio_bottom, pd_Ratio_top, pd_Ratio_bottom, lx_BadRatio_part, T.xa_BadRatio_part]
theorem is_int_d (T : Txt c A) {xs : List (Key × D)} : sp_is_int c A [.dct xs] z P R ↔ P (.bl false) z := by
  show 1 = 1 ∧ t_is_int c A _ ⟨[.d (.dct xs)], z⟩ ↔ _
  simp only [t_is_int, dSeq, dIte, dTB, dBin, dBinE, dUnE, dCalE, dPen, isPen, dC, dVar, dNil, dCons, dSet, dAsg, dRet, dNext, dAnd, dOr, dNot, dAndV, dOrV, dNotV, dBu, oLen, oInt, oAbs, oI, oAdd, oIx, dIx, gPen, gN, gC, gT, gZ, dLst, dTup, dPar, dSl, dNone, dPart, oSl, dCall, dIf, dDrop, fnN, inN, dAt, dSelfFld, dSelfSet, dOwn, dApp, dRaise, oNegA, oAbsA, oBoolA, oStrA, oIsN, oGcd, dFmt, dJs, dpt_one, oEq_ii, oEq_bb, oEq_ss, oNe_ii, oNe_ss, oEqA_ii, oEqA_bb, oEqA_ss, oEqA_in, oEqA_ri, oNeA_ii, oNeA_ss, oNeA_in, List.getElem?_cons_zero, List.getElem?_cons_succ, List.set_cons_zero, List.set_cons_succ, true_and, and_true, if_true, if_false, Bool.false_eq_true, List.length_cons, List.length_nil, Option.some.injEq, Int.reduceEq, ↓reduceIte, Nat.reduceAdd, Nat.reduceLeDiff, Nat.zero_le, decide_true, decide_false, Bool.not_true, Bool.not_false, D.bl.injEq, D.int.injEq, D.str.injEq, exists_eq_left', exists_eq_left, cq_law_draw_2, cq_law_pick_2, cq_law_size_1, cq_law_pair_1, cq_is_int_1, cq_Ratio_Ratio___init___2, cq_Ratio___eq___2, tq_eq_eq_Ratio, cq_Ratio___abs___1, tq_own_abs_Ratio, cq_law_divisor_2, cq_law_is_3, cq_Ratio_Ratio___init___0_bottom_top, cq_Ratio___neg___1, tq_own_neg_Ratio, cq_Ratio___bool___1, tq_own_bool_Ratio, cq_Ratio_Ratio___init___1, cq_Ratio___str___1, tq_own_str_Ratio, cq_law_made_right_1, cq_law_refused_right_1, isa_NoneType_BadRatio T, isa_bool_BadRatio T, isa_int_BadRatio T, isa_str_BadRatio T, isa_list_BadRatio T, isa_tuple_BadRatio T, isa_dict_BadRatio T, isa_c_Ratio_BadRatio T, isa_x_BadRatio_BadRatio T, isa_NoneType_Ratio T, isa_bool_Ratio T, isa_int_Ratio T, isa_str_Ratio T, isa_list_Ratio T, isa_tuple_Ratio T, isa_dict_Ratio T, isa_c_Ratio_Ratio T, isa_x_BadRatio_Ratio T, isa_NoneType_bool T, isa_bool_bool T, isa_int_bool T, isa_str_bool T, isa_list_bool T, isa_tuple_bool T, isa_dict_bool T, isa_c_Ratio_bool T, isa_x_BadRatio_bool T, isa_NoneType_int T, isa_bool_int T, isa_int_int T, isa_str_int T, isa_list_int T, isa_tuple_int T, isa_dict_int T, isa_c_Ratio_int T, isa_x_BadRatio_int T, T.em_BadRatio_CreditError, np_Ratio_NoneType T, np_Ratio_bool T, np_Ratio_int T, np_Ratio_str T, np_Ratio_list T, np_Ratio_tuple T, np_Ratio_dict T, np_Ratio_c_Ratio T, lk_Ratio_top, T.na_Ratio_top, lk_Ratio_bottom, T.na_Ratio_bottom, pd_Ratio_top, pd_Ratio_bottom, lx_BadRatio_part, T.xa_BadRatio_part]
theorem is_int_r (T : Txt c A) {fs : List (Str × D)} : sp_is_int c A [.ins A.c_Ratio fs] z P R ↔ P (.bl false) z := by
  show 1 = 1 ∧ t_is_int c A _ ⟨[.d (.ins A.c_Ratio fs)], z⟩ ↔ _
  simp only [t_is_int, dSeq, dIte, dTB, dBin, dBinE, dUnE, dCalE, dPen, isPen, dC, dVar, dNil, dCons, dSet, dAsg, dRet, dNext, dAnd, dOr, dNot, dAndV, dOrV, dNotV, dBu, oLen, oInt, oAbs, oI, oAdd, oIx, dIx, gPen, gN, gC, gT, gZ, dLst, dTup, dPar, dSl, dNone, dPart, oSl, dCall, dIf, dDrop, fnN, inN, dAt, dSelfFld, dSelfSet, dOwn, dApp, dRaise, oNegA, oAbsA, oBoolA, oStrA, oIsN, oGcd, dFmt, dJs, dpt_one, oEq_ii, oEq_bb, oEq_ss, oNe_ii, oNe_ss, oEqA_ii, oEqA_bb, oEqA_ss, oEqA_in, oEqA_ri, oNeA_ii, oNeA_ss, oNeA_in, List.getElem?_cons_zero, List.getElem?_cons_succ, List.set_cons_zero, List.set_cons_succ, true_and, and_true, if_true, if_false, Bool.false_eq_true, List.length_cons, List.length_nil, Option.some.injEq, Int.reduceEq, ↓reduceIte, Nat.reduceAdd, Nat.reduceLeDiff, Nat.zero_le, decide_true, decide_false, Bool.not_true, Bool.not_false, D.bl.injEq, D.int.injEq, D.str.injEq, exists_eq_left', exists_eq_left, cq_law_draw_2, cq_law_pick_2, cq_law_size_1, cq_law_pair_1, cq_is_int_1, cq_Ratio_Ratio___init___2, cq_Ratio___eq___2, tq_eq_eq_Ratio, cq_Ratio___abs___1, tq_own_abs_Ratio, cq_law_divisor_2, cq_law_is_3, cq_Ratio_Ratio___init___0_bottom_top, cq_Ratio___neg___1, tq_own_neg_Ratio, cq_Ratio___bool___1, tq_own_bool_Ratio, cq_Ratio_Ratio___init___1, cq_Ratio___str___1, tq_own_str_Ratio, cq_law_made_right_1, cq_law_refused_right_1, isa_NoneType_BadRatio T, isa_bool_BadRatio T, isa_int_BadRatio T, isa_str_BadRatio T, isa_list_BadRatio T, isa_tuple_BadRatio T, isa_dict_BadRatio T, isa_c_Ratio_BadRatio T, isa_x_BadRatio_BadRatio T, isa_NoneType_Ratio T, isa_bool_Ratio T, isa_int_Ratio T, isa_str_Ratio T, isa_list_Ratio T, isa_tuple_Ratio T, isa_dict_Ratio T, isa_c_Ratio_Ratio T, isa_x_BadRatio_Ratio T, isa_NoneType_bool T, isa_bool_bool T, isa_int_bool T, isa_str_bool T, isa_list_bool T, isa_tuple_bool T, isa_dict_bool T, isa_c_Ratio_bool T, isa_x_BadRatio_bool T, isa_NoneType_int T, isa_bool_int T, isa_int_int T, isa_str_int T, isa_list_int T, isa_tuple_int T, isa_dict_int T, isa_c_Ratio_int T, isa_x_BadRatio_int T, T.em_BadRatio_CreditError, np_Ratio_NoneType T, np_Ratio_bool T, np_Ratio_int T, np_Ratio_str T, np_Ratio_list T, np_Ratio_tuple T, np_Ratio_dict T, np_Ratio_c_Ratio T, lk_Ratio_top, T.na_Ratio_top, lk_Ratio_bottom, T.na_Ratio_bottom, pd_Ratio_top, pd_Ratio_bottom, lx_BadRatio_part, T.xa_BadRatio_part]
/-- a ratio, made -/
theorem mk_ok (T : Txt c A) {t b : Int} {PF : List (Str × D) → Z → Prop} (hb : b ≠ 0) (h200 : b.natAbs < 2 ^ 200) (h : PF [(("top" : Str), .int (rT t b)), (("bottom" : Str), .int (rB t b))] z) : si_Ratio___init__ c A [.int t, .int b] z PF R := by
  refine ⟨rfl, ?_⟩
  show t_Ratio___init__ c A _ ⟨[.self A.c_Ratio [], .d (.int t), .d (.int b), .un], z⟩
  have g1 := rg_ne (t := t) hb
  have g2 := rg_lt (t := t) hb h200
  have g3 : CDivG (rg t b) := cdg_of 200 g1 g2
  unfold rT rB rg at h
  unfold rg at g3
  have hd : decide (b = 0) = false := decide_eq_false hb
  simp only [t_Ratio___init__, u_Ratio___init___1, u_Ratio___init___2, u_Ratio___init___3, u_Ratio___init___4, dSeq, dIte, dTB, dBin, dBinE, dUnE, dCalE, dPen, isPen, dC, dVar, dNil, dCons, dSet, dAsg, dRet, dNext, dAnd, dOr, dNot, dAndV, dOrV, dNotV, dBu, oLen, oInt, oAbs, oI, oAdd, oIx, dIx, gPen, gN, gC, gT, gZ, dLst, dTup, dPar, dSl, dNone, dPart, oSl, dCall, dIf, dDrop, fnN, inN, dAt, dSelfFld, dSelfSet, dOwn, dApp, dRaise, oNegA, oAbsA, oBoolA, oStrA, oIsN, oGcd, dFmt, dJs, dpt_one, oEq_ii, oEq_bb, oEq_ss, oNe_ii, oNe_ss, oEqA_ii, oEqA_bb, oEqA_ss, oEqA_in, oEqA_ri, oNeA_ii, oNeA_ss, oNeA_in, List.getElem?_cons_zero, List.getElem?_cons_succ, List.set_cons_zero, List.set_cons_succ, true_and, and_true, if_true, if_false, Bool.false_eq_true, List.length_cons, List.length_nil, Option.some.injEq, Int.reduceEq, ↓reduceIte, Nat.reduceAdd, Nat.reduceLeDiff, Nat.zero_le, decide_true, decide_false, Bool.not_true, Bool.not_false, D.bl.injEq, D.int.injEq, D.str.injEq, exists_eq_left', exists_eq_left, cq_law_draw_2, cq_law_pick_2, cq_law_size_1, cq_law_pair_1, cq_is_int_1, cq_Ratio_Ratio___init___2, cq_Ratio___eq___2, tq_eq_eq_Ratio, cq_Ratio___abs___1, tq_own_abs_Ratio, cq_law_divisor_2, cq_law_is_3, cq_Ratio_Ratio___init___0_bottom_top, cq_Ratio___neg___1, tq_own_neg_Ratio, cq_Ratio___bool___1, tq_own_bool_Ratio, cq_Ratio_Ratio___init___1, cq_Ratio___str___1, tq_own_str_Ratio, cq_law_made_right_1, cq_law_refused_right_1, isa_NoneType_BadRatio T, isa_bool_BadRatio T, isa_int_BadRatio T, isa_str_BadRatio T, isa_list_BadRatio T, isa_tuple_BadRatio T, isa_dict_BadRatio T, isa_c_Ratio_BadRatio T, isa_x_BadRatio_BadRatio T, isa_NoneType_Ratio T, isa_bool_Ratio T, isa_int_Ratio T, isa_str_Ratio T, isa_list_Ratio T, isa_tuple_Ratio T, isa_dict_Ratio T, isa_c_Ratio_Ratio T, isa_x_BadRatio_Ratio T, isa_NoneType_bool T, isa_bool_bool T, isa_int_bool T, isa_str_bool T, isa_list_bool T, isa_tuple_bool T, isa_dict_bool T, isa_c_Ratio_bool T, isa_x_BadRatio_bool T, isa_NoneType_int T, isa_bool_int T, isa_int_int T, isa_str_int T, isa_list_int T, isa_tuple_int T, isa_dict_int T, isa_c_Ratio_int T, isa_x_BadRatio_int T, T.em_BadRatio_CreditError, np_Ratio_NoneType T, np_Ratio_bool T, np_Ratio_int T, np_Ratio_str T, np_Ratio_list T, np_Ratio_tuple T, np_Ratio_dict T, np_Ratio_c_Ratio T, lk_Ratio_top, T.na_Ratio_top, lk_Ratio_bottom, T.na_Ratio_bottom, pd_Ratio_top, pd_Ratio_bottom, lx_BadRatio_part, T.xa_BadRatio_part, is_int_i T, hd]
  by_cases h0 : 0 < b
  · simp only [h0, if_true] at h g3
    simp only [h0, decide_true, if_true, g3, true_and, dSeq, dIte, dTB, dBin, dBinE, dUnE, dCalE, dPen, isPen, dC, dVar, dNil, dCons, dSet, dAsg, dRet, dNext, dAnd, dOr, dNot, dAndV, dOrV, dNotV, dBu, oLen, oInt, oAbs, oI, oAdd, oIx, dIx, gPen, gN, gC, gT, gZ, dLst, dTup, dPar, dSl, dNone, dPart, oSl, dCall, dIf, dDrop, fnN, inN, dAt, dSelfFld, dSelfSet, dOwn, dApp, dRaise, oNegA, oAbsA, oBoolA, oStrA, oIsN, oGcd, dFmt, dJs, dpt_one, oEq_ii, oEq_bb, oEq_ss, oNe_ii, oNe_ss, oEqA_ii, oEqA_bb, oEqA_ss, oEqA_in, oEqA_ri, oNeA_ii, oNeA_ss, oNeA_in, List.getElem?_cons_zero, List.getElem?_cons_succ, List.set_cons_zero, List.set_cons_succ, true_and, and_true, if_true, if_false, Bool.false_eq_true, List.length_cons, List.length_nil, Option.some.injEq, Int.reduceEq, ↓reduceIte, Nat.reduceAdd, Nat.reduceLeDiff, Nat.zero_le, decide_true, decide_false, Bool.not_true, Bool.not_false, D.bl.injEq, D.int.injEq, D.str.injEq, exists_eq_left', exists_eq_left, cq_law_draw_2, cq_law_pick_2, cq_law_size_1, cq_law_pair_1, cq_is_int_1, cq_Ratio_Ratio___init___2, cq_Ratio___eq___2, tq_eq_eq_Ratio, cq_Ratio___abs___1, tq_own_abs_Ratio, cq_law_divisor_2, cq_law_is_3, cq_Ratio_Ratio___init___0_bottom_top, cq_Ratio___neg___1, tq_own_neg_Ratio, cq_Ratio___bool___1, tq_own_bool_Ratio, cq_Ratio_Ratio___init___1, cq_Ratio___str___1, tq_own_str_Ratio, cq_law_made_right_1, cq_law_refused_right_1, isa_NoneType_BadRatio T, isa_bool_BadRatio T, isa_int_BadRatio T, isa_str_BadRatio T, isa_list_BadRatio T, isa_tuple_BadRatio T, isa_dict_BadRatio T, isa_c_Ratio_BadRatio T, isa_x_BadRatio_BadRatio T, isa_NoneType_Ratio T, isa_bool_Ratio T, isa_int_Ratio T, isa_str_Ratio T, isa_list_Ratio T, isa_tuple_Ratio T, isa_dict_Ratio T, isa_c_Ratio_Ratio T, isa_x_BadRatio_Ratio T, isa_NoneType_bool T, isa_bool_bool T, isa_int_bool T, isa_str_bool T, isa_list_bool T, isa_tuple_bool T, isa_dict_bool T, isa_c_Ratio_bool T, isa_x_BadRatio_bool T, isa_NoneType_int T, isa_bool_int T, isa_int_int T, isa_str_int T, isa_list_int T, isa_tuple_int T, isa_dict_int T, isa_c_Ratio_int T, isa_x_BadRatio_int T, T.em_BadRatio_CreditError, np_Ratio_NoneType T, np_Ratio_bool T, np_Ratio_int T, np_Ratio_str T, np_Ratio_list T, np_Ratio_tuple T, np_Ratio_dict T, np_Ratio_c_Ratio T, lk_Ratio_top, T.na_Ratio_top, lk_Ratio_bottom, T.na_Ratio_bottom, pd_Ratio_top, pd_Ratio_bottom, lx_BadRatio_part, T.xa_BadRatio_part]
    exact ⟨by decide, by decide, rfl, h⟩
  · simp only [h0, if_false] at h g3
    simp only [h0, decide_false, if_false, g3, true_and, dSeq, dIte, dTB, dBin, dBinE, dUnE, dCalE, dPen, isPen, dC, dVar, dNil, dCons, dSet, dAsg, dRet, dNext, dAnd, dOr, dNot, dAndV, dOrV, dNotV, dBu, oLen, oInt, oAbs, oI, oAdd, oIx, dIx, gPen, gN, gC, gT, gZ, dLst, dTup, dPar, dSl, dNone, dPart, oSl, dCall, dIf, dDrop, fnN, inN, dAt, dSelfFld, dSelfSet, dOwn, dApp, dRaise, oNegA, oAbsA, oBoolA, oStrA, oIsN, oGcd, dFmt, dJs, dpt_one, oEq_ii, oEq_bb, oEq_ss, oNe_ii, oNe_ss, oEqA_ii, oEqA_bb, oEqA_ss, oEqA_in, oEqA_ri, oNeA_ii, oNeA_ss, oNeA_in, List.getElem?_cons_zero, List.getElem?_cons_succ, List.set_cons_zero, List.set_cons_succ, true_and, and_true, if_true, if_false, Bool.false_eq_true, List.length_cons, List.length_nil, Option.some.injEq, Int.reduceEq, ↓reduceIte, Nat.reduceAdd, Nat.reduceLeDiff, Nat.zero_le, decide_true, decide_false, Bool.not_true, Bool.not_false, D.bl.injEq, D.int.injEq, D.str.injEq, exists_eq_left', exists_eq_left, cq_law_draw_2, cq_law_pick_2, cq_law_size_1, cq_law_pair_1, cq_is_int_1, cq_Ratio_Ratio___init___2, cq_Ratio___eq___2, tq_eq_eq_Ratio, cq_Ratio___abs___1, tq_own_abs_Ratio, cq_law_divisor_2, cq_law_is_3, cq_Ratio_Ratio___init___0_bottom_top, cq_Ratio___neg___1, tq_own_neg_Ratio, cq_Ratio___bool___1, tq_own_bool_Ratio, cq_Ratio_Ratio___init___1, cq_Ratio___str___1, tq_own_str_Ratio, cq_law_made_right_1, cq_law_refused_right_1, isa_NoneType_BadRatio T, isa_bool_BadRatio T, isa_int_BadRatio T, isa_str_BadRatio T, isa_list_BadRatio T, isa_tuple_BadRatio T, isa_dict_BadRatio T, isa_c_Ratio_BadRatio T, isa_x_BadRatio_BadRatio T, isa_NoneType_Ratio T, isa_bool_Ratio T, isa_int_Ratio T, isa_str_Ratio T, isa_list_Ratio T, isa_tuple_Ratio T, isa_dict_Ratio T, isa_c_Ratio_Ratio T, isa_x_BadRatio_Ratio T, isa_NoneType_bool T, isa_bool_bool T, isa_int_bool T, isa_str_bool T, isa_list_bool T, isa_tuple_bool T, isa_dict_bool T, isa_c_Ratio_bool T, isa_x_BadRatio_bool T, isa_NoneType_int T, isa_bool_int T, isa_int_int T, isa_str_int T, isa_list_int T, isa_tuple_int T, isa_dict_int T, isa_c_Ratio_int T, isa_x_BadRatio_int T, T.em_BadRatio_CreditError, np_Ratio_NoneType T, np_Ratio_bool T, np_Ratio_int T, np_Ratio_str T, np_Ratio_list T, np_Ratio_tuple T, np_Ratio_dict T, np_Ratio_c_Ratio T, lk_Ratio_top, T.na_Ratio_top, lk_Ratio_bottom, T.na_Ratio_bottom, pd_Ratio_top, pd_Ratio_bottom, lx_BadRatio_part, T.xa_BadRatio_part]
    exact ⟨by decide, by decide, rfl, h⟩
/-- what is no integer -/
def NI (c : Wd) (A : Ad) (d : D) : Prop := ∀ z P R, sp_is_int c A [d] z P R ↔ P (.bl false) z
theorem mk_top (T : Txt c A) {d y : D} {PF : List (Str × D) → Z → Prop} (hd : NI c A d) (h : R (xo_BadRatio A (.str ("top" : Str))) z) : si_Ratio___init__ c A [d, y] z PF R := by
  refine ⟨rfl, ?_⟩
  show t_Ratio___init__ c A _ ⟨[.self A.c_Ratio [], .d d, .d y, .un], z⟩
  simp only [t_Ratio___init__, dSeq, dIte, dTB, dBin, dBinE, dUnE, dCalE, dPen, isPen, dC, dVar, dNil, dCons, dSet, dAsg, dRet, dNext, dAnd, dOr, dNot, dAndV, dOrV, dNotV, dBu, oLen, oInt, oAbs, oI, oAdd, oIx, dIx, gPen, gN, gC, gT, gZ, dLst, dTup, dPar, dSl, dNone, dPart, oSl, dCall, dIf, dDrop, fnN, inN, dAt, dSelfFld, dSelfSet, dOwn, dApp, dRaise, oNegA, oAbsA, oBoolA, oStrA, oIsN, oGcd, dFmt, dJs, dpt_one, oEq_ii, oEq_bb, oEq_ss, oNe_ii, oNe_ss, oEqA_ii, oEqA_bb, oEqA_ss, oEqA_in, oEqA_ri, oNeA_ii, oNeA_ss, oNeA_in, List.getElem?_cons_zero, List.getElem?_cons_succ, List.set_cons_zero, List.set_cons_succ, true_and, and_true, if_true, if_false, Bool.false_eq_true, List.length_cons, List.length_nil, Option.some.injEq, Int.reduceEq, ↓reduceIte, Nat.reduceAdd, Nat.reduceLeDiff, Nat.zero_le, decide_true, decide_false, Bool.not_true, Bool.not_false, D.bl.injEq, D.int.injEq, D.str.injEq, exists_eq_left', exists_eq_left, cq_law_draw_2, cq_law_pick_2, cq_law_size_1, cq_law_pair_1, cq_is_int_1, cq_Ratio_Ratio___init___2, cq_Ratio___eq___2, tq_eq_eq_Ratio, cq_Ratio___abs___1, tq_own_abs_Ratio, cq_law_divisor_2, cq_law_is_3, cq_Ratio_Ratio___init___0_bottom_top, cq_Ratio___neg___1, tq_own_neg_Ratio, cq_Ratio___bool___1, tq_own_bool_Ratio, cq_Ratio_Ratio___init___1, cq_Ratio___str___1, tq_own_str_Ratio, cq_law_made_right_1, cq_law_refused_right_1, isa_NoneType_BadRatio T, isa_bool_BadRatio T, isa_int_BadRatio T, isa_str_BadRatio T, isa_list_BadRatio T, isa_tuple_BadRatio T, isa_dict_BadRatio T, isa_c_Ratio_BadRatio T, isa_x_BadRatio_BadRatio T, isa_NoneType_Ratio T, isa_bool_Ratio T, isa_int_Ratio T, isa_str_Ratio T, isa_list_Ratio T, isa_tuple_Ratio T, isa_dict_Ratio T, isa_c_Ratio_Ratio T, isa_x_BadRatio_Ratio T, isa_NoneType_bool T, isa_bool_bool T, isa_int_bool T, isa_str_bool T, isa_list_bool T, isa_tuple_bool T, isa_dict_bool T, isa_c_Ratio_bool T, isa_x_BadRatio_bool T, isa_NoneType_int T, isa_bool_int T, isa_int_int T, isa_str_int T, isa_list_int T, isa_tuple_int T, isa_dict_int T, isa_c_Ratio_int T, isa_x_BadRatio_int T, T.em_BadRatio_CreditError, np_Ratio_NoneType T, np_Ratio_bool T, np_Ratio_int T, np_Ratio_str T, np_Ratio_list T, np_Ratio_tuple T, np_Ratio_dict T, np_Ratio_c_Ratio T, lk_Ratio_top, T.na_Ratio_top, lk_Ratio_bottom, T.na_Ratio_bottom, pd_Ratio_top, pd_Ratio_bottom, lx_BadRatio_part, T.xa_BadRatio_part, hd _ _ _]
  exact h
theorem mk_bot (T : Txt c A) {t : Int} {y : D} {PF : List (Str × D) → Z → Prop} (hd : NI c A y) (h : R (xo_BadRatio A (.str ("bottom" : Str))) z) : si_Ratio___init__ c A [.int t, y] z PF R := by
  refine ⟨rfl, ?_⟩
  show t_Ratio___init__ c A _ ⟨[.self A.c_Ratio [], .d (.int t), .d y, .un], z⟩
  simp only [t_Ratio___init__, u_Ratio___init___1, dSeq, dIte, dTB, dBin, dBinE, dUnE, dCalE, dPen, isPen, dC, dVar, dNil, dCons, dSet, dAsg, dRet, dNext, dAnd, dOr, dNot, dAndV, dOrV, dNotV, dBu, oLen, oInt, oAbs, oI, oAdd, oIx, dIx, gPen, gN, gC, gT, gZ, dLst, dTup, dPar, dSl, dNone, dPart, oSl, dCall, dIf, dDrop, fnN, inN, dAt, dSelfFld, dSelfSet, dOwn, dApp, dRaise, oNegA, oAbsA, oBoolA, oStrA, oIsN, oGcd, dFmt, dJs, dpt_one, oEq_ii, oEq_bb, oEq_ss, oNe_ii, oNe_ss, oEqA_ii, oEqA_bb, oEqA_ss, oEqA_in, oEqA_ri, oNeA_ii, oNeA_ss, oNeA_in, List.getElem?_cons_zero, List.getElem?_cons_succ, List.set_cons_zero, List.set_cons_succ, true_and, and_true, if_true, if_false, Bool.false_eq_true, List.length_cons, List.length_nil, Option.some.injEq, Int.reduceEq, ↓reduceIte, Nat.reduceAdd, Nat.reduceLeDiff, Nat.zero_le, decide_true, decide_false, Bool.not_true, Bool.not_false, D.bl.injEq, D.int.injEq, D.str.injEq, exists_eq_left', exists_eq_left, cq_law_draw_2, cq_law_pick_2, cq_law_size_1, cq_law_pair_1, cq_is_int_1, cq_Ratio_Ratio___init___2, cq_Ratio___eq___2, tq_eq_eq_Ratio, cq_Ratio___abs___1, tq_own_abs_Ratio, cq_law_divisor_2, cq_law_is_3, cq_Ratio_Ratio___init___0_bottom_top, cq_Ratio___neg___1, tq_own_neg_Ratio, cq_Ratio___bool___1, tq_own_bool_Ratio, cq_Ratio_Ratio___init___1, cq_Ratio___str___1, tq_own_str_Ratio, cq_law_made_right_1, cq_law_refused_right_1, isa_NoneType_BadRatio T, isa_bool_BadRatio T, isa_int_BadRatio T, isa_str_BadRatio T, isa_list_BadRatio T, isa_tuple_BadRatio T, isa_dict_BadRatio T, isa_c_Ratio_BadRatio T, isa_x_BadRatio_BadRatio T, isa_NoneType_Ratio T, isa_bool_Ratio T, isa_int_Ratio T, isa_str_Ratio T, isa_list_Ratio T, isa_tuple_Ratio T, isa_dict_Ratio T, isa_c_Ratio_Ratio T, isa_x_BadRatio_Ratio T, isa_NoneType_bool T, isa_bool_bool T, isa_int_bool T, isa_str_bool T, isa_list_bool T, isa_tuple_bool T, isa_dict_bool T, isa_c_Ratio_bool T, isa_x_BadRatio_bool T, isa_NoneType_int T, isa_bool_int T, isa_int_int T, isa_str_int T, isa_list_int T, isa_tuple_int T, isa_dict_int T, isa_c_Ratio_int T, isa_x_BadRatio_int T, T.em_BadRatio_CreditError, np_Ratio_NoneType T, np_Ratio_bool T, np_Ratio_int T, np_Ratio_str T, np_Ratio_list T, np_Ratio_tuple T, np_Ratio_dict T, np_Ratio_c_Ratio T, lk_Ratio_top, T.na_Ratio_top, lk_Ratio_bottom, T.na_Ratio_bottom, pd_Ratio_top, pd_Ratio_bottom, lx_BadRatio_part, T.xa_BadRatio_part, hd _ _ _, is_int_i T]
  exact h
theorem mk_bot0 (T : Txt c A) {t : Int} {PF : List (Str × D) → Z → Prop} (h : R (xo_BadRatio A (.str ("bottom" : Str))) z) : si_Ratio___init__ c A [.int t, .int 0] z PF R := by
  refine ⟨rfl, ?_⟩
  show t_Ratio___init__ c A _ ⟨[.self A.c_Ratio [], .d (.int t), .d (.int 0), .un], z⟩
  simp only [t_Ratio___init__, u_Ratio___init___1, dSeq, dIte, dTB, dBin, dBinE, dUnE, dCalE, dPen, isPen, dC, dVar, dNil, dCons, dSet, dAsg, dRet, dNext, dAnd, dOr, dNot, dAndV, dOrV, dNotV, dBu, oLen, oInt, oAbs, oI, oAdd, oIx, dIx, gPen, gN, gC, gT, gZ, dLst, dTup, dPar, dSl, dNone, dPart, oSl, dCall, dIf, dDrop, fnN, inN, dAt, dSelfFld, dSelfSet, dOwn, dApp, dRaise, oNegA, oAbsA, oBoolA, oStrA, oIsN, oGcd, dFmt, dJs, dpt_one, oEq_ii, oEq_bb, oEq_ss, oNe_ii, oNe_ss, oEqA_ii, oEqA_bb, oEqA_ss, oEqA_in, oEqA_ri, oNeA_ii, oNeA_ss, oNeA_in, List.getElem?_cons_zero, List.getElem?_cons_succ, List.set_cons_zero, List.set_cons_succ, true_and, and_true, if_true, if_false, Bool.false_eq_true, List.length_cons, List.length_nil, Option.some.injEq, Int.reduceEq, ↓reduceIte, Nat.reduceAdd, Nat.reduceLeDiff, Nat.zero_le, decide_true, decide_false, Bool.not_true, Bool.not_false, D.bl.injEq, D.int.injEq, D.str.injEq, exists_eq_left', exists_eq_left, cq_law_draw_2, cq_law_pick_2, cq_law_size_1, cq_law_pair_1, cq_is_int_1, cq_Ratio_Ratio___init___2, cq_Ratio___eq___2, tq_eq_eq_Ratio, cq_Ratio___abs___1, tq_own_abs_Ratio, cq_law_divisor_2, cq_law_is_3, cq_Ratio_Ratio___init___0_bottom_top, cq_Ratio___neg___1, tq_own_neg_Ratio, cq_Ratio___bool___1, tq_own_bool_Ratio, cq_Ratio_Ratio___init___1, cq_Ratio___str___1, tq_own_str_Ratio, cq_law_made_right_1, cq_law_refused_right_1, isa_NoneType_BadRatio T, isa_bool_BadRatio T, isa_int_BadRatio T, isa_str_BadRatio T, isa_list_BadRatio T, isa_tuple_BadRatio T, isa_dict_BadRatio T, isa_c_Ratio_BadRatio T, isa_x_BadRatio_BadRatio T, isa_NoneType_Ratio T, isa_bool_Ratio T, isa_int_Ratio T, isa_str_Ratio T, isa_list_Ratio T, isa_tuple_Ratio T, isa_dict_Ratio T, isa_c_Ratio_Ratio T, isa_x_BadRatio_Ratio T, isa_NoneType_bool T, isa_bool_bool T, isa_int_bool T, isa_str_bool T, isa_list_bool T, isa_tuple_bool T, isa_dict_bool T, isa_c_Ratio_bool T, isa_x_BadRatio_bool T, isa_NoneType_int T, isa_bool_int T, isa_int_int T, isa_str_int T, isa_list_int T, isa_tuple_int T, isa_dict_int T, isa_c_Ratio_int T, isa_x_BadRatio_int T, T.em_BadRatio_CreditError, np_Ratio_NoneType T, np_Ratio_bool T, np_Ratio_int T, np_Ratio_str T, np_Ratio_list T, np_Ratio_tuple T, np_Ratio_dict T, np_Ratio_c_Ratio T, lk_Ratio_top, T.na_Ratio_top, lk_Ratio_bottom, T.na_Ratio_bottom, pd_Ratio_top, pd_Ratio_bottom, lx_BadRatio_part, T.xa_BadRatio_part, is_int_i T]
  exact h
/-- == -/
theorem eq_ri (T : Txt c A) {x y i : Int} : sp_Ratio___eq__ c A [o_Ratio A (.int x) (.int y), .int i] z P R ↔ P (.bl (decide (y = 1 ∧ x = i))) z := by
  show 2 = 2 ∧ t_Ratio___eq__ c A _ ⟨[.d (o_Ratio A (.int x) (.int y)), .d (.int i)], z⟩ ↔ _
  simp only [t_Ratio___eq__, u_Ratio___eq___1, o_Ratio, dSeq, dIte, dTB, dBin, dBinE, dUnE, dCalE, dPen, isPen, dC, dVar, dNil, dCons, dSet, dAsg, dRet, dNext, dAnd, dOr, dNot, dAndV, dOrV, dNotV, dBu, oLen, oInt, oAbs, oI, oAdd, oIx, dIx, gPen, gN, gC, gT, gZ, dLst, dTup, dPar, dSl, dNone, dPart, oSl, dCall, dIf, dDrop, fnN, inN, dAt, dSelfFld, dSelfSet, dOwn, dApp, dRaise, oNegA, oAbsA, oBoolA, oStrA, oIsN, oGcd, dFmt, dJs, dpt_one, oEq_ii, oEq_bb, oEq_ss, oNe_ii, oNe_ss, oEqA_ii, oEqA_bb, oEqA_ss, oEqA_in, oEqA_ri, oNeA_ii, oNeA_ss, oNeA_in, List.getElem?_cons_zero, List.getElem?_cons_succ, List.set_cons_zero, List.set_cons_succ, true_and, and_true, if_true, if_false, Bool.false_eq_true, List.length_cons, List.length_nil, Option.some.injEq, Int.reduceEq, ↓reduceIte, Nat.reduceAdd, Nat.reduceLeDiff, Nat.zero_le, decide_true, decide_false, Bool.not_true, Bool.not_false, D.bl.injEq, D.int.injEq, D.str.injEq, exists_eq_left', exists_eq_left, cq_law_draw_2, cq_law_pick_2, cq_law_size_1, cq_law_pair_1, cq_is_int_1, cq_Ratio_Ratio___init___2, cq_Ratio___eq___2, tq_eq_eq_Ratio, cq_Ratio___abs___1, tq_own_abs_Ratio, cq_law_divisor_2, cq_law_is_3, cq_Ratio_Ratio___init___0_bottom_top, cq_Ratio___neg___1, tq_own_neg_Ratio, cq_Ratio___bool___1, tq_own_bool_Ratio, cq_Ratio_Ratio___init___1, cq_Ratio___str___1, tq_own_str_Ratio, cq_law_made_right_1, cq_law_refused_right_1, isa_NoneType_BadRatio T, isa_bool_BadRatio T, isa_int_BadRatio T, isa_str_BadRatio T, isa_list_BadRatio T, isa_tuple_BadRatio T, isa_dict_BadRatio T, isa_c_Ratio_BadRatio T, isa_x_BadRatio_BadRatio T, isa_NoneType_Ratio T, isa_bool_Ratio T, isa_int_Ratio T, isa_str_Ratio T, isa_list_Ratio T, isa_tuple_Ratio T, isa_dict_Ratio T, isa_c_Ratio_Ratio T, isa_x_BadRatio_Ratio T, isa_NoneType_bool T, isa_bool_bool T, isa_int_bool T, isa_str_bool T, isa_list_bool T, isa_tuple_bool T, isa_dict_bool T, isa_c_Ratio_bool T, isa_x_BadRatio_bool T, isa_NoneType_int T, isa_bool_int T, isa_int_int T, isa_str_int T, isa_list_int T, isa_tuple_int T, isa_dict_int T, isa_c_Ratio_int T, isa_x_BadRatio_int T, T.em_BadRatio_CreditError, np_Ratio_NoneType T, np_Ratio_bool T, np_Ratio_int T, np_Ratio_str T, np_Ratio_list T, np_Ratio_tuple T, np_Ratio_dict T, np_Ratio_c_Ratio T, lk_Ratio_top, T.na_Ratio_top, lk_Ratio_bottom, T.na_Ratio_bottom, pd_Ratio_top, pd_Ratio_bottom, lx_BadRatio_part, T.xa_BadRatio_part, is_int_i T]
  by_cases h : y = 1 <;> simp [h]
theorem eq_rr (T : Txt c A) {x y x' y' : Int} : sp_Ratio___eq__ c A [o_Ratio A (.int x) (.int y), o_Ratio A (.int x') (.int y')] z P R ↔ P (.bl (decide (x = x' ∧ y = y'))) z := by
  show 2 = 2 ∧ t_Ratio___eq__ c A _ ⟨[.d (o_Ratio A (.int x) (.int y)), .d (o_Ratio A (.int x') (.int y'))], z⟩ ↔ _
  simp only [t_Ratio___eq__, u_Ratio___eq___1, o_Ratio, dSeq, dIte, dTB, dBin, dBinE, dUnE, dCalE, dPen, isPen, dC, dVar, dNil, dCons, dSet, dAsg, dRet, dNext, dAnd, dOr, dNot, dAndV, dOrV, dNotV, dBu, oLen, oInt, oAbs, oI, oAdd, oIx, dIx, gPen, gN, gC, gT, gZ, dLst, dTup, dPar, dSl, dNone, dPart, oSl, dCall, dIf, dDrop, fnN, inN, dAt, dSelfFld, dSelfSet, dOwn, dApp, dRaise, oNegA, oAbsA, oBoolA, oStrA, oIsN, oGcd, dFmt, dJs, dpt_one, oEq_ii, oEq_bb, oEq_ss, oNe_ii, oNe_ss, oEqA_ii, oEqA_bb, oEqA_ss, oEqA_in, oEqA_ri, oNeA_ii, oNeA_ss, oNeA_in, List.getElem?_cons_zero, List.getElem?_cons_succ, List.set_cons_zero, List.set_cons_succ, true_and, and_true, if_true, if_false, Bool.false_eq_true, List.length_cons, List.length_nil, Option.some.injEq, Int.reduceEq, ↓reduceIte, Nat.reduceAdd, Nat.reduceLeDiff, Nat.zero_le, decide_true, decide_false, Bool.not_true, Bool.not_false, D.bl.injEq, D.int.injEq, D.str.injEq, exists_eq_left', exists_eq_left, cq_law_draw_2, cq_law_pick_2, cq_law_size_1, cq_law_pair_1, cq_is_int_1, cq_Ratio_Ratio___init___2, cq_Ratio___eq___2, tq_eq_eq_Ratio, cq_Ratio___abs___1, tq_own_abs_Ratio, cq_law_divisor_2, cq_law_is_3, cq_Ratio_Ratio___init___0_bottom_top, cq_Ratio___neg___1, tq_own_neg_Ratio, cq_Ratio___bool___1, tq_own_bool_Ratio, cq_Ratio_Ratio___init___1, cq_Ratio___str___1, tq_own_str_Ratio, cq_law_made_right_1, cq_law_refused_right_1, isa_NoneType_BadRatio T, isa_bool_BadRatio T, isa_int_BadRatio T, isa_str_BadRatio T, isa_list_BadRatio T, isa_tuple_BadRatio T, isa_dict_BadRatio T, isa_c_Ratio_BadRatio T, isa_x_BadRatio_BadRatio T, isa_NoneType_Ratio T, isa_bool_Ratio T, isa_int_Ratio T, isa_str_Ratio T, isa_list_Ratio T, isa_tuple_Ratio T, isa_dict_Ratio T, isa_c_Ratio_Ratio T, isa_x_BadRatio_Ratio T, isa_NoneType_bool T, isa_bool_bool T, isa_int_bool T, isa_str_bool T, isa_list_bool T, isa_tuple_bool T, isa_dict_bool T, isa_c_Ratio_bool T, isa_x_BadRatio_bool T, isa_NoneType_int T, isa_bool_int T, isa_int_int T, isa_str_int T, isa_list_int T, isa_tuple_int T, isa_dict_int T, isa_c_Ratio_int T, isa_x_BadRatio_int T, T.em_BadRatio_CreditError, np_Ratio_NoneType T, np_Ratio_bool T, np_Ratio_int T, np_Ratio_str T, np_Ratio_list T, np_Ratio_tuple T, np_Ratio_dict T, np_Ratio_c_Ratio T, lk_Ratio_top, T.na_Ratio_top, lk_Ratio_bottom, T.na_Ratio_bottom, pd_Ratio_top, pd_Ratio_bottom, lx_BadRatio_part, T.xa_BadRatio_part, is_int_r T]
  by_cases h : x = x' <;> simp [h]
theorem eq_rs (T : Txt c A) {x y : Int} {s : Str} : sp_Ratio___eq__ c A [o_Ratio A (.int x) (.int y), .str s] z P R ↔ P (.bl false) z := by
  show 2 = 2 ∧ t_Ratio___eq__ c A _ ⟨[.d (o_Ratio A (.int x) (.int y)), .d (.str s)], z⟩ ↔ _
  simp only [t_Ratio___eq__, u_Ratio___eq___1, o_Ratio, dSeq, dIte, dTB, dBin, dBinE, dUnE, dCalE, dPen, isPen, dC, dVar, dNil, dCons, dSet, dAsg, dRet, dNext, dAnd, dOr, dNot, dAndV, dOrV, dNotV, dBu, oLen, oInt, oAbs, oI, oAdd, oIx, dIx, gPen, gN, gC, gT, gZ, dLst, dTup, dPar, dSl, dNone, dPart, oSl, dCall, dIf, dDrop, fnN, inN, dAt, dSelfFld, dSelfSet, dOwn, dApp, dRaise, oNegA, oAbsA, oBoolA, oStrA, oIsN, oGcd, dFmt, dJs, dpt_one, oEq_ii, oEq_bb, oEq_ss, oNe_ii, oNe_ss, oEqA_ii, oEqA_bb, oEqA_ss, oEqA_in, oEqA_ri, oNeA_ii, oNeA_ss, oNeA_in, List.getElem?_cons_zero, List.getElem?_cons_succ, List.set_cons_zero, List.set_cons_succ, true_and, and_true, if_true, if_false, Bool.false_eq_true, List.length_cons, List.length_nil, Option.some.injEq, Int.reduceEq, ↓reduceIte, Nat.reduceAdd, Nat.reduceLeDiff, Nat.zero_le, decide_true, decide_false, Bool.not_true, Bool.not_false, D.bl.injEq, D.int.injEq, D.str.injEq, exists_eq_left', exists_eq_left, cq_law_draw_2, cq_law_pick_2, cq_law_size_1, cq_law_pair_1, cq_is_int_1, cq_Ratio_Ratio___init___2, cq_Ratio___eq___2, tq_eq_eq_Ratio, cq_Ratio___abs___1, tq_own_abs_Ratio, cq_law_divisor_2, cq_law_is_3, cq_Ratio_Ratio___init___0_bottom_top, cq_Ratio___neg___1, tq_own_neg_Ratio, cq_Ratio___bool___1, tq_own_bool_Ratio, cq_Ratio_Ratio___init___1, cq_Ratio___str___1, tq_own_str_Ratio, cq_law_made_right_1, cq_law_refused_right_1, isa_NoneType_BadRatio T, isa_bool_BadRatio T, isa_int_BadRatio T, isa_str_BadRatio T, isa_list_BadRatio T, isa_tuple_BadRatio T, isa_dict_BadRatio T, isa_c_Ratio_BadRatio T, isa_x_BadRatio_BadRatio T, isa_NoneType_Ratio T, isa_bool_Ratio T, isa_int_Ratio T, isa_str_Ratio T, isa_list_Ratio T, isa_tuple_Ratio T, isa_dict_Ratio T, isa_c_Ratio_Ratio T, isa_x_BadRatio_Ratio T, isa_NoneType_bool T, isa_bool_bool T, isa_int_bool T, isa_str_bool T, isa_list_bool T, isa_tuple_bool T, isa_dict_bool T, isa_c_Ratio_bool T, isa_x_BadRatio_bool T, isa_NoneType_int T, isa_bool_int T, isa_int_int T, isa_str_int T, isa_list_int T, isa_tuple_int T, isa_dict_int T, isa_c_Ratio_int T, isa_x_BadRatio_int T, T.em_BadRatio_CreditError, np_Ratio_NoneType T, np_Ratio_bool T, np_Ratio_int T, np_Ratio_str T, np_Ratio_list T, np_Ratio_tuple T, np_Ratio_dict T, np_Ratio_c_Ratio T, lk_Ratio_top, T.na_Ratio_top, lk_Ratio_bottom, T.na_Ratio_bottom, pd_Ratio_top, pd_Ratio_bottom, lx_BadRatio_part, T.xa_BadRatio_part, is_int_s T]
theorem eq_rn (T : Txt c A) {x y : Int} : sp_Ratio___eq__ c A [o_Ratio A (.int x) (.int y), .non] z P R ↔ P (.bl false) z := by
  show 2 = 2 ∧ t_Ratio___eq__ c A _ ⟨[.d (o_Ratio A (.int x) (.int y)), .d .non], z⟩ ↔ _
  simp only [t_Ratio___eq__, u_Ratio___eq___1, o_Ratio, dSeq, dIte, dTB, dBin, dBinE, dUnE, dCalE, dPen, isPen, dC, dVar, dNil, dCons, dSet, dAsg, dRet, dNext, dAnd, dOr, dNot, dAndV, dOrV, dNotV, dBu, oLen, oInt, oAbs, oI, oAdd, oIx, dIx, gPen, gN, gC, gT, gZ, dLst, dTup, dPar, dSl, dNone, dPart, oSl, dCall, dIf, dDrop, fnN, inN, dAt, dSelfFld, dSelfSet, dOwn, dApp, dRaise, oNegA, oAbsA, oBoolA, oStrA, oIsN, oGcd, dFmt, dJs, dpt_one, oEq_ii, oEq_bb, oEq_ss, oNe_ii, oNe_ss, oEqA_ii, oEqA_bb, oEqA_ss, oEqA_in, oEqA_ri, oNeA_ii, oNeA_ss, oNeA_in, List.getElem?_cons_zero, List.getElem?_cons_succ, List.set_cons_zero, List.set_cons_succ, true_and, and_true, if_true, if_false, Bool.false_eq_true, List.length_cons, List.length_nil, Option.some.injEq, Int.reduceEq, ↓reduceIte, Nat.reduceAdd, Nat.reduceLeDiff, Nat.zero_le, decide_true, decide_false, Bool.not_true, Bool.not_false, D.bl.injEq, D.int.injEq, D.str.injEq, exists_eq_left', exists_eq_left, cq_law_draw_2, cq_law_pick_2, cq_law_size_1, cq_law_pair_1, cq_is_int_1, cq_Ratio_Ratio___init___2, cq_Ratio___eq___2, tq_eq_eq_Ratio, cq_Ratio___abs___1, tq_own_abs_Ratio, cq_law_divisor_2, cq_law_is_3, cq_Ratio_Ratio___init___0_bottom_top, cq_Ratio___neg___1, tq_own_neg_Ratio, cq_Ratio___bool___1, tq_own_bool_Ratio, cq_Ratio_Ratio___init___1, cq_Ratio___str___1, tq_own_str_Ratio, cq_law_made_right_1, cq_law_refused_right_1, isa_NoneType_BadRatio T, isa_bool_BadRatio T, isa_int_BadRatio T, isa_str_BadRatio T, isa_list_BadRatio T, isa_tuple_BadRatio T, isa_dict_BadRatio T, isa_c_Ratio_BadRatio T, isa_x_BadRatio_BadRatio T, isa_NoneType_Ratio T, isa_bool_Ratio T, isa_int_Ratio T, isa_str_Ratio T, isa_list_Ratio T, isa_tuple_Ratio T, isa_dict_Ratio T, isa_c_Ratio_Ratio T, isa_x_BadRatio_Ratio T, isa_NoneType_bool T, isa_bool_bool T, isa_int_bool T, isa_str_bool T, isa_list_bool T, isa_tuple_bool T, isa_dict_bool T, isa_c_Ratio_bool T, isa_x_BadRatio_bool T, isa_NoneType_int T, isa_bool_int T, isa_int_int T, isa_str_int T, isa_list_int T, isa_tuple_int T, isa_dict_int T, isa_c_Ratio_int T, isa_x_BadRatio_int T, T.em_BadRatio_CreditError, np_Ratio_NoneType T, np_Ratio_bool T, np_Ratio_int T, np_Ratio_str T, np_Ratio_list T, np_Ratio_tuple T, np_Ratio_dict T, np_Ratio_c_Ratio T, lk_Ratio_top, T.na_Ratio_top, lk_Ratio_bottom, T.na_Ratio_bottom, pd_Ratio_top, pd_Ratio_bottom, lx_BadRatio_part, T.xa_BadRatio_part, is_int_n T]
theorem eq_rb (T : Txt c A) {x y : Int} {b : Bool} : sp_Ratio___eq__ c A [o_Ratio A (.int x) (.int y), .bl b] z P R ↔ P (.bl false) z := by
  show 2 = 2 ∧ t_Ratio___eq__ c A _ ⟨[.d (o_Ratio A (.int x) (.int y)), .d (.bl b)], z⟩ ↔ _
  simp only [t_Ratio___eq__, u_Ratio___eq___1, o_Ratio, dSeq, dIte, dTB, dBin, dBinE, dUnE, dCalE, dPen, isPen, dC, dVar, dNil, dCons, dSet, dAsg, dRet, dNext, dAnd, dOr, dNot, dAndV, dOrV, dNotV, dBu, oLen, oInt, oAbs, oI, oAdd, oIx, dIx, gPen, gN, gC, gT, gZ, dLst, dTup, dPar, dSl, dNone, dPart, oSl, dCall, dIf, dDrop, fnN, inN, dAt, dSelfFld, dSelfSet, dOwn, dApp, dRaise, oNegA, oAbsA, oBoolA, oStrA, oIsN, oGcd, dFmt, dJs, dpt_one, oEq_ii, oEq_bb, oEq_ss, oNe_ii, oNe_ss, oEqA_ii, oEqA_bb, oEqA_ss, oEqA_in, oEqA_ri, oNeA_ii, oNeA_ss, oNeA_in, List.getElem?_cons_zero, List.getElem?_cons_succ, List.set_cons_zero, List.set_cons_succ, true_and, and_true, if_true, if_false, Bool.false_eq_true, List.length_cons, List.length_nil, Option.some.injEq, Int.reduceEq, ↓reduceIte, Nat.reduceAdd, Nat.reduceLeDiff, Nat.zero_le, decide_true, decide_false, Bool.not_true, Bool.not_false, D.bl.injEq, D.int.injEq, D.str.injEq, exists_eq_left', exists_eq_left, cq_law_draw_2, cq_law_pick_2, cq_law_size_1, cq_law_pair_1, cq_is_int_1, cq_Ratio_Ratio___init___2, cq_Ratio___eq___2, tq_eq_eq_Ratio, cq_Ratio___abs___1, tq_own_abs_Ratio, cq_law_divisor_2, cq_law_is_3, cq_Ratio_Ratio___init___0_bottom_top, cq_Ratio___neg___1, tq_own_neg_Ratio, cq_Ratio___bool___1, tq_own_bool_Ratio, cq_Ratio_Ratio___init___1, cq_Ratio___str___1, tq_own_str_Ratio, cq_law_made_right_1, cq_law_refused_right_1, isa_NoneType_BadRatio T, isa_bool_BadRatio T, isa_int_BadRatio T, isa_str_BadRatio T, isa_list_BadRatio T, isa_tuple_BadRatio T, isa_dict_BadRatio T, isa_c_Ratio_BadRatio T, isa_x_BadRatio_BadRatio T, isa_NoneType_Ratio T, isa_bool_Ratio T, isa_int_Ratio T, isa_str_Ratio T, isa_list_Ratio T, isa_tuple_Ratio T, isa_dict_Ratio T, isa_c_Ratio_Ratio T, isa_x_BadRatio_Ratio T, isa_NoneType_bool T, isa_bool_bool T, isa_int_bool T, isa_str_bool T, isa_list_bool T, isa_tuple_bool T, isa_dict_bool T, isa_c_Ratio_bool T, isa_x_BadRatio_bool T, isa_NoneType_int T, isa_bool_int T, isa_int_int T, isa_str_int T, isa_list_int T, isa_tuple_int T, isa_dict_int T, isa_c_Ratio_int T, isa_x_BadRatio_int T, T.em_BadRatio_CreditError, np_Ratio_NoneType T, np_Ratio_bool T, np_Ratio_int T, np_Ratio_str T, np_Ratio_list T, np_Ratio_tuple T, np_Ratio_dict T, np_Ratio_c_Ratio T, lk_Ratio_top, T.na_Ratio_top, lk_Ratio_bottom, T.na_Ratio_bottom, pd_Ratio_top, pd_Ratio_bottom, lx_BadRatio_part, T.xa_BadRatio_part, is_int_b T]
theorem eq_rl (T : Txt c A) {x y : Int} {xs : List D} : sp_Ratio___eq__ c A [o_Ratio A (.int x) (.int y), .lst xs] z P R ↔ P (.bl false) z := by
  show 2 = 2 ∧ t_Ratio___eq__ c A _ ⟨[.d (o_Ratio A (.int x) (.int y)), .d (.lst xs)], z⟩ ↔ _
  simp only [t_Ratio___eq__, u_Ratio___eq___1, o_Ratio, dSeq, dIte, dTB, dBin, dBinE, dUnE, dCalE, dPen, isPen, dC, dVar, dNil, dCons, dSet, dAsg, dRet, dNext, dAnd, dOr, dNot, dAndV, dOrV, dNotV, dBu, oLen, oInt, oAbs, oI, oAdd, oIx, dIx, gPen, gN, gC, gT, gZ, dLst, dTup, dPar, dSl, dNone, dPart, oSl, dCall, dIf, dDrop, fnN, inN, dAt, dSelfFld, dSelfSet, dOwn, dApp, dRaise, oNegA, oAbsA, oBoolA, oStrA, oIsN, oGcd, dFmt, dJs, dpt_one, oEq_ii, oEq_bb, oEq_ss, oNe_ii, oNe_ss, oEqA_ii, oEqA_bb, oEqA_ss, oEqA_in, oEqA_ri, oNeA_ii, oNeA_ss, oNeA_in, List.getElem?_cons_zero, List.getElem?_cons_succ, List.set_cons_zero, List.set_cons_succ, true_and, and_true, if_true, if_false, Bool.false_eq_true, List.length_cons, List.length_nil, Option.some.injEq, Int.reduceEq, ↓reduceIte, Nat.reduceAdd, Nat.reduceLeDiff, Nat.zero_le, decide_true, decide_false, Bool.not_true, Bool.not_false, D.bl.injEq, D.int.injEq, D.str.injEq, exists_eq_left', exists_eq_left, cq_law_draw_2, cq_law_pick_2, cq_law_size_1, cq_law_pair_1, cq_is_int_1, cq_Ratio_Ratio___init___2, cq_Ratio___eq___2, tq_eq_eq_Ratio, cq_Ratio___abs___1, tq_own_abs_Ratio, cq_law_divisor_2, cq_law_is_3, cq_Ratio_Ratio___init___0_bottom_top, cq_Ratio___neg___1, tq_own_neg_Ratio, cq_Ratio___bool___1, tq_own_bool_Ratio, cq_Ratio_Ratio___init___1, cq_Ratio___str___1, tq_own_str_Ratio, cq_law_made_right_1, cq_law_refused_right_1, isa_NoneType_BadRatio T, isa_bool_BadRatio T, isa_int_BadRatio T, isa_str_BadRatio T, isa_list_BadRatio T, isa_tuple_BadRatio T, isa_dict_BadRatio T, isa_c_Ratio_BadRatio T, isa_x_BadRatio_BadRatio T, isa_NoneType_Ratio T, isa_bool_Ratio T, isa_int_Ratio T, isa_str_Ratio T, isa_list_Ratio T, isa_tuple_Ratio T, isa_dict_Ratio T, isa_c_Ratio_Ratio T, isa_x_BadRatio_Ratio T, isa_NoneType_bool T, isa_bool_bool T, isa_int_bool T, isa_str_bool T, isa_list_bool T, isa_tuple_bool T, isa_dict_bool T, isa_c_Ratio_bool T, isa_x_BadRatio_bool T, isa_NoneType_int T, isa_bool_int T, isa_int_int T, isa_str_int T, isa_list_int T, isa_tuple_int T, isa_dict_int T, isa_c_Ratio_int T, isa_x_BadRatio_int T, T.em_BadRatio_CreditError, np_Ratio_NoneType T, np_Ratio_bool T, np_Ratio_int T, np_Ratio_str T, np_Ratio_list T, np_Ratio_tuple T, np_Ratio_dict T, np_Ratio_c_Ratio T, lk_Ratio_top, T.na_Ratio_top, lk_Ratio_bottom, T.na_Ratio_bottom, pd_Ratio_top, pd_Ratio_bottom, lx_BadRatio_part, T.xa_BadRatio_part, is_int_l T]
theorem eq_rt (T : Txt c A) {x y : Int} {xs : List D} : sp_Ratio___eq__ c A [o_Ratio A (.int x) (.int y), .tup xs] z P R ↔ P (.bl false) z := by
  show 2 = 2 ∧ t_Ratio___eq__ c A _ ⟨[.d (o_Ratio A (.int x) (.int y)), .d (.tup xs)], z⟩ ↔ _
  simp only [t_Ratio___eq__, u_Ratio___eq___1, o_Ratio, dSeq, dIte, dTB, dBin, dBinE, dUnE, dCalE, dPen, isPen, dC, dVar, dNil, dCons, dSet, dAsg, dRet, dNext, dAnd, dOr, dNot, dAndV, dOrV, dNotV, dBu, oLen, oInt, oAbs, oI, oAdd, oIx, dIx, gPen, gN, gC, gT, gZ, dLst, dTup, dPar, dSl, dNone, dPart, oSl, dCall, dIf, dDrop, fnN, inN, dAt, dSelfFld, dSelfSet, dOwn, dApp, dRaise, oNegA, oAbsA, oBoolA, oStrA, oIsN, oGcd, dFmt, dJs, dpt_one, oEq_ii, oEq_bb, oEq_ss, oNe_ii, oNe_ss, oEqA_ii, oEqA_bb, oEqA_ss, oEqA_in, oEqA_ri, oNeA_ii, oNeA_ss, oNeA_in, List.getElem?_cons_zero, List.getElem?_cons_succ, List.set_cons_zero, List.set_cons_succ, true_and, and_true, if_true, if_false, Bool.false_eq_true, List.length_cons, List.length_nil, Option.some.injEq, Int.reduceEq, ↓reduceIte, Nat.reduceAdd, Nat.reduceLeDiff, Nat.zero_le, decide_true, decide_false, Bool.not_true, Bool.not_false, D.bl.injEq, D.int.injEq, D.str.injEq, exists_eq_left', exists_eq_left, cq_law_draw_2, cq_law_pick_2, cq_law_size_1, cq_law_pair_1, cq_is_int_1, cq_Ratio_Ratio___init___2, cq_Ratio___eq___2, tq_eq_eq_Ratio, cq_Ratio___abs___1, tq_own_abs_Ratio, cq_law_divisor_2, cq_law_is_3, cq_Ratio_Ratio___init___0_bottom_top, cq_Ratio___neg___1, tq_own_neg_Ratio, cq_Ratio___bool___1, tq_own_bool_Ratio, cq_Ratio_Ratio___init___1, cq_Ratio___str___1, tq_own_str_Ratio, cq_law_made_right_1, cq_law_refused_right_1, isa_NoneType_BadRatio T, isa_bool_BadRatio T, isa_int_BadRatio T, isa_str_BadRatio T, isa_list_BadRatio T, isa_tuple_BadRatio T, isa_dict_BadRatio T, isa_c_Ratio_BadRatio T, isa_x_BadRatio_BadRatio T, isa_NoneType_Ratio T, isa_bool_Ratio T, isa_int_Ratio T, isa_str_Ratio T, isa_list_Ratio T, isa_tuple_Ratio T, isa_dict_Ratio T, isa_c_Ratio_Ratio T, isa_x_BadRatio_Ratio T, isa_NoneType_bool T, isa_bool_bool T, isa_int_bool T, isa_str_bool T, isa_list_bool T, isa_tuple_bool T, isa_dict_bool T, isa_c_Ratio_bool T, isa_x_BadRatio_bool T, isa_NoneType_int T, isa_bool_int T, isa_int_int T, isa_str_int T, isa_list_int T, isa_tuple_int T, isa_dict_int T, isa_c_Ratio_int T, isa_x_BadRatio_int T, T.em_BadRatio_CreditError, np_Ratio_NoneType T, np_Ratio_bool T, np_Ratio_int T, np_Ratio_str T, np_Ratio_list T, np_Ratio_tuple T, np_Ratio_dict T, np_Ratio_c_Ratio T, lk_Ratio_top, T.na_Ratio_top, lk_Ratio_bottom, T.na_Ratio_bottom, pd_Ratio_top, pd_Ratio_bottom, lx_BadRatio_part, T.xa_BadRatio_part, is_int_t T]
theorem eq_rd (T : Txt c A) {x y : Int} {xs : List (Key × D)} : sp_Ratio___eq__ c A [o_Ratio A (.int x) (.int y), .dct xs] z P R ↔ P (.bl false) z := by
  show 2 = 2 ∧ t_Ratio___eq__ c A _ ⟨[.d (o_Ratio A (.int x) (.int y)), .d (.dct xs)], z⟩ ↔ _
  simp only [t_Ratio___eq__, u_Ratio___eq___1, o_Ratio, dSeq, dIte, dTB, dBin, dBinE, dUnE, dCalE, dPen, isPen, dC, dVar, dNil, dCons, dSet, dAsg, dRet, dNext, dAnd, dOr, dNot, dAndV, dOrV, dNotV, dBu, oLen, oInt, oAbs, oI, oAdd, oIx, dIx, gPen, gN, gC, gT, gZ, dLst, dTup, dPar, dSl, dNone, dPart, oSl, dCall, dIf, dDrop, fnN, inN, dAt, dSelfFld, dSelfSet, dOwn, dApp, dRaise, oNegA, oAbsA, oBoolA, oStrA, oIsN, oGcd, dFmt, dJs, dpt_one, oEq_ii, oEq_bb, oEq_ss, oNe_ii, oNe_ss, oEqA_ii, oEqA_bb, oEqA_ss, oEqA_in, oEqA_ri, oNeA_ii, oNeA_ss, oNeA_in, List.getElem?_cons_zero, List.getElem?_cons_succ, List.set_cons_zero, List.set_cons_succ, true_and, and_true, if_true, if_false, Bool.false_eq_true, List.length_cons, List.length_nil, Option.some.injEq, Int.reduceEq, ↓reduceIte, Nat.reduceAdd, Nat.reduceLeDiff, Nat.zero_le, decide_true, decide_false, Bool.not_true, Bool.not_false, D.bl.injEq, D.int.injEq, D.str.injEq, exists_eq_left', exists_eq_left, cq_law_draw_2, cq_law_pick_2, cq_law_size_1, cq_law_pair_1, cq_is_int_1, cq_Ratio_Ratio___init___2, cq_Ratio___eq___2, tq_eq_eq_Ratio, cq_Ratio___abs___1, tq_own_abs_Ratio, cq_law_divisor_2, cq_law_is_3, cq_Ratio_Ratio___init___0_bottom_top, cq_Ratio___neg___1, tq_own_neg_Ratio, cq_Ratio___bool___1, tq_own_bool_Ratio, cq_Ratio_Ratio___init___1, cq_Ratio___str___1, tq_own_str_Ratio, cq_law_made_right_1, cq_law_refused_right_1, isa_NoneType_BadRatio T, isa_bool_BadRatio T, isa_int_BadRatio T, isa_str_BadRatio T, isa_list_BadRatio T, isa_tuple_BadRatio T, isa_dict_BadRatio T, isa_c_Ratio_BadRatio T, isa_x_BadRatio_BadRatio T, isa_NoneType_Ratio T, isa_bool_Ratio T, isa_int_Ratio T, isa_str_Ratio T, isa_list_Ratio T, isa_tuple_Ratio T, isa_dict_Ratio T, isa_c_Ratio_Ratio T, isa_x_BadRatio_Ratio T, isa_NoneType_bool T, isa_bool_bool T, isa_int_bool T, isa_str_bool T, isa_list_bool T, isa_tuple_bool T, isa_dict_bool T, isa_c_Ratio_bool T, isa_x_BadRatio_bool T, isa_NoneType_int T, isa_bool_int T, isa_int_int T, isa_str_int T, isa_list_int T, isa_tuple_int T, isa_dict_int T, isa_c_Ratio_int T, isa_x_BadRatio_int T, T.em_BadRatio_CreditError, np_Ratio_NoneType T, np_Ratio_bool T, np_Ratio_int T, np_Ratio_str T, np_Ratio_list T, np_Ratio_tuple T, np_Ratio_dict T, np_Ratio_c_Ratio T, lk_Ratio_top, T.na_Ratio_top, lk_Ratio_bottom, T.na_Ratio_bottom, pd_Ratio_top, pd_Ratio_bottom, lx_BadRatio_part, T.xa_BadRatio_part, is_int_d T]
/-- minus, abs, bool, str -/
theorem neg_ok (T : Txt c A) {x y : Int} (hy : y ≠ 0) (hy2 : y.natAbs < 2 ^ 200) (h : P (o_Ratio A (.int (rT (0 - x) y)) (.int (rB (0 - x) y))) z) : sp_Ratio___neg__ c A [o_Ratio A (.int x) (.int y)] z P R := by
  show 1 = 1 ∧ t_Ratio___neg__ c A _ ⟨[.d (o_Ratio A (.int x) (.int y))], z⟩
  simp only [t_Ratio___neg__, o_Ratio, dSeq, dIte, dTB, dBin, dBinE, dUnE, dCalE, dPen, isPen, dC, dVar, dNil, dCons, dSet, dAsg, dRet, dNext, dAnd, dOr, dNot, dAndV, dOrV, dNotV, dBu, oLen, oInt, oAbs, oI, oAdd, oIx, dIx, gPen, gN, gC, gT, gZ, dLst, dTup, dPar, dSl, dNone, dPart, oSl, dCall, dIf, dDrop, fnN, inN, dAt, dSelfFld, dSelfSet, dOwn, dApp, dRaise, oNegA, oAbsA, oBoolA, oStrA, oIsN, oGcd, dFmt, dJs, dpt_one, oEq_ii, oEq_bb, oEq_ss, oNe_ii, oNe_ss, oEqA_ii, oEqA_bb, oEqA_ss, oEqA_in, oEqA_ri, oNeA_ii, oNeA_ss, oNeA_in, List.getElem?_cons_zero, List.getElem?_cons_succ, List.set_cons_zero, List.set_cons_succ, true_and, and_true, if_true, if_false, Bool.false_eq_true, List.length_cons, List.length_nil, Option.some.injEq, Int.reduceEq, ↓reduceIte, Nat.reduceAdd, Nat.reduceLeDiff, Nat.zero_le, decide_true, decide_false, Bool.not_true, Bool.not_false, D.bl.injEq, D.int.injEq, D.str.injEq, exists_eq_left', exists_eq_left, cq_law_draw_2, cq_law_pick_2, cq_law_size_1, cq_law_pair_1, cq_is_int_1, cq_Ratio_Ratio___init___2, cq_Ratio___eq___2, tq_eq_eq_Ratio, cq_Ratio___abs___1, tq_own_abs_Ratio, cq_law_divisor_2, cq_law_is_3, cq_Ratio_Ratio___init___0_bottom_top, cq_Ratio___neg___1, tq_own_neg_Ratio, cq_Ratio___bool___1, tq_own_bool_Ratio, cq_Ratio_Ratio___init___1, cq_Ratio___str___1, tq_own_str_Ratio, cq_law_made_right_1, cq_law_refused_right_1, isa_NoneType_BadRatio T, isa_bool_BadRatio T, isa_int_BadRatio T, isa_str_BadRatio T, isa_list_BadRatio T, isa_tuple_BadRatio T, isa_dict_BadRatio T, isa_c_Ratio_BadRatio T, isa_x_BadRatio_BadRatio T, isa_NoneType_Ratio T, isa_bool_Ratio T, isa_int_Ratio T, isa_str_Ratio T, isa_list_Ratio T, isa_tuple_Ratio T, isa_dict_Ratio T, isa_c_Ratio_Ratio T, isa_x_BadRatio_Ratio T, isa_NoneType_bool T, isa_bool_bool T, isa_int_bool T, isa_str_bool T, isa_list_bool T, isa_tuple_bool T, isa_dict_bool T, isa_c_Ratio_bool T, isa_x_BadRatio_bool T, isa_NoneType_int T, isa_bool_int T, isa_int_int T, isa_str_int T, isa_list_int T, isa_tuple_int T, isa_dict_int T, isa_c_Ratio_int T, isa_x_BadRatio_int T, T.em_BadRatio_CreditError, np_Ratio_NoneType T, np_Ratio_bool T, np_Ratio_int T, np_Ratio_str T, np_Ratio_list T, np_Ratio_tuple T, np_Ratio_dict T, np_Ratio_c_Ratio T, lk_Ratio_top, T.na_Ratio_top, lk_Ratio_bottom, T.na_Ratio_bottom, pd_Ratio_top, pd_Ratio_bottom, lx_BadRatio_part, T.xa_BadRatio_part]
  exact mk_ok T hy hy2 h
theorem abs_ok (T : Txt c A) {x y : Int} (hy : y ≠ 0) (hy2 : y.natAbs < 2 ^ 200) (h : P (o_Ratio A (.int (rT (if x < 0 then -x else x) y)) (.int (rB (if x < 0 then -x else x) y))) z) : sp_Ratio___abs__ c A [o_Ratio A (.int x) (.int y)] z P R := by
  show 1 = 1 ∧ t_Ratio___abs__ c A _ ⟨[.d (o_Ratio A (.int x) (.int y))], z⟩
  simp only [t_Ratio___abs__, o_Ratio, dSeq, dIte, dTB, dBin, dBinE, dUnE, dCalE, dPen, isPen, dC, dVar, dNil, dCons, dSet, dAsg, dRet, dNext, dAnd, dOr, dNot, dAndV, dOrV, dNotV, dBu, oLen, oInt, oAbs, oI, oAdd, oIx, dIx, gPen, gN, gC, gT, gZ, dLst, dTup, dPar, dSl, dNone, dPart, oSl, dCall, dIf, dDrop, fnN, inN, dAt, dSelfFld, dSelfSet, dOwn, dApp, dRaise, oNegA, oAbsA, oBoolA, oStrA, oIsN, oGcd, dFmt, dJs, dpt_one, oEq_ii, oEq_bb, oEq_ss, oNe_ii, oNe_ss, oEqA_ii, oEqA_bb, oEqA_ss, oEqA_in, oEqA_ri, oNeA_ii, oNeA_ss, oNeA_in, List.getElem?_cons_zero, List.getElem?_cons_succ, List.set_cons_zero, List.set_cons_succ, true_and, and_true, if_true, if_false, Bool.false_eq_true, List.length_cons, List.length_nil, Option.some.injEq, Int.reduceEq, ↓reduceIte, Nat.reduceAdd, Nat.reduceLeDiff, Nat.zero_le, decide_true, decide_false, Bool.not_true, Bool.not_false, D.bl.injEq, D.int.injEq, D.str.injEq, exists_eq_left', exists_eq_left, cq_law_draw_2, cq_law_pick_2, cq_law_size_1, cq_law_pair_1, cq_is_int_1, cq_Ratio_Ratio___init___2, cq_Ratio___eq___2, tq_eq_eq_Ratio, cq_Ratio___abs___1, tq_own_abs_Ratio, cq_law_divisor_2, cq_law_is_3, cq_Ratio_Ratio___init___0_bottom_top, cq_Ratio___neg___1, tq_own_neg_Ratio, cq_Ratio___bool___1, tq_own_bool_Ratio, cq_Ratio_Ratio___init___1, cq_Ratio___str___1, tq_own_str_Ratio, cq_law_made_right_1, cq_law_refused_right_1, isa_NoneType_BadRatio T, isa_bool_BadRatio T, isa_int_BadRatio T, isa_str_BadRatio T, isa_list_BadRatio T, isa_tuple_BadRatio T, isa_dict_BadRatio T, isa_c_Ratio_BadRatio T, isa_x_BadRatio_BadRatio T, isa_NoneType_Ratio T, isa_bool_Ratio T, isa_int_Ratio T, isa_str_Ratio T, isa_list_Ratio T, isa_tuple_Ratio T, isa_dict_Ratio T, isa_c_Ratio_Ratio T, isa_x_BadRatio_Ratio T, isa_NoneType_bool T, isa_bool_bool T, isa_int_bool T, isa_str_bool T, isa_list_bool T, isa_tuple_bool T, isa_dict_bool T, isa_c_Ratio_bool T, isa_x_BadRatio_bool T, isa_NoneType_int T, isa_bool_int T, isa_int_int T, isa_str_int T, isa_list_int T, isa_tuple_int T, isa_dict_int T, isa_c_Ratio_int T, isa_x_BadRatio_int T, T.em_BadRatio_CreditError, np_Ratio_NoneType T, np_Ratio_bool T, np_Ratio_int T, np_Ratio_str T, np_Ratio_list T, np_Ratio_tuple T, np_Ratio_dict T, np_Ratio_c_Ratio T, lk_Ratio_top, T.na_Ratio_top, lk_Ratio_bottom, T.na_Ratio_bottom, pd_Ratio_top, pd_Ratio_bottom, lx_BadRatio_part, T.xa_BadRatio_part]
  exact mk_ok T hy hy2 h
theorem bool_ok (T : Txt c A) {x y : Int} : sp_Ratio___bool__ c A [o_Ratio A (.int x) (.int y)] z P R ↔ P (.bl (x != 0)) z := by
  show 1 = 1 ∧ t_Ratio___bool__ c A _ ⟨[.d (o_Ratio A (.int x) (.int y))], z⟩ ↔ _
  simp only [t_Ratio___bool__, o_Ratio, dSeq, dIte, dTB, dBin, dBinE, dUnE, dCalE, dPen, isPen, dC, dVar, dNil, dCons, dSet, dAsg, dRet, dNext, dAnd, dOr, dNot, dAndV, dOrV, dNotV, dBu, oLen, oInt, oAbs, oI, oAdd, oIx, dIx, gPen, gN, gC, gT, gZ, dLst, dTup, dPar, dSl, dNone, dPart, oSl, dCall, dIf, dDrop, fnN, inN, dAt, dSelfFld, dSelfSet, dOwn, dApp, dRaise, oNegA, oAbsA, oBoolA, oStrA, oIsN, oGcd, dFmt, dJs, dpt_one, oEq_ii, oEq_bb, oEq_ss, oNe_ii, oNe_ss, oEqA_ii, oEqA_bb, oEqA_ss, oEqA_in, oEqA_ri, oNeA_ii, oNeA_ss, oNeA_in, List.getElem?_cons_zero, List.getElem?_cons_succ, List.set_cons_zero, List.set_cons_succ, true_and, and_true, if_true, if_false, Bool.false_eq_true, List.length_cons, List.length_nil, Option.some.injEq, Int.reduceEq, ↓reduceIte, Nat.reduceAdd, Nat.reduceLeDiff, Nat.zero_le, decide_true, decide_false, Bool.not_true, Bool.not_false, D.bl.injEq, D.int.injEq, D.str.injEq, exists_eq_left', exists_eq_left, cq_law_draw_2, cq_law_pick_2, cq_law_size_1, cq_law_pair_1, cq_is_int_1, cq_Ratio_Ratio___init___2, cq_Ratio___eq___2, tq_eq_eq_Ratio, cq_Ratio___abs___1, tq_own_abs_Ratio, cq_law_divisor_2, cq_law_is_3, cq_Ratio_Ratio___init___0_bottom_top, cq_Ratio___neg___1, tq_own_neg_Ratio, cq_Ratio___bool___1, tq_own_bool_Ratio, cq_Ratio_Ratio___init___1, cq_Ratio___str___1, tq_own_str_Ratio, cq_law_made_right_1, cq_law_refused_right_1, isa_NoneType_BadRatio T, isa_bool_BadRatio T, isa_int_BadRatio T, isa_str_BadRatio T, isa_list_BadRatio T, isa_tuple_BadRatio T, isa_dict_BadRatio T, isa_c_Ratio_BadRatio T, isa_x_BadRatio_BadRatio T, isa_NoneType_Ratio T, isa_bool_Ratio T, isa_int_Ratio T, isa_str_Ratio T, isa_list_Ratio T, isa_tuple_Ratio T, isa_dict_Ratio T, isa_c_Ratio_Ratio T, isa_x_BadRatio_Ratio T, isa_NoneType_bool T, isa_bool_bool T, isa_int_bool T, isa_str_bool T, isa_list_bool T, isa_tuple_bool T, isa_dict_bool T, isa_c_Ratio_bool T, isa_x_BadRatio_bool T, isa_NoneType_int T, isa_bool_int T, isa_int_int T, isa_str_int T, isa_list_int T, isa_tuple_int T, isa_dict_int T, isa_c_Ratio_int T, isa_x_BadRatio_int T, T.em_BadRatio_CreditError, np_Ratio_NoneType T, np_Ratio_bool T, np_Ratio_int T, np_Ratio_str T, np_Ratio_list T, np_Ratio_tuple T, np_Ratio_dict T, np_Ratio_c_Ratio T, lk_Ratio_top, T.na_Ratio_top, lk_Ratio_bottom, T.na_Ratio_bottom, pd_Ratio_top, pd_Ratio_bottom, lx_BadRatio_part, T.xa_BadRatio_part]
theorem str_ok (T : Txt c A) {x y : Int} (hx : x.natAbs < 2 ^ 1000) (hy : y.natAbs < 2 ^ 1000) (h : ∀ s, P (.str s) z) : sp_Ratio___str__ c A [o_Ratio A (.int x) (.int y)] z P R := by
  show 1 = 1 ∧ t_Ratio___str__ c A _ ⟨[.d (o_Ratio A (.int x) (.int y))], z⟩
  have ix : intS x := Nat.lt_of_lt_of_le (PySem.Flt.log2_lt_of (by decide) hx) (by decide)
  have iy : intS y := Nat.lt_of_lt_of_le (PySem.Flt.log2_lt_of (by decide) hy) (by decide)
  simp only [t_Ratio___str__, u_Ratio___str___1, o_Ratio, dSeq, dIte, dTB, dBin, dBinE, dUnE, dCalE, dPen, isPen, dC, dVar, dNil, dCons, dSet, dAsg, dRet, dNext, dAnd, dOr, dNot, dAndV, dOrV, dNotV, dBu, oLen, oInt, oAbs, oI, oAdd, oIx, dIx, gPen, gN, gC, gT, gZ, dLst, dTup, dPar, dSl, dNone, dPart, oSl, dCall, dIf, dDrop, fnN, inN, dAt, dSelfFld, dSelfSet, dOwn, dApp, dRaise, oNegA, oAbsA, oBoolA, oStrA, oIsN, oGcd, dFmt, dJs, dpt_one, oEq_ii, oEq_bb, oEq_ss, oNe_ii, oNe_ss, oEqA_ii, oEqA_bb, oEqA_ss, oEqA_in, oEqA_ri, oNeA_ii, oNeA_ss, oNeA_in, List.getElem?_cons_zero, List.getElem?_cons_succ, List.set_cons_zero, List.set_cons_succ, true_and, and_true, if_true, if_false, Bool.false_eq_true, List.length_cons, List.length_nil, Option.some.injEq, Int.reduceEq, ↓reduceIte, Nat.reduceAdd, Nat.reduceLeDiff, Nat.zero_le, decide_true, decide_false, Bool.not_true, Bool.not_false, D.bl.injEq, D.int.injEq, D.str.injEq, exists_eq_left', exists_eq_left, cq_law_draw_2, cq_law_pick_2, cq_law_size_1, cq_law_pair_1, cq_is_int_1, cq_Ratio_Ratio___init___2, cq_Ratio___eq___2, tq_eq_eq_Ratio, cq_Ratio___abs___1, tq_own_abs_Ratio, cq_law_divisor_2, cq_law_is_3, cq_Ratio_Ratio___init___0_bottom_top, cq_Ratio___neg___1, tq_own_neg_Ratio, cq_Ratio___bool___1, tq_own_bool_Ratio, cq_Ratio_Ratio___init___1, cq_Ratio___str___1, tq_own_str_Ratio, cq_law_made_right_1, cq_law_refused_right_1, isa_NoneType_BadRatio T, isa_bool_BadRatio T, isa_int_BadRatio T, isa_str_BadRatio T, isa_list_BadRatio T, isa_tuple_BadRatio T, isa_dict_BadRatio T, isa_c_Ratio_BadRatio T, isa_x_BadRatio_BadRatio T, isa_NoneType_Ratio T, isa_bool_Ratio T, isa_int_Ratio T, isa_str_Ratio T, isa_list_Ratio T, isa_tuple_Ratio T, isa_dict_Ratio T, isa_c_Ratio_Ratio T, isa_x_BadRatio_Ratio T, isa_NoneType_bool T, isa_bool_bool T, isa_int_bool T, isa_str_bool T, isa_list_bool T, isa_tuple_bool T, isa_dict_bool T, isa_c_Ratio_bool T, isa_x_BadRatio_bool T, isa_NoneType_int T, isa_bool_int T, isa_int_int T, isa_str_int T, isa_list_int T, isa_tuple_int T, isa_dict_int T, isa_c_Ratio_int T, isa_x_BadRatio_int T, T.em_BadRatio_CreditError, np_Ratio_NoneType T, np_Ratio_bool T, np_Ratio_int T, np_Ratio_str T, np_Ratio_list T, np_Ratio_tuple T, np_Ratio_dict T, np_Ratio_c_Ratio T, lk_Ratio_top, T.na_Ratio_top, lk_Ratio_bottom, T.na_Ratio_bottom, pd_Ratio_top, pd_Ratio_bottom, lx_BadRatio_part, T.xa_BadRatio_part, ix, iy]
  by_cases h1 : y = 1
  · simp only [h1, dSeq, dIte, dTB, dBin, dBinE, dUnE, dCalE, dPen, isPen, dC, dVar, dNil, dCons, dSet, dAsg, dRet, dNext, dAnd, dOr, dNot, dAndV, dOrV, dNotV, dBu, oLen, oInt, oAbs, oI, oAdd, oIx, dIx, gPen, gN, gC, gT, gZ, dLst, dTup, dPar, dSl, dNone, dPart, oSl, dCall, dIf, dDrop, fnN, inN, dAt, dSelfFld, dSelfSet, dOwn, dApp, dRaise, oNegA, oAbsA, oBoolA, oStrA, oIsN, oGcd, dFmt, dJs, dpt_one, oEq_ii, oEq_bb, oEq_ss, oNe_ii, oNe_ss, oEqA_ii, oEqA_bb, oEqA_ss, oEqA_in, oEqA_ri, oNeA_ii, oNeA_ss, oNeA_in, List.getElem?_cons_zero, List.getElem?_cons_succ, List.set_cons_zero, List.set_cons_succ, true_and, and_true, if_true, if_false, Bool.false_eq_true, List.length_cons, List.length_nil, Option.some.injEq, Int.reduceEq, ↓reduceIte, Nat.reduceAdd, Nat.reduceLeDiff, Nat.zero_le, decide_true, decide_false, Bool.not_true, Bool.not_false, D.bl.injEq, D.int.injEq, D.str.injEq, exists_eq_left', exists_eq_left]
    exact h _
  · simp only [h1, dSeq, dIte, dTB, dBin, dBinE, dUnE, dCalE, dPen, isPen, dC, dVar, dNil, dCons, dSet, dAsg, dRet, dNext, dAnd, dOr, dNot, dAndV, dOrV, dNotV, dBu, oLen, oInt, oAbs, oI, oAdd, oIx, dIx, gPen, gN, gC, gT, gZ, dLst, dTup, dPar, dSl, dNone, dPart, oSl, dCall, dIf, dDrop, fnN, inN, dAt, dSelfFld, dSelfSet, dOwn, dApp, dRaise, oNegA, oAbsA, oBoolA, oStrA, oIsN, oGcd, dFmt, dJs, dpt_one, oEq_ii, oEq_bb, oEq_ss, oNe_ii, oNe_ss, oEqA_ii, oEqA_bb, oEqA_ss, oEqA_in, oEqA_ri, oNeA_ii, oNeA_ss, oNeA_in, List.getElem?_cons_zero, List.getElem?_cons_succ, List.set_cons_zero, List.set_cons_succ, true_and, and_true, if_true, if_false, Bool.false_eq_true, List.length_cons, List.length_nil, Option.some.injEq, Int.reduceEq, ↓reduceIte, Nat.reduceAdd, Nat.reduceLeDiff, Nat.zero_le, decide_true, decide_false, Bool.not_true, Bool.not_false, D.bl.injEq, D.int.injEq, D.str.injEq, exists_eq_left', exists_eq_left]
    have lx := PyProof.Rows.int_text_len_1921 ix
    have ly := PyProof.Rows.int_text_len_1921 iy
    have l0 : Str.empty.length = 0 := rfl
    have l1 : (Str.ofString "/").length = 1 := rfl
    refine ⟨?_, ?_, ?_, h _⟩ <;> simp only [PySem.Str.length_append, l0, l1] <;> omega
theorem pick_ok (T : Txt c A) {xs : List D} (h0 : 0 < xs.length) (h1 : xs.length < 1000) (hz : 0 < z.fu) (h : ∀ d z', d ∈ xs → Zd 1 z z' → P d z') : sp_law_pick c A [.pen, .lst xs] z P R := by
  show 2 = 2 ∧ t_law_pick c A _ ⟨[.d .pen, .d (.lst xs)], z⟩
  simp only [t_law_pick, dSeq, dIte, dTB, dBin, dBinE, dUnE, dCalE, dPen, isPen, dC, dVar, dNil, dCons, dSet, dAsg, dRet, dNext, dAnd, dOr, dNot, dAndV, dOrV, dNotV, dBu, oLen, oInt, oAbs, oI, oAdd, oIx, dIx, gPen, gN, gC, gT, gZ, dLst, dTup, dPar, dSl, dNone, dPart, oSl, dCall, dIf, dDrop, fnN, inN, dAt, dSelfFld, dSelfSet, dOwn, dApp, dRaise, oNegA, oAbsA, oBoolA, oStrA, oIsN, oGcd, dFmt, dJs, dpt_one, oEq_ii, oEq_bb, oEq_ss, oNe_ii, oNe_ss, oEqA_ii, oEqA_bb, oEqA_ss, oEqA_in, oEqA_ri, oNeA_ii, oNeA_ss, oNeA_in, List.getElem?_cons_zero, List.getElem?_cons_succ, List.set_cons_zero, List.set_cons_succ, true_and, and_true, if_true, if_false, Bool.false_eq_true, List.length_cons, List.length_nil, Option.some.injEq, Int.reduceEq, ↓reduceIte, Nat.reduceAdd, Nat.reduceLeDiff, Nat.zero_le, decide_true, decide_false, Bool.not_true, Bool.not_false, D.bl.injEq, D.int.injEq, D.str.injEq, exists_eq_left', exists_eq_left, cq_law_draw_2, cq_law_pick_2, cq_law_size_1, cq_law_pair_1, cq_is_int_1, cq_Ratio_Ratio___init___2, cq_Ratio___eq___2, tq_eq_eq_Ratio, cq_Ratio___abs___1, tq_own_abs_Ratio, cq_law_divisor_2, cq_law_is_3, cq_Ratio_Ratio___init___0_bottom_top, cq_Ratio___neg___1, tq_own_neg_Ratio, cq_Ratio___bool___1, tq_own_bool_Ratio, cq_Ratio_Ratio___init___1, cq_Ratio___str___1, tq_own_str_Ratio, cq_law_made_right_1, cq_law_refused_right_1, isa_NoneType_BadRatio T, isa_bool_BadRatio T, isa_int_BadRatio T, isa_str_BadRatio T, isa_list_BadRatio T, isa_tuple_BadRatio T, isa_dict_BadRatio T, isa_c_Ratio_BadRatio T, isa_x_BadRatio_BadRatio T, isa_NoneType_Ratio T, isa_bool_Ratio T, isa_int_Ratio T, isa_str_Ratio T, isa_list_Ratio T, isa_tuple_Ratio T, isa_dict_Ratio T, isa_c_Ratio_Ratio T, isa_x_BadRatio_Ratio T, isa_NoneType_bool T, isa_bool_bool T, isa_int_bool T, isa_str_bool T, isa_list_bool T, isa_tuple_bool T, isa_dict_bool T, isa_c_Ratio_bool T, isa_x_BadRatio_bool T, isa_NoneType_int T, isa_bool_int T, isa_int_int T, isa_str_int T, isa_list_int T, isa_tuple_int T, isa_dict_int T, isa_c_Ratio_int T, isa_x_BadRatio_int T, T.em_BadRatio_CreditError, np_Ratio_NoneType T, np_Ratio_bool T, np_Ratio_int T, np_Ratio_str T, np_Ratio_list T, np_Ratio_tuple T, np_Ratio_dict T, np_Ratio_c_Ratio T, lk_Ratio_top, T.na_Ratio_top, lk_Ratio_bottom, T.na_Ratio_bottom, pd_Ratio_top, pd_Ratio_bottom, lx_BadRatio_part, T.xa_BadRatio_part]
  refine sDraw_ok (by omega) (by omega) hz fun v z' a b hzd => ?_
  obtain ⟨d, e, m⟩ := atI_in a b
  exact ⟨d, e, h d z' m hzd⟩
theorem cpw {k : Int} (h : 0 ≤ k) (h2 : k ≤ 1000000) : CPow 10 k := ⟨h, h2, by decide⟩
theorem size_ok (T : Txt c A) (hz : 5 ≤ z.fu) (h : ∀ (i : Int) z', i.natAbs < 2 ^ 134 → Zd 5 z z' → P (.int i) z') : sp_law_size c A [.pen] z P R := by
  show 1 = 1 ∧ t_law_size c A _ ⟨[.d .pen, .un, .un], z⟩
  simp only [t_law_size, dSeq, dIte, dTB, dBin, dBinE, dUnE, dCalE, dPen, isPen, dC, dVar, dNil, dCons, dSet, dAsg, dRet, dNext, dAnd, dOr, dNot, dAndV, dOrV, dNotV, dBu, oLen, oInt, oAbs, oI, oAdd, oIx, dIx, gPen, gN, gC, gT, gZ, dLst, dTup, dPar, dSl, dNone, dPart, oSl, dCall, dIf, dDrop, fnN, inN, dAt, dSelfFld, dSelfSet, dOwn, dApp, dRaise, oNegA, oAbsA, oBoolA, oStrA, oIsN, oGcd, dFmt, dJs, dpt_one, oEq_ii, oEq_bb, oEq_ss, oNe_ii, oNe_ss, oEqA_ii, oEqA_bb, oEqA_ss, oEqA_in, oEqA_ri, oNeA_ii, oNeA_ss, oNeA_in, List.getElem?_cons_zero, List.getElem?_cons_succ, List.set_cons_zero, List.set_cons_succ, true_and, and_true, if_true, if_false, Bool.false_eq_true, List.length_cons, List.length_nil, Option.some.injEq, Int.reduceEq, ↓reduceIte, Nat.reduceAdd, Nat.reduceLeDiff, Nat.zero_le, decide_true, decide_false, Bool.not_true, Bool.not_false, D.bl.injEq, D.int.injEq, D.str.injEq, exists_eq_left', exists_eq_left, cq_law_draw_2, cq_law_pick_2, cq_law_size_1, cq_law_pair_1, cq_is_int_1, cq_Ratio_Ratio___init___2, cq_Ratio___eq___2, tq_eq_eq_Ratio, cq_Ratio___abs___1, tq_own_abs_Ratio, cq_law_divisor_2, cq_law_is_3, cq_Ratio_Ratio___init___0_bottom_top, cq_Ratio___neg___1, tq_own_neg_Ratio, cq_Ratio___bool___1, tq_own_bool_Ratio, cq_Ratio_Ratio___init___1, cq_Ratio___str___1, tq_own_str_Ratio, cq_law_made_right_1, cq_law_refused_right_1, isa_NoneType_BadRatio T, isa_bool_BadRatio T, isa_int_BadRatio T, isa_str_BadRatio T, isa_list_BadRatio T, isa_tuple_BadRatio T, isa_dict_BadRatio T, isa_c_Ratio_BadRatio T, isa_x_BadRatio_BadRatio T, isa_NoneType_Ratio T, isa_bool_Ratio T, isa_int_Ratio T, isa_str_Ratio T, isa_list_Ratio T, isa_tuple_Ratio T, isa_dict_Ratio T, isa_c_Ratio_Ratio T, isa_x_BadRatio_Ratio T, isa_NoneType_bool T, isa_bool_bool T, isa_int_bool T, isa_str_bool T, isa_list_bool T, isa_tuple_bool T, isa_dict_bool T, isa_c_Ratio_bool T, isa_x_BadRatio_bool T, isa_NoneType_int T, isa_bool_int T, isa_int_int T, isa_str_int T, isa_list_int T, isa_tuple_int T, isa_dict_int T, isa_c_Ratio_int T, isa_x_BadRatio_int T, T.em_BadRatio_CreditError, np_Ratio_NoneType T, np_Ratio_bool T, np_Ratio_int T, np_Ratio_str T, np_Ratio_list T, np_Ratio_tuple T, np_Ratio_dict T, np_Ratio_c_Ratio T, lk_Ratio_top, T.na_Ratio_top, lk_Ratio_bottom, T.na_Ratio_bottom, pd_Ratio_top, pd_Ratio_bottom, lx_BadRatio_part, T.xa_BadRatio_part]
  refine ⟨cpw (by decide) (by decide), cpw (by decide) (by decide), ?_⟩
  refine pick_ok T ?_ ?_ ?_ fun d z1 hd z1d => ?_
  · decide
  · decide
  · omega
  obtain ⟨m, rfl, m0, m1⟩ : ∃ m : Int, d = .int m ∧ 0 < m ∧ m ≤ 10 ^ 18 := by
    simp only [List.mem_cons, List.not_mem_nil, or_false] at hd
    rcases hd with rfl | rfl | rfl | rfl | rfl <;> exact ⟨_, rfl, by decide, by decide⟩
  simp only [u_law_size_1, dSeq, dIte, dTB, dBin, dBinE, dUnE, dCalE, dPen, isPen, dC, dVar, dNil, dCons, dSet, dAsg, dRet, dNext, dAnd, dOr, dNot, dAndV, dOrV, dNotV, dBu, oLen, oInt, oAbs, oI, oAdd, oIx, dIx, gPen, gN, gC, gT, gZ, dLst, dTup, dPar, dSl, dNone, dPart, oSl, dCall, dIf, dDrop, fnN, inN, dAt, dSelfFld, dSelfSet, dOwn, dApp, dRaise, oNegA, oAbsA, oBoolA, oStrA, oIsN, oGcd, dFmt, dJs, dpt_one, oEq_ii, oEq_bb, oEq_ss, oNe_ii, oNe_ss, oEqA_ii, oEqA_bb, oEqA_ss, oEqA_in, oEqA_ri, oNeA_ii, oNeA_ss, oNeA_in, List.getElem?_cons_zero, List.getElem?_cons_succ, List.set_cons_zero, List.set_cons_succ, true_and, and_true, if_true, if_false, Bool.false_eq_true, List.length_cons, List.length_nil, Option.some.injEq, Int.reduceEq, ↓reduceIte, Nat.reduceAdd, Nat.reduceLeDiff, Nat.zero_le, decide_true, decide_false, Bool.not_true, Bool.not_false, D.bl.injEq, D.int.injEq, D.str.injEq, exists_eq_left', exists_eq_left, cq_law_draw_2, cq_law_pick_2, cq_law_size_1, cq_law_pair_1, cq_is_int_1, cq_Ratio_Ratio___init___2, cq_Ratio___eq___2, tq_eq_eq_Ratio, cq_Ratio___abs___1, tq_own_abs_Ratio, cq_law_divisor_2, cq_law_is_3, cq_Ratio_Ratio___init___0_bottom_top, cq_Ratio___neg___1, tq_own_neg_Ratio, cq_Ratio___bool___1, tq_own_bool_Ratio, cq_Ratio_Ratio___init___1, cq_Ratio___str___1, tq_own_str_Ratio, cq_law_made_right_1, cq_law_refused_right_1, isa_NoneType_BadRatio T, isa_bool_BadRatio T, isa_int_BadRatio T, isa_str_BadRatio T, isa_list_BadRatio T, isa_tuple_BadRatio T, isa_dict_BadRatio T, isa_c_Ratio_BadRatio T, isa_x_BadRatio_BadRatio T, isa_NoneType_Ratio T, isa_bool_Ratio T, isa_int_Ratio T, isa_str_Ratio T, isa_list_Ratio T, isa_tuple_Ratio T, isa_dict_Ratio T, isa_c_Ratio_Ratio T, isa_x_BadRatio_Ratio T, isa_NoneType_bool T, isa_bool_bool T, isa_int_bool T, isa_str_bool T, isa_list_bool T, isa_tuple_bool T, isa_dict_bool T, isa_c_Ratio_bool T, isa_x_BadRatio_bool T, isa_NoneType_int T, isa_bool_int T, isa_int_int T, isa_str_int T, isa_list_int T, isa_tuple_int T, isa_dict_int T, isa_c_Ratio_int T, isa_x_BadRatio_int T, T.em_BadRatio_CreditError, np_Ratio_NoneType T, np_Ratio_bool T, np_Ratio_int T, np_Ratio_str T, np_Ratio_list T, np_Ratio_tuple T, np_Ratio_dict T, np_Ratio_c_Ratio T, lk_Ratio_top, T.na_Ratio_top, lk_Ratio_bottom, T.na_Ratio_bottom, pd_Ratio_top, pd_Ratio_bottom, lx_BadRatio_part, T.xa_BadRatio_part]
  refine sDraw_ok m0 (by omega) (by have := z1d.2; omega) fun v z2 v0 v1 z2d => ?_
  simp only [u_law_size_2, dSeq, dIte, dTB, dBin, dBinE, dUnE, dCalE, dPen, isPen, dC, dVar, dNil, dCons, dSet, dAsg, dRet, dNext, dAnd, dOr, dNot, dAndV, dOrV, dNotV, dBu, oLen, oInt, oAbs, oI, oAdd, oIx, dIx, gPen, gN, gC, gT, gZ, dLst, dTup, dPar, dSl, dNone, dPart, oSl, dCall, dIf, dDrop, fnN, inN, dAt, dSelfFld, dSelfSet, dOwn, dApp, dRaise, oNegA, oAbsA, oBoolA, oStrA, oIsN, oGcd, dFmt, dJs, dpt_one, oEq_ii, oEq_bb, oEq_ss, oNe_ii, oNe_ss, oEqA_ii, oEqA_bb, oEqA_ss, oEqA_in, oEqA_ri, oNeA_ii, oNeA_ss, oNeA_in, List.getElem?_cons_zero, List.getElem?_cons_succ, List.set_cons_zero, List.set_cons_succ, true_and, and_true, if_true, if_false, Bool.false_eq_true, List.length_cons, List.length_nil, Option.some.injEq, Int.reduceEq, ↓reduceIte, Nat.reduceAdd, Nat.reduceLeDiff, Nat.zero_le, decide_true, decide_false, Bool.not_true, Bool.not_false, D.bl.injEq, D.int.injEq, D.str.injEq, exists_eq_left', exists_eq_left, cq_law_draw_2, cq_law_pick_2, cq_law_size_1, cq_law_pair_1, cq_is_int_1, cq_Ratio_Ratio___init___2, cq_Ratio___eq___2, tq_eq_eq_Ratio, cq_Ratio___abs___1, tq_own_abs_Ratio, cq_law_divisor_2, cq_law_is_3, cq_Ratio_Ratio___init___0_bottom_top, cq_Ratio___neg___1, tq_own_neg_Ratio, cq_Ratio___bool___1, tq_own_bool_Ratio, cq_Ratio_Ratio___init___1, cq_Ratio___str___1, tq_own_str_Ratio, cq_law_made_right_1, cq_law_refused_right_1, isa_NoneType_BadRatio T, isa_bool_BadRatio T, isa_int_BadRatio T, isa_str_BadRatio T, isa_list_BadRatio T, isa_tuple_BadRatio T, isa_dict_BadRatio T, isa_c_Ratio_BadRatio T, isa_x_BadRatio_BadRatio T, isa_NoneType_Ratio T, isa_bool_Ratio T, isa_int_Ratio T, isa_str_Ratio T, isa_list_Ratio T, isa_tuple_Ratio T, isa_dict_Ratio T, isa_c_Ratio_Ratio T, isa_x_BadRatio_Ratio T, isa_NoneType_bool T, isa_bool_bool T, isa_int_bool T, isa_str_bool T, isa_list_bool T, isa_tuple_bool T, isa_dict_bool T, isa_c_Ratio_bool T, isa_x_BadRatio_bool T, isa_NoneType_int T, isa_bool_int T, isa_int_int T, isa_str_int T, isa_list_int T, isa_tuple_int T, isa_dict_int T, isa_c_Ratio_int T, isa_x_BadRatio_int T, T.em_BadRatio_CreditError, np_Ratio_NoneType T, np_Ratio_bool T, np_Ratio_int T, np_Ratio_str T, np_Ratio_list T, np_Ratio_tuple T, np_Ratio_dict T, np_Ratio_c_Ratio T, lk_Ratio_top, T.na_Ratio_top, lk_Ratio_bottom, T.na_Ratio_bottom, pd_Ratio_top, pd_Ratio_bottom, lx_BadRatio_part, T.xa_BadRatio_part]
  refine sDraw_ok (by decide) (by decide) (by have := z1d.2; have := z2d.2; omega) fun v2 z3 w0 w1 z3d => ?_
  have fin : ∀ (i : Int) z4, i.natAbs < 2 ^ 134 → Zd 4 z z4 → u_law_size_3 c A (fnN P R) ⟨[.d .pen, .d (.int m), .d (.int i)], z4⟩ := by
    intro i z4 hi z4d
    simp only [u_law_size_3, dSeq, dIte, dTB, dBin, dBinE, dUnE, dCalE, dPen, isPen, dC, dVar, dNil, dCons, dSet, dAsg, dRet, dNext, dAnd, dOr, dNot, dAndV, dOrV, dNotV, dBu, oLen, oInt, oAbs, oI, oAdd, oIx, dIx, gPen, gN, gC, gT, gZ, dLst, dTup, dPar, dSl, dNone, dPart, oSl, dCall, dIf, dDrop, fnN, inN, dAt, dSelfFld, dSelfSet, dOwn, dApp, dRaise, oNegA, oAbsA, oBoolA, oStrA, oIsN, oGcd, dFmt, dJs, dpt_one, oEq_ii, oEq_bb, oEq_ss, oNe_ii, oNe_ss, oEqA_ii, oEqA_bb, oEqA_ss, oEqA_in, oEqA_ri, oNeA_ii, oNeA_ss, oNeA_in, List.getElem?_cons_zero, List.getElem?_cons_succ, List.set_cons_zero, List.set_cons_succ, true_and, and_true, if_true, if_false, Bool.false_eq_true, List.length_cons, List.length_nil, Option.some.injEq, Int.reduceEq, ↓reduceIte, Nat.reduceAdd, Nat.reduceLeDiff, Nat.zero_le, decide_true, decide_false, Bool.not_true, Bool.not_false, D.bl.injEq, D.int.injEq, D.str.injEq, exists_eq_left', exists_eq_left, cq_law_draw_2, cq_law_pick_2, cq_law_size_1, cq_law_pair_1, cq_is_int_1, cq_Ratio_Ratio___init___2, cq_Ratio___eq___2, tq_eq_eq_Ratio, cq_Ratio___abs___1, tq_own_abs_Ratio, cq_law_divisor_2, cq_law_is_3, cq_Ratio_Ratio___init___0_bottom_top, cq_Ratio___neg___1, tq_own_neg_Ratio, cq_Ratio___bool___1, tq_own_bool_Ratio, cq_Ratio_Ratio___init___1, cq_Ratio___str___1, tq_own_str_Ratio, cq_law_made_right_1, cq_law_refused_right_1, isa_NoneType_BadRatio T, isa_bool_BadRatio T, isa_int_BadRatio T, isa_str_BadRatio T, isa_list_BadRatio T, isa_tuple_BadRatio T, isa_dict_BadRatio T, isa_c_Ratio_BadRatio T, isa_x_BadRatio_BadRatio T, isa_NoneType_Ratio T, isa_bool_Ratio T, isa_int_Ratio T, isa_str_Ratio T, isa_list_Ratio T, isa_tuple_Ratio T, isa_dict_Ratio T, isa_c_Ratio_Ratio T, isa_x_BadRatio_Ratio T, isa_NoneType_bool T, isa_bool_bool T, isa_int_bool T, isa_str_bool T, isa_list_bool T, isa_tuple_bool T, isa_dict_bool T, isa_c_Ratio_bool T, isa_x_BadRatio_bool T, isa_NoneType_int T, isa_bool_int T, isa_int_int T, isa_str_int T, isa_list_int T, isa_tuple_int T, isa_dict_int T, isa_c_Ratio_int T, isa_x_BadRatio_int T, T.em_BadRatio_CreditError, np_Ratio_NoneType T, np_Ratio_bool T, np_Ratio_int T, np_Ratio_str T, np_Ratio_list T, np_Ratio_tuple T, np_Ratio_dict T, np_Ratio_c_Ratio T, lk_Ratio_top, T.na_Ratio_top, lk_Ratio_bottom, T.na_Ratio_bottom, pd_Ratio_top, pd_Ratio_bottom, lx_BadRatio_part, T.xa_BadRatio_part]
    refine sDraw_ok (by decide) (by decide) (by have := z4d.2; omega) fun v5 z5 _ _ z5d => ?_
    by_cases h5 : v5 = 0
    · simp only [h5, dSeq, dIte, dTB, dBin, dBinE, dUnE, dCalE, dPen, isPen, dC, dVar, dNil, dCons, dSet, dAsg, dRet, dNext, dAnd, dOr, dNot, dAndV, dOrV, dNotV, dBu, oLen, oInt, oAbs, oI, oAdd, oIx, dIx, gPen, gN, gC, gT, gZ, dLst, dTup, dPar, dSl, dNone, dPart, oSl, dCall, dIf, dDrop, fnN, inN, dAt, dSelfFld, dSelfSet, dOwn, dApp, dRaise, oNegA, oAbsA, oBoolA, oStrA, oIsN, oGcd, dFmt, dJs, dpt_one, oEq_ii, oEq_bb, oEq_ss, oNe_ii, oNe_ss, oEqA_ii, oEqA_bb, oEqA_ss, oEqA_in, oEqA_ri, oNeA_ii, oNeA_ss, oNeA_in, List.getElem?_cons_zero, List.getElem?_cons_succ, List.set_cons_zero, List.set_cons_succ, true_and, and_true, if_true, if_false, Bool.false_eq_true, List.length_cons, List.length_nil, Option.some.injEq, Int.reduceEq, ↓reduceIte, Nat.reduceAdd, Nat.reduceLeDiff, Nat.zero_le, decide_true, decide_false, Bool.not_true, Bool.not_false, D.bl.injEq, D.int.injEq, D.str.injEq, exists_eq_left', exists_eq_left]
      exact h _ _ hi (z4d.trans z5d)
    · simp only [h5, dSeq, dIte, dTB, dBin, dBinE, dUnE, dCalE, dPen, isPen, dC, dVar, dNil, dCons, dSet, dAsg, dRet, dNext, dAnd, dOr, dNot, dAndV, dOrV, dNotV, dBu, oLen, oInt, oAbs, oI, oAdd, oIx, dIx, gPen, gN, gC, gT, gZ, dLst, dTup, dPar, dSl, dNone, dPart, oSl, dCall, dIf, dDrop, fnN, inN, dAt, dSelfFld, dSelfSet, dOwn, dApp, dRaise, oNegA, oAbsA, oBoolA, oStrA, oIsN, oGcd, dFmt, dJs, dpt_one, oEq_ii, oEq_bb, oEq_ss, oNe_ii, oNe_ss, oEqA_ii, oEqA_bb, oEqA_ss, oEqA_in, oEqA_ri, oNeA_ii, oNeA_ss, oNeA_in, List.getElem?_cons_zero, List.getElem?_cons_succ, List.set_cons_zero, List.set_cons_succ, true_and, and_true, if_true, if_false, Bool.false_eq_true, List.length_cons, List.length_nil, Option.some.injEq, Int.reduceEq, ↓reduceIte, Nat.reduceAdd, Nat.reduceLeDiff, Nat.zero_le, decide_true, decide_false, Bool.not_true, Bool.not_false, D.bl.injEq, D.int.injEq, D.str.injEq, exists_eq_left', exists_eq_left]
      exact h _ _ (by omega) (z4d.trans z5d)
  by_cases h2 : v2 = 0
  · simp only [h2, dSeq, dIte, dTB, dBin, dBinE, dUnE, dCalE, dPen, isPen, dC, dVar, dNil, dCons, dSet, dAsg, dRet, dNext, dAnd, dOr, dNot, dAndV, dOrV, dNotV, dBu, oLen, oInt, oAbs, oI, oAdd, oIx, dIx, gPen, gN, gC, gT, gZ, dLst, dTup, dPar, dSl, dNone, dPart, oSl, dCall, dIf, dDrop, fnN, inN, dAt, dSelfFld, dSelfSet, dOwn, dApp, dRaise, oNegA, oAbsA, oBoolA, oStrA, oIsN, oGcd, dFmt, dJs, dpt_one, oEq_ii, oEq_bb, oEq_ss, oNe_ii, oNe_ss, oEqA_ii, oEqA_bb, oEqA_ss, oEqA_in, oEqA_ri, oNeA_ii, oNeA_ss, oNeA_in, List.getElem?_cons_zero, List.getElem?_cons_succ, List.set_cons_zero, List.set_cons_succ, true_and, and_true, if_true, if_false, Bool.false_eq_true, List.length_cons, List.length_nil, Option.some.injEq, Int.reduceEq, ↓reduceIte, Nat.reduceAdd, Nat.reduceLeDiff, Nat.zero_le, decide_true, decide_false, Bool.not_true, Bool.not_false, D.bl.injEq, D.int.injEq, D.str.injEq, exists_eq_left', exists_eq_left, cq_law_draw_2, cq_law_pick_2, cq_law_size_1, cq_law_pair_1, cq_is_int_1, cq_Ratio_Ratio___init___2, cq_Ratio___eq___2, tq_eq_eq_Ratio, cq_Ratio___abs___1, tq_own_abs_Ratio, cq_law_divisor_2, cq_law_is_3, cq_Ratio_Ratio___init___0_bottom_top, cq_Ratio___neg___1, tq_own_neg_Ratio, cq_Ratio___bool___1, tq_own_bool_Ratio, cq_Ratio_Ratio___init___1, cq_Ratio___str___1, tq_own_str_Ratio, cq_law_made_right_1, cq_law_refused_right_1, isa_NoneType_BadRatio T, isa_bool_BadRatio T, isa_int_BadRatio T, isa_str_BadRatio T, isa_list_BadRatio T, isa_tuple_BadRatio T, isa_dict_BadRatio T, isa_c_Ratio_BadRatio T, isa_x_BadRatio_BadRatio T, isa_NoneType_Ratio T, isa_bool_Ratio T, isa_int_Ratio T, isa_str_Ratio T, isa_list_Ratio T, isa_tuple_Ratio T, isa_dict_Ratio T, isa_c_Ratio_Ratio T, isa_x_BadRatio_Ratio T, isa_NoneType_bool T, isa_bool_bool T, isa_int_bool T, isa_str_bool T, isa_list_bool T, isa_tuple_bool T, isa_dict_bool T, isa_c_Ratio_bool T, isa_x_BadRatio_bool T, isa_NoneType_int T, isa_bool_int T, isa_int_int T, isa_str_int T, isa_list_int T, isa_tuple_int T, isa_dict_int T, isa_c_Ratio_int T, isa_x_BadRatio_int T, T.em_BadRatio_CreditError, np_Ratio_NoneType T, np_Ratio_bool T, np_Ratio_int T, np_Ratio_str T, np_Ratio_list T, np_Ratio_tuple T, np_Ratio_dict T, np_Ratio_c_Ratio T, lk_Ratio_top, T.na_Ratio_top, lk_Ratio_bottom, T.na_Ratio_bottom, pd_Ratio_top, pd_Ratio_bottom, lx_BadRatio_part, T.xa_BadRatio_part]
    refine ⟨cpw (by decide) (by decide), mx_of 70 80 (by omega) (by decide), cpw (by decide) (by decide), sDraw_ok (by decide) (by decide) (by have := z1d.2; have := z2d.2; have := z3d.2; omega) fun v4 z4 x0 x1 z4d => ?_⟩
    refine fin _ _ ?_ (((z1d.trans z2d).trans z3d).trans z4d)
    have e : (10 : Int) ^ Int.toNat 22 = 10000000000000000000000 := rfl
    have e2 : (10 : Int) ^ Int.toNat 9 = 1000000000 := rfl
    rw [e2] at x1
    rw [e]
    omega
  · simp only [h2, dSeq, dIte, dTB, dBin, dBinE, dUnE, dCalE, dPen, isPen, dC, dVar, dNil, dCons, dSet, dAsg, dRet, dNext, dAnd, dOr, dNot, dAndV, dOrV, dNotV, dBu, oLen, oInt, oAbs, oI, oAdd, oIx, dIx, gPen, gN, gC, gT, gZ, dLst, dTup, dPar, dSl, dNone, dPart, oSl, dCall, dIf, dDrop, fnN, inN, dAt, dSelfFld, dSelfSet, dOwn, dApp, dRaise, oNegA, oAbsA, oBoolA, oStrA, oIsN, oGcd, dFmt, dJs, dpt_one, oEq_ii, oEq_bb, oEq_ss, oNe_ii, oNe_ss, oEqA_ii, oEqA_bb, oEqA_ss, oEqA_in, oEqA_ri, oNeA_ii, oNeA_ss, oNeA_in, List.getElem?_cons_zero, List.getElem?_cons_succ, List.set_cons_zero, List.set_cons_succ, true_and, and_true, if_true, if_false, Bool.false_eq_true, List.length_cons, List.length_nil, Option.some.injEq, Int.reduceEq, ↓reduceIte, Nat.reduceAdd, Nat.reduceLeDiff, Nat.zero_le, decide_true, decide_false, Bool.not_true, Bool.not_false, D.bl.injEq, D.int.injEq, D.str.injEq, exists_eq_left', exists_eq_left, cq_law_draw_2, cq_law_pick_2, cq_law_size_1, cq_law_pair_1, cq_is_int_1, cq_Ratio_Ratio___init___2, cq_Ratio___eq___2, tq_eq_eq_Ratio, cq_Ratio___abs___1, tq_own_abs_Ratio, cq_law_divisor_2, cq_law_is_3, cq_Ratio_Ratio___init___0_bottom_top, cq_Ratio___neg___1, tq_own_neg_Ratio, cq_Ratio___bool___1, tq_own_bool_Ratio, cq_Ratio_Ratio___init___1, cq_Ratio___str___1, tq_own_str_Ratio, cq_law_made_right_1, cq_law_refused_right_1, isa_NoneType_BadRatio T, isa_bool_BadRatio T, isa_int_BadRatio T, isa_str_BadRatio T, isa_list_BadRatio T, isa_tuple_BadRatio T, isa_dict_BadRatio T, isa_c_Ratio_BadRatio T, isa_x_BadRatio_BadRatio T, isa_NoneType_Ratio T, isa_bool_Ratio T, isa_int_Ratio T, isa_str_Ratio T, isa_list_Ratio T, isa_tuple_Ratio T, isa_dict_Ratio T, isa_c_Ratio_Ratio T, isa_x_BadRatio_Ratio T, isa_NoneType_bool T, isa_bool_bool T, isa_int_bool T, isa_str_bool T, isa_list_bool T, isa_tuple_bool T, isa_dict_bool T, isa_c_Ratio_bool T, isa_x_BadRatio_bool T, isa_NoneType_int T, isa_bool_int T, isa_int_int T, isa_str_int T, isa_list_int T, isa_tuple_int T, isa_dict_int T, isa_c_Ratio_int T, isa_x_BadRatio_int T, T.em_BadRatio_CreditError, np_Ratio_NoneType T, np_Ratio_bool T, np_Ratio_int T, np_Ratio_str T, np_Ratio_list T, np_Ratio_tuple T, np_Ratio_dict T, np_Ratio_c_Ratio T, lk_Ratio_top, T.na_Ratio_top, lk_Ratio_bottom, T.na_Ratio_bottom, pd_Ratio_top, pd_Ratio_bottom, lx_BadRatio_part, T.xa_BadRatio_part]
    exact fin _ _ (by omega) (((z1d.trans z2d).trans z3d).le (by decide))
theorem pair_ok (T : Txt c A) (hz : 8 ≤ z.fu) (h : ∀ (i l : Int) z', i.natAbs < 2 ^ 140 → 0 < l → l < 2 ^ 44 → Zd 8 z z' → P (.tup [.int i, .int l]) z') : sp_law_pair c A [.pen] z P R := by
  show 1 = 1 ∧ t_law_pair c A _ ⟨[.d .pen, .un, .un], z⟩
  simp only [t_law_pair, dSeq, dIte, dTB, dBin, dBinE, dUnE, dCalE, dPen, isPen, dC, dVar, dNil, dCons, dSet, dAsg, dRet, dNext, dAnd, dOr, dNot, dAndV, dOrV, dNotV, dBu, oLen, oInt, oAbs, oI, oAdd, oIx, dIx, gPen, gN, gC, gT, gZ, dLst, dTup, dPar, dSl, dNone, dPart, oSl, dCall, dIf, dDrop, fnN, inN, dAt, dSelfFld, dSelfSet, dOwn, dApp, dRaise, oNegA, oAbsA, oBoolA, oStrA, oIsN, oGcd, dFmt, dJs, dpt_one, oEq_ii, oEq_bb, oEq_ss, oNe_ii, oNe_ss, oEqA_ii, oEqA_bb, oEqA_ss, oEqA_in, oEqA_ri, oNeA_ii, oNeA_ss, oNeA_in, List.getElem?_cons_zero, List.getElem?_cons_succ, List.set_cons_zero, List.set_cons_succ, true_and, and_true, if_true, if_false, Bool.false_eq_true, List.length_cons, List.length_nil, Option.some.injEq, Int.reduceEq, ↓reduceIte, Nat.reduceAdd, Nat.reduceLeDiff, Nat.zero_le, decide_true, decide_false, Bool.not_true, Bool.not_false, D.bl.injEq, D.int.injEq, D.str.injEq, exists_eq_left', exists_eq_left, cq_law_draw_2, cq_law_pick_2, cq_law_size_1, cq_law_pair_1, cq_is_int_1, cq_Ratio_Ratio___init___2, cq_Ratio___eq___2, tq_eq_eq_Ratio, cq_Ratio___abs___1, tq_own_abs_Ratio, cq_law_divisor_2, cq_law_is_3, cq_Ratio_Ratio___init___0_bottom_top, cq_Ratio___neg___1, tq_own_neg_Ratio, cq_Ratio___bool___1, tq_own_bool_Ratio, cq_Ratio_Ratio___init___1, cq_Ratio___str___1, tq_own_str_Ratio, cq_law_made_right_1, cq_law_refused_right_1, isa_NoneType_BadRatio T, isa_bool_BadRatio T, isa_int_BadRatio T, isa_str_BadRatio T, isa_list_BadRatio T, isa_tuple_BadRatio T, isa_dict_BadRatio T, isa_c_Ratio_BadRatio T, isa_x_BadRatio_BadRatio T, isa_NoneType_Ratio T, isa_bool_Ratio T, isa_int_Ratio T, isa_str_Ratio T, isa_list_Ratio T, isa_tuple_Ratio T, isa_dict_Ratio T, isa_c_Ratio_Ratio T, isa_x_BadRatio_Ratio T, isa_NoneType_bool T, isa_bool_bool T, isa_int_bool T, isa_str_bool T, isa_list_bool T, isa_tuple_bool T, isa_dict_bool T, isa_c_Ratio_bool T, isa_x_BadRatio_bool T, isa_NoneType_int T, isa_bool_int T, isa_int_int T, isa_str_int T, isa_list_int T, isa_tuple_int T, isa_dict_int T, isa_c_Ratio_int T, isa_x_BadRatio_int T, T.em_BadRatio_CreditError, np_Ratio_NoneType T, np_Ratio_bool T, np_Ratio_int T, np_Ratio_str T, np_Ratio_list T, np_Ratio_tuple T, np_Ratio_dict T, np_Ratio_c_Ratio T, lk_Ratio_top, T.na_Ratio_top, lk_Ratio_bottom, T.na_Ratio_bottom, pd_Ratio_top, pd_Ratio_bottom, lx_BadRatio_part, T.xa_BadRatio_part]
  refine ⟨cpw (by decide) (by decide), ?_⟩
  refine pick_ok T ?_ ?_ ?_ fun d z1 hd z1d => ?_
  · decide
  · decide
  · omega
  obtain ⟨m, rfl, m0, m1⟩ : ∃ m : Int, d = .int m ∧ 0 < m ∧ m ≤ 10 ^ 12 := by
    simp only [List.mem_cons, List.not_mem_nil, or_false] at hd
    rcases hd with rfl | rfl | rfl | rfl <;> exact ⟨_, rfl, by decide, by decide⟩
  simp only [u_law_pair_1, dSeq, dIte, dTB, dBin, dBinE, dUnE, dCalE, dPen, isPen, dC, dVar, dNil, dCons, dSet, dAsg, dRet, dNext, dAnd, dOr, dNot, dAndV, dOrV, dNotV, dBu, oLen, oInt, oAbs, oI, oAdd, oIx, dIx, gPen, gN, gC, gT, gZ, dLst, dTup, dPar, dSl, dNone, dPart, oSl, dCall, dIf, dDrop, fnN, inN, dAt, dSelfFld, dSelfSet, dOwn, dApp, dRaise, oNegA, oAbsA, oBoolA, oStrA, oIsN, oGcd, dFmt, dJs, dpt_one, oEq_ii, oEq_bb, oEq_ss, oNe_ii, oNe_ss, oEqA_ii, oEqA_bb, oEqA_ss, oEqA_in, oEqA_ri, oNeA_ii, oNeA_ss, oNeA_in, List.getElem?_cons_zero, List.getElem?_cons_succ, List.set_cons_zero, List.set_cons_succ, true_and, and_true, if_true, if_false, Bool.false_eq_true, List.length_cons, List.length_nil, Option.some.injEq, Int.reduceEq, ↓reduceIte, Nat.reduceAdd, Nat.reduceLeDiff, Nat.zero_le, decide_true, decide_false, Bool.not_true, Bool.not_false, D.bl.injEq, D.int.injEq, D.str.injEq, exists_eq_left', exists_eq_left, cq_law_draw_2, cq_law_pick_2, cq_law_size_1, cq_law_pair_1, cq_is_int_1, cq_Ratio_Ratio___init___2, cq_Ratio___eq___2, tq_eq_eq_Ratio, cq_Ratio___abs___1, tq_own_abs_Ratio, cq_law_divisor_2, cq_law_is_3, cq_Ratio_Ratio___init___0_bottom_top, cq_Ratio___neg___1, tq_own_neg_Ratio, cq_Ratio___bool___1, tq_own_bool_Ratio, cq_Ratio_Ratio___init___1, cq_Ratio___str___1, tq_own_str_Ratio, cq_law_made_right_1, cq_law_refused_right_1, isa_NoneType_BadRatio T, isa_bool_BadRatio T, isa_int_BadRatio T, isa_str_BadRatio T, isa_list_BadRatio T, isa_tuple_BadRatio T, isa_dict_BadRatio T, isa_c_Ratio_BadRatio T, isa_x_BadRatio_BadRatio T, isa_NoneType_Ratio T, isa_bool_Ratio T, isa_int_Ratio T, isa_str_Ratio T, isa_list_Ratio T, isa_tuple_Ratio T, isa_dict_Ratio T, isa_c_Ratio_Ratio T, isa_x_BadRatio_Ratio T, isa_NoneType_bool T, isa_bool_bool T, isa_int_bool T, isa_str_bool T, isa_list_bool T, isa_tuple_bool T, isa_dict_bool T, isa_c_Ratio_bool T, isa_x_BadRatio_bool T, isa_NoneType_int T, isa_bool_int T, isa_int_int T, isa_str_int T, isa_list_int T, isa_tuple_int T, isa_dict_int T, isa_c_Ratio_int T, isa_x_BadRatio_int T, T.em_BadRatio_CreditError, np_Ratio_NoneType T, np_Ratio_bool T, np_Ratio_int T, np_Ratio_str T, np_Ratio_list T, np_Ratio_tuple T, np_Ratio_dict T, np_Ratio_c_Ratio T, lk_Ratio_top, T.na_Ratio_top, lk_Ratio_bottom, T.na_Ratio_bottom, pd_Ratio_top, pd_Ratio_bottom, lx_BadRatio_part, T.xa_BadRatio_part]
  refine sDraw_ok m0 (by omega) (by have := z1d.2; omega) fun v z2 v0 v1 z2d => ?_
  simp only [u_law_pair_2, dSeq, dIte, dTB, dBin, dBinE, dUnE, dCalE, dPen, isPen, dC, dVar, dNil, dCons, dSet, dAsg, dRet, dNext, dAnd, dOr, dNot, dAndV, dOrV, dNotV, dBu, oLen, oInt, oAbs, oI, oAdd, oIx, dIx, gPen, gN, gC, gT, gZ, dLst, dTup, dPar, dSl, dNone, dPart, oSl, dCall, dIf, dDrop, fnN, inN, dAt, dSelfFld, dSelfSet, dOwn, dApp, dRaise, oNegA, oAbsA, oBoolA, oStrA, oIsN, oGcd, dFmt, dJs, dpt_one, oEq_ii, oEq_bb, oEq_ss, oNe_ii, oNe_ss, oEqA_ii, oEqA_bb, oEqA_ss, oEqA_in, oEqA_ri, oNeA_ii, oNeA_ss, oNeA_in, List.getElem?_cons_zero, List.getElem?_cons_succ, List.set_cons_zero, List.set_cons_succ, true_and, and_true, if_true, if_false, Bool.false_eq_true, List.length_cons, List.length_nil, Option.some.injEq, Int.reduceEq, ↓reduceIte, Nat.reduceAdd, Nat.reduceLeDiff, Nat.zero_le, decide_true, decide_false, Bool.not_true, Bool.not_false, D.bl.injEq, D.int.injEq, D.str.injEq, exists_eq_left', exists_eq_left, cq_law_draw_2, cq_law_pick_2, cq_law_size_1, cq_law_pair_1, cq_is_int_1, cq_Ratio_Ratio___init___2, cq_Ratio___eq___2, tq_eq_eq_Ratio, cq_Ratio___abs___1, tq_own_abs_Ratio, cq_law_divisor_2, cq_law_is_3, cq_Ratio_Ratio___init___0_bottom_top, cq_Ratio___neg___1, tq_own_neg_Ratio, cq_Ratio___bool___1, tq_own_bool_Ratio, cq_Ratio_Ratio___init___1, cq_Ratio___str___1, tq_own_str_Ratio, cq_law_made_right_1, cq_law_refused_right_1, isa_NoneType_BadRatio T, isa_bool_BadRatio T, isa_int_BadRatio T, isa_str_BadRatio T, isa_list_BadRatio T, isa_tuple_BadRatio T, isa_dict_BadRatio T, isa_c_Ratio_BadRatio T, isa_x_BadRatio_BadRatio T, isa_NoneType_Ratio T, isa_bool_Ratio T, isa_int_Ratio T, isa_str_Ratio T, isa_list_Ratio T, isa_tuple_Ratio T, isa_dict_Ratio T, isa_c_Ratio_Ratio T, isa_x_BadRatio_Ratio T, isa_NoneType_bool T, isa_bool_bool T, isa_int_bool T, isa_str_bool T, isa_list_bool T, isa_tuple_bool T, isa_dict_bool T, isa_c_Ratio_bool T, isa_x_BadRatio_bool T, isa_NoneType_int T, isa_bool_int T, isa_int_int T, isa_str_int T, isa_list_int T, isa_tuple_int T, isa_dict_int T, isa_c_Ratio_int T, isa_x_BadRatio_int T, T.em_BadRatio_CreditError, np_Ratio_NoneType T, np_Ratio_bool T, np_Ratio_int T, np_Ratio_str T, np_Ratio_list T, np_Ratio_tuple T, np_Ratio_dict T, np_Ratio_c_Ratio T, lk_Ratio_top, T.na_Ratio_top, lk_Ratio_bottom, T.na_Ratio_bottom, pd_Ratio_top, pd_Ratio_bottom, lx_BadRatio_part, T.xa_BadRatio_part]
  refine sDraw_ok (by decide) (by decide) (by have := z1d.2; have := z2d.2; omega) fun v2 z3 w0 w1 z3d => ?_
  refine size_ok T (by have := z1d.2; have := z2d.2; have := z3d.2; omega) fun i z4 hi z4d => ?_
  refine ⟨mx_of 134 10 hi (by omega), mx_of 60 10 (by omega) (by omega), ?_⟩
  have b1 : (1 + v) * (1 + v2) ≤ 1000000000000 * 6 := Int.mul_le_mul (by omega) (by omega) (by omega) (by omega)
  have b0 : 0 < (1 + v) * (1 + v2) := Int.mul_pos (by omega) (by omega)
  have b2 : (i * (1 + v2)).natAbs < 2 ^ (134 + 6) := L2.wide_lt hi (by omega)
  exact h _ _ _ b2 b0 (by omega) (((z1d.trans z2d).trans z3d).trans z4d)
theorem div_loop {N : DN} {a b : Int} : ∀ (n : Nat) (h l : Int), 0 ≤ h → 0 ≤ l → l < (n : Int) → N.nx ⟨[.d (.int a), .d (.int b), .d (.int ((Nat.gcd h.natAbs l.natAbs : Nat) : Int)), .d (.int 0)], z⟩ →
    dWhl (dTB (dBinE (oNeA c (tq_eq_eq_Ratio c A)) (dVar 3) (dC (.int 0)))) (dPar 2 3 (dCons (dVar 3) (dCons (dBin (oI (fun _ j => 0 < j) fun i j => .int (i % j)) (dBu oInt (dCons (dVar 2) (dNil))) (dVar 3)) (dNil)))) N n ⟨[.d (.int a), .d (.int b), .d (.int h), .d (.int l)], z⟩
  | 0, h, l, h0, l0, hn, k => by omega
  | n + 1, h, l, h0, l0, hn, k => by
    unfold dWhl
    simp only [dSeq, dIte, dTB, dBin, dBinE, dUnE, dCalE, dPen, isPen, dC, dVar, dNil, dCons, dSet, dAsg, dRet, dNext, dAnd, dOr, dNot, dAndV, dOrV, dNotV, dBu, oLen, oInt, oAbs, oI, oAdd, oIx, dIx, gPen, gN, gC, gT, gZ, dLst, dTup, dPar, dSl, dNone, dPart, oSl, dCall, dIf, dDrop, fnN, inN, dAt, dSelfFld, dSelfSet, dOwn, dApp, dRaise, oNegA, oAbsA, oBoolA, oStrA, oIsN, oGcd, dFmt, dJs, dpt_one, oEq_ii, oEq_bb, oEq_ss, oNe_ii, oNe_ss, oEqA_ii, oEqA_bb, oEqA_ss, oEqA_in, oEqA_ri, oNeA_ii, oNeA_ss, oNeA_in, List.getElem?_cons_zero, List.getElem?_cons_succ, List.set_cons_zero, List.set_cons_succ, true_and, and_true, if_true, if_false, Bool.false_eq_true, List.length_cons, List.length_nil, Option.some.injEq, Int.reduceEq, ↓reduceIte, Nat.reduceAdd, Nat.reduceLeDiff, Nat.zero_le, decide_true, decide_false, Bool.not_true, Bool.not_false, D.bl.injEq, D.int.injEq, D.str.injEq, exists_eq_left', exists_eq_left]
    by_cases e : l = 0
    · subst e
      simp only [decide_true, Bool.not_true, Bool.false_eq_true, if_false]
      have : ((Nat.gcd h.natAbs (0 : Int).natAbs : Nat) : Int) = h := by simp; omega
      rw [this] at k
      exact k
    · simp only [e, dSeq, dIte, dTB, dBin, dBinE, dUnE, dCalE, dPen, isPen, dC, dVar, dNil, dCons, dSet, dAsg, dRet, dNext, dAnd, dOr, dNot, dAndV, dOrV, dNotV, dBu, oLen, oInt, oAbs, oI, oAdd, oIx, dIx, gPen, gN, gC, gT, gZ, dLst, dTup, dPar, dSl, dNone, dPart, oSl, dCall, dIf, dDrop, fnN, inN, dAt, dSelfFld, dSelfSet, dOwn, dApp, dRaise, oNegA, oAbsA, oBoolA, oStrA, oIsN, oGcd, dFmt, dJs, dpt_one, oEq_ii, oEq_bb, oEq_ss, oNe_ii, oNe_ss, oEqA_ii, oEqA_bb, oEqA_ss, oEqA_in, oEqA_ri, oNeA_ii, oNeA_ss, oNeA_in, List.getElem?_cons_zero, List.getElem?_cons_succ, List.set_cons_zero, List.set_cons_succ, true_and, and_true, if_true, if_false, Bool.false_eq_true, List.length_cons, List.length_nil, Option.some.injEq, Int.reduceEq, ↓reduceIte, Nat.reduceAdd, Nat.reduceLeDiff, Nat.zero_le, decide_true, decide_false, Bool.not_true, Bool.not_false, D.bl.injEq, D.int.injEq, D.str.injEq, exists_eq_left', exists_eq_left]
      have lp : 0 < l := by omega
      have m0 := Int.emod_nonneg h (show l ≠ 0 by omega)
      have m1 := Int.emod_lt_of_pos h lp
      refine ⟨lp, div_loop n l (h % l) (by omega) m0 (by omega) ?_⟩
      have e2 : Nat.gcd l.natAbs (h % l).natAbs = Nat.gcd h.natAbs l.natAbs := by
        rw [Int.natAbs_emod_of_nonneg h0, Nat.gcd_comm l.natAbs, ← Nat.gcd_rec, Nat.gcd_comm]
      rw [e2]
      exact k
theorem div_ok (T : Txt c A) {a b : Int} (h : P (.int ((Nat.gcd a.natAbs b.natAbs : Nat) : Int)) z) : sp_law_divisor c A [.int a, .int b] z P R := by
  show 2 = 2 ∧ t_law_divisor c A _ ⟨[.d (.int a), .d (.int b), .un, .un], z⟩
  simp only [t_law_divisor, dSeq, dIte, dTB, dBin, dBinE, dUnE, dCalE, dPen, isPen, dC, dVar, dNil, dCons, dSet, dAsg, dRet, dNext, dAnd, dOr, dNot, dAndV, dOrV, dNotV, dBu, oLen, oInt, oAbs, oI, oAdd, oIx, dIx, gPen, gN, gC, gT, gZ, dLst, dTup, dPar, dSl, dNone, dPart, oSl, dCall, dIf, dDrop, fnN, inN, dAt, dSelfFld, dSelfSet, dOwn, dApp, dRaise, oNegA, oAbsA, oBoolA, oStrA, oIsN, oGcd, dFmt, dJs, dpt_one, oEq_ii, oEq_bb, oEq_ss, oNe_ii, oNe_ss, oEqA_ii, oEqA_bb, oEqA_ss, oEqA_in, oEqA_ri, oNeA_ii, oNeA_ss, oNeA_in, List.getElem?_cons_zero, List.getElem?_cons_succ, List.set_cons_zero, List.set_cons_succ, true_and, and_true, if_true, if_false, Bool.false_eq_true, List.length_cons, List.length_nil, Option.some.injEq, Int.reduceEq, ↓reduceIte, Nat.reduceAdd, Nat.reduceLeDiff, Nat.zero_le, decide_true, decide_false, Bool.not_true, Bool.not_false, D.bl.injEq, D.int.injEq, D.str.injEq, exists_eq_left', exists_eq_left, cq_law_draw_2, cq_law_pick_2, cq_law_size_1, cq_law_pair_1, cq_is_int_1, cq_Ratio_Ratio___init___2, cq_Ratio___eq___2, tq_eq_eq_Ratio, cq_Ratio___abs___1, tq_own_abs_Ratio, cq_law_divisor_2, cq_law_is_3, cq_Ratio_Ratio___init___0_bottom_top, cq_Ratio___neg___1, tq_own_neg_Ratio, cq_Ratio___bool___1, tq_own_bool_Ratio, cq_Ratio_Ratio___init___1, cq_Ratio___str___1, tq_own_str_Ratio, cq_law_made_right_1, cq_law_refused_right_1, isa_NoneType_BadRatio T, isa_bool_BadRatio T, isa_int_BadRatio T, isa_str_BadRatio T, isa_list_BadRatio T, isa_tuple_BadRatio T, isa_dict_BadRatio T, isa_c_Ratio_BadRatio T, isa_x_BadRatio_BadRatio T, isa_NoneType_Ratio T, isa_bool_Ratio T, isa_int_Ratio T, isa_str_Ratio T, isa_list_Ratio T, isa_tuple_Ratio T, isa_dict_Ratio T, isa_c_Ratio_Ratio T, isa_x_BadRatio_Ratio T, isa_NoneType_bool T, isa_bool_bool T, isa_int_bool T, isa_str_bool T, isa_list_bool T, isa_tuple_bool T, isa_dict_bool T, isa_c_Ratio_bool T, isa_x_BadRatio_bool T, isa_NoneType_int T, isa_bool_int T, isa_int_int T, isa_str_int T, isa_list_int T, isa_tuple_int T, isa_dict_int T, isa_c_Ratio_int T, isa_x_BadRatio_int T, T.em_BadRatio_CreditError, np_Ratio_NoneType T, np_Ratio_bool T, np_Ratio_int T, np_Ratio_str T, np_Ratio_list T, np_Ratio_tuple T, np_Ratio_dict T, np_Ratio_c_Ratio T, lk_Ratio_top, T.na_Ratio_top, lk_Ratio_bottom, T.na_Ratio_bottom, pd_Ratio_top, pd_Ratio_bottom, lx_BadRatio_part, T.xa_BadRatio_part]
  have ab : ∀ i : Int, (if i < 0 then -i else i) = (i.natAbs : Int) := fun i => by split <;> omega
  rw [ab, ab]
  unfold u_law_divisor_1
  rw [dSeq]
  unfold dWhile
  refine ⟨b.natAbs + 1, div_loop _ _ _ (by omega) (by omega) (by omega) ?_⟩
  simp only [u_law_divisor_2, dSeq, dIte, dTB, dBin, dBinE, dUnE, dCalE, dPen, isPen, dC, dVar, dNil, dCons, dSet, dAsg, dRet, dNext, dAnd, dOr, dNot, dAndV, dOrV, dNotV, dBu, oLen, oInt, oAbs, oI, oAdd, oIx, dIx, gPen, gN, gC, gT, gZ, dLst, dTup, dPar, dSl, dNone, dPart, oSl, dCall, dIf, dDrop, fnN, inN, dAt, dSelfFld, dSelfSet, dOwn, dApp, dRaise, oNegA, oAbsA, oBoolA, oStrA, oIsN, oGcd, dFmt, dJs, dpt_one, oEq_ii, oEq_bb, oEq_ss, oNe_ii, oNe_ss, oEqA_ii, oEqA_bb, oEqA_ss, oEqA_in, oEqA_ri, oNeA_ii, oNeA_ss, oNeA_in, List.getElem?_cons_zero, List.getElem?_cons_succ, List.set_cons_zero, List.set_cons_succ, true_and, and_true, if_true, if_false, Bool.false_eq_true, List.length_cons, List.length_nil, Option.some.injEq, Int.reduceEq, ↓reduceIte, Nat.reduceAdd, Nat.reduceLeDiff, Nat.zero_le, decide_true, decide_false, Bool.not_true, Bool.not_false, D.bl.injEq, D.int.injEq, D.str.injEq, exists_eq_left', exists_eq_left, cq_law_draw_2, cq_law_pick_2, cq_law_size_1, cq_law_pair_1, cq_is_int_1, cq_Ratio_Ratio___init___2, cq_Ratio___eq___2, tq_eq_eq_Ratio, cq_Ratio___abs___1, tq_own_abs_Ratio, cq_law_divisor_2, cq_law_is_3, cq_Ratio_Ratio___init___0_bottom_top, cq_Ratio___neg___1, tq_own_neg_Ratio, cq_Ratio___bool___1, tq_own_bool_Ratio, cq_Ratio_Ratio___init___1, cq_Ratio___str___1, tq_own_str_Ratio, cq_law_made_right_1, cq_law_refused_right_1, isa_NoneType_BadRatio T, isa_bool_BadRatio T, isa_int_BadRatio T, isa_str_BadRatio T, isa_list_BadRatio T, isa_tuple_BadRatio T, isa_dict_BadRatio T, isa_c_Ratio_BadRatio T, isa_x_BadRatio_BadRatio T, isa_NoneType_Ratio T, isa_bool_Ratio T, isa_int_Ratio T, isa_str_Ratio T, isa_list_Ratio T, isa_tuple_Ratio T, isa_dict_Ratio T, isa_c_Ratio_Ratio T, isa_x_BadRatio_Ratio T, isa_NoneType_bool T, isa_bool_bool T, isa_int_bool T, isa_str_bool T, isa_list_bool T, isa_tuple_bool T, isa_dict_bool T, isa_c_Ratio_bool T, isa_x_BadRatio_bool T, isa_NoneType_int T, isa_bool_int T, isa_int_int T, isa_str_int T, isa_list_int T, isa_tuple_int T, isa_dict_int T, isa_c_Ratio_int T, isa_x_BadRatio_int T, T.em_BadRatio_CreditError, np_Ratio_NoneType T, np_Ratio_bool T, np_Ratio_int T, np_Ratio_str T, np_Ratio_list T, np_Ratio_tuple T, np_Ratio_dict T, np_Ratio_c_Ratio T, lk_Ratio_top, T.na_Ratio_top, lk_Ratio_bottom, T.na_Ratio_bottom, pd_Ratio_top, pd_Ratio_bottom, lx_BadRatio_part, T.xa_BadRatio_part]
  simpa using h
theorem is_yes (T : Txt c A) {x y h l : Int} (sx : x.natAbs < 2 ^ 200) (sy : y.natAbs < 2 ^ 200) (sh : h.natAbs < 2 ^ 200) (sl : l.natAbs < 2 ^ 200) (hy : 0 < y) (hc : Nat.gcd x.natAbs y.natAbs = 1) (e : x * l = h * y) (hp : P (.bl true) z) : sp_law_is c A [o_Ratio A (.int x) (.int y), .int h, .int l] z P R := by
  show 3 = 3 ∧ t_law_is c A _ ⟨[.d (o_Ratio A (.int x) (.int y)), .d (.int h), .d (.int l)], z⟩
  have h1 : decide (y < 1) = false := decide_eq_false (by omega)
  simp only [t_law_is, o_Ratio, dSeq, dIte, dTB, dBin, dBinE, dUnE, dCalE, dPen, isPen, dC, dVar, dNil, dCons, dSet, dAsg, dRet, dNext, dAnd, dOr, dNot, dAndV, dOrV, dNotV, dBu, oLen, oInt, oAbs, oI, oAdd, oIx, dIx, gPen, gN, gC, gT, gZ, dLst, dTup, dPar, dSl, dNone, dPart, oSl, dCall, dIf, dDrop, fnN, inN, dAt, dSelfFld, dSelfSet, dOwn, dApp, dRaise, oNegA, oAbsA, oBoolA, oStrA, oIsN, oGcd, dFmt, dJs, dpt_one, oEq_ii, oEq_bb, oEq_ss, oNe_ii, oNe_ss, oEqA_ii, oEqA_bb, oEqA_ss, oEqA_in, oEqA_ri, oNeA_ii, oNeA_ss, oNeA_in, List.getElem?_cons_zero, List.getElem?_cons_succ, List.set_cons_zero, List.set_cons_succ, true_and, and_true, if_true, if_false, Bool.false_eq_true, List.length_cons, List.length_nil, Option.some.injEq, Int.reduceEq, ↓reduceIte, Nat.reduceAdd, Nat.reduceLeDiff, Nat.zero_le, decide_true, decide_false, Bool.not_true, Bool.not_false, D.bl.injEq, D.int.injEq, D.str.injEq, exists_eq_left', exists_eq_left, cq_law_draw_2, cq_law_pick_2, cq_law_size_1, cq_law_pair_1, cq_is_int_1, cq_Ratio_Ratio___init___2, cq_Ratio___eq___2, tq_eq_eq_Ratio, cq_Ratio___abs___1, tq_own_abs_Ratio, cq_law_divisor_2, cq_law_is_3, cq_Ratio_Ratio___init___0_bottom_top, cq_Ratio___neg___1, tq_own_neg_Ratio, cq_Ratio___bool___1, tq_own_bool_Ratio, cq_Ratio_Ratio___init___1, cq_Ratio___str___1, tq_own_str_Ratio, cq_law_made_right_1, cq_law_refused_right_1, isa_NoneType_BadRatio T, isa_bool_BadRatio T, isa_int_BadRatio T, isa_str_BadRatio T, isa_list_BadRatio T, isa_tuple_BadRatio T, isa_dict_BadRatio T, isa_c_Ratio_BadRatio T, isa_x_BadRatio_BadRatio T, isa_NoneType_Ratio T, isa_bool_Ratio T, isa_int_Ratio T, isa_str_Ratio T, isa_list_Ratio T, isa_tuple_Ratio T, isa_dict_Ratio T, isa_c_Ratio_Ratio T, isa_x_BadRatio_Ratio T, isa_NoneType_bool T, isa_bool_bool T, isa_int_bool T, isa_str_bool T, isa_list_bool T, isa_tuple_bool T, isa_dict_bool T, isa_c_Ratio_bool T, isa_x_BadRatio_bool T, isa_NoneType_int T, isa_bool_int T, isa_int_int T, isa_str_int T, isa_list_int T, isa_tuple_int T, isa_dict_int T, isa_c_Ratio_int T, isa_x_BadRatio_int T, T.em_BadRatio_CreditError, np_Ratio_NoneType T, np_Ratio_bool T, np_Ratio_int T, np_Ratio_str T, np_Ratio_list T, np_Ratio_tuple T, np_Ratio_dict T, np_Ratio_c_Ratio T, lk_Ratio_top, T.na_Ratio_top, lk_Ratio_bottom, T.na_Ratio_bottom, pd_Ratio_top, pd_Ratio_bottom, lx_BadRatio_part, T.xa_BadRatio_part, h1]
  refine ⟨mx_of 200 200 sx sl, mx_of 200 200 sh sy, ?_⟩
  simp only [e, decide_true, Bool.not_true, Bool.false_eq_true, if_false]
  simp only [u_law_is_1, dSeq, dIte, dTB, dBin, dBinE, dUnE, dCalE, dPen, isPen, dC, dVar, dNil, dCons, dSet, dAsg, dRet, dNext, dAnd, dOr, dNot, dAndV, dOrV, dNotV, dBu, oLen, oInt, oAbs, oI, oAdd, oIx, dIx, gPen, gN, gC, gT, gZ, dLst, dTup, dPar, dSl, dNone, dPart, oSl, dCall, dIf, dDrop, fnN, inN, dAt, dSelfFld, dSelfSet, dOwn, dApp, dRaise, oNegA, oAbsA, oBoolA, oStrA, oIsN, oGcd, dFmt, dJs, dpt_one, oEq_ii, oEq_bb, oEq_ss, oNe_ii, oNe_ss, oEqA_ii, oEqA_bb, oEqA_ss, oEqA_in, oEqA_ri, oNeA_ii, oNeA_ss, oNeA_in, List.getElem?_cons_zero, List.getElem?_cons_succ, List.set_cons_zero, List.set_cons_succ, true_and, and_true, if_true, if_false, Bool.false_eq_true, List.length_cons, List.length_nil, Option.some.injEq, Int.reduceEq, ↓reduceIte, Nat.reduceAdd, Nat.reduceLeDiff, Nat.zero_le, decide_true, decide_false, Bool.not_true, Bool.not_false, D.bl.injEq, D.int.injEq, D.str.injEq, exists_eq_left', exists_eq_left, cq_law_draw_2, cq_law_pick_2, cq_law_size_1, cq_law_pair_1, cq_is_int_1, cq_Ratio_Ratio___init___2, cq_Ratio___eq___2, tq_eq_eq_Ratio, cq_Ratio___abs___1, tq_own_abs_Ratio, cq_law_divisor_2, cq_law_is_3, cq_Ratio_Ratio___init___0_bottom_top, cq_Ratio___neg___1, tq_own_neg_Ratio, cq_Ratio___bool___1, tq_own_bool_Ratio, cq_Ratio_Ratio___init___1, cq_Ratio___str___1, tq_own_str_Ratio, cq_law_made_right_1, cq_law_refused_right_1, isa_NoneType_BadRatio T, isa_bool_BadRatio T, isa_int_BadRatio T, isa_str_BadRatio T, isa_list_BadRatio T, isa_tuple_BadRatio T, isa_dict_BadRatio T, isa_c_Ratio_BadRatio T, isa_x_BadRatio_BadRatio T, isa_NoneType_Ratio T, isa_bool_Ratio T, isa_int_Ratio T, isa_str_Ratio T, isa_list_Ratio T, isa_tuple_Ratio T, isa_dict_Ratio T, isa_c_Ratio_Ratio T, isa_x_BadRatio_Ratio T, isa_NoneType_bool T, isa_bool_bool T, isa_int_bool T, isa_str_bool T, isa_list_bool T, isa_tuple_bool T, isa_dict_bool T, isa_c_Ratio_bool T, isa_x_BadRatio_bool T, isa_NoneType_int T, isa_bool_int T, isa_int_int T, isa_str_int T, isa_list_int T, isa_tuple_int T, isa_dict_int T, isa_c_Ratio_int T, isa_x_BadRatio_int T, T.em_BadRatio_CreditError, np_Ratio_NoneType T, np_Ratio_bool T, np_Ratio_int T, np_Ratio_str T, np_Ratio_list T, np_Ratio_tuple T, np_Ratio_dict T, np_Ratio_c_Ratio T, lk_Ratio_top, T.na_Ratio_top, lk_Ratio_bottom, T.na_Ratio_bottom, pd_Ratio_top, pd_Ratio_bottom, lx_BadRatio_part, T.xa_BadRatio_part]
  refine div_ok T ?_
  simp only [hc, dSeq, dIte, dTB, dBin, dBinE, dUnE, dCalE, dPen, isPen, dC, dVar, dNil, dCons, dSet, dAsg, dRet, dNext, dAnd, dOr, dNot, dAndV, dOrV, dNotV, dBu, oLen, oInt, oAbs, oI, oAdd, oIx, dIx, gPen, gN, gC, gT, gZ, dLst, dTup, dPar, dSl, dNone, dPart, oSl, dCall, dIf, dDrop, fnN, inN, dAt, dSelfFld, dSelfSet, dOwn, dApp, dRaise, oNegA, oAbsA, oBoolA, oStrA, oIsN, oGcd, dFmt, dJs, dpt_one, oEq_ii, oEq_bb, oEq_ss, oNe_ii, oNe_ss, oEqA_ii, oEqA_bb, oEqA_ss, oEqA_in, oEqA_ri, oNeA_ii, oNeA_ss, oNeA_in, List.getElem?_cons_zero, List.getElem?_cons_succ, List.set_cons_zero, List.set_cons_succ, true_and, and_true, if_true, if_false, Bool.false_eq_true, List.length_cons, List.length_nil, Option.some.injEq, Int.reduceEq, ↓reduceIte, Nat.reduceAdd, Nat.reduceLeDiff, Nat.zero_le, decide_true, decide_false, Bool.not_true, Bool.not_false, D.bl.injEq, D.int.injEq, D.str.injEq, exists_eq_left', exists_eq_left]
  exact hp
theorem is_mk (T : Txt c A) {h l : Int} (hl : l ≠ 0) (sh : h.natAbs < 2 ^ 150) (sl : l.natAbs < 2 ^ 150) (hp : P (.bl true) z) : sp_law_is c A [o_Ratio A (.int (rT h l)) (.int (rB h l)), .int h, .int l] z P R :=
  is_yes T (Nat.lt_trans (rT_lt hl sh) (by decide)) (Nat.lt_trans (rB_lt hl sl) (by decide)) (Nat.lt_trans sh (by decide)) (Nat.lt_trans sl (by decide)) (rB_pos hl) (r_cop hl) (r_cross h l) hp
theorem shw_1 (a : Bool) : shw (.bl a) := by cases a <;> exact ⟨by decide +kernel, by decide +kernel, by decide +kernel, by decide +kernel⟩
theorem shw_3 (a b d : Bool) : shw (.lst [.bl a, .bl b, .bl d]) := by cases a <;> cases b <;> cases d <;> exact ⟨by decide +kernel, by decide +kernel, by decide +kernel, by decide +kernel⟩
theorem oRepr_1 {Q : D → Prop} {a : Bool} : oRepr [.bl a] Q ↔ Q (.str (toPy (.bl a)).shown) := ⟨fun h => h.2, fun h => ⟨shw_1 a, h⟩⟩
theorem oRepr_3 {Q : D → Prop} {a b d : Bool} : oRepr [.lst [.bl a, .bl b, .bl d]] Q ↔ Q (.str (toPy (.lst [.bl a, .bl b, .bl d])).shown) := ⟨fun h => h.2, fun h => ⟨shw_3 a b d, h⟩⟩
end
end K02

namespace K02
open PySem L2 DL
section
variable {c : Wd} {A : Ad} {z : Z} {P : D → Z → Prop} {R : Er → Z → Prop}
theorem made_ok (T : Txt c A) (hz : 8 ≤ z.fu) (hp : ∀ z', Zd 8 z z' → P (.bl true) z') : sp_law_made_right c A [.pen] z P R := by
  show 1 = 1 ∧ t_law_made_right c A _ ⟨[.d .pen, .un, .un, .un, .un, .un], z⟩
  simp only [t_law_made_right, dSeq, dIte, dTB, dBin, dBinE, dUnE, dCalE, dPen, isPen, dC, dVar, dNil, dCons, dSet, dAsg, dRet, dNext, dAnd, dOr, dNot, dAndV, dOrV, dNotV, dBu, oLen, oInt, oAbs, oI, oAdd, oIx, dIx, gPen, gN, gC, gT, gZ, dLst, dTup, dPar, dSl, dNone, dPart, oSl, dCall, dIf, dDrop, fnN, inN, dAt, dSelfFld, dSelfSet, dOwn, dApp, dRaise, oNegA, oAbsA, oBoolA, oStrA, oIsN, oGcd, dFmt, dJs, dpt_one, oEq_ii, oEq_bb, oEq_ss, oNe_ii, oNe_ss, oEqA_ii, oEqA_bb, oEqA_ss, oEqA_in, oEqA_ri, oNeA_ii, oNeA_ss, oNeA_in, List.getElem?_cons_zero, List.getElem?_cons_succ, List.set_cons_zero, List.set_cons_succ, true_and, and_true, if_true, if_false, Bool.false_eq_true, List.length_cons, List.length_nil, Option.some.injEq, Int.reduceEq, ↓reduceIte, Nat.reduceAdd, Nat.reduceLeDiff, Nat.zero_le, decide_true, decide_false, Bool.not_true, Bool.not_false, D.bl.injEq, D.int.injEq, D.str.injEq, exists_eq_left', exists_eq_left, cq_law_draw_2, cq_law_pick_2, cq_law_size_1, cq_law_pair_1, cq_is_int_1, cq_Ratio_Ratio___init___2, cq_Ratio___eq___2, tq_eq_eq_Ratio, cq_Ratio___abs___1, tq_own_abs_Ratio, cq_law_divisor_2, cq_law_is_3, cq_Ratio_Ratio___init___0_bottom_top, cq_Ratio___neg___1, tq_own_neg_Ratio, cq_Ratio___bool___1, tq_own_bool_Ratio, cq_Ratio_Ratio___init___1, cq_Ratio___str___1, tq_own_str_Ratio, cq_law_made_right_1, cq_law_refused_right_1, isa_NoneType_BadRatio T, isa_bool_BadRatio T, isa_int_BadRatio T, isa_str_BadRatio T, isa_list_BadRatio T, isa_tuple_BadRatio T, isa_dict_BadRatio T, isa_c_Ratio_BadRatio T, isa_x_BadRatio_BadRatio T, isa_NoneType_Ratio T, isa_bool_Ratio T, isa_int_Ratio T, isa_str_Ratio T, isa_list_Ratio T, isa_tuple_Ratio T, isa_dict_Ratio T, isa_c_Ratio_Ratio T, isa_x_BadRatio_Ratio T, isa_NoneType_bool T, isa_bool_bool T, isa_int_bool T, isa_str_bool T, isa_list_bool T, isa_tuple_bool T, isa_dict_bool T, isa_c_Ratio_bool T, isa_x_BadRatio_bool T, isa_NoneType_int T, isa_bool_int T, isa_int_int T, isa_str_int T, isa_list_int T, isa_tuple_int T, isa_dict_int T, isa_c_Ratio_int T, isa_x_BadRatio_int T, T.em_BadRatio_CreditError, np_Ratio_NoneType T, np_Ratio_bool T, np_Ratio_int T, np_Ratio_str T, np_Ratio_list T, np_Ratio_tuple T, np_Ratio_dict T, np_Ratio_c_Ratio T, lk_Ratio_top, T.na_Ratio_top, lk_Ratio_bottom, T.na_Ratio_bottom, pd_Ratio_top, pd_Ratio_bottom, lx_BadRatio_part, T.xa_BadRatio_part]
  refine pair_ok T hz fun h l z1 sh l0 sl z1d => ?_
  replace hp := hp z1 z1d
  clear z1d hz
  have hl : l ≠ 0 := by omega
  have sl' : l.natAbs < 2 ^ 150 := by omega
  have sh' : h.natAbs < 2 ^ 150 := Nat.lt_trans sh (by decide)
  simp only [u_law_made_right_1, dSeq, dIte, dTB, dBin, dBinE, dUnE, dCalE, dPen, isPen, dC, dVar, dNil, dCons, dSet, dAsg, dRet, dNext, dAnd, dOr, dNot, dAndV, dOrV, dNotV, dBu, oLen, oInt, oAbs, oI, oAdd, oIx, dIx, gPen, gN, gC, gT, gZ, dLst, dTup, dPar, dSl, dNone, dPart, oSl, dCall, dIf, dDrop, fnN, inN, dAt, dSelfFld, dSelfSet, dOwn, dApp, dRaise, oNegA, oAbsA, oBoolA, oStrA, oIsN, oGcd, dFmt, dJs, dpt_one, oEq_ii, oEq_bb, oEq_ss, oNe_ii, oNe_ss, oEqA_ii, oEqA_bb, oEqA_ss, oEqA_in, oEqA_ri, oNeA_ii, oNeA_ss, oNeA_in, List.getElem?_cons_zero, List.getElem?_cons_succ, List.set_cons_zero, List.set_cons_succ, true_and, and_true, if_true, if_false, Bool.false_eq_true, List.length_cons, List.length_nil, Option.some.injEq, Int.reduceEq, ↓reduceIte, Nat.reduceAdd, Nat.reduceLeDiff, Nat.zero_le, decide_true, decide_false, Bool.not_true, Bool.not_false, D.bl.injEq, D.int.injEq, D.str.injEq, exists_eq_left', exists_eq_left, cq_law_draw_2, cq_law_pick_2, cq_law_size_1, cq_law_pair_1, cq_is_int_1, cq_Ratio_Ratio___init___2, cq_Ratio___eq___2, tq_eq_eq_Ratio, cq_Ratio___abs___1, tq_own_abs_Ratio, cq_law_divisor_2, cq_law_is_3, cq_Ratio_Ratio___init___0_bottom_top, cq_Ratio___neg___1, tq_own_neg_Ratio, cq_Ratio___bool___1, tq_own_bool_Ratio, cq_Ratio_Ratio___init___1, cq_Ratio___str___1, tq_own_str_Ratio, cq_law_made_right_1, cq_law_refused_right_1, isa_NoneType_BadRatio T, isa_bool_BadRatio T, isa_int_BadRatio T, isa_str_BadRatio T, isa_list_BadRatio T, isa_tuple_BadRatio T, isa_dict_BadRatio T, isa_c_Ratio_BadRatio T, isa_x_BadRatio_BadRatio T, isa_NoneType_Ratio T, isa_bool_Ratio T, isa_int_Ratio T, isa_str_Ratio T, isa_list_Ratio T, isa_tuple_Ratio T, isa_dict_Ratio T, isa_c_Ratio_Ratio T, isa_x_BadRatio_Ratio T, isa_NoneType_bool T, isa_bool_bool T, isa_int_bool T, isa_str_bool T, isa_list_bool T, isa_tuple_bool T, isa_dict_bool T, isa_c_Ratio_bool T, isa_x_BadRatio_bool T, isa_NoneType_int T, isa_bool_int T, isa_int_int T, isa_str_int T, isa_list_int T, isa_tuple_int T, isa_dict_int T, isa_c_Ratio_int T, isa_x_BadRatio_int T, T.em_BadRatio_CreditError, np_Ratio_NoneType T, np_Ratio_bool T, np_Ratio_int T, np_Ratio_str T, np_Ratio_list T, np_Ratio_tuple T, np_Ratio_dict T, np_Ratio_c_Ratio T, lk_Ratio_top, T.na_Ratio_top, lk_Ratio_bottom, T.na_Ratio_bottom, pd_Ratio_top, pd_Ratio_bottom, lx_BadRatio_part, T.xa_BadRatio_part]
  refine mk_ok T hl (Nat.lt_trans sl' (by decide)) ?_
  have hx := rT_lt (t := h) hl sh'
  have hy := rB_lt (t := h) hl sl'
  have y0 := rB_pos (t := h) hl
  have hc := r_cop (t := h) hl
  have hcr := r_cross h l
  generalize ex : rT h l = x at *
  generalize ey : rB h l = y at *
  have isx : ∀ {P : D → Z → Prop} {R : Er → Z → Prop}, P (.bl true) z1 → sp_law_is c A [o_Ratio A (.int x) (.int y), .int h, .int l] z1 P R := fun hp => by rw [← ex, ← ey]; exact is_mk T hl sh' sl' hp
  simp only [u_law_made_right_2, dSeq, dIte, dTB, dBin, dBinE, dUnE, dCalE, dPen, isPen, dC, dVar, dNil, dCons, dSet, dAsg, dRet, dNext, dAnd, dOr, dNot, dAndV, dOrV, dNotV, dBu, oLen, oInt, oAbs, oI, oAdd, oIx, dIx, gPen, gN, gC, gT, gZ, dLst, dTup, dPar, dSl, dNone, dPart, oSl, dCall, dIf, dDrop, fnN, inN, dAt, dSelfFld, dSelfSet, dOwn, dApp, dRaise, oNegA, oAbsA, oBoolA, oStrA, oIsN, oGcd, dFmt, dJs, dpt_one, oEq_ii, oEq_bb, oEq_ss, oNe_ii, oNe_ss, oEqA_ii, oEqA_bb, oEqA_ss, oEqA_in, oEqA_ri, oNeA_ii, oNeA_ss, oNeA_in, List.getElem?_cons_zero, List.getElem?_cons_succ, List.set_cons_zero, List.set_cons_succ, true_and, and_true, if_true, if_false, Bool.false_eq_true, List.length_cons, List.length_nil, Option.some.injEq, Int.reduceEq, ↓reduceIte, Nat.reduceAdd, Nat.reduceLeDiff, Nat.zero_le, decide_true, decide_false, Bool.not_true, Bool.not_false, D.bl.injEq, D.int.injEq, D.str.injEq, exists_eq_left', exists_eq_left, cq_law_draw_2, cq_law_pick_2, cq_law_size_1, cq_law_pair_1, cq_is_int_1, cq_Ratio_Ratio___init___2, cq_Ratio___eq___2, tq_eq_eq_Ratio, cq_Ratio___abs___1, tq_own_abs_Ratio, cq_law_divisor_2, cq_law_is_3, cq_Ratio_Ratio___init___0_bottom_top, cq_Ratio___neg___1, tq_own_neg_Ratio, cq_Ratio___bool___1, tq_own_bool_Ratio, cq_Ratio_Ratio___init___1, cq_Ratio___str___1, tq_own_str_Ratio, cq_law_made_right_1, cq_law_refused_right_1, isa_NoneType_BadRatio T, isa_bool_BadRatio T, isa_int_BadRatio T, isa_str_BadRatio T, isa_list_BadRatio T, isa_tuple_BadRatio T, isa_dict_BadRatio T, isa_c_Ratio_BadRatio T, isa_x_BadRatio_BadRatio T, isa_NoneType_Ratio T, isa_bool_Ratio T, isa_int_Ratio T, isa_str_Ratio T, isa_list_Ratio T, isa_tuple_Ratio T, isa_dict_Ratio T, isa_c_Ratio_Ratio T, isa_x_BadRatio_Ratio T, isa_NoneType_bool T, isa_bool_bool T, isa_int_bool T, isa_str_bool T, isa_list_bool T, isa_tuple_bool T, isa_dict_bool T, isa_c_Ratio_bool T, isa_x_BadRatio_bool T, isa_NoneType_int T, isa_bool_int T, isa_int_int T, isa_str_int T, isa_list_int T, isa_tuple_int T, isa_dict_int T, isa_c_Ratio_int T, isa_x_BadRatio_int T, T.em_BadRatio_CreditError, np_Ratio_NoneType T, np_Ratio_bool T, np_Ratio_int T, np_Ratio_str T, np_Ratio_list T, np_Ratio_tuple T, np_Ratio_dict T, np_Ratio_c_Ratio T, lk_Ratio_top, T.na_Ratio_top, lk_Ratio_bottom, T.na_Ratio_bottom, pd_Ratio_top, pd_Ratio_bottom, lx_BadRatio_part, T.xa_BadRatio_part]
  refine isx ?_
  simp only [dSeq, dIte, dTB, dBin, dBinE, dUnE, dCalE, dPen, isPen, dC, dVar, dNil, dCons, dSet, dAsg, dRet, dNext, dAnd, dOr, dNot, dAndV, dOrV, dNotV, dBu, oLen, oInt, oAbs, oI, oAdd, oIx, dIx, gPen, gN, gC, gT, gZ, dLst, dTup, dPar, dSl, dNone, dPart, oSl, dCall, dIf, dDrop, fnN, inN, dAt, dSelfFld, dSelfSet, dOwn, dApp, dRaise, oNegA, oAbsA, oBoolA, oStrA, oIsN, oGcd, dFmt, dJs, dpt_one, oEq_ii, oEq_bb, oEq_ss, oNe_ii, oNe_ss, oEqA_ii, oEqA_bb, oEqA_ss, oEqA_in, oEqA_ri, oNeA_ii, oNeA_ss, oNeA_in, List.getElem?_cons_zero, List.getElem?_cons_succ, List.set_cons_zero, List.set_cons_succ, true_and, and_true, if_true, if_false, Bool.false_eq_true, List.length_cons, List.length_nil, Option.some.injEq, Int.reduceEq, ↓reduceIte, Nat.reduceAdd, Nat.reduceLeDiff, Nat.zero_le, decide_true, decide_false, Bool.not_true, Bool.not_false, D.bl.injEq, D.int.injEq, D.str.injEq, exists_eq_left', exists_eq_left, cq_law_draw_2, cq_law_pick_2, cq_law_size_1, cq_law_pair_1, cq_is_int_1, cq_Ratio_Ratio___init___2, cq_Ratio___eq___2, tq_eq_eq_Ratio, cq_Ratio___abs___1, tq_own_abs_Ratio, cq_law_divisor_2, cq_law_is_3, cq_Ratio_Ratio___init___0_bottom_top, cq_Ratio___neg___1, tq_own_neg_Ratio, cq_Ratio___bool___1, tq_own_bool_Ratio, cq_Ratio_Ratio___init___1, cq_Ratio___str___1, tq_own_str_Ratio, cq_law_made_right_1, cq_law_refused_right_1, isa_NoneType_BadRatio T, isa_bool_BadRatio T, isa_int_BadRatio T, isa_str_BadRatio T, isa_list_BadRatio T, isa_tuple_BadRatio T, isa_dict_BadRatio T, isa_c_Ratio_BadRatio T, isa_x_BadRatio_BadRatio T, isa_NoneType_Ratio T, isa_bool_Ratio T, isa_int_Ratio T, isa_str_Ratio T, isa_list_Ratio T, isa_tuple_Ratio T, isa_dict_Ratio T, isa_c_Ratio_Ratio T, isa_x_BadRatio_Ratio T, isa_NoneType_bool T, isa_bool_bool T, isa_int_bool T, isa_str_bool T, isa_list_bool T, isa_tuple_bool T, isa_dict_bool T, isa_c_Ratio_bool T, isa_x_BadRatio_bool T, isa_NoneType_int T, isa_bool_int T, isa_int_int T, isa_str_int T, isa_list_int T, isa_tuple_int T, isa_dict_int T, isa_c_Ratio_int T, isa_x_BadRatio_int T, T.em_BadRatio_CreditError, np_Ratio_NoneType T, np_Ratio_bool T, np_Ratio_int T, np_Ratio_str T, np_Ratio_list T, np_Ratio_tuple T, np_Ratio_dict T, np_Ratio_c_Ratio T, lk_Ratio_top, T.na_Ratio_top, lk_Ratio_bottom, T.na_Ratio_bottom, pd_Ratio_top, pd_Ratio_bottom, lx_BadRatio_part, T.xa_BadRatio_part]
  have sm : rT (0 - h) (0 - l) = x ∧ rB (0 - h) (0 - l) = y := by
    rw [← ex, ← ey]
    exact r_same (by omega) hl (by simp [Int.neg_mul, Int.mul_neg])
  refine mk_ok T (by omega) (by omega) ?_
  rw [sm.1, sm.2]
  refine (eq_rr T).mpr ⟨true, by simp, ?_⟩
  simp only [dSeq, dIte, dTB, dBin, dBinE, dUnE, dCalE, dPen, isPen, dC, dVar, dNil, dCons, dSet, dAsg, dRet, dNext, dAnd, dOr, dNot, dAndV, dOrV, dNotV, dBu, oLen, oInt, oAbs, oI, oAdd, oIx, dIx, gPen, gN, gC, gT, gZ, dLst, dTup, dPar, dSl, dNone, dPart, oSl, dCall, dIf, dDrop, fnN, inN, dAt, dSelfFld, dSelfSet, dOwn, dApp, dRaise, oNegA, oAbsA, oBoolA, oStrA, oIsN, oGcd, dFmt, dJs, dpt_one, oEq_ii, oEq_bb, oEq_ss, oNe_ii, oNe_ss, oEqA_ii, oEqA_bb, oEqA_ss, oEqA_in, oEqA_ri, oNeA_ii, oNeA_ss, oNeA_in, List.getElem?_cons_zero, List.getElem?_cons_succ, List.set_cons_zero, List.set_cons_succ, true_and, and_true, if_true, if_false, Bool.false_eq_true, List.length_cons, List.length_nil, Option.some.injEq, Int.reduceEq, ↓reduceIte, Nat.reduceAdd, Nat.reduceLeDiff, Nat.zero_le, decide_true, decide_false, Bool.not_true, Bool.not_false, D.bl.injEq, D.int.injEq, D.str.injEq, exists_eq_left', exists_eq_left]
  refine mk_ok T hl (by omega) ?_
  rw [ex, ey]
  refine (eq_rr T).mpr ⟨true, by simp, ?_⟩
  simp only [dSeq, dIte, dTB, dBin, dBinE, dUnE, dCalE, dPen, isPen, dC, dVar, dNil, dCons, dSet, dAsg, dRet, dNext, dAnd, dOr, dNot, dAndV, dOrV, dNotV, dBu, oLen, oInt, oAbs, oI, oAdd, oIx, dIx, gPen, gN, gC, gT, gZ, dLst, dTup, dPar, dSl, dNone, dPart, oSl, dCall, dIf, dDrop, fnN, inN, dAt, dSelfFld, dSelfSet, dOwn, dApp, dRaise, oNegA, oAbsA, oBoolA, oStrA, oIsN, oGcd, dFmt, dJs, dpt_one, oEq_ii, oEq_bb, oEq_ss, oNe_ii, oNe_ss, oEqA_ii, oEqA_bb, oEqA_ss, oEqA_in, oEqA_ri, oNeA_ii, oNeA_ss, oNeA_in, List.getElem?_cons_zero, List.getElem?_cons_succ, List.set_cons_zero, List.set_cons_succ, true_and, and_true, if_true, if_false, Bool.false_eq_true, List.length_cons, List.length_nil, Option.some.injEq, Int.reduceEq, ↓reduceIte, Nat.reduceAdd, Nat.reduceLeDiff, Nat.zero_le, decide_true, decide_false, Bool.not_true, Bool.not_false, D.bl.injEq, D.int.injEq, D.str.injEq, exists_eq_left', exists_eq_left, u_law_made_right_3, cq_law_draw_2, cq_law_pick_2, cq_law_size_1, cq_law_pair_1, cq_is_int_1, cq_Ratio_Ratio___init___2, cq_Ratio___eq___2, tq_eq_eq_Ratio, cq_Ratio___abs___1, tq_own_abs_Ratio, cq_law_divisor_2, cq_law_is_3, cq_Ratio_Ratio___init___0_bottom_top, cq_Ratio___neg___1, tq_own_neg_Ratio, cq_Ratio___bool___1, tq_own_bool_Ratio, cq_Ratio_Ratio___init___1, cq_Ratio___str___1, tq_own_str_Ratio, cq_law_made_right_1, cq_law_refused_right_1, isa_NoneType_BadRatio T, isa_bool_BadRatio T, isa_int_BadRatio T, isa_str_BadRatio T, isa_list_BadRatio T, isa_tuple_BadRatio T, isa_dict_BadRatio T, isa_c_Ratio_BadRatio T, isa_x_BadRatio_BadRatio T, isa_NoneType_Ratio T, isa_bool_Ratio T, isa_int_Ratio T, isa_str_Ratio T, isa_list_Ratio T, isa_tuple_Ratio T, isa_dict_Ratio T, isa_c_Ratio_Ratio T, isa_x_BadRatio_Ratio T, isa_NoneType_bool T, isa_bool_bool T, isa_int_bool T, isa_str_bool T, isa_list_bool T, isa_tuple_bool T, isa_dict_bool T, isa_c_Ratio_bool T, isa_x_BadRatio_bool T, isa_NoneType_int T, isa_bool_int T, isa_int_int T, isa_str_int T, isa_list_int T, isa_tuple_int T, isa_dict_int T, isa_c_Ratio_int T, isa_x_BadRatio_int T, T.em_BadRatio_CreditError, np_Ratio_NoneType T, np_Ratio_bool T, np_Ratio_int T, np_Ratio_str T, np_Ratio_list T, np_Ratio_tuple T, np_Ratio_dict T, np_Ratio_c_Ratio T, lk_Ratio_top, T.na_Ratio_top, lk_Ratio_bottom, T.na_Ratio_bottom, pd_Ratio_top, pd_Ratio_bottom, lx_BadRatio_part, T.xa_BadRatio_part]
  -- minus
  have ng : rT (0 - x) y = 0 - x ∧ rB (0 - x) y = y := r_low y0 (by rw [show (0 - x).natAbs = x.natAbs by omega]; exact hc)
  refine neg_ok T (by omega) (by omega) ?_
  rw [ng.1, ng.2]
  refine is_yes T (by omega) (by omega) (by omega) (by omega) y0 (by rw [show (0 - x).natAbs = x.natAbs by omega]; exact hc) (by rw [Int.sub_mul, Int.sub_mul, hcr, Int.zero_mul, Int.zero_mul]) ?_
  simp only [dSeq, dIte, dTB, dBin, dBinE, dUnE, dCalE, dPen, isPen, dC, dVar, dNil, dCons, dSet, dAsg, dRet, dNext, dAnd, dOr, dNot, dAndV, dOrV, dNotV, dBu, oLen, oInt, oAbs, oI, oAdd, oIx, dIx, gPen, gN, gC, gT, gZ, dLst, dTup, dPar, dSl, dNone, dPart, oSl, dCall, dIf, dDrop, fnN, inN, dAt, dSelfFld, dSelfSet, dOwn, dApp, dRaise, oNegA, oAbsA, oBoolA, oStrA, oIsN, oGcd, dFmt, dJs, dpt_one, oEq_ii, oEq_bb, oEq_ss, oNe_ii, oNe_ss, oEqA_ii, oEqA_bb, oEqA_ss, oEqA_in, oEqA_ri, oNeA_ii, oNeA_ss, oNeA_in, List.getElem?_cons_zero, List.getElem?_cons_succ, List.set_cons_zero, List.set_cons_succ, true_and, and_true, if_true, if_false, Bool.false_eq_true, List.length_cons, List.length_nil, Option.some.injEq, Int.reduceEq, ↓reduceIte, Nat.reduceAdd, Nat.reduceLeDiff, Nat.zero_le, decide_true, decide_false, Bool.not_true, Bool.not_false, D.bl.injEq, D.int.injEq, D.str.injEq, exists_eq_left', exists_eq_left, cq_law_draw_2, cq_law_pick_2, cq_law_size_1, cq_law_pair_1, cq_is_int_1, cq_Ratio_Ratio___init___2, cq_Ratio___eq___2, tq_eq_eq_Ratio, cq_Ratio___abs___1, tq_own_abs_Ratio, cq_law_divisor_2, cq_law_is_3, cq_Ratio_Ratio___init___0_bottom_top, cq_Ratio___neg___1, tq_own_neg_Ratio, cq_Ratio___bool___1, tq_own_bool_Ratio, cq_Ratio_Ratio___init___1, cq_Ratio___str___1, tq_own_str_Ratio, cq_law_made_right_1, cq_law_refused_right_1, isa_NoneType_BadRatio T, isa_bool_BadRatio T, isa_int_BadRatio T, isa_str_BadRatio T, isa_list_BadRatio T, isa_tuple_BadRatio T, isa_dict_BadRatio T, isa_c_Ratio_BadRatio T, isa_x_BadRatio_BadRatio T, isa_NoneType_Ratio T, isa_bool_Ratio T, isa_int_Ratio T, isa_str_Ratio T, isa_list_Ratio T, isa_tuple_Ratio T, isa_dict_Ratio T, isa_c_Ratio_Ratio T, isa_x_BadRatio_Ratio T, isa_NoneType_bool T, isa_bool_bool T, isa_int_bool T, isa_str_bool T, isa_list_bool T, isa_tuple_bool T, isa_dict_bool T, isa_c_Ratio_bool T, isa_x_BadRatio_bool T, isa_NoneType_int T, isa_bool_int T, isa_int_int T, isa_str_int T, isa_list_int T, isa_tuple_int T, isa_dict_int T, isa_c_Ratio_int T, isa_x_BadRatio_int T, T.em_BadRatio_CreditError, np_Ratio_NoneType T, np_Ratio_bool T, np_Ratio_int T, np_Ratio_str T, np_Ratio_list T, np_Ratio_tuple T, np_Ratio_dict T, np_Ratio_c_Ratio T, lk_Ratio_top, T.na_Ratio_top, lk_Ratio_bottom, T.na_Ratio_bottom, pd_Ratio_top, pd_Ratio_bottom, lx_BadRatio_part, T.xa_BadRatio_part]
  -- abs
  have ax : (if x < 0 then -x else x) = (x.natAbs : Int) := by split <;> omega
  have ah : (if h < 0 then -h else h) = (h.natAbs : Int) := by split <;> omega
  have ab : rT (x.natAbs : Int) y = (x.natAbs : Int) ∧ rB (x.natAbs : Int) y = y := r_low y0 (by rw [Int.natAbs_natCast]; exact hc)
  refine abs_ok T (by omega) (by omega) ?_
  rw [ax, ab.1, ab.2, ah]
  have hca : (x.natAbs : Int) * l = (h.natAbs : Int) * y := by
    have e1 : ((x * l).natAbs : Int) = ((h * y).natAbs : Int) := by rw [hcr]
    rw [Int.natAbs_mul, Int.natAbs_mul, Int.natCast_mul, Int.natCast_mul] at e1
    rw [show (l.natAbs : Int) = l by omega, show (y.natAbs : Int) = y by omega] at e1
    exact e1
  refine is_yes T (by omega) (by omega) (by omega) (by omega) y0 (by rw [Int.natAbs_natCast]; exact hc) hca ?_
  simp only [dSeq, dIte, dTB, dBin, dBinE, dUnE, dCalE, dPen, isPen, dC, dVar, dNil, dCons, dSet, dAsg, dRet, dNext, dAnd, dOr, dNot, dAndV, dOrV, dNotV, dBu, oLen, oInt, oAbs, oI, oAdd, oIx, dIx, gPen, gN, gC, gT, gZ, dLst, dTup, dPar, dSl, dNone, dPart, oSl, dCall, dIf, dDrop, fnN, inN, dAt, dSelfFld, dSelfSet, dOwn, dApp, dRaise, oNegA, oAbsA, oBoolA, oStrA, oIsN, oGcd, dFmt, dJs, dpt_one, oEq_ii, oEq_bb, oEq_ss, oNe_ii, oNe_ss, oEqA_ii, oEqA_bb, oEqA_ss, oEqA_in, oEqA_ri, oNeA_ii, oNeA_ss, oNeA_in, List.getElem?_cons_zero, List.getElem?_cons_succ, List.set_cons_zero, List.set_cons_succ, true_and, and_true, if_true, if_false, Bool.false_eq_true, List.length_cons, List.length_nil, Option.some.injEq, Int.reduceEq, ↓reduceIte, Nat.reduceAdd, Nat.reduceLeDiff, Nat.zero_le, decide_true, decide_false, Bool.not_true, Bool.not_false, D.bl.injEq, D.int.injEq, D.str.injEq, exists_eq_left', exists_eq_left, cq_law_draw_2, cq_law_pick_2, cq_law_size_1, cq_law_pair_1, cq_is_int_1, cq_Ratio_Ratio___init___2, cq_Ratio___eq___2, tq_eq_eq_Ratio, cq_Ratio___abs___1, tq_own_abs_Ratio, cq_law_divisor_2, cq_law_is_3, cq_Ratio_Ratio___init___0_bottom_top, cq_Ratio___neg___1, tq_own_neg_Ratio, cq_Ratio___bool___1, tq_own_bool_Ratio, cq_Ratio_Ratio___init___1, cq_Ratio___str___1, tq_own_str_Ratio, cq_law_made_right_1, cq_law_refused_right_1, isa_NoneType_BadRatio T, isa_bool_BadRatio T, isa_int_BadRatio T, isa_str_BadRatio T, isa_list_BadRatio T, isa_tuple_BadRatio T, isa_dict_BadRatio T, isa_c_Ratio_BadRatio T, isa_x_BadRatio_BadRatio T, isa_NoneType_Ratio T, isa_bool_Ratio T, isa_int_Ratio T, isa_str_Ratio T, isa_list_Ratio T, isa_tuple_Ratio T, isa_dict_Ratio T, isa_c_Ratio_Ratio T, isa_x_BadRatio_Ratio T, isa_NoneType_bool T, isa_bool_bool T, isa_int_bool T, isa_str_bool T, isa_list_bool T, isa_tuple_bool T, isa_dict_bool T, isa_c_Ratio_bool T, isa_x_BadRatio_bool T, isa_NoneType_int T, isa_bool_int T, isa_int_int T, isa_str_int T, isa_list_int T, isa_tuple_int T, isa_dict_int T, isa_c_Ratio_int T, isa_x_BadRatio_int T, T.em_BadRatio_CreditError, np_Ratio_NoneType T, np_Ratio_bool T, np_Ratio_int T, np_Ratio_str T, np_Ratio_list T, np_Ratio_tuple T, np_Ratio_dict T, np_Ratio_c_Ratio T, lk_Ratio_top, T.na_Ratio_top, lk_Ratio_bottom, T.na_Ratio_bottom, pd_Ratio_top, pd_Ratio_bottom, lx_BadRatio_part, T.xa_BadRatio_part]
  refine isx ?_
  simp only [u_law_made_right_4, dSeq, dIte, dTB, dBin, dBinE, dUnE, dCalE, dPen, isPen, dC, dVar, dNil, dCons, dSet, dAsg, dRet, dNext, dAnd, dOr, dNot, dAndV, dOrV, dNotV, dBu, oLen, oInt, oAbs, oI, oAdd, oIx, dIx, gPen, gN, gC, gT, gZ, dLst, dTup, dPar, dSl, dNone, dPart, oSl, dCall, dIf, dDrop, fnN, inN, dAt, dSelfFld, dSelfSet, dOwn, dApp, dRaise, oNegA, oAbsA, oBoolA, oStrA, oIsN, oGcd, dFmt, dJs, dpt_one, oEq_ii, oEq_bb, oEq_ss, oNe_ii, oNe_ss, oEqA_ii, oEqA_bb, oEqA_ss, oEqA_in, oEqA_ri, oNeA_ii, oNeA_ss, oNeA_in, List.getElem?_cons_zero, List.getElem?_cons_succ, List.set_cons_zero, List.set_cons_succ, true_and, and_true, if_true, if_false, Bool.false_eq_true, List.length_cons, List.length_nil, Option.some.injEq, Int.reduceEq, ↓reduceIte, Nat.reduceAdd, Nat.reduceLeDiff, Nat.zero_le, decide_true, decide_false, Bool.not_true, Bool.not_false, D.bl.injEq, D.int.injEq, D.str.injEq, exists_eq_left', exists_eq_left, cq_law_draw_2, cq_law_pick_2, cq_law_size_1, cq_law_pair_1, cq_is_int_1, cq_Ratio_Ratio___init___2, cq_Ratio___eq___2, tq_eq_eq_Ratio, cq_Ratio___abs___1, tq_own_abs_Ratio, cq_law_divisor_2, cq_law_is_3, cq_Ratio_Ratio___init___0_bottom_top, cq_Ratio___neg___1, tq_own_neg_Ratio, cq_Ratio___bool___1, tq_own_bool_Ratio, cq_Ratio_Ratio___init___1, cq_Ratio___str___1, tq_own_str_Ratio, cq_law_made_right_1, cq_law_refused_right_1, isa_NoneType_BadRatio T, isa_bool_BadRatio T, isa_int_BadRatio T, isa_str_BadRatio T, isa_list_BadRatio T, isa_tuple_BadRatio T, isa_dict_BadRatio T, isa_c_Ratio_BadRatio T, isa_x_BadRatio_BadRatio T, isa_NoneType_Ratio T, isa_bool_Ratio T, isa_int_Ratio T, isa_str_Ratio T, isa_list_Ratio T, isa_tuple_Ratio T, isa_dict_Ratio T, isa_c_Ratio_Ratio T, isa_x_BadRatio_Ratio T, isa_NoneType_bool T, isa_bool_bool T, isa_int_bool T, isa_str_bool T, isa_list_bool T, isa_tuple_bool T, isa_dict_bool T, isa_c_Ratio_bool T, isa_x_BadRatio_bool T, isa_NoneType_int T, isa_bool_int T, isa_int_int T, isa_str_int T, isa_list_int T, isa_tuple_int T, isa_dict_int T, isa_c_Ratio_int T, isa_x_BadRatio_int T, T.em_BadRatio_CreditError, np_Ratio_NoneType T, np_Ratio_bool T, np_Ratio_int T, np_Ratio_str T, np_Ratio_list T, np_Ratio_tuple T, np_Ratio_dict T, np_Ratio_c_Ratio T, lk_Ratio_top, T.na_Ratio_top, lk_Ratio_bottom, T.na_Ratio_bottom, pd_Ratio_top, pd_Ratio_bottom, lx_BadRatio_part, T.xa_BadRatio_part]
  simp only [u_law_made_right_5, dSeq, dIte, dTB, dBin, dBinE, dUnE, dCalE, dPen, isPen, dC, dVar, dNil, dCons, dSet, dAsg, dRet, dNext, dAnd, dOr, dNot, dAndV, dOrV, dNotV, dBu, oLen, oInt, oAbs, oI, oAdd, oIx, dIx, gPen, gN, gC, gT, gZ, dLst, dTup, dPar, dSl, dNone, dPart, oSl, dCall, dIf, dDrop, fnN, inN, dAt, dSelfFld, dSelfSet, dOwn, dApp, dRaise, oNegA, oAbsA, oBoolA, oStrA, oIsN, oGcd, dFmt, dJs, dpt_one, oEq_ii, oEq_bb, oEq_ss, oNe_ii, oNe_ss, oEqA_ii, oEqA_bb, oEqA_ss, oEqA_in, oEqA_ri, oNeA_ii, oNeA_ss, oNeA_in, List.getElem?_cons_zero, List.getElem?_cons_succ, List.set_cons_zero, List.set_cons_succ, true_and, and_true, if_true, if_false, Bool.false_eq_true, List.length_cons, List.length_nil, Option.some.injEq, Int.reduceEq, ↓reduceIte, Nat.reduceAdd, Nat.reduceLeDiff, Nat.zero_le, decide_true, decide_false, Bool.not_true, Bool.not_false, D.bl.injEq, D.int.injEq, D.str.injEq, exists_eq_left', exists_eq_left, cq_law_draw_2, cq_law_pick_2, cq_law_size_1, cq_law_pair_1, cq_is_int_1, cq_Ratio_Ratio___init___2, cq_Ratio___eq___2, tq_eq_eq_Ratio, cq_Ratio___abs___1, tq_own_abs_Ratio, cq_law_divisor_2, cq_law_is_3, cq_Ratio_Ratio___init___0_bottom_top, cq_Ratio___neg___1, tq_own_neg_Ratio, cq_Ratio___bool___1, tq_own_bool_Ratio, cq_Ratio_Ratio___init___1, cq_Ratio___str___1, tq_own_str_Ratio, cq_law_made_right_1, cq_law_refused_right_1, isa_NoneType_BadRatio T, isa_bool_BadRatio T, isa_int_BadRatio T, isa_str_BadRatio T, isa_list_BadRatio T, isa_tuple_BadRatio T, isa_dict_BadRatio T, isa_c_Ratio_BadRatio T, isa_x_BadRatio_BadRatio T, isa_NoneType_Ratio T, isa_bool_Ratio T, isa_int_Ratio T, isa_str_Ratio T, isa_list_Ratio T, isa_tuple_Ratio T, isa_dict_Ratio T, isa_c_Ratio_Ratio T, isa_x_BadRatio_Ratio T, isa_NoneType_bool T, isa_bool_bool T, isa_int_bool T, isa_str_bool T, isa_list_bool T, isa_tuple_bool T, isa_dict_bool T, isa_c_Ratio_bool T, isa_x_BadRatio_bool T, isa_NoneType_int T, isa_bool_int T, isa_int_int T, isa_str_int T, isa_list_int T, isa_tuple_int T, isa_dict_int T, isa_c_Ratio_int T, isa_x_BadRatio_int T, T.em_BadRatio_CreditError, np_Ratio_NoneType T, np_Ratio_bool T, np_Ratio_int T, np_Ratio_str T, np_Ratio_list T, np_Ratio_tuple T, np_Ratio_dict T, np_Ratio_c_Ratio T, lk_Ratio_top, T.na_Ratio_top, lk_Ratio_bottom, T.na_Ratio_bottom, pd_Ratio_top, pd_Ratio_bottom, lx_BadRatio_part, T.xa_BadRatio_part]
  have ei : decide (y = 1 ∧ x = x) = decide (y = 1) := by simp
  refine (eq_ri T).mpr ((eq_ri T).mpr ((eq_ri T).mpr ⟨_, rfl, ?_⟩))
  rw [ei]
  refine oRepr_3.mpr (oRepr_3.mpr (oNe_ss.mpr ?_))
  simp only [beq_self_eq_true, dSeq, dIte, dTB, dBin, dBinE, dUnE, dCalE, dPen, isPen, dC, dVar, dNil, dCons, dSet, dAsg, dRet, dNext, dAnd, dOr, dNot, dAndV, dOrV, dNotV, dBu, oLen, oInt, oAbs, oI, oAdd, oIx, dIx, gPen, gN, gC, gT, gZ, dLst, dTup, dPar, dSl, dNone, dPart, oSl, dCall, dIf, dDrop, fnN, inN, dAt, dSelfFld, dSelfSet, dOwn, dApp, dRaise, oNegA, oAbsA, oBoolA, oStrA, oIsN, oGcd, dFmt, dJs, dpt_one, oEq_ii, oEq_bb, oEq_ss, oNe_ii, oNe_ss, oEqA_ii, oEqA_bb, oEqA_ss, oEqA_in, oEqA_ri, oNeA_ii, oNeA_ss, oNeA_in, List.getElem?_cons_zero, List.getElem?_cons_succ, List.set_cons_zero, List.set_cons_succ, true_and, and_true, if_true, if_false, Bool.false_eq_true, List.length_cons, List.length_nil, Option.some.injEq, Int.reduceEq, ↓reduceIte, Nat.reduceAdd, Nat.reduceLeDiff, Nat.zero_le, decide_true, decide_false, Bool.not_true, Bool.not_false, D.bl.injEq, D.int.injEq, D.str.injEq, exists_eq_left', exists_eq_left, u_law_made_right_6, cq_law_draw_2, cq_law_pick_2, cq_law_size_1, cq_law_pair_1, cq_is_int_1, cq_Ratio_Ratio___init___2, cq_Ratio___eq___2, tq_eq_eq_Ratio, cq_Ratio___abs___1, tq_own_abs_Ratio, cq_law_divisor_2, cq_law_is_3, cq_Ratio_Ratio___init___0_bottom_top, cq_Ratio___neg___1, tq_own_neg_Ratio, cq_Ratio___bool___1, tq_own_bool_Ratio, cq_Ratio_Ratio___init___1, cq_Ratio___str___1, tq_own_str_Ratio, cq_law_made_right_1, cq_law_refused_right_1, isa_NoneType_BadRatio T, isa_bool_BadRatio T, isa_int_BadRatio T, isa_str_BadRatio T, isa_list_BadRatio T, isa_tuple_BadRatio T, isa_dict_BadRatio T, isa_c_Ratio_BadRatio T, isa_x_BadRatio_BadRatio T, isa_NoneType_Ratio T, isa_bool_Ratio T, isa_int_Ratio T, isa_str_Ratio T, isa_list_Ratio T, isa_tuple_Ratio T, isa_dict_Ratio T, isa_c_Ratio_Ratio T, isa_x_BadRatio_Ratio T, isa_NoneType_bool T, isa_bool_bool T, isa_int_bool T, isa_str_bool T, isa_list_bool T, isa_tuple_bool T, isa_dict_bool T, isa_c_Ratio_bool T, isa_x_BadRatio_bool T, isa_NoneType_int T, isa_bool_int T, isa_int_int T, isa_str_int T, isa_list_int T, isa_tuple_int T, isa_dict_int T, isa_c_Ratio_int T, isa_x_BadRatio_int T, T.em_BadRatio_CreditError, np_Ratio_NoneType T, np_Ratio_bool T, np_Ratio_int T, np_Ratio_str T, np_Ratio_list T, np_Ratio_tuple T, np_Ratio_dict T, np_Ratio_c_Ratio T, lk_Ratio_top, T.na_Ratio_top, lk_Ratio_bottom, T.na_Ratio_bottom, pd_Ratio_top, pd_Ratio_bottom, lx_BadRatio_part, T.xa_BadRatio_part]
  -- bool
  have ez : (x != 0) = !decide (h = 0) := by
    have : x = 0 ↔ h = 0 := by
      constructor
      · intro e
        rw [e, Int.zero_mul] at hcr
        rcases Int.mul_eq_zero.mp hcr.symm with q | q
        · exact q
        · omega
      · intro e
        rw [e, Int.zero_mul] at hcr
        rcases Int.mul_eq_zero.mp hcr with q | q
        · exact q
        · omega
    by_cases e : h = 0
    · simp [e, this.mpr e]
    · have : x ≠ 0 := fun q => e (this.mp q)
      simp [e, this]
  refine (bool_ok T).mpr ⟨_, rfl, ?_⟩
  rw [ez]
  refine oRepr_1.mpr (oRepr_1.mpr (oNe_ss.mpr ?_))
  simp only [beq_self_eq_true, dSeq, dIte, dTB, dBin, dBinE, dUnE, dCalE, dPen, isPen, dC, dVar, dNil, dCons, dSet, dAsg, dRet, dNext, dAnd, dOr, dNot, dAndV, dOrV, dNotV, dBu, oLen, oInt, oAbs, oI, oAdd, oIx, dIx, gPen, gN, gC, gT, gZ, dLst, dTup, dPar, dSl, dNone, dPart, oSl, dCall, dIf, dDrop, fnN, inN, dAt, dSelfFld, dSelfSet, dOwn, dApp, dRaise, oNegA, oAbsA, oBoolA, oStrA, oIsN, oGcd, dFmt, dJs, dpt_one, oEq_ii, oEq_bb, oEq_ss, oNe_ii, oNe_ss, oEqA_ii, oEqA_bb, oEqA_ss, oEqA_in, oEqA_ri, oNeA_ii, oNeA_ss, oNeA_in, List.getElem?_cons_zero, List.getElem?_cons_succ, List.set_cons_zero, List.set_cons_succ, true_and, and_true, if_true, if_false, Bool.false_eq_true, List.length_cons, List.length_nil, Option.some.injEq, Int.reduceEq, ↓reduceIte, Nat.reduceAdd, Nat.reduceLeDiff, Nat.zero_le, decide_true, decide_false, Bool.not_true, Bool.not_false, D.bl.injEq, D.int.injEq, D.str.injEq, exists_eq_left', exists_eq_left, cq_law_draw_2, cq_law_pick_2, cq_law_size_1, cq_law_pair_1, cq_is_int_1, cq_Ratio_Ratio___init___2, cq_Ratio___eq___2, tq_eq_eq_Ratio, cq_Ratio___abs___1, tq_own_abs_Ratio, cq_law_divisor_2, cq_law_is_3, cq_Ratio_Ratio___init___0_bottom_top, cq_Ratio___neg___1, tq_own_neg_Ratio, cq_Ratio___bool___1, tq_own_bool_Ratio, cq_Ratio_Ratio___init___1, cq_Ratio___str___1, tq_own_str_Ratio, cq_law_made_right_1, cq_law_refused_right_1, isa_NoneType_BadRatio T, isa_bool_BadRatio T, isa_int_BadRatio T, isa_str_BadRatio T, isa_list_BadRatio T, isa_tuple_BadRatio T, isa_dict_BadRatio T, isa_c_Ratio_BadRatio T, isa_x_BadRatio_BadRatio T, isa_NoneType_Ratio T, isa_bool_Ratio T, isa_int_Ratio T, isa_str_Ratio T, isa_list_Ratio T, isa_tuple_Ratio T, isa_dict_Ratio T, isa_c_Ratio_Ratio T, isa_x_BadRatio_Ratio T, isa_NoneType_bool T, isa_bool_bool T, isa_int_bool T, isa_str_bool T, isa_list_bool T, isa_tuple_bool T, isa_dict_bool T, isa_c_Ratio_bool T, isa_x_BadRatio_bool T, isa_NoneType_int T, isa_bool_int T, isa_int_int T, isa_str_int T, isa_list_int T, isa_tuple_int T, isa_dict_int T, isa_c_Ratio_int T, isa_x_BadRatio_int T, T.em_BadRatio_CreditError, np_Ratio_NoneType T, np_Ratio_bool T, np_Ratio_int T, np_Ratio_str T, np_Ratio_list T, np_Ratio_tuple T, np_Ratio_dict T, np_Ratio_c_Ratio T, lk_Ratio_top, T.na_Ratio_top, lk_Ratio_bottom, T.na_Ratio_bottom, pd_Ratio_top, pd_Ratio_bottom, lx_BadRatio_part, T.xa_BadRatio_part]
  refine mk_ok T hl (by omega) ?_
  have df : ¬ (x = rT (h + 1) l ∧ y = rB (h + 1) l) := fun ⟨q1, q2⟩ => by
    have k := r_cross (h + 1) l
    rw [← q1, ← q2, hcr, Int.add_mul] at k
    omega
  refine (eq_rr T).mpr ?_
  simp only [df, dSeq, dIte, dTB, dBin, dBinE, dUnE, dCalE, dPen, isPen, dC, dVar, dNil, dCons, dSet, dAsg, dRet, dNext, dAnd, dOr, dNot, dAndV, dOrV, dNotV, dBu, oLen, oInt, oAbs, oI, oAdd, oIx, dIx, gPen, gN, gC, gT, gZ, dLst, dTup, dPar, dSl, dNone, dPart, oSl, dCall, dIf, dDrop, fnN, inN, dAt, dSelfFld, dSelfSet, dOwn, dApp, dRaise, oNegA, oAbsA, oBoolA, oStrA, oIsN, oGcd, dFmt, dJs, dpt_one, oEq_ii, oEq_bb, oEq_ss, oNe_ii, oNe_ss, oEqA_ii, oEqA_bb, oEqA_ss, oEqA_in, oEqA_ri, oNeA_ii, oNeA_ss, oNeA_in, List.getElem?_cons_zero, List.getElem?_cons_succ, List.set_cons_zero, List.set_cons_succ, true_and, and_true, if_true, if_false, Bool.false_eq_true, List.length_cons, List.length_nil, Option.some.injEq, Int.reduceEq, ↓reduceIte, Nat.reduceAdd, Nat.reduceLeDiff, Nat.zero_le, decide_true, decide_false, Bool.not_true, Bool.not_false, D.bl.injEq, D.int.injEq, D.str.injEq, exists_eq_left', exists_eq_left]
  have hr : rT h 1 = h ∧ rB h 1 = 1 := r_low (by decide) (by simp)
  refine mk_ok T (by decide) (by decide) ?_
  rw [hr.1, hr.2]
  refine (eq_ri T).mpr ⟨true, by simp, ?_⟩
  simp only [dSeq, dIte, dTB, dBin, dBinE, dUnE, dCalE, dPen, isPen, dC, dVar, dNil, dCons, dSet, dAsg, dRet, dNext, dAnd, dOr, dNot, dAndV, dOrV, dNotV, dBu, oLen, oInt, oAbs, oI, oAdd, oIx, dIx, gPen, gN, gC, gT, gZ, dLst, dTup, dPar, dSl, dNone, dPart, oSl, dCall, dIf, dDrop, fnN, inN, dAt, dSelfFld, dSelfSet, dOwn, dApp, dRaise, oNegA, oAbsA, oBoolA, oStrA, oIsN, oGcd, dFmt, dJs, dpt_one, oEq_ii, oEq_bb, oEq_ss, oNe_ii, oNe_ss, oEqA_ii, oEqA_bb, oEqA_ss, oEqA_in, oEqA_ri, oNeA_ii, oNeA_ss, oNeA_in, List.getElem?_cons_zero, List.getElem?_cons_succ, List.set_cons_zero, List.set_cons_succ, true_and, and_true, if_true, if_false, Bool.false_eq_true, List.length_cons, List.length_nil, Option.some.injEq, Int.reduceEq, ↓reduceIte, Nat.reduceAdd, Nat.reduceLeDiff, Nat.zero_le, decide_true, decide_false, Bool.not_true, Bool.not_false, D.bl.injEq, D.int.injEq, D.str.injEq, exists_eq_left', exists_eq_left, u_law_made_right_7, cq_law_draw_2, cq_law_pick_2, cq_law_size_1, cq_law_pair_1, cq_is_int_1, cq_Ratio_Ratio___init___2, cq_Ratio___eq___2, tq_eq_eq_Ratio, cq_Ratio___abs___1, tq_own_abs_Ratio, cq_law_divisor_2, cq_law_is_3, cq_Ratio_Ratio___init___0_bottom_top, cq_Ratio___neg___1, tq_own_neg_Ratio, cq_Ratio___bool___1, tq_own_bool_Ratio, cq_Ratio_Ratio___init___1, cq_Ratio___str___1, tq_own_str_Ratio, cq_law_made_right_1, cq_law_refused_right_1, isa_NoneType_BadRatio T, isa_bool_BadRatio T, isa_int_BadRatio T, isa_str_BadRatio T, isa_list_BadRatio T, isa_tuple_BadRatio T, isa_dict_BadRatio T, isa_c_Ratio_BadRatio T, isa_x_BadRatio_BadRatio T, isa_NoneType_Ratio T, isa_bool_Ratio T, isa_int_Ratio T, isa_str_Ratio T, isa_list_Ratio T, isa_tuple_Ratio T, isa_dict_Ratio T, isa_c_Ratio_Ratio T, isa_x_BadRatio_Ratio T, isa_NoneType_bool T, isa_bool_bool T, isa_int_bool T, isa_str_bool T, isa_list_bool T, isa_tuple_bool T, isa_dict_bool T, isa_c_Ratio_bool T, isa_x_BadRatio_bool T, isa_NoneType_int T, isa_bool_int T, isa_int_int T, isa_str_int T, isa_list_int T, isa_tuple_int T, isa_dict_int T, isa_c_Ratio_int T, isa_x_BadRatio_int T, T.em_BadRatio_CreditError, np_Ratio_NoneType T, np_Ratio_bool T, np_Ratio_int T, np_Ratio_str T, np_Ratio_list T, np_Ratio_tuple T, np_Ratio_dict T, np_Ratio_c_Ratio T, lk_Ratio_top, T.na_Ratio_top, lk_Ratio_bottom, T.na_Ratio_bottom, pd_Ratio_top, pd_Ratio_bottom, lx_BadRatio_part, T.xa_BadRatio_part]
  -- nothing else is equal
  simp only [dLC, dItL, dSeq, dIte, dTB, dBin, dBinE, dUnE, dCalE, dPen, isPen, dC, dVar, dNil, dCons, dSet, dAsg, dRet, dNext, dAnd, dOr, dNot, dAndV, dOrV, dNotV, dBu, oLen, oInt, oAbs, oI, oAdd, oIx, dIx, gPen, gN, gC, gT, gZ, dLst, dTup, dPar, dSl, dNone, dPart, oSl, dCall, dIf, dDrop, fnN, inN, dAt, dSelfFld, dSelfSet, dOwn, dApp, dRaise, oNegA, oAbsA, oBoolA, oStrA, oIsN, oGcd, dFmt, dJs, dpt_one, oEq_ii, oEq_bb, oEq_ss, oNe_ii, oNe_ss, oEqA_ii, oEqA_bb, oEqA_ss, oEqA_in, oEqA_ri, oNeA_ii, oNeA_ss, oNeA_in, List.getElem?_cons_zero, List.getElem?_cons_succ, List.set_cons_zero, List.set_cons_succ, true_and, and_true, if_true, if_false, Bool.false_eq_true, List.length_cons, List.length_nil, Option.some.injEq, Int.reduceEq, ↓reduceIte, Nat.reduceAdd, Nat.reduceLeDiff, Nat.zero_le, decide_true, decide_false, Bool.not_true, Bool.not_false, D.bl.injEq, D.int.injEq, D.str.injEq, exists_eq_left', exists_eq_left, cq_law_draw_2, cq_law_pick_2, cq_law_size_1, cq_law_pair_1, cq_is_int_1, cq_Ratio_Ratio___init___2, cq_Ratio___eq___2, tq_eq_eq_Ratio, cq_Ratio___abs___1, tq_own_abs_Ratio, cq_law_divisor_2, cq_law_is_3, cq_Ratio_Ratio___init___0_bottom_top, cq_Ratio___neg___1, tq_own_neg_Ratio, cq_Ratio___bool___1, tq_own_bool_Ratio, cq_Ratio_Ratio___init___1, cq_Ratio___str___1, tq_own_str_Ratio, cq_law_made_right_1, cq_law_refused_right_1, isa_NoneType_BadRatio T, isa_bool_BadRatio T, isa_int_BadRatio T, isa_str_BadRatio T, isa_list_BadRatio T, isa_tuple_BadRatio T, isa_dict_BadRatio T, isa_c_Ratio_BadRatio T, isa_x_BadRatio_BadRatio T, isa_NoneType_Ratio T, isa_bool_Ratio T, isa_int_Ratio T, isa_str_Ratio T, isa_list_Ratio T, isa_tuple_Ratio T, isa_dict_Ratio T, isa_c_Ratio_Ratio T, isa_x_BadRatio_Ratio T, isa_NoneType_bool T, isa_bool_bool T, isa_int_bool T, isa_str_bool T, isa_list_bool T, isa_tuple_bool T, isa_dict_bool T, isa_c_Ratio_bool T, isa_x_BadRatio_bool T, isa_NoneType_int T, isa_bool_int T, isa_int_int T, isa_str_int T, isa_list_int T, isa_tuple_int T, isa_dict_int T, isa_c_Ratio_int T, isa_x_BadRatio_int T, T.em_BadRatio_CreditError, np_Ratio_NoneType T, np_Ratio_bool T, np_Ratio_int T, np_Ratio_str T, np_Ratio_list T, np_Ratio_tuple T, np_Ratio_dict T, np_Ratio_c_Ratio T, lk_Ratio_top, T.na_Ratio_top, lk_Ratio_bottom, T.na_Ratio_bottom, pd_Ratio_top, pd_Ratio_bottom, lx_BadRatio_part, T.xa_BadRatio_part]
  refine str_ok (x := x) (y := y) T (by omega) (by omega) ?_
  intro st
  refine ⟨_, rfl, ?_⟩
  have cl : cleanSl [5] 0 [Sl.d .pen, Sl.d (.int h), Sl.d (.int l), Sl.d (.ins A.c_Ratio [(("top" : Str), .int x), (("bottom" : Str), .int y)]), Sl.d (.bl (decide (y = 1))), Sl.un] = [Sl.d .pen, Sl.d (.int h), Sl.d (.int l), Sl.d (.ins A.c_Ratio [(("top" : Str), .int x), (("bottom" : Str), .int y)]), Sl.d (.bl (decide (y = 1))), Sl.un] := rfl
  rw [cl]
  simp only [dCol, dSeq, dIte, dTB, dBin, dBinE, dUnE, dCalE, dPen, isPen, dC, dVar, dNil, dCons, dSet, dAsg, dRet, dNext, dAnd, dOr, dNot, dAndV, dOrV, dNotV, dBu, oLen, oInt, oAbs, oI, oAdd, oIx, dIx, gPen, gN, gC, gT, gZ, dLst, dTup, dPar, dSl, dNone, dPart, oSl, dCall, dIf, dDrop, fnN, inN, dAt, dSelfFld, dSelfSet, dOwn, dApp, dRaise, oNegA, oAbsA, oBoolA, oStrA, oIsN, oGcd, dFmt, dJs, dpt_one, oEq_ii, oEq_bb, oEq_ss, oNe_ii, oNe_ss, oEqA_ii, oEqA_bb, oEqA_ss, oEqA_in, oEqA_ri, oNeA_ii, oNeA_ss, oNeA_in, List.getElem?_cons_zero, List.getElem?_cons_succ, List.set_cons_zero, List.set_cons_succ, true_and, and_true, if_true, if_false, Bool.false_eq_true, List.length_cons, List.length_nil, Option.some.injEq, Int.reduceEq, ↓reduceIte, Nat.reduceAdd, Nat.reduceLeDiff, Nat.zero_le, decide_true, decide_false, Bool.not_true, Bool.not_false, D.bl.injEq, D.int.injEq, D.str.injEq, exists_eq_left', exists_eq_left, cq_law_draw_2, cq_law_pick_2, cq_law_size_1, cq_law_pair_1, cq_is_int_1, cq_Ratio_Ratio___init___2, cq_Ratio___eq___2, tq_eq_eq_Ratio, cq_Ratio___abs___1, tq_own_abs_Ratio, cq_law_divisor_2, cq_law_is_3, cq_Ratio_Ratio___init___0_bottom_top, cq_Ratio___neg___1, tq_own_neg_Ratio, cq_Ratio___bool___1, tq_own_bool_Ratio, cq_Ratio_Ratio___init___1, cq_Ratio___str___1, tq_own_str_Ratio, cq_law_made_right_1, cq_law_refused_right_1, isa_NoneType_BadRatio T, isa_bool_BadRatio T, isa_int_BadRatio T, isa_str_BadRatio T, isa_list_BadRatio T, isa_tuple_BadRatio T, isa_dict_BadRatio T, isa_c_Ratio_BadRatio T, isa_x_BadRatio_BadRatio T, isa_NoneType_Ratio T, isa_bool_Ratio T, isa_int_Ratio T, isa_str_Ratio T, isa_list_Ratio T, isa_tuple_Ratio T, isa_dict_Ratio T, isa_c_Ratio_Ratio T, isa_x_BadRatio_Ratio T, isa_NoneType_bool T, isa_bool_bool T, isa_int_bool T, isa_str_bool T, isa_list_bool T, isa_tuple_bool T, isa_dict_bool T, isa_c_Ratio_bool T, isa_x_BadRatio_bool T, isa_NoneType_int T, isa_bool_int T, isa_int_int T, isa_str_int T, isa_list_int T, isa_tuple_int T, isa_dict_int T, isa_c_Ratio_int T, isa_x_BadRatio_int T, T.em_BadRatio_CreditError, np_Ratio_NoneType T, np_Ratio_bool T, np_Ratio_int T, np_Ratio_str T, np_Ratio_list T, np_Ratio_tuple T, np_Ratio_dict T, np_Ratio_c_Ratio T, lk_Ratio_top, T.na_Ratio_top, lk_Ratio_bottom, T.na_Ratio_bottom, pd_Ratio_top, pd_Ratio_bottom, lx_BadRatio_part, T.xa_BadRatio_part]
  refine (eq_rn T).mpr ?_
  simp only [dSeq, dIte, dTB, dBin, dBinE, dUnE, dCalE, dPen, isPen, dC, dVar, dNil, dCons, dSet, dAsg, dRet, dNext, dAnd, dOr, dNot, dAndV, dOrV, dNotV, dBu, oLen, oInt, oAbs, oI, oAdd, oIx, dIx, gPen, gN, gC, gT, gZ, dLst, dTup, dPar, dSl, dNone, dPart, oSl, dCall, dIf, dDrop, fnN, inN, dAt, dSelfFld, dSelfSet, dOwn, dApp, dRaise, oNegA, oAbsA, oBoolA, oStrA, oIsN, oGcd, dFmt, dJs, dpt_one, oEq_ii, oEq_bb, oEq_ss, oNe_ii, oNe_ss, oEqA_ii, oEqA_bb, oEqA_ss, oEqA_in, oEqA_ri, oNeA_ii, oNeA_ss, oNeA_in, List.getElem?_cons_zero, List.getElem?_cons_succ, List.set_cons_zero, List.set_cons_succ, true_and, and_true, if_true, if_false, Bool.false_eq_true, List.length_cons, List.length_nil, Option.some.injEq, Int.reduceEq, ↓reduceIte, Nat.reduceAdd, Nat.reduceLeDiff, Nat.zero_le, decide_true, decide_false, Bool.not_true, Bool.not_false, D.bl.injEq, D.int.injEq, D.str.injEq, exists_eq_left', exists_eq_left, cq_law_draw_2, cq_law_pick_2, cq_law_size_1, cq_law_pair_1, cq_is_int_1, cq_Ratio_Ratio___init___2, cq_Ratio___eq___2, tq_eq_eq_Ratio, cq_Ratio___abs___1, tq_own_abs_Ratio, cq_law_divisor_2, cq_law_is_3, cq_Ratio_Ratio___init___0_bottom_top, cq_Ratio___neg___1, tq_own_neg_Ratio, cq_Ratio___bool___1, tq_own_bool_Ratio, cq_Ratio_Ratio___init___1, cq_Ratio___str___1, tq_own_str_Ratio, cq_law_made_right_1, cq_law_refused_right_1, isa_NoneType_BadRatio T, isa_bool_BadRatio T, isa_int_BadRatio T, isa_str_BadRatio T, isa_list_BadRatio T, isa_tuple_BadRatio T, isa_dict_BadRatio T, isa_c_Ratio_BadRatio T, isa_x_BadRatio_BadRatio T, isa_NoneType_Ratio T, isa_bool_Ratio T, isa_int_Ratio T, isa_str_Ratio T, isa_list_Ratio T, isa_tuple_Ratio T, isa_dict_Ratio T, isa_c_Ratio_Ratio T, isa_x_BadRatio_Ratio T, isa_NoneType_bool T, isa_bool_bool T, isa_int_bool T, isa_str_bool T, isa_list_bool T, isa_tuple_bool T, isa_dict_bool T, isa_c_Ratio_bool T, isa_x_BadRatio_bool T, isa_NoneType_int T, isa_bool_int T, isa_int_int T, isa_str_int T, isa_list_int T, isa_tuple_int T, isa_dict_int T, isa_c_Ratio_int T, isa_x_BadRatio_int T, T.em_BadRatio_CreditError, np_Ratio_NoneType T, np_Ratio_bool T, np_Ratio_int T, np_Ratio_str T, np_Ratio_list T, np_Ratio_tuple T, np_Ratio_dict T, np_Ratio_c_Ratio T, lk_Ratio_top, T.na_Ratio_top, lk_Ratio_bottom, T.na_Ratio_bottom, pd_Ratio_top, pd_Ratio_bottom, lx_BadRatio_part, T.xa_BadRatio_part]
  refine (eq_rs T).mpr ?_
  simp only [dSeq, dIte, dTB, dBin, dBinE, dUnE, dCalE, dPen, isPen, dC, dVar, dNil, dCons, dSet, dAsg, dRet, dNext, dAnd, dOr, dNot, dAndV, dOrV, dNotV, dBu, oLen, oInt, oAbs, oI, oAdd, oIx, dIx, gPen, gN, gC, gT, gZ, dLst, dTup, dPar, dSl, dNone, dPart, oSl, dCall, dIf, dDrop, fnN, inN, dAt, dSelfFld, dSelfSet, dOwn, dApp, dRaise, oNegA, oAbsA, oBoolA, oStrA, oIsN, oGcd, dFmt, dJs, dpt_one, oEq_ii, oEq_bb, oEq_ss, oNe_ii, oNe_ss, oEqA_ii, oEqA_bb, oEqA_ss, oEqA_in, oEqA_ri, oNeA_ii, oNeA_ss, oNeA_in, List.getElem?_cons_zero, List.getElem?_cons_succ, List.set_cons_zero, List.set_cons_succ, true_and, and_true, if_true, if_false, Bool.false_eq_true, List.length_cons, List.length_nil, Option.some.injEq, Int.reduceEq, ↓reduceIte, Nat.reduceAdd, Nat.reduceLeDiff, Nat.zero_le, decide_true, decide_false, Bool.not_true, Bool.not_false, D.bl.injEq, D.int.injEq, D.str.injEq, exists_eq_left', exists_eq_left, cq_law_draw_2, cq_law_pick_2, cq_law_size_1, cq_law_pair_1, cq_is_int_1, cq_Ratio_Ratio___init___2, cq_Ratio___eq___2, tq_eq_eq_Ratio, cq_Ratio___abs___1, tq_own_abs_Ratio, cq_law_divisor_2, cq_law_is_3, cq_Ratio_Ratio___init___0_bottom_top, cq_Ratio___neg___1, tq_own_neg_Ratio, cq_Ratio___bool___1, tq_own_bool_Ratio, cq_Ratio_Ratio___init___1, cq_Ratio___str___1, tq_own_str_Ratio, cq_law_made_right_1, cq_law_refused_right_1, isa_NoneType_BadRatio T, isa_bool_BadRatio T, isa_int_BadRatio T, isa_str_BadRatio T, isa_list_BadRatio T, isa_tuple_BadRatio T, isa_dict_BadRatio T, isa_c_Ratio_BadRatio T, isa_x_BadRatio_BadRatio T, isa_NoneType_Ratio T, isa_bool_Ratio T, isa_int_Ratio T, isa_str_Ratio T, isa_list_Ratio T, isa_tuple_Ratio T, isa_dict_Ratio T, isa_c_Ratio_Ratio T, isa_x_BadRatio_Ratio T, isa_NoneType_bool T, isa_bool_bool T, isa_int_bool T, isa_str_bool T, isa_list_bool T, isa_tuple_bool T, isa_dict_bool T, isa_c_Ratio_bool T, isa_x_BadRatio_bool T, isa_NoneType_int T, isa_bool_int T, isa_int_int T, isa_str_int T, isa_list_int T, isa_tuple_int T, isa_dict_int T, isa_c_Ratio_int T, isa_x_BadRatio_int T, T.em_BadRatio_CreditError, np_Ratio_NoneType T, np_Ratio_bool T, np_Ratio_int T, np_Ratio_str T, np_Ratio_list T, np_Ratio_tuple T, np_Ratio_dict T, np_Ratio_c_Ratio T, lk_Ratio_top, T.na_Ratio_top, lk_Ratio_bottom, T.na_Ratio_bottom, pd_Ratio_top, pd_Ratio_bottom, lx_BadRatio_part, T.xa_BadRatio_part]
  refine (eq_rt T).mpr ?_
  simp only [dSeq, dIte, dTB, dBin, dBinE, dUnE, dCalE, dPen, isPen, dC, dVar, dNil, dCons, dSet, dAsg, dRet, dNext, dAnd, dOr, dNot, dAndV, dOrV, dNotV, dBu, oLen, oInt, oAbs, oI, oAdd, oIx, dIx, gPen, gN, gC, gT, gZ, dLst, dTup, dPar, dSl, dNone, dPart, oSl, dCall, dIf, dDrop, fnN, inN, dAt, dSelfFld, dSelfSet, dOwn, dApp, dRaise, oNegA, oAbsA, oBoolA, oStrA, oIsN, oGcd, dFmt, dJs, dpt_one, oEq_ii, oEq_bb, oEq_ss, oNe_ii, oNe_ss, oEqA_ii, oEqA_bb, oEqA_ss, oEqA_in, oEqA_ri, oNeA_ii, oNeA_ss, oNeA_in, List.getElem?_cons_zero, List.getElem?_cons_succ, List.set_cons_zero, List.set_cons_succ, true_and, and_true, if_true, if_false, Bool.false_eq_true, List.length_cons, List.length_nil, Option.some.injEq, Int.reduceEq, ↓reduceIte, Nat.reduceAdd, Nat.reduceLeDiff, Nat.zero_le, decide_true, decide_false, Bool.not_true, Bool.not_false, D.bl.injEq, D.int.injEq, D.str.injEq, exists_eq_left', exists_eq_left, cq_law_draw_2, cq_law_pick_2, cq_law_size_1, cq_law_pair_1, cq_is_int_1, cq_Ratio_Ratio___init___2, cq_Ratio___eq___2, tq_eq_eq_Ratio, cq_Ratio___abs___1, tq_own_abs_Ratio, cq_law_divisor_2, cq_law_is_3, cq_Ratio_Ratio___init___0_bottom_top, cq_Ratio___neg___1, tq_own_neg_Ratio, cq_Ratio___bool___1, tq_own_bool_Ratio, cq_Ratio_Ratio___init___1, cq_Ratio___str___1, tq_own_str_Ratio, cq_law_made_right_1, cq_law_refused_right_1, isa_NoneType_BadRatio T, isa_bool_BadRatio T, isa_int_BadRatio T, isa_str_BadRatio T, isa_list_BadRatio T, isa_tuple_BadRatio T, isa_dict_BadRatio T, isa_c_Ratio_BadRatio T, isa_x_BadRatio_BadRatio T, isa_NoneType_Ratio T, isa_bool_Ratio T, isa_int_Ratio T, isa_str_Ratio T, isa_list_Ratio T, isa_tuple_Ratio T, isa_dict_Ratio T, isa_c_Ratio_Ratio T, isa_x_BadRatio_Ratio T, isa_NoneType_bool T, isa_bool_bool T, isa_int_bool T, isa_str_bool T, isa_list_bool T, isa_tuple_bool T, isa_dict_bool T, isa_c_Ratio_bool T, isa_x_BadRatio_bool T, isa_NoneType_int T, isa_bool_int T, isa_int_int T, isa_str_int T, isa_list_int T, isa_tuple_int T, isa_dict_int T, isa_c_Ratio_int T, isa_x_BadRatio_int T, T.em_BadRatio_CreditError, np_Ratio_NoneType T, np_Ratio_bool T, np_Ratio_int T, np_Ratio_str T, np_Ratio_list T, np_Ratio_tuple T, np_Ratio_dict T, np_Ratio_c_Ratio T, lk_Ratio_top, T.na_Ratio_top, lk_Ratio_bottom, T.na_Ratio_bottom, pd_Ratio_top, pd_Ratio_bottom, lx_BadRatio_part, T.xa_BadRatio_part]
  refine (eq_rb T).mpr ?_
  simp only [dSeq, dIte, dTB, dBin, dBinE, dUnE, dCalE, dPen, isPen, dC, dVar, dNil, dCons, dSet, dAsg, dRet, dNext, dAnd, dOr, dNot, dAndV, dOrV, dNotV, dBu, oLen, oInt, oAbs, oI, oAdd, oIx, dIx, gPen, gN, gC, gT, gZ, dLst, dTup, dPar, dSl, dNone, dPart, oSl, dCall, dIf, dDrop, fnN, inN, dAt, dSelfFld, dSelfSet, dOwn, dApp, dRaise, oNegA, oAbsA, oBoolA, oStrA, oIsN, oGcd, dFmt, dJs, dpt_one, oEq_ii, oEq_bb, oEq_ss, oNe_ii, oNe_ss, oEqA_ii, oEqA_bb, oEqA_ss, oEqA_in, oEqA_ri, oNeA_ii, oNeA_ss, oNeA_in, List.getElem?_cons_zero, List.getElem?_cons_succ, List.set_cons_zero, List.set_cons_succ, true_and, and_true, if_true, if_false, Bool.false_eq_true, List.length_cons, List.length_nil, Option.some.injEq, Int.reduceEq, ↓reduceIte, Nat.reduceAdd, Nat.reduceLeDiff, Nat.zero_le, decide_true, decide_false, Bool.not_true, Bool.not_false, D.bl.injEq, D.int.injEq, D.str.injEq, exists_eq_left', exists_eq_left, cq_law_draw_2, cq_law_pick_2, cq_law_size_1, cq_law_pair_1, cq_is_int_1, cq_Ratio_Ratio___init___2, cq_Ratio___eq___2, tq_eq_eq_Ratio, cq_Ratio___abs___1, tq_own_abs_Ratio, cq_law_divisor_2, cq_law_is_3, cq_Ratio_Ratio___init___0_bottom_top, cq_Ratio___neg___1, tq_own_neg_Ratio, cq_Ratio___bool___1, tq_own_bool_Ratio, cq_Ratio_Ratio___init___1, cq_Ratio___str___1, tq_own_str_Ratio, cq_law_made_right_1, cq_law_refused_right_1, isa_NoneType_BadRatio T, isa_bool_BadRatio T, isa_int_BadRatio T, isa_str_BadRatio T, isa_list_BadRatio T, isa_tuple_BadRatio T, isa_dict_BadRatio T, isa_c_Ratio_BadRatio T, isa_x_BadRatio_BadRatio T, isa_NoneType_Ratio T, isa_bool_Ratio T, isa_int_Ratio T, isa_str_Ratio T, isa_list_Ratio T, isa_tuple_Ratio T, isa_dict_Ratio T, isa_c_Ratio_Ratio T, isa_x_BadRatio_Ratio T, isa_NoneType_bool T, isa_bool_bool T, isa_int_bool T, isa_str_bool T, isa_list_bool T, isa_tuple_bool T, isa_dict_bool T, isa_c_Ratio_bool T, isa_x_BadRatio_bool T, isa_NoneType_int T, isa_bool_int T, isa_int_int T, isa_str_int T, isa_list_int T, isa_tuple_int T, isa_dict_int T, isa_c_Ratio_int T, isa_x_BadRatio_int T, T.em_BadRatio_CreditError, np_Ratio_NoneType T, np_Ratio_bool T, np_Ratio_int T, np_Ratio_str T, np_Ratio_list T, np_Ratio_tuple T, np_Ratio_dict T, np_Ratio_c_Ratio T, lk_Ratio_top, T.na_Ratio_top, lk_Ratio_bottom, T.na_Ratio_bottom, pd_Ratio_top, pd_Ratio_bottom, lx_BadRatio_part, T.xa_BadRatio_part]
  refine (eq_rb T).mpr ?_
  simp only [dSeq, dIte, dTB, dBin, dBinE, dUnE, dCalE, dPen, isPen, dC, dVar, dNil, dCons, dSet, dAsg, dRet, dNext, dAnd, dOr, dNot, dAndV, dOrV, dNotV, dBu, oLen, oInt, oAbs, oI, oAdd, oIx, dIx, gPen, gN, gC, gT, gZ, dLst, dTup, dPar, dSl, dNone, dPart, oSl, dCall, dIf, dDrop, fnN, inN, dAt, dSelfFld, dSelfSet, dOwn, dApp, dRaise, oNegA, oAbsA, oBoolA, oStrA, oIsN, oGcd, dFmt, dJs, dpt_one, oEq_ii, oEq_bb, oEq_ss, oNe_ii, oNe_ss, oEqA_ii, oEqA_bb, oEqA_ss, oEqA_in, oEqA_ri, oNeA_ii, oNeA_ss, oNeA_in, List.getElem?_cons_zero, List.getElem?_cons_succ, List.set_cons_zero, List.set_cons_succ, true_and, and_true, if_true, if_false, Bool.false_eq_true, List.length_cons, List.length_nil, Option.some.injEq, Int.reduceEq, ↓reduceIte, Nat.reduceAdd, Nat.reduceLeDiff, Nat.zero_le, decide_true, decide_false, Bool.not_true, Bool.not_false, D.bl.injEq, D.int.injEq, D.str.injEq, exists_eq_left', exists_eq_left, cq_law_draw_2, cq_law_pick_2, cq_law_size_1, cq_law_pair_1, cq_is_int_1, cq_Ratio_Ratio___init___2, cq_Ratio___eq___2, tq_eq_eq_Ratio, cq_Ratio___abs___1, tq_own_abs_Ratio, cq_law_divisor_2, cq_law_is_3, cq_Ratio_Ratio___init___0_bottom_top, cq_Ratio___neg___1, tq_own_neg_Ratio, cq_Ratio___bool___1, tq_own_bool_Ratio, cq_Ratio_Ratio___init___1, cq_Ratio___str___1, tq_own_str_Ratio, cq_law_made_right_1, cq_law_refused_right_1, isa_NoneType_BadRatio T, isa_bool_BadRatio T, isa_int_BadRatio T, isa_str_BadRatio T, isa_list_BadRatio T, isa_tuple_BadRatio T, isa_dict_BadRatio T, isa_c_Ratio_BadRatio T, isa_x_BadRatio_BadRatio T, isa_NoneType_Ratio T, isa_bool_Ratio T, isa_int_Ratio T, isa_str_Ratio T, isa_list_Ratio T, isa_tuple_Ratio T, isa_dict_Ratio T, isa_c_Ratio_Ratio T, isa_x_BadRatio_Ratio T, isa_NoneType_bool T, isa_bool_bool T, isa_int_bool T, isa_str_bool T, isa_list_bool T, isa_tuple_bool T, isa_dict_bool T, isa_c_Ratio_bool T, isa_x_BadRatio_bool T, isa_NoneType_int T, isa_bool_int T, isa_int_int T, isa_str_int T, isa_list_int T, isa_tuple_int T, isa_dict_int T, isa_c_Ratio_int T, isa_x_BadRatio_int T, T.em_BadRatio_CreditError, np_Ratio_NoneType T, np_Ratio_bool T, np_Ratio_int T, np_Ratio_str T, np_Ratio_list T, np_Ratio_tuple T, np_Ratio_dict T, np_Ratio_c_Ratio T, lk_Ratio_top, T.na_Ratio_top, lk_Ratio_bottom, T.na_Ratio_bottom, pd_Ratio_top, pd_Ratio_bottom, lx_BadRatio_part, T.xa_BadRatio_part]
  refine (eq_rl T).mpr ?_
  simp only [dSeq, dIte, dTB, dBin, dBinE, dUnE, dCalE, dPen, isPen, dC, dVar, dNil, dCons, dSet, dAsg, dRet, dNext, dAnd, dOr, dNot, dAndV, dOrV, dNotV, dBu, oLen, oInt, oAbs, oI, oAdd, oIx, dIx, gPen, gN, gC, gT, gZ, dLst, dTup, dPar, dSl, dNone, dPart, oSl, dCall, dIf, dDrop, fnN, inN, dAt, dSelfFld, dSelfSet, dOwn, dApp, dRaise, oNegA, oAbsA, oBoolA, oStrA, oIsN, oGcd, dFmt, dJs, dpt_one, oEq_ii, oEq_bb, oEq_ss, oNe_ii, oNe_ss, oEqA_ii, oEqA_bb, oEqA_ss, oEqA_in, oEqA_ri, oNeA_ii, oNeA_ss, oNeA_in, List.getElem?_cons_zero, List.getElem?_cons_succ, List.set_cons_zero, List.set_cons_succ, true_and, and_true, if_true, if_false, Bool.false_eq_true, List.length_cons, List.length_nil, Option.some.injEq, Int.reduceEq, ↓reduceIte, Nat.reduceAdd, Nat.reduceLeDiff, Nat.zero_le, decide_true, decide_false, Bool.not_true, Bool.not_false, D.bl.injEq, D.int.injEq, D.str.injEq, exists_eq_left', exists_eq_left, cq_law_draw_2, cq_law_pick_2, cq_law_size_1, cq_law_pair_1, cq_is_int_1, cq_Ratio_Ratio___init___2, cq_Ratio___eq___2, tq_eq_eq_Ratio, cq_Ratio___abs___1, tq_own_abs_Ratio, cq_law_divisor_2, cq_law_is_3, cq_Ratio_Ratio___init___0_bottom_top, cq_Ratio___neg___1, tq_own_neg_Ratio, cq_Ratio___bool___1, tq_own_bool_Ratio, cq_Ratio_Ratio___init___1, cq_Ratio___str___1, tq_own_str_Ratio, cq_law_made_right_1, cq_law_refused_right_1, isa_NoneType_BadRatio T, isa_bool_BadRatio T, isa_int_BadRatio T, isa_str_BadRatio T, isa_list_BadRatio T, isa_tuple_BadRatio T, isa_dict_BadRatio T, isa_c_Ratio_BadRatio T, isa_x_BadRatio_BadRatio T, isa_NoneType_Ratio T, isa_bool_Ratio T, isa_int_Ratio T, isa_str_Ratio T, isa_list_Ratio T, isa_tuple_Ratio T, isa_dict_Ratio T, isa_c_Ratio_Ratio T, isa_x_BadRatio_Ratio T, isa_NoneType_bool T, isa_bool_bool T, isa_int_bool T, isa_str_bool T, isa_list_bool T, isa_tuple_bool T, isa_dict_bool T, isa_c_Ratio_bool T, isa_x_BadRatio_bool T, isa_NoneType_int T, isa_bool_int T, isa_int_int T, isa_str_int T, isa_list_int T, isa_tuple_int T, isa_dict_int T, isa_c_Ratio_int T, isa_x_BadRatio_int T, T.em_BadRatio_CreditError, np_Ratio_NoneType T, np_Ratio_bool T, np_Ratio_int T, np_Ratio_str T, np_Ratio_list T, np_Ratio_tuple T, np_Ratio_dict T, np_Ratio_c_Ratio T, lk_Ratio_top, T.na_Ratio_top, lk_Ratio_bottom, T.na_Ratio_bottom, pd_Ratio_top, pd_Ratio_bottom, lx_BadRatio_part, T.xa_BadRatio_part]
  refine (eq_rd T).mpr ?_
  simp only [dSeq, dIte, dTB, dBin, dBinE, dUnE, dCalE, dPen, isPen, dC, dVar, dNil, dCons, dSet, dAsg, dRet, dNext, dAnd, dOr, dNot, dAndV, dOrV, dNotV, dBu, oLen, oInt, oAbs, oI, oAdd, oIx, dIx, gPen, gN, gC, gT, gZ, dLst, dTup, dPar, dSl, dNone, dPart, oSl, dCall, dIf, dDrop, fnN, inN, dAt, dSelfFld, dSelfSet, dOwn, dApp, dRaise, oNegA, oAbsA, oBoolA, oStrA, oIsN, oGcd, dFmt, dJs, dpt_one, oEq_ii, oEq_bb, oEq_ss, oNe_ii, oNe_ss, oEqA_ii, oEqA_bb, oEqA_ss, oEqA_in, oEqA_ri, oNeA_ii, oNeA_ss, oNeA_in, List.getElem?_cons_zero, List.getElem?_cons_succ, List.set_cons_zero, List.set_cons_succ, true_and, and_true, if_true, if_false, Bool.false_eq_true, List.length_cons, List.length_nil, Option.some.injEq, Int.reduceEq, ↓reduceIte, Nat.reduceAdd, Nat.reduceLeDiff, Nat.zero_le, decide_true, decide_false, Bool.not_true, Bool.not_false, D.bl.injEq, D.int.injEq, D.str.injEq, exists_eq_left', exists_eq_left, cq_law_draw_2, cq_law_pick_2, cq_law_size_1, cq_law_pair_1, cq_is_int_1, cq_Ratio_Ratio___init___2, cq_Ratio___eq___2, tq_eq_eq_Ratio, cq_Ratio___abs___1, tq_own_abs_Ratio, cq_law_divisor_2, cq_law_is_3, cq_Ratio_Ratio___init___0_bottom_top, cq_Ratio___neg___1, tq_own_neg_Ratio, cq_Ratio___bool___1, tq_own_bool_Ratio, cq_Ratio_Ratio___init___1, cq_Ratio___str___1, tq_own_str_Ratio, cq_law_made_right_1, cq_law_refused_right_1, isa_NoneType_BadRatio T, isa_bool_BadRatio T, isa_int_BadRatio T, isa_str_BadRatio T, isa_list_BadRatio T, isa_tuple_BadRatio T, isa_dict_BadRatio T, isa_c_Ratio_BadRatio T, isa_x_BadRatio_BadRatio T, isa_NoneType_Ratio T, isa_bool_Ratio T, isa_int_Ratio T, isa_str_Ratio T, isa_list_Ratio T, isa_tuple_Ratio T, isa_dict_Ratio T, isa_c_Ratio_Ratio T, isa_x_BadRatio_Ratio T, isa_NoneType_bool T, isa_bool_bool T, isa_int_bool T, isa_str_bool T, isa_list_bool T, isa_tuple_bool T, isa_dict_bool T, isa_c_Ratio_bool T, isa_x_BadRatio_bool T, isa_NoneType_int T, isa_bool_int T, isa_int_int T, isa_str_int T, isa_list_int T, isa_tuple_int T, isa_dict_int T, isa_c_Ratio_int T, isa_x_BadRatio_int T, T.em_BadRatio_CreditError, np_Ratio_NoneType T, np_Ratio_bool T, np_Ratio_int T, np_Ratio_str T, np_Ratio_list T, np_Ratio_tuple T, np_Ratio_dict T, np_Ratio_c_Ratio T, lk_Ratio_top, T.na_Ratio_top, lk_Ratio_bottom, T.na_Ratio_bottom, pd_Ratio_top, pd_Ratio_bottom, lx_BadRatio_part, T.xa_BadRatio_part]
  exact ⟨⟨rfl, rfl⟩, hp⟩
end
end K02

namespace K02
open PySem L2 DL
section
variable {c : Wd} {A : Ad} {z : Z} {P : D → Z → Prop} {R : Er → Z → Prop} {f : Addr} {act : DAct}
theorem heard_raise (T : Txt c A) {s : D} (ha : ∀ PA RA, RA (xo_BadRatio A s) z → act z PA RA) (hp : P s z) : ga_law_heard c A f act z P := by
  show t_law_heard c A f act _ ⟨[.d (.ref f), .un, .un], z⟩
  simp only [t_law_heard, u_law_heard_1, dTryKeep, dAct, dSeq, dIte, dTB, dBin, dBinE, dUnE, dCalE, dPen, isPen, dC, dVar, dNil, dCons, dSet, dAsg, dRet, dNext, dAnd, dOr, dNot, dAndV, dOrV, dNotV, dBu, oLen, oInt, oAbs, oI, oAdd, oIx, dIx, gPen, gN, gC, gT, gZ, dLst, dTup, dPar, dSl, dNone, dPart, oSl, dCall, dIf, dDrop, fnN, inN, dAt, dSelfFld, dSelfSet, dOwn, dApp, dRaise, oNegA, oAbsA, oBoolA, oStrA, oIsN, oGcd, dFmt, dJs, dpt_one, oEq_ii, oEq_bb, oEq_ss, oNe_ii, oNe_ss, oEqA_ii, oEqA_bb, oEqA_ss, oEqA_in, oEqA_ri, oNeA_ii, oNeA_ss, oNeA_in, List.getElem?_cons_zero, List.getElem?_cons_succ, List.set_cons_zero, List.set_cons_succ, true_and, and_true, if_true, if_false, Bool.false_eq_true, List.length_cons, List.length_nil, Option.some.injEq, Int.reduceEq, ↓reduceIte, Nat.reduceAdd, Nat.reduceLeDiff, Nat.zero_le, decide_true, decide_false, Bool.not_true, Bool.not_false, D.bl.injEq, D.int.injEq, D.str.injEq, exists_eq_left', exists_eq_left, cq_law_draw_2, cq_law_pick_2, cq_law_size_1, cq_law_pair_1, cq_is_int_1, cq_Ratio_Ratio___init___2, cq_Ratio___eq___2, tq_eq_eq_Ratio, cq_Ratio___abs___1, tq_own_abs_Ratio, cq_law_divisor_2, cq_law_is_3, cq_Ratio_Ratio___init___0_bottom_top, cq_Ratio___neg___1, tq_own_neg_Ratio, cq_Ratio___bool___1, tq_own_bool_Ratio, cq_Ratio_Ratio___init___1, cq_Ratio___str___1, tq_own_str_Ratio, cq_law_made_right_1, cq_law_refused_right_1, isa_NoneType_BadRatio T, isa_bool_BadRatio T, isa_int_BadRatio T, isa_str_BadRatio T, isa_list_BadRatio T, isa_tuple_BadRatio T, isa_dict_BadRatio T, isa_c_Ratio_BadRatio T, isa_x_BadRatio_BadRatio T, isa_NoneType_Ratio T, isa_bool_Ratio T, isa_int_Ratio T, isa_str_Ratio T, isa_list_Ratio T, isa_tuple_Ratio T, isa_dict_Ratio T, isa_c_Ratio_Ratio T, isa_x_BadRatio_Ratio T, isa_NoneType_bool T, isa_bool_bool T, isa_int_bool T, isa_str_bool T, isa_list_bool T, isa_tuple_bool T, isa_dict_bool T, isa_c_Ratio_bool T, isa_x_BadRatio_bool T, isa_NoneType_int T, isa_bool_int T, isa_int_int T, isa_str_int T, isa_list_int T, isa_tuple_int T, isa_dict_int T, isa_c_Ratio_int T, isa_x_BadRatio_int T, T.em_BadRatio_CreditError, np_Ratio_NoneType T, np_Ratio_bool T, np_Ratio_int T, np_Ratio_str T, np_Ratio_list T, np_Ratio_tuple T, np_Ratio_dict T, np_Ratio_c_Ratio T, lk_Ratio_top, T.na_Ratio_top, lk_Ratio_bottom, T.na_Ratio_bottom, pd_Ratio_top, pd_Ratio_bottom, lx_BadRatio_part, T.xa_BadRatio_part]
  refine ha _ _ ?_
  simp only [xo_BadRatio, dSeq, dIte, dTB, dBin, dBinE, dUnE, dCalE, dPen, isPen, dC, dVar, dNil, dCons, dSet, dAsg, dRet, dNext, dAnd, dOr, dNot, dAndV, dOrV, dNotV, dBu, oLen, oInt, oAbs, oI, oAdd, oIx, dIx, gPen, gN, gC, gT, gZ, dLst, dTup, dPar, dSl, dNone, dPart, oSl, dCall, dIf, dDrop, fnN, inN, dAt, dSelfFld, dSelfSet, dOwn, dApp, dRaise, oNegA, oAbsA, oBoolA, oStrA, oIsN, oGcd, dFmt, dJs, dpt_one, oEq_ii, oEq_bb, oEq_ss, oNe_ii, oNe_ss, oEqA_ii, oEqA_bb, oEqA_ss, oEqA_in, oEqA_ri, oNeA_ii, oNeA_ss, oNeA_in, List.getElem?_cons_zero, List.getElem?_cons_succ, List.set_cons_zero, List.set_cons_succ, true_and, and_true, if_true, if_false, Bool.false_eq_true, List.length_cons, List.length_nil, Option.some.injEq, Int.reduceEq, ↓reduceIte, Nat.reduceAdd, Nat.reduceLeDiff, Nat.zero_le, decide_true, decide_false, Bool.not_true, Bool.not_false, D.bl.injEq, D.int.injEq, D.str.injEq, exists_eq_left', exists_eq_left, cq_law_draw_2, cq_law_pick_2, cq_law_size_1, cq_law_pair_1, cq_is_int_1, cq_Ratio_Ratio___init___2, cq_Ratio___eq___2, tq_eq_eq_Ratio, cq_Ratio___abs___1, tq_own_abs_Ratio, cq_law_divisor_2, cq_law_is_3, cq_Ratio_Ratio___init___0_bottom_top, cq_Ratio___neg___1, tq_own_neg_Ratio, cq_Ratio___bool___1, tq_own_bool_Ratio, cq_Ratio_Ratio___init___1, cq_Ratio___str___1, tq_own_str_Ratio, cq_law_made_right_1, cq_law_refused_right_1, isa_NoneType_BadRatio T, isa_bool_BadRatio T, isa_int_BadRatio T, isa_str_BadRatio T, isa_list_BadRatio T, isa_tuple_BadRatio T, isa_dict_BadRatio T, isa_c_Ratio_BadRatio T, isa_x_BadRatio_BadRatio T, isa_NoneType_Ratio T, isa_bool_Ratio T, isa_int_Ratio T, isa_str_Ratio T, isa_list_Ratio T, isa_tuple_Ratio T, isa_dict_Ratio T, isa_c_Ratio_Ratio T, isa_x_BadRatio_Ratio T, isa_NoneType_bool T, isa_bool_bool T, isa_int_bool T, isa_str_bool T, isa_list_bool T, isa_tuple_bool T, isa_dict_bool T, isa_c_Ratio_bool T, isa_x_BadRatio_bool T, isa_NoneType_int T, isa_bool_int T, isa_int_int T, isa_str_int T, isa_list_int T, isa_tuple_int T, isa_dict_int T, isa_c_Ratio_int T, isa_x_BadRatio_int T, T.em_BadRatio_CreditError, np_Ratio_NoneType T, np_Ratio_bool T, np_Ratio_int T, np_Ratio_str T, np_Ratio_list T, np_Ratio_tuple T, np_Ratio_dict T, np_Ratio_c_Ratio T, lk_Ratio_top, T.na_Ratio_top, lk_Ratio_bottom, T.na_Ratio_bottom, pd_Ratio_top, pd_Ratio_bottom, lx_BadRatio_part, T.xa_BadRatio_part, u_law_heard_2, u_law_heard_3, T.em_BadRatio_CreditError]
  exact hp
theorem heard_fine (T : Txt c A) {d : D} (ha : ∀ (PA : D → Z → Prop) RA, PA d z → act z PA RA) (hp : P .non z) : ga_law_heard c A f act z P := by
  show t_law_heard c A f act _ ⟨[.d (.ref f), .un, .un], z⟩
  simp only [t_law_heard, u_law_heard_1, dTryKeep, dAct, dSeq, dIte, dTB, dBin, dBinE, dUnE, dCalE, dPen, isPen, dC, dVar, dNil, dCons, dSet, dAsg, dRet, dNext, dAnd, dOr, dNot, dAndV, dOrV, dNotV, dBu, oLen, oInt, oAbs, oI, oAdd, oIx, dIx, gPen, gN, gC, gT, gZ, dLst, dTup, dPar, dSl, dNone, dPart, oSl, dCall, dIf, dDrop, fnN, inN, dAt, dSelfFld, dSelfSet, dOwn, dApp, dRaise, oNegA, oAbsA, oBoolA, oStrA, oIsN, oGcd, dFmt, dJs, dpt_one, oEq_ii, oEq_bb, oEq_ss, oNe_ii, oNe_ss, oEqA_ii, oEqA_bb, oEqA_ss, oEqA_in, oEqA_ri, oNeA_ii, oNeA_ss, oNeA_in, List.getElem?_cons_zero, List.getElem?_cons_succ, List.set_cons_zero, List.set_cons_succ, true_and, and_true, if_true, if_false, Bool.false_eq_true, List.length_cons, List.length_nil, Option.some.injEq, Int.reduceEq, ↓reduceIte, Nat.reduceAdd, Nat.reduceLeDiff, Nat.zero_le, decide_true, decide_false, Bool.not_true, Bool.not_false, D.bl.injEq, D.int.injEq, D.str.injEq, exists_eq_left', exists_eq_left, cq_law_draw_2, cq_law_pick_2, cq_law_size_1, cq_law_pair_1, cq_is_int_1, cq_Ratio_Ratio___init___2, cq_Ratio___eq___2, tq_eq_eq_Ratio, cq_Ratio___abs___1, tq_own_abs_Ratio, cq_law_divisor_2, cq_law_is_3, cq_Ratio_Ratio___init___0_bottom_top, cq_Ratio___neg___1, tq_own_neg_Ratio, cq_Ratio___bool___1, tq_own_bool_Ratio, cq_Ratio_Ratio___init___1, cq_Ratio___str___1, tq_own_str_Ratio, cq_law_made_right_1, cq_law_refused_right_1, isa_NoneType_BadRatio T, isa_bool_BadRatio T, isa_int_BadRatio T, isa_str_BadRatio T, isa_list_BadRatio T, isa_tuple_BadRatio T, isa_dict_BadRatio T, isa_c_Ratio_BadRatio T, isa_x_BadRatio_BadRatio T, isa_NoneType_Ratio T, isa_bool_Ratio T, isa_int_Ratio T, isa_str_Ratio T, isa_list_Ratio T, isa_tuple_Ratio T, isa_dict_Ratio T, isa_c_Ratio_Ratio T, isa_x_BadRatio_Ratio T, isa_NoneType_bool T, isa_bool_bool T, isa_int_bool T, isa_str_bool T, isa_list_bool T, isa_tuple_bool T, isa_dict_bool T, isa_c_Ratio_bool T, isa_x_BadRatio_bool T, isa_NoneType_int T, isa_bool_int T, isa_int_int T, isa_str_int T, isa_list_int T, isa_tuple_int T, isa_dict_int T, isa_c_Ratio_int T, isa_x_BadRatio_int T, T.em_BadRatio_CreditError, np_Ratio_NoneType T, np_Ratio_bool T, np_Ratio_int T, np_Ratio_str T, np_Ratio_list T, np_Ratio_tuple T, np_Ratio_dict T, np_Ratio_c_Ratio T, lk_Ratio_top, T.na_Ratio_top, lk_Ratio_bottom, T.na_Ratio_bottom, pd_Ratio_top, pd_Ratio_bottom, lx_BadRatio_part, T.xa_BadRatio_part]
  refine ha _ _ ?_
  simp only [dSeq, dIte, dTB, dBin, dBinE, dUnE, dCalE, dPen, isPen, dC, dVar, dNil, dCons, dSet, dAsg, dRet, dNext, dAnd, dOr, dNot, dAndV, dOrV, dNotV, dBu, oLen, oInt, oAbs, oI, oAdd, oIx, dIx, gPen, gN, gC, gT, gZ, dLst, dTup, dPar, dSl, dNone, dPart, oSl, dCall, dIf, dDrop, fnN, inN, dAt, dSelfFld, dSelfSet, dOwn, dApp, dRaise, oNegA, oAbsA, oBoolA, oStrA, oIsN, oGcd, dFmt, dJs, dpt_one, oEq_ii, oEq_bb, oEq_ss, oNe_ii, oNe_ss, oEqA_ii, oEqA_bb, oEqA_ss, oEqA_in, oEqA_ri, oNeA_ii, oNeA_ss, oNeA_in, List.getElem?_cons_zero, List.getElem?_cons_succ, List.set_cons_zero, List.set_cons_succ, true_and, and_true, if_true, if_false, Bool.false_eq_true, List.length_cons, List.length_nil, Option.some.injEq, Int.reduceEq, ↓reduceIte, Nat.reduceAdd, Nat.reduceLeDiff, Nat.zero_le, decide_true, decide_false, Bool.not_true, Bool.not_false, D.bl.injEq, D.int.injEq, D.str.injEq, exists_eq_left', exists_eq_left, cq_law_draw_2, cq_law_pick_2, cq_law_size_1, cq_law_pair_1, cq_is_int_1, cq_Ratio_Ratio___init___2, cq_Ratio___eq___2, tq_eq_eq_Ratio, cq_Ratio___abs___1, tq_own_abs_Ratio, cq_law_divisor_2, cq_law_is_3, cq_Ratio_Ratio___init___0_bottom_top, cq_Ratio___neg___1, tq_own_neg_Ratio, cq_Ratio___bool___1, tq_own_bool_Ratio, cq_Ratio_Ratio___init___1, cq_Ratio___str___1, tq_own_str_Ratio, cq_law_made_right_1, cq_law_refused_right_1, isa_NoneType_BadRatio T, isa_bool_BadRatio T, isa_int_BadRatio T, isa_str_BadRatio T, isa_list_BadRatio T, isa_tuple_BadRatio T, isa_dict_BadRatio T, isa_c_Ratio_BadRatio T, isa_x_BadRatio_BadRatio T, isa_NoneType_Ratio T, isa_bool_Ratio T, isa_int_Ratio T, isa_str_Ratio T, isa_list_Ratio T, isa_tuple_Ratio T, isa_dict_Ratio T, isa_c_Ratio_Ratio T, isa_x_BadRatio_Ratio T, isa_NoneType_bool T, isa_bool_bool T, isa_int_bool T, isa_str_bool T, isa_list_bool T, isa_tuple_bool T, isa_dict_bool T, isa_c_Ratio_bool T, isa_x_BadRatio_bool T, isa_NoneType_int T, isa_bool_int T, isa_int_int T, isa_str_int T, isa_list_int T, isa_tuple_int T, isa_dict_int T, isa_c_Ratio_int T, isa_x_BadRatio_int T, T.em_BadRatio_CreditError, np_Ratio_NoneType T, np_Ratio_bool T, np_Ratio_int T, np_Ratio_str T, np_Ratio_list T, np_Ratio_tuple T, np_Ratio_dict T, np_Ratio_c_Ratio T, lk_Ratio_top, T.na_Ratio_top, lk_Ratio_bottom, T.na_Ratio_bottom, pd_Ratio_top, pd_Ratio_bottom, lx_BadRatio_part, T.xa_BadRatio_part, u_law_heard_2, u_law_heard_3]
  exact hp
theorem ni_n (T : Txt c A) : NI c A .non := fun _ _ _ => is_int_n T
theorem ni_b (T : Txt c A) {b : Bool} : NI c A (.bl b) := fun _ _ _ => is_int_b T
theorem ni_s (T : Txt c A) {s : Str} : NI c A (.str s) := fun _ _ _ => is_int_s T
theorem ni_t (T : Txt c A) {xs : List D} : NI c A (.tup xs) := fun _ _ _ => is_int_t T
theorem ni_l (T : Txt c A) {xs : List D} : NI c A (.lst xs) := fun _ _ _ => is_int_l T
theorem ni_d (T : Txt c A) {xs : List (Key × D)} : NI c A (.dct xs) := fun _ _ _ => is_int_d T
theorem ni_r (T : Txt c A) {fs : List (Str × D)} : NI c A (.ins A.c_Ratio fs) := fun _ _ _ => is_int_r T
theorem refused_ok (T : Txt c A) (hz : 7 ≤ z.fu) (hp : ∀ z', Zd 7 z z' → P (.bl true) z') : sp_law_refused_right c A [.pen] z P R := by
  show 1 = 1 ∧ t_law_refused_right c A _ ⟨[.d .pen, .un, .un, .un, .un], z⟩
  simp only [t_law_refused_right, dSeq, dIte, dTB, dBin, dBinE, dUnE, dCalE, dPen, isPen, dC, dVar, dNil, dCons, dSet, dAsg, dRet, dNext, dAnd, dOr, dNot, dAndV, dOrV, dNotV, dBu, oLen, oInt, oAbs, oI, oAdd, oIx, dIx, gPen, gN, gC, gT, gZ, dLst, dTup, dPar, dSl, dNone, dPart, oSl, dCall, dIf, dDrop, fnN, inN, dAt, dSelfFld, dSelfSet, dOwn, dApp, dRaise, oNegA, oAbsA, oBoolA, oStrA, oIsN, oGcd, dFmt, dJs, dpt_one, oEq_ii, oEq_bb, oEq_ss, oNe_ii, oNe_ss, oEqA_ii, oEqA_bb, oEqA_ss, oEqA_in, oEqA_ri, oNeA_ii, oNeA_ss, oNeA_in, List.getElem?_cons_zero, List.getElem?_cons_succ, List.set_cons_zero, List.set_cons_succ, true_and, and_true, if_true, if_false, Bool.false_eq_true, List.length_cons, List.length_nil, Option.some.injEq, Int.reduceEq, ↓reduceIte, Nat.reduceAdd, Nat.reduceLeDiff, Nat.zero_le, decide_true, decide_false, Bool.not_true, Bool.not_false, D.bl.injEq, D.int.injEq, D.str.injEq, exists_eq_left', exists_eq_left, cq_law_draw_2, cq_law_pick_2, cq_law_size_1, cq_law_pair_1, cq_is_int_1, cq_Ratio_Ratio___init___2, cq_Ratio___eq___2, tq_eq_eq_Ratio, cq_Ratio___abs___1, tq_own_abs_Ratio, cq_law_divisor_2, cq_law_is_3, cq_Ratio_Ratio___init___0_bottom_top, cq_Ratio___neg___1, tq_own_neg_Ratio, cq_Ratio___bool___1, tq_own_bool_Ratio, cq_Ratio_Ratio___init___1, cq_Ratio___str___1, tq_own_str_Ratio, cq_law_made_right_1, cq_law_refused_right_1, isa_NoneType_BadRatio T, isa_bool_BadRatio T, isa_int_BadRatio T, isa_str_BadRatio T, isa_list_BadRatio T, isa_tuple_BadRatio T, isa_dict_BadRatio T, isa_c_Ratio_BadRatio T, isa_x_BadRatio_BadRatio T, isa_NoneType_Ratio T, isa_bool_Ratio T, isa_int_Ratio T, isa_str_Ratio T, isa_list_Ratio T, isa_tuple_Ratio T, isa_dict_Ratio T, isa_c_Ratio_Ratio T, isa_x_BadRatio_Ratio T, isa_NoneType_bool T, isa_bool_bool T, isa_int_bool T, isa_str_bool T, isa_list_bool T, isa_tuple_bool T, isa_dict_bool T, isa_c_Ratio_bool T, isa_x_BadRatio_bool T, isa_NoneType_int T, isa_bool_int T, isa_int_int T, isa_str_int T, isa_list_int T, isa_tuple_int T, isa_dict_int T, isa_c_Ratio_int T, isa_x_BadRatio_int T, T.em_BadRatio_CreditError, np_Ratio_NoneType T, np_Ratio_bool T, np_Ratio_int T, np_Ratio_str T, np_Ratio_list T, np_Ratio_tuple T, np_Ratio_dict T, np_Ratio_c_Ratio T, lk_Ratio_top, T.na_Ratio_top, lk_Ratio_bottom, T.na_Ratio_bottom, pd_Ratio_top, pd_Ratio_bottom, lx_BadRatio_part, T.xa_BadRatio_part]
  refine mk_ok T (by decide) (by decide) ?_
  refine pick_ok T ?_ ?_ ?_ fun d z1 hd z1d => ?_
  · simp
  · simp
  · omega
  have nd : NI c A d := by
    simp only [List.mem_cons, List.not_mem_nil, or_false] at hd
    rcases hd with rfl | rfl | rfl | rfl | rfl | rfl | rfl | rfl
    · exact ni_n T
    · exact ni_b T
    · exact ni_b T
    · exact ni_s T
    · exact ni_t T
    · exact ni_l T
    · exact ni_d T
    · exact ni_r T
  clear hd
  simp only [u_law_refused_right_1, dSeq, dIte, dTB, dBin, dBinE, dUnE, dCalE, dPen, isPen, dC, dVar, dNil, dCons, dSet, dAsg, dRet, dNext, dAnd, dOr, dNot, dAndV, dOrV, dNotV, dBu, oLen, oInt, oAbs, oI, oAdd, oIx, dIx, gPen, gN, gC, gT, gZ, dLst, dTup, dPar, dSl, dNone, dPart, oSl, dCall, dIf, dDrop, fnN, inN, dAt, dSelfFld, dSelfSet, dOwn, dApp, dRaise, oNegA, oAbsA, oBoolA, oStrA, oIsN, oGcd, dFmt, dJs, dpt_one, oEq_ii, oEq_bb, oEq_ss, oNe_ii, oNe_ss, oEqA_ii, oEqA_bb, oEqA_ss, oEqA_in, oEqA_ri, oNeA_ii, oNeA_ss, oNeA_in, List.getElem?_cons_zero, List.getElem?_cons_succ, List.set_cons_zero, List.set_cons_succ, true_and, and_true, if_true, if_false, Bool.false_eq_true, List.length_cons, List.length_nil, Option.some.injEq, Int.reduceEq, ↓reduceIte, Nat.reduceAdd, Nat.reduceLeDiff, Nat.zero_le, decide_true, decide_false, Bool.not_true, Bool.not_false, D.bl.injEq, D.int.injEq, D.str.injEq, exists_eq_left', exists_eq_left, cq_law_draw_2, cq_law_pick_2, cq_law_size_1, cq_law_pair_1, cq_is_int_1, cq_Ratio_Ratio___init___2, cq_Ratio___eq___2, tq_eq_eq_Ratio, cq_Ratio___abs___1, tq_own_abs_Ratio, cq_law_divisor_2, cq_law_is_3, cq_Ratio_Ratio___init___0_bottom_top, cq_Ratio___neg___1, tq_own_neg_Ratio, cq_Ratio___bool___1, tq_own_bool_Ratio, cq_Ratio_Ratio___init___1, cq_Ratio___str___1, tq_own_str_Ratio, cq_law_made_right_1, cq_law_refused_right_1, isa_NoneType_BadRatio T, isa_bool_BadRatio T, isa_int_BadRatio T, isa_str_BadRatio T, isa_list_BadRatio T, isa_tuple_BadRatio T, isa_dict_BadRatio T, isa_c_Ratio_BadRatio T, isa_x_BadRatio_BadRatio T, isa_NoneType_Ratio T, isa_bool_Ratio T, isa_int_Ratio T, isa_str_Ratio T, isa_list_Ratio T, isa_tuple_Ratio T, isa_dict_Ratio T, isa_c_Ratio_Ratio T, isa_x_BadRatio_Ratio T, isa_NoneType_bool T, isa_bool_bool T, isa_int_bool T, isa_str_bool T, isa_list_bool T, isa_tuple_bool T, isa_dict_bool T, isa_c_Ratio_bool T, isa_x_BadRatio_bool T, isa_NoneType_int T, isa_bool_int T, isa_int_int T, isa_str_int T, isa_list_int T, isa_tuple_int T, isa_dict_int T, isa_c_Ratio_int T, isa_x_BadRatio_int T, T.em_BadRatio_CreditError, np_Ratio_NoneType T, np_Ratio_bool T, np_Ratio_int T, np_Ratio_str T, np_Ratio_list T, np_Ratio_tuple T, np_Ratio_dict T, np_Ratio_c_Ratio T, lk_Ratio_top, T.na_Ratio_top, lk_Ratio_bottom, T.na_Ratio_bottom, pd_Ratio_top, pd_Ratio_bottom, lx_BadRatio_part, T.xa_BadRatio_part]
  refine mk_ok T (by decide) (by decide) ?_
  refine pick_ok T ?_ ?_ ?_ fun y z2 hd z2d => ?_
  · simp
  · simp
  · have := z1d.2; omega
  have ny : ∀ (t : Int) (z : Z) (PF : List (Str × D) → Z → Prop) (R : Er → Z → Prop), R (xo_BadRatio A (.str ("bottom" : Str))) z → si_Ratio___init__ c A [.int t, y] z PF R := by
    intro t z PF R h
    simp only [List.mem_cons, List.not_mem_nil, or_false] at hd
    rcases hd with rfl | rfl | rfl | rfl | rfl | rfl | rfl | rfl
    · exact mk_bot T (ni_n T) h
    · exact mk_bot0 T h
    · exact mk_bot T (ni_b T) h
    · exact mk_bot T (ni_s T) h
    · exact mk_bot T (ni_t T) h
    · exact mk_bot T (ni_l T) h
    · exact mk_bot T (ni_d T) h
    · exact mk_bot T (ni_r T) h
  clear hd
  simp only [u_law_refused_right_2, dSeq, dIte, dTB, dBin, dBinE, dUnE, dCalE, dPen, isPen, dC, dVar, dNil, dCons, dSet, dAsg, dRet, dNext, dAnd, dOr, dNot, dAndV, dOrV, dNotV, dBu, oLen, oInt, oAbs, oI, oAdd, oIx, dIx, gPen, gN, gC, gT, gZ, dLst, dTup, dPar, dSl, dNone, dPart, oSl, dCall, dIf, dDrop, fnN, inN, dAt, dSelfFld, dSelfSet, dOwn, dApp, dRaise, oNegA, oAbsA, oBoolA, oStrA, oIsN, oGcd, dFmt, dJs, dpt_one, oEq_ii, oEq_bb, oEq_ss, oNe_ii, oNe_ss, oEqA_ii, oEqA_bb, oEqA_ss, oEqA_in, oEqA_ri, oNeA_ii, oNeA_ss, oNeA_in, List.getElem?_cons_zero, List.getElem?_cons_succ, List.set_cons_zero, List.set_cons_succ, true_and, and_true, if_true, if_false, Bool.false_eq_true, List.length_cons, List.length_nil, Option.some.injEq, Int.reduceEq, ↓reduceIte, Nat.reduceAdd, Nat.reduceLeDiff, Nat.zero_le, decide_true, decide_false, Bool.not_true, Bool.not_false, D.bl.injEq, D.int.injEq, D.str.injEq, exists_eq_left', exists_eq_left, cq_law_draw_2, cq_law_pick_2, cq_law_size_1, cq_law_pair_1, cq_is_int_1, cq_Ratio_Ratio___init___2, cq_Ratio___eq___2, tq_eq_eq_Ratio, cq_Ratio___abs___1, tq_own_abs_Ratio, cq_law_divisor_2, cq_law_is_3, cq_Ratio_Ratio___init___0_bottom_top, cq_Ratio___neg___1, tq_own_neg_Ratio, cq_Ratio___bool___1, tq_own_bool_Ratio, cq_Ratio_Ratio___init___1, cq_Ratio___str___1, tq_own_str_Ratio, cq_law_made_right_1, cq_law_refused_right_1, isa_NoneType_BadRatio T, isa_bool_BadRatio T, isa_int_BadRatio T, isa_str_BadRatio T, isa_list_BadRatio T, isa_tuple_BadRatio T, isa_dict_BadRatio T, isa_c_Ratio_BadRatio T, isa_x_BadRatio_BadRatio T, isa_NoneType_Ratio T, isa_bool_Ratio T, isa_int_Ratio T, isa_str_Ratio T, isa_list_Ratio T, isa_tuple_Ratio T, isa_dict_Ratio T, isa_c_Ratio_Ratio T, isa_x_BadRatio_Ratio T, isa_NoneType_bool T, isa_bool_bool T, isa_int_bool T, isa_str_bool T, isa_list_bool T, isa_tuple_bool T, isa_dict_bool T, isa_c_Ratio_bool T, isa_x_BadRatio_bool T, isa_NoneType_int T, isa_bool_int T, isa_int_int T, isa_str_int T, isa_list_int T, isa_tuple_int T, isa_dict_int T, isa_c_Ratio_int T, isa_x_BadRatio_int T, T.em_BadRatio_CreditError, np_Ratio_NoneType T, np_Ratio_bool T, np_Ratio_int T, np_Ratio_str T, np_Ratio_list T, np_Ratio_tuple T, np_Ratio_dict T, np_Ratio_c_Ratio T, lk_Ratio_top, T.na_Ratio_top, lk_Ratio_bottom, T.na_Ratio_bottom, pd_Ratio_top, pd_Ratio_bottom, lx_BadRatio_part, T.xa_BadRatio_part]
  refine size_ok T (by have := z1d.2; have := z2d.2; omega) fun i z3 hi z3d => ?_
  replace hp := hp z3 ((z1d.trans z2d).trans z3d)
  simp only [u_law_refused_right_3, dLam, fz, dSeq, dIte, dTB, dBin, dBinE, dUnE, dCalE, dPen, isPen, dC, dVar, dNil, dCons, dSet, dAsg, dRet, dNext, dAnd, dOr, dNot, dAndV, dOrV, dNotV, dBu, oLen, oInt, oAbs, oI, oAdd, oIx, dIx, gPen, gN, gC, gT, gZ, dLst, dTup, dPar, dSl, dNone, dPart, oSl, dCall, dIf, dDrop, fnN, inN, dAt, dSelfFld, dSelfSet, dOwn, dApp, dRaise, oNegA, oAbsA, oBoolA, oStrA, oIsN, oGcd, dFmt, dJs, dpt_one, oEq_ii, oEq_bb, oEq_ss, oNe_ii, oNe_ss, oEqA_ii, oEqA_bb, oEqA_ss, oEqA_in, oEqA_ri, oNeA_ii, oNeA_ss, oNeA_in, List.getElem?_cons_zero, List.getElem?_cons_succ, List.set_cons_zero, List.set_cons_succ, true_and, and_true, if_true, if_false, Bool.false_eq_true, List.length_cons, List.length_nil, Option.some.injEq, Int.reduceEq, ↓reduceIte, Nat.reduceAdd, Nat.reduceLeDiff, Nat.zero_le, decide_true, decide_false, Bool.not_true, Bool.not_false, D.bl.injEq, D.int.injEq, D.str.injEq, exists_eq_left', exists_eq_left, cq_law_draw_2, cq_law_pick_2, cq_law_size_1, cq_law_pair_1, cq_is_int_1, cq_Ratio_Ratio___init___2, cq_Ratio___eq___2, tq_eq_eq_Ratio, cq_Ratio___abs___1, tq_own_abs_Ratio, cq_law_divisor_2, cq_law_is_3, cq_Ratio_Ratio___init___0_bottom_top, cq_Ratio___neg___1, tq_own_neg_Ratio, cq_Ratio___bool___1, tq_own_bool_Ratio, cq_Ratio_Ratio___init___1, cq_Ratio___str___1, tq_own_str_Ratio, cq_law_made_right_1, cq_law_refused_right_1, isa_NoneType_BadRatio T, isa_bool_BadRatio T, isa_int_BadRatio T, isa_str_BadRatio T, isa_list_BadRatio T, isa_tuple_BadRatio T, isa_dict_BadRatio T, isa_c_Ratio_BadRatio T, isa_x_BadRatio_BadRatio T, isa_NoneType_Ratio T, isa_bool_Ratio T, isa_int_Ratio T, isa_str_Ratio T, isa_list_Ratio T, isa_tuple_Ratio T, isa_dict_Ratio T, isa_c_Ratio_Ratio T, isa_x_BadRatio_Ratio T, isa_NoneType_bool T, isa_bool_bool T, isa_int_bool T, isa_str_bool T, isa_list_bool T, isa_tuple_bool T, isa_dict_bool T, isa_c_Ratio_bool T, isa_x_BadRatio_bool T, isa_NoneType_int T, isa_bool_int T, isa_int_int T, isa_str_int T, isa_list_int T, isa_tuple_int T, isa_dict_int T, isa_c_Ratio_int T, isa_x_BadRatio_int T, T.em_BadRatio_CreditError, np_Ratio_NoneType T, np_Ratio_bool T, np_Ratio_int T, np_Ratio_str T, np_Ratio_list T, np_Ratio_tuple T, np_Ratio_dict T, np_Ratio_c_Ratio T, lk_Ratio_top, T.na_Ratio_top, lk_Ratio_bottom, T.na_Ratio_bottom, pd_Ratio_top, pd_Ratio_bottom, lx_BadRatio_part, T.xa_BadRatio_part]
  intro f1
  refine heard_raise T (s := .str ("top" : Str)) (fun PA RA h => ?_) ?_
  · simp only [lamAct, cleanSl, List.not_mem_nil, dSeq, dIte, dTB, dBin, dBinE, dUnE, dCalE, dPen, isPen, dC, dVar, dNil, dCons, dSet, dAsg, dRet, dNext, dAnd, dOr, dNot, dAndV, dOrV, dNotV, dBu, oLen, oInt, oAbs, oI, oAdd, oIx, dIx, gPen, gN, gC, gT, gZ, dLst, dTup, dPar, dSl, dNone, dPart, oSl, dCall, dIf, dDrop, fnN, inN, dAt, dSelfFld, dSelfSet, dOwn, dApp, dRaise, oNegA, oAbsA, oBoolA, oStrA, oIsN, oGcd, dFmt, dJs, dpt_one, oEq_ii, oEq_bb, oEq_ss, oNe_ii, oNe_ss, oEqA_ii, oEqA_bb, oEqA_ss, oEqA_in, oEqA_ri, oNeA_ii, oNeA_ss, oNeA_in, List.getElem?_cons_zero, List.getElem?_cons_succ, List.set_cons_zero, List.set_cons_succ, true_and, and_true, if_true, if_false, Bool.false_eq_true, List.length_cons, List.length_nil, Option.some.injEq, Int.reduceEq, ↓reduceIte, Nat.reduceAdd, Nat.reduceLeDiff, Nat.zero_le, decide_true, decide_false, Bool.not_true, Bool.not_false, D.bl.injEq, D.int.injEq, D.str.injEq, exists_eq_left', exists_eq_left, cq_law_draw_2, cq_law_pick_2, cq_law_size_1, cq_law_pair_1, cq_is_int_1, cq_Ratio_Ratio___init___2, cq_Ratio___eq___2, tq_eq_eq_Ratio, cq_Ratio___abs___1, tq_own_abs_Ratio, cq_law_divisor_2, cq_law_is_3, cq_Ratio_Ratio___init___0_bottom_top, cq_Ratio___neg___1, tq_own_neg_Ratio, cq_Ratio___bool___1, tq_own_bool_Ratio, cq_Ratio_Ratio___init___1, cq_Ratio___str___1, tq_own_str_Ratio, cq_law_made_right_1, cq_law_refused_right_1, isa_NoneType_BadRatio T, isa_bool_BadRatio T, isa_int_BadRatio T, isa_str_BadRatio T, isa_list_BadRatio T, isa_tuple_BadRatio T, isa_dict_BadRatio T, isa_c_Ratio_BadRatio T, isa_x_BadRatio_BadRatio T, isa_NoneType_Ratio T, isa_bool_Ratio T, isa_int_Ratio T, isa_str_Ratio T, isa_list_Ratio T, isa_tuple_Ratio T, isa_dict_Ratio T, isa_c_Ratio_Ratio T, isa_x_BadRatio_Ratio T, isa_NoneType_bool T, isa_bool_bool T, isa_int_bool T, isa_str_bool T, isa_list_bool T, isa_tuple_bool T, isa_dict_bool T, isa_c_Ratio_bool T, isa_x_BadRatio_bool T, isa_NoneType_int T, isa_bool_int T, isa_int_int T, isa_str_int T, isa_list_int T, isa_tuple_int T, isa_dict_int T, isa_c_Ratio_int T, isa_x_BadRatio_int T, T.em_BadRatio_CreditError, np_Ratio_NoneType T, np_Ratio_bool T, np_Ratio_int T, np_Ratio_str T, np_Ratio_list T, np_Ratio_tuple T, np_Ratio_dict T, np_Ratio_c_Ratio T, lk_Ratio_top, T.na_Ratio_top, lk_Ratio_bottom, T.na_Ratio_bottom, pd_Ratio_top, pd_Ratio_bottom, lx_BadRatio_part, T.xa_BadRatio_part]
    exact mk_top T nd h
  refine ⟨by decide, ?_⟩
  simp only [u_law_refused_right_4, dLam, fz, dSeq, dIte, dTB, dBin, dBinE, dUnE, dCalE, dPen, isPen, dC, dVar, dNil, dCons, dSet, dAsg, dRet, dNext, dAnd, dOr, dNot, dAndV, dOrV, dNotV, dBu, oLen, oInt, oAbs, oI, oAdd, oIx, dIx, gPen, gN, gC, gT, gZ, dLst, dTup, dPar, dSl, dNone, dPart, oSl, dCall, dIf, dDrop, fnN, inN, dAt, dSelfFld, dSelfSet, dOwn, dApp, dRaise, oNegA, oAbsA, oBoolA, oStrA, oIsN, oGcd, dFmt, dJs, dpt_one, oEq_ii, oEq_bb, oEq_ss, oNe_ii, oNe_ss, oEqA_ii, oEqA_bb, oEqA_ss, oEqA_in, oEqA_ri, oNeA_ii, oNeA_ss, oNeA_in, List.getElem?_cons_zero, List.getElem?_cons_succ, List.set_cons_zero, List.set_cons_succ, true_and, and_true, if_true, if_false, Bool.false_eq_true, List.length_cons, List.length_nil, Option.some.injEq, Int.reduceEq, ↓reduceIte, Nat.reduceAdd, Nat.reduceLeDiff, Nat.zero_le, decide_true, decide_false, Bool.not_true, Bool.not_false, D.bl.injEq, D.int.injEq, D.str.injEq, exists_eq_left', exists_eq_left, cq_law_draw_2, cq_law_pick_2, cq_law_size_1, cq_law_pair_1, cq_is_int_1, cq_Ratio_Ratio___init___2, cq_Ratio___eq___2, tq_eq_eq_Ratio, cq_Ratio___abs___1, tq_own_abs_Ratio, cq_law_divisor_2, cq_law_is_3, cq_Ratio_Ratio___init___0_bottom_top, cq_Ratio___neg___1, tq_own_neg_Ratio, cq_Ratio___bool___1, tq_own_bool_Ratio, cq_Ratio_Ratio___init___1, cq_Ratio___str___1, tq_own_str_Ratio, cq_law_made_right_1, cq_law_refused_right_1, isa_NoneType_BadRatio T, isa_bool_BadRatio T, isa_int_BadRatio T, isa_str_BadRatio T, isa_list_BadRatio T, isa_tuple_BadRatio T, isa_dict_BadRatio T, isa_c_Ratio_BadRatio T, isa_x_BadRatio_BadRatio T, isa_NoneType_Ratio T, isa_bool_Ratio T, isa_int_Ratio T, isa_str_Ratio T, isa_list_Ratio T, isa_tuple_Ratio T, isa_dict_Ratio T, isa_c_Ratio_Ratio T, isa_x_BadRatio_Ratio T, isa_NoneType_bool T, isa_bool_bool T, isa_int_bool T, isa_str_bool T, isa_list_bool T, isa_tuple_bool T, isa_dict_bool T, isa_c_Ratio_bool T, isa_x_BadRatio_bool T, isa_NoneType_int T, isa_bool_int T, isa_int_int T, isa_str_int T, isa_list_int T, isa_tuple_int T, isa_dict_int T, isa_c_Ratio_int T, isa_x_BadRatio_int T, T.em_BadRatio_CreditError, np_Ratio_NoneType T, np_Ratio_bool T, np_Ratio_int T, np_Ratio_str T, np_Ratio_list T, np_Ratio_tuple T, np_Ratio_dict T, np_Ratio_c_Ratio T, lk_Ratio_top, T.na_Ratio_top, lk_Ratio_bottom, T.na_Ratio_bottom, pd_Ratio_top, pd_Ratio_bottom, lx_BadRatio_part, T.xa_BadRatio_part]
  refine ⟨⟨_, rfl⟩, ?_⟩
  intro f2
  refine heard_raise T (s := .str ("top" : Str)) (fun PA RA h => ?_) ⟨by decide, ?_⟩
  · simp only [lamAct, cleanSl, List.not_mem_nil, dSeq, dIte, dTB, dBin, dBinE, dUnE, dCalE, dPen, isPen, dC, dVar, dNil, dCons, dSet, dAsg, dRet, dNext, dAnd, dOr, dNot, dAndV, dOrV, dNotV, dBu, oLen, oInt, oAbs, oI, oAdd, oIx, dIx, gPen, gN, gC, gT, gZ, dLst, dTup, dPar, dSl, dNone, dPart, oSl, dCall, dIf, dDrop, fnN, inN, dAt, dSelfFld, dSelfSet, dOwn, dApp, dRaise, oNegA, oAbsA, oBoolA, oStrA, oIsN, oGcd, dFmt, dJs, dpt_one, oEq_ii, oEq_bb, oEq_ss, oNe_ii, oNe_ss, oEqA_ii, oEqA_bb, oEqA_ss, oEqA_in, oEqA_ri, oNeA_ii, oNeA_ss, oNeA_in, List.getElem?_cons_zero, List.getElem?_cons_succ, List.set_cons_zero, List.set_cons_succ, true_and, and_true, if_true, if_false, Bool.false_eq_true, List.length_cons, List.length_nil, Option.some.injEq, Int.reduceEq, ↓reduceIte, Nat.reduceAdd, Nat.reduceLeDiff, Nat.zero_le, decide_true, decide_false, Bool.not_true, Bool.not_false, D.bl.injEq, D.int.injEq, D.str.injEq, exists_eq_left', exists_eq_left, cq_law_draw_2, cq_law_pick_2, cq_law_size_1, cq_law_pair_1, cq_is_int_1, cq_Ratio_Ratio___init___2, cq_Ratio___eq___2, tq_eq_eq_Ratio, cq_Ratio___abs___1, tq_own_abs_Ratio, cq_law_divisor_2, cq_law_is_3, cq_Ratio_Ratio___init___0_bottom_top, cq_Ratio___neg___1, tq_own_neg_Ratio, cq_Ratio___bool___1, tq_own_bool_Ratio, cq_Ratio_Ratio___init___1, cq_Ratio___str___1, tq_own_str_Ratio, cq_law_made_right_1, cq_law_refused_right_1, isa_NoneType_BadRatio T, isa_bool_BadRatio T, isa_int_BadRatio T, isa_str_BadRatio T, isa_list_BadRatio T, isa_tuple_BadRatio T, isa_dict_BadRatio T, isa_c_Ratio_BadRatio T, isa_x_BadRatio_BadRatio T, isa_NoneType_Ratio T, isa_bool_Ratio T, isa_int_Ratio T, isa_str_Ratio T, isa_list_Ratio T, isa_tuple_Ratio T, isa_dict_Ratio T, isa_c_Ratio_Ratio T, isa_x_BadRatio_Ratio T, isa_NoneType_bool T, isa_bool_bool T, isa_int_bool T, isa_str_bool T, isa_list_bool T, isa_tuple_bool T, isa_dict_bool T, isa_c_Ratio_bool T, isa_x_BadRatio_bool T, isa_NoneType_int T, isa_bool_int T, isa_int_int T, isa_str_int T, isa_list_int T, isa_tuple_int T, isa_dict_int T, isa_c_Ratio_int T, isa_x_BadRatio_int T, T.em_BadRatio_CreditError, np_Ratio_NoneType T, np_Ratio_bool T, np_Ratio_int T, np_Ratio_str T, np_Ratio_list T, np_Ratio_tuple T, np_Ratio_dict T, np_Ratio_c_Ratio T, lk_Ratio_top, T.na_Ratio_top, lk_Ratio_bottom, T.na_Ratio_bottom, pd_Ratio_top, pd_Ratio_bottom, lx_BadRatio_part, T.xa_BadRatio_part]
    exact mk_top T nd h
  simp only [u_law_refused_right_5, dLam, fz, List.cons_append, List.nil_append, dSeq, dIte, dTB, dBin, dBinE, dUnE, dCalE, dPen, isPen, dC, dVar, dNil, dCons, dSet, dAsg, dRet, dNext, dAnd, dOr, dNot, dAndV, dOrV, dNotV, dBu, oLen, oInt, oAbs, oI, oAdd, oIx, dIx, gPen, gN, gC, gT, gZ, dLst, dTup, dPar, dSl, dNone, dPart, oSl, dCall, dIf, dDrop, fnN, inN, dAt, dSelfFld, dSelfSet, dOwn, dApp, dRaise, oNegA, oAbsA, oBoolA, oStrA, oIsN, oGcd, dFmt, dJs, dpt_one, oEq_ii, oEq_bb, oEq_ss, oNe_ii, oNe_ss, oEqA_ii, oEqA_bb, oEqA_ss, oEqA_in, oEqA_ri, oNeA_ii, oNeA_ss, oNeA_in, List.getElem?_cons_zero, List.getElem?_cons_succ, List.set_cons_zero, List.set_cons_succ, true_and, and_true, if_true, if_false, Bool.false_eq_true, List.length_cons, List.length_nil, Option.some.injEq, Int.reduceEq, ↓reduceIte, Nat.reduceAdd, Nat.reduceLeDiff, Nat.zero_le, decide_true, decide_false, Bool.not_true, Bool.not_false, D.bl.injEq, D.int.injEq, D.str.injEq, exists_eq_left', exists_eq_left, cq_law_draw_2, cq_law_pick_2, cq_law_size_1, cq_law_pair_1, cq_is_int_1, cq_Ratio_Ratio___init___2, cq_Ratio___eq___2, tq_eq_eq_Ratio, cq_Ratio___abs___1, tq_own_abs_Ratio, cq_law_divisor_2, cq_law_is_3, cq_Ratio_Ratio___init___0_bottom_top, cq_Ratio___neg___1, tq_own_neg_Ratio, cq_Ratio___bool___1, tq_own_bool_Ratio, cq_Ratio_Ratio___init___1, cq_Ratio___str___1, tq_own_str_Ratio, cq_law_made_right_1, cq_law_refused_right_1, isa_NoneType_BadRatio T, isa_bool_BadRatio T, isa_int_BadRatio T, isa_str_BadRatio T, isa_list_BadRatio T, isa_tuple_BadRatio T, isa_dict_BadRatio T, isa_c_Ratio_BadRatio T, isa_x_BadRatio_BadRatio T, isa_NoneType_Ratio T, isa_bool_Ratio T, isa_int_Ratio T, isa_str_Ratio T, isa_list_Ratio T, isa_tuple_Ratio T, isa_dict_Ratio T, isa_c_Ratio_Ratio T, isa_x_BadRatio_Ratio T, isa_NoneType_bool T, isa_bool_bool T, isa_int_bool T, isa_str_bool T, isa_list_bool T, isa_tuple_bool T, isa_dict_bool T, isa_c_Ratio_bool T, isa_x_BadRatio_bool T, isa_NoneType_int T, isa_bool_int T, isa_int_int T, isa_str_int T, isa_list_int T, isa_tuple_int T, isa_dict_int T, isa_c_Ratio_int T, isa_x_BadRatio_int T, T.em_BadRatio_CreditError, np_Ratio_NoneType T, np_Ratio_bool T, np_Ratio_int T, np_Ratio_str T, np_Ratio_list T, np_Ratio_tuple T, np_Ratio_dict T, np_Ratio_c_Ratio T, lk_Ratio_top, T.na_Ratio_top, lk_Ratio_bottom, T.na_Ratio_bottom, pd_Ratio_top, pd_Ratio_bottom, lx_BadRatio_part, T.xa_BadRatio_part]
  refine ⟨⟨_, rfl⟩, ?_⟩
  intro f3
  refine heard_raise T (s := .str ("bottom" : Str)) (fun PA RA h => ?_) ⟨by decide, ?_⟩
  · simp only [lamAct, cleanSl, List.not_mem_nil, dSeq, dIte, dTB, dBin, dBinE, dUnE, dCalE, dPen, isPen, dC, dVar, dNil, dCons, dSet, dAsg, dRet, dNext, dAnd, dOr, dNot, dAndV, dOrV, dNotV, dBu, oLen, oInt, oAbs, oI, oAdd, oIx, dIx, gPen, gN, gC, gT, gZ, dLst, dTup, dPar, dSl, dNone, dPart, oSl, dCall, dIf, dDrop, fnN, inN, dAt, dSelfFld, dSelfSet, dOwn, dApp, dRaise, oNegA, oAbsA, oBoolA, oStrA, oIsN, oGcd, dFmt, dJs, dpt_one, oEq_ii, oEq_bb, oEq_ss, oNe_ii, oNe_ss, oEqA_ii, oEqA_bb, oEqA_ss, oEqA_in, oEqA_ri, oNeA_ii, oNeA_ss, oNeA_in, List.getElem?_cons_zero, List.getElem?_cons_succ, List.set_cons_zero, List.set_cons_succ, true_and, and_true, if_true, if_false, Bool.false_eq_true, List.length_cons, List.length_nil, Option.some.injEq, Int.reduceEq, ↓reduceIte, Nat.reduceAdd, Nat.reduceLeDiff, Nat.zero_le, decide_true, decide_false, Bool.not_true, Bool.not_false, D.bl.injEq, D.int.injEq, D.str.injEq, exists_eq_left', exists_eq_left, cq_law_draw_2, cq_law_pick_2, cq_law_size_1, cq_law_pair_1, cq_is_int_1, cq_Ratio_Ratio___init___2, cq_Ratio___eq___2, tq_eq_eq_Ratio, cq_Ratio___abs___1, tq_own_abs_Ratio, cq_law_divisor_2, cq_law_is_3, cq_Ratio_Ratio___init___0_bottom_top, cq_Ratio___neg___1, tq_own_neg_Ratio, cq_Ratio___bool___1, tq_own_bool_Ratio, cq_Ratio_Ratio___init___1, cq_Ratio___str___1, tq_own_str_Ratio, cq_law_made_right_1, cq_law_refused_right_1, isa_NoneType_BadRatio T, isa_bool_BadRatio T, isa_int_BadRatio T, isa_str_BadRatio T, isa_list_BadRatio T, isa_tuple_BadRatio T, isa_dict_BadRatio T, isa_c_Ratio_BadRatio T, isa_x_BadRatio_BadRatio T, isa_NoneType_Ratio T, isa_bool_Ratio T, isa_int_Ratio T, isa_str_Ratio T, isa_list_Ratio T, isa_tuple_Ratio T, isa_dict_Ratio T, isa_c_Ratio_Ratio T, isa_x_BadRatio_Ratio T, isa_NoneType_bool T, isa_bool_bool T, isa_int_bool T, isa_str_bool T, isa_list_bool T, isa_tuple_bool T, isa_dict_bool T, isa_c_Ratio_bool T, isa_x_BadRatio_bool T, isa_NoneType_int T, isa_bool_int T, isa_int_int T, isa_str_int T, isa_list_int T, isa_tuple_int T, isa_dict_int T, isa_c_Ratio_int T, isa_x_BadRatio_int T, T.em_BadRatio_CreditError, np_Ratio_NoneType T, np_Ratio_bool T, np_Ratio_int T, np_Ratio_str T, np_Ratio_list T, np_Ratio_tuple T, np_Ratio_dict T, np_Ratio_c_Ratio T, lk_Ratio_top, T.na_Ratio_top, lk_Ratio_bottom, T.na_Ratio_bottom, pd_Ratio_top, pd_Ratio_bottom, lx_BadRatio_part, T.xa_BadRatio_part]
    exact ny _ _ _ _ h
  simp only [u_law_refused_right_6, dLam, fz, List.cons_append, List.nil_append, dSeq, dIte, dTB, dBin, dBinE, dUnE, dCalE, dPen, isPen, dC, dVar, dNil, dCons, dSet, dAsg, dRet, dNext, dAnd, dOr, dNot, dAndV, dOrV, dNotV, dBu, oLen, oInt, oAbs, oI, oAdd, oIx, dIx, gPen, gN, gC, gT, gZ, dLst, dTup, dPar, dSl, dNone, dPart, oSl, dCall, dIf, dDrop, fnN, inN, dAt, dSelfFld, dSelfSet, dOwn, dApp, dRaise, oNegA, oAbsA, oBoolA, oStrA, oIsN, oGcd, dFmt, dJs, dpt_one, oEq_ii, oEq_bb, oEq_ss, oNe_ii, oNe_ss, oEqA_ii, oEqA_bb, oEqA_ss, oEqA_in, oEqA_ri, oNeA_ii, oNeA_ss, oNeA_in, List.getElem?_cons_zero, List.getElem?_cons_succ, List.set_cons_zero, List.set_cons_succ, true_and, and_true, if_true, if_false, Bool.false_eq_true, List.length_cons, List.length_nil, Option.some.injEq, Int.reduceEq, ↓reduceIte, Nat.reduceAdd, Nat.reduceLeDiff, Nat.zero_le, decide_true, decide_false, Bool.not_true, Bool.not_false, D.bl.injEq, D.int.injEq, D.str.injEq, exists_eq_left', exists_eq_left, cq_law_draw_2, cq_law_pick_2, cq_law_size_1, cq_law_pair_1, cq_is_int_1, cq_Ratio_Ratio___init___2, cq_Ratio___eq___2, tq_eq_eq_Ratio, cq_Ratio___abs___1, tq_own_abs_Ratio, cq_law_divisor_2, cq_law_is_3, cq_Ratio_Ratio___init___0_bottom_top, cq_Ratio___neg___1, tq_own_neg_Ratio, cq_Ratio___bool___1, tq_own_bool_Ratio, cq_Ratio_Ratio___init___1, cq_Ratio___str___1, tq_own_str_Ratio, cq_law_made_right_1, cq_law_refused_right_1, isa_NoneType_BadRatio T, isa_bool_BadRatio T, isa_int_BadRatio T, isa_str_BadRatio T, isa_list_BadRatio T, isa_tuple_BadRatio T, isa_dict_BadRatio T, isa_c_Ratio_BadRatio T, isa_x_BadRatio_BadRatio T, isa_NoneType_Ratio T, isa_bool_Ratio T, isa_int_Ratio T, isa_str_Ratio T, isa_list_Ratio T, isa_tuple_Ratio T, isa_dict_Ratio T, isa_c_Ratio_Ratio T, isa_x_BadRatio_Ratio T, isa_NoneType_bool T, isa_bool_bool T, isa_int_bool T, isa_str_bool T, isa_list_bool T, isa_tuple_bool T, isa_dict_bool T, isa_c_Ratio_bool T, isa_x_BadRatio_bool T, isa_NoneType_int T, isa_bool_int T, isa_int_int T, isa_str_int T, isa_list_int T, isa_tuple_int T, isa_dict_int T, isa_c_Ratio_int T, isa_x_BadRatio_int T, T.em_BadRatio_CreditError, np_Ratio_NoneType T, np_Ratio_bool T, np_Ratio_int T, np_Ratio_str T, np_Ratio_list T, np_Ratio_tuple T, np_Ratio_dict T, np_Ratio_c_Ratio T, lk_Ratio_top, T.na_Ratio_top, lk_Ratio_bottom, T.na_Ratio_bottom, pd_Ratio_top, pd_Ratio_bottom, lx_BadRatio_part, T.xa_BadRatio_part]
  refine ⟨⟨_, rfl⟩, ?_⟩
  intro f4
  refine heard_raise T (s := .str ("bottom" : Str)) (fun PA RA h => ?_) ⟨by decide, ?_⟩
  · simp only [lamAct, cleanSl, List.not_mem_nil, dSeq, dIte, dTB, dBin, dBinE, dUnE, dCalE, dPen, isPen, dC, dVar, dNil, dCons, dSet, dAsg, dRet, dNext, dAnd, dOr, dNot, dAndV, dOrV, dNotV, dBu, oLen, oInt, oAbs, oI, oAdd, oIx, dIx, gPen, gN, gC, gT, gZ, dLst, dTup, dPar, dSl, dNone, dPart, oSl, dCall, dIf, dDrop, fnN, inN, dAt, dSelfFld, dSelfSet, dOwn, dApp, dRaise, oNegA, oAbsA, oBoolA, oStrA, oIsN, oGcd, dFmt, dJs, dpt_one, oEq_ii, oEq_bb, oEq_ss, oNe_ii, oNe_ss, oEqA_ii, oEqA_bb, oEqA_ss, oEqA_in, oEqA_ri, oNeA_ii, oNeA_ss, oNeA_in, List.getElem?_cons_zero, List.getElem?_cons_succ, List.set_cons_zero, List.set_cons_succ, true_and, and_true, if_true, if_false, Bool.false_eq_true, List.length_cons, List.length_nil, Option.some.injEq, Int.reduceEq, ↓reduceIte, Nat.reduceAdd, Nat.reduceLeDiff, Nat.zero_le, decide_true, decide_false, Bool.not_true, Bool.not_false, D.bl.injEq, D.int.injEq, D.str.injEq, exists_eq_left', exists_eq_left, cq_law_draw_2, cq_law_pick_2, cq_law_size_1, cq_law_pair_1, cq_is_int_1, cq_Ratio_Ratio___init___2, cq_Ratio___eq___2, tq_eq_eq_Ratio, cq_Ratio___abs___1, tq_own_abs_Ratio, cq_law_divisor_2, cq_law_is_3, cq_Ratio_Ratio___init___0_bottom_top, cq_Ratio___neg___1, tq_own_neg_Ratio, cq_Ratio___bool___1, tq_own_bool_Ratio, cq_Ratio_Ratio___init___1, cq_Ratio___str___1, tq_own_str_Ratio, cq_law_made_right_1, cq_law_refused_right_1, isa_NoneType_BadRatio T, isa_bool_BadRatio T, isa_int_BadRatio T, isa_str_BadRatio T, isa_list_BadRatio T, isa_tuple_BadRatio T, isa_dict_BadRatio T, isa_c_Ratio_BadRatio T, isa_x_BadRatio_BadRatio T, isa_NoneType_Ratio T, isa_bool_Ratio T, isa_int_Ratio T, isa_str_Ratio T, isa_list_Ratio T, isa_tuple_Ratio T, isa_dict_Ratio T, isa_c_Ratio_Ratio T, isa_x_BadRatio_Ratio T, isa_NoneType_bool T, isa_bool_bool T, isa_int_bool T, isa_str_bool T, isa_list_bool T, isa_tuple_bool T, isa_dict_bool T, isa_c_Ratio_bool T, isa_x_BadRatio_bool T, isa_NoneType_int T, isa_bool_int T, isa_int_int T, isa_str_int T, isa_list_int T, isa_tuple_int T, isa_dict_int T, isa_c_Ratio_int T, isa_x_BadRatio_int T, T.em_BadRatio_CreditError, np_Ratio_NoneType T, np_Ratio_bool T, np_Ratio_int T, np_Ratio_str T, np_Ratio_list T, np_Ratio_tuple T, np_Ratio_dict T, np_Ratio_c_Ratio T, lk_Ratio_top, T.na_Ratio_top, lk_Ratio_bottom, T.na_Ratio_bottom, pd_Ratio_top, pd_Ratio_bottom, lx_BadRatio_part, T.xa_BadRatio_part]
    exact ny _ _ _ _ h
  simp only [u_law_refused_right_7, dLam, fz, List.cons_append, List.nil_append, dSeq, dIte, dTB, dBin, dBinE, dUnE, dCalE, dPen, isPen, dC, dVar, dNil, dCons, dSet, dAsg, dRet, dNext, dAnd, dOr, dNot, dAndV, dOrV, dNotV, dBu, oLen, oInt, oAbs, oI, oAdd, oIx, dIx, gPen, gN, gC, gT, gZ, dLst, dTup, dPar, dSl, dNone, dPart, oSl, dCall, dIf, dDrop, fnN, inN, dAt, dSelfFld, dSelfSet, dOwn, dApp, dRaise, oNegA, oAbsA, oBoolA, oStrA, oIsN, oGcd, dFmt, dJs, dpt_one, oEq_ii, oEq_bb, oEq_ss, oNe_ii, oNe_ss, oEqA_ii, oEqA_bb, oEqA_ss, oEqA_in, oEqA_ri, oNeA_ii, oNeA_ss, oNeA_in, List.getElem?_cons_zero, List.getElem?_cons_succ, List.set_cons_zero, List.set_cons_succ, true_and, and_true, if_true, if_false, Bool.false_eq_true, List.length_cons, List.length_nil, Option.some.injEq, Int.reduceEq, ↓reduceIte, Nat.reduceAdd, Nat.reduceLeDiff, Nat.zero_le, decide_true, decide_false, Bool.not_true, Bool.not_false, D.bl.injEq, D.int.injEq, D.str.injEq, exists_eq_left', exists_eq_left, cq_law_draw_2, cq_law_pick_2, cq_law_size_1, cq_law_pair_1, cq_is_int_1, cq_Ratio_Ratio___init___2, cq_Ratio___eq___2, tq_eq_eq_Ratio, cq_Ratio___abs___1, tq_own_abs_Ratio, cq_law_divisor_2, cq_law_is_3, cq_Ratio_Ratio___init___0_bottom_top, cq_Ratio___neg___1, tq_own_neg_Ratio, cq_Ratio___bool___1, tq_own_bool_Ratio, cq_Ratio_Ratio___init___1, cq_Ratio___str___1, tq_own_str_Ratio, cq_law_made_right_1, cq_law_refused_right_1, isa_NoneType_BadRatio T, isa_bool_BadRatio T, isa_int_BadRatio T, isa_str_BadRatio T, isa_list_BadRatio T, isa_tuple_BadRatio T, isa_dict_BadRatio T, isa_c_Ratio_BadRatio T, isa_x_BadRatio_BadRatio T, isa_NoneType_Ratio T, isa_bool_Ratio T, isa_int_Ratio T, isa_str_Ratio T, isa_list_Ratio T, isa_tuple_Ratio T, isa_dict_Ratio T, isa_c_Ratio_Ratio T, isa_x_BadRatio_Ratio T, isa_NoneType_bool T, isa_bool_bool T, isa_int_bool T, isa_str_bool T, isa_list_bool T, isa_tuple_bool T, isa_dict_bool T, isa_c_Ratio_bool T, isa_x_BadRatio_bool T, isa_NoneType_int T, isa_bool_int T, isa_int_int T, isa_str_int T, isa_list_int T, isa_tuple_int T, isa_dict_int T, isa_c_Ratio_int T, isa_x_BadRatio_int T, T.em_BadRatio_CreditError, np_Ratio_NoneType T, np_Ratio_bool T, np_Ratio_int T, np_Ratio_str T, np_Ratio_list T, np_Ratio_tuple T, np_Ratio_dict T, np_Ratio_c_Ratio T, lk_Ratio_top, T.na_Ratio_top, lk_Ratio_bottom, T.na_Ratio_bottom, pd_Ratio_top, pd_Ratio_bottom, lx_BadRatio_part, T.xa_BadRatio_part]
  refine ⟨⟨_, rfl⟩, ?_⟩
  intro f5
  refine heard_fine T (d := o_Ratio A (.int (rT i 1)) (.int (rB i 1))) (fun PA RA h => ?_) ⟨by decide, ?_⟩
  · simp only [lamAct, cleanSl, List.not_mem_nil, dSeq, dIte, dTB, dBin, dBinE, dUnE, dCalE, dPen, isPen, dC, dVar, dNil, dCons, dSet, dAsg, dRet, dNext, dAnd, dOr, dNot, dAndV, dOrV, dNotV, dBu, oLen, oInt, oAbs, oI, oAdd, oIx, dIx, gPen, gN, gC, gT, gZ, dLst, dTup, dPar, dSl, dNone, dPart, oSl, dCall, dIf, dDrop, fnN, inN, dAt, dSelfFld, dSelfSet, dOwn, dApp, dRaise, oNegA, oAbsA, oBoolA, oStrA, oIsN, oGcd, dFmt, dJs, dpt_one, oEq_ii, oEq_bb, oEq_ss, oNe_ii, oNe_ss, oEqA_ii, oEqA_bb, oEqA_ss, oEqA_in, oEqA_ri, oNeA_ii, oNeA_ss, oNeA_in, List.getElem?_cons_zero, List.getElem?_cons_succ, List.set_cons_zero, List.set_cons_succ, true_and, and_true, if_true, if_false, Bool.false_eq_true, List.length_cons, List.length_nil, Option.some.injEq, Int.reduceEq, ↓reduceIte, Nat.reduceAdd, Nat.reduceLeDiff, Nat.zero_le, decide_true, decide_false, Bool.not_true, Bool.not_false, D.bl.injEq, D.int.injEq, D.str.injEq, exists_eq_left', exists_eq_left, cq_law_draw_2, cq_law_pick_2, cq_law_size_1, cq_law_pair_1, cq_is_int_1, cq_Ratio_Ratio___init___2, cq_Ratio___eq___2, tq_eq_eq_Ratio, cq_Ratio___abs___1, tq_own_abs_Ratio, cq_law_divisor_2, cq_law_is_3, cq_Ratio_Ratio___init___0_bottom_top, cq_Ratio___neg___1, tq_own_neg_Ratio, cq_Ratio___bool___1, tq_own_bool_Ratio, cq_Ratio_Ratio___init___1, cq_Ratio___str___1, tq_own_str_Ratio, cq_law_made_right_1, cq_law_refused_right_1, isa_NoneType_BadRatio T, isa_bool_BadRatio T, isa_int_BadRatio T, isa_str_BadRatio T, isa_list_BadRatio T, isa_tuple_BadRatio T, isa_dict_BadRatio T, isa_c_Ratio_BadRatio T, isa_x_BadRatio_BadRatio T, isa_NoneType_Ratio T, isa_bool_Ratio T, isa_int_Ratio T, isa_str_Ratio T, isa_list_Ratio T, isa_tuple_Ratio T, isa_dict_Ratio T, isa_c_Ratio_Ratio T, isa_x_BadRatio_Ratio T, isa_NoneType_bool T, isa_bool_bool T, isa_int_bool T, isa_str_bool T, isa_list_bool T, isa_tuple_bool T, isa_dict_bool T, isa_c_Ratio_bool T, isa_x_BadRatio_bool T, isa_NoneType_int T, isa_bool_int T, isa_int_int T, isa_str_int T, isa_list_int T, isa_tuple_int T, isa_dict_int T, isa_c_Ratio_int T, isa_x_BadRatio_int T, T.em_BadRatio_CreditError, np_Ratio_NoneType T, np_Ratio_bool T, np_Ratio_int T, np_Ratio_str T, np_Ratio_list T, np_Ratio_tuple T, np_Ratio_dict T, np_Ratio_c_Ratio T, lk_Ratio_top, T.na_Ratio_top, lk_Ratio_bottom, T.na_Ratio_bottom, pd_Ratio_top, pd_Ratio_bottom, lx_BadRatio_part, T.xa_BadRatio_part]
    exact mk_ok T (by decide) (by decide) h
  simp only [u_law_refused_right_8, List.cons_append, List.nil_append, dSeq, dIte, dTB, dBin, dBinE, dUnE, dCalE, dPen, isPen, dC, dVar, dNil, dCons, dSet, dAsg, dRet, dNext, dAnd, dOr, dNot, dAndV, dOrV, dNotV, dBu, oLen, oInt, oAbs, oI, oAdd, oIx, dIx, gPen, gN, gC, gT, gZ, dLst, dTup, dPar, dSl, dNone, dPart, oSl, dCall, dIf, dDrop, fnN, inN, dAt, dSelfFld, dSelfSet, dOwn, dApp, dRaise, oNegA, oAbsA, oBoolA, oStrA, oIsN, oGcd, dFmt, dJs, dpt_one, oEq_ii, oEq_bb, oEq_ss, oNe_ii, oNe_ss, oEqA_ii, oEqA_bb, oEqA_ss, oEqA_in, oEqA_ri, oNeA_ii, oNeA_ss, oNeA_in, List.getElem?_cons_zero, List.getElem?_cons_succ, List.set_cons_zero, List.set_cons_succ, true_and, and_true, if_true, if_false, Bool.false_eq_true, List.length_cons, List.length_nil, Option.some.injEq, Int.reduceEq, ↓reduceIte, Nat.reduceAdd, Nat.reduceLeDiff, Nat.zero_le, decide_true, decide_false, Bool.not_true, Bool.not_false, D.bl.injEq, D.int.injEq, D.str.injEq, exists_eq_left', exists_eq_left, cq_law_draw_2, cq_law_pick_2, cq_law_size_1, cq_law_pair_1, cq_is_int_1, cq_Ratio_Ratio___init___2, cq_Ratio___eq___2, tq_eq_eq_Ratio, cq_Ratio___abs___1, tq_own_abs_Ratio, cq_law_divisor_2, cq_law_is_3, cq_Ratio_Ratio___init___0_bottom_top, cq_Ratio___neg___1, tq_own_neg_Ratio, cq_Ratio___bool___1, tq_own_bool_Ratio, cq_Ratio_Ratio___init___1, cq_Ratio___str___1, tq_own_str_Ratio, cq_law_made_right_1, cq_law_refused_right_1, isa_NoneType_BadRatio T, isa_bool_BadRatio T, isa_int_BadRatio T, isa_str_BadRatio T, isa_list_BadRatio T, isa_tuple_BadRatio T, isa_dict_BadRatio T, isa_c_Ratio_BadRatio T, isa_x_BadRatio_BadRatio T, isa_NoneType_Ratio T, isa_bool_Ratio T, isa_int_Ratio T, isa_str_Ratio T, isa_list_Ratio T, isa_tuple_Ratio T, isa_dict_Ratio T, isa_c_Ratio_Ratio T, isa_x_BadRatio_Ratio T, isa_NoneType_bool T, isa_bool_bool T, isa_int_bool T, isa_str_bool T, isa_list_bool T, isa_tuple_bool T, isa_dict_bool T, isa_c_Ratio_bool T, isa_x_BadRatio_bool T, isa_NoneType_int T, isa_bool_int T, isa_int_int T, isa_str_int T, isa_list_int T, isa_tuple_int T, isa_dict_int T, isa_c_Ratio_int T, isa_x_BadRatio_int T, T.em_BadRatio_CreditError, np_Ratio_NoneType T, np_Ratio_bool T, np_Ratio_int T, np_Ratio_str T, np_Ratio_list T, np_Ratio_tuple T, np_Ratio_dict T, np_Ratio_c_Ratio T, lk_Ratio_top, T.na_Ratio_top, lk_Ratio_bottom, T.na_Ratio_bottom, pd_Ratio_top, pd_Ratio_bottom, lx_BadRatio_part, T.xa_BadRatio_part]
  exact ⟨⟨rfl, rfl⟩, hp⟩
theorem law_laps (T : Txt c A) {N : DN} {s0 : Sl} : ∀ (xs : List D) (z : Z) (s2 : Sl), 15 * xs.length ≤ z.fu → (∀ z' s2, N.nx ⟨[s0, .d .pen, s2], z'⟩) →
    dLoop (gN 2) (dIte (dOr (dNot (dTB (dCall (fun ds zs n P R => zs = [] ∧ (cs_law_made_right_1 c A) ds [] n P R) (dCons (dVar 1) (dNil)) dNil))) (dNot (dTB (dCall (fun ds zs n P R => zs = [] ∧ (cs_law_refused_right_1 c A) ds [] n P R) (dCons (dVar 1) (dNil)) dNil)))) (dRet (dC (.bl false))) (dNext)) N xs ⟨[s0, .d .pen, s2], z⟩
  | [], z, s2, hz, h => h z s2
  | x :: xs, z, s2, hz, h => by
    unfold dLoop
    simp only [dSeq, dIte, dTB, dBin, dBinE, dUnE, dCalE, dPen, isPen, dC, dVar, dNil, dCons, dSet, dAsg, dRet, dNext, dAnd, dOr, dNot, dAndV, dOrV, dNotV, dBu, oLen, oInt, oAbs, oI, oAdd, oIx, dIx, gPen, gN, gC, gT, gZ, dLst, dTup, dPar, dSl, dNone, dPart, oSl, dCall, dIf, dDrop, fnN, inN, dAt, dSelfFld, dSelfSet, dOwn, dApp, dRaise, oNegA, oAbsA, oBoolA, oStrA, oIsN, oGcd, dFmt, dJs, dpt_one, oEq_ii, oEq_bb, oEq_ss, oNe_ii, oNe_ss, oEqA_ii, oEqA_bb, oEqA_ss, oEqA_in, oEqA_ri, oNeA_ii, oNeA_ss, oNeA_in, List.getElem?_cons_zero, List.getElem?_cons_succ, List.set_cons_zero, List.set_cons_succ, true_and, and_true, if_true, if_false, Bool.false_eq_true, List.length_cons, List.length_nil, Option.some.injEq, Int.reduceEq, ↓reduceIte, Nat.reduceAdd, Nat.reduceLeDiff, Nat.zero_le, decide_true, decide_false, Bool.not_true, Bool.not_false, D.bl.injEq, D.int.injEq, D.str.injEq, exists_eq_left', exists_eq_left, cq_law_draw_2, cq_law_pick_2, cq_law_size_1, cq_law_pair_1, cq_is_int_1, cq_Ratio_Ratio___init___2, cq_Ratio___eq___2, tq_eq_eq_Ratio, cq_Ratio___abs___1, tq_own_abs_Ratio, cq_law_divisor_2, cq_law_is_3, cq_Ratio_Ratio___init___0_bottom_top, cq_Ratio___neg___1, tq_own_neg_Ratio, cq_Ratio___bool___1, tq_own_bool_Ratio, cq_Ratio_Ratio___init___1, cq_Ratio___str___1, tq_own_str_Ratio, cq_law_made_right_1, cq_law_refused_right_1, isa_NoneType_BadRatio T, isa_bool_BadRatio T, isa_int_BadRatio T, isa_str_BadRatio T, isa_list_BadRatio T, isa_tuple_BadRatio T, isa_dict_BadRatio T, isa_c_Ratio_BadRatio T, isa_x_BadRatio_BadRatio T, isa_NoneType_Ratio T, isa_bool_Ratio T, isa_int_Ratio T, isa_str_Ratio T, isa_list_Ratio T, isa_tuple_Ratio T, isa_dict_Ratio T, isa_c_Ratio_Ratio T, isa_x_BadRatio_Ratio T, isa_NoneType_bool T, isa_bool_bool T, isa_int_bool T, isa_str_bool T, isa_list_bool T, isa_tuple_bool T, isa_dict_bool T, isa_c_Ratio_bool T, isa_x_BadRatio_bool T, isa_NoneType_int T, isa_bool_int T, isa_int_int T, isa_str_int T, isa_list_int T, isa_tuple_int T, isa_dict_int T, isa_c_Ratio_int T, isa_x_BadRatio_int T, T.em_BadRatio_CreditError, np_Ratio_NoneType T, np_Ratio_bool T, np_Ratio_int T, np_Ratio_str T, np_Ratio_list T, np_Ratio_tuple T, np_Ratio_dict T, np_Ratio_c_Ratio T, lk_Ratio_top, T.na_Ratio_top, lk_Ratio_bottom, T.na_Ratio_bottom, pd_Ratio_top, pd_Ratio_bottom, lx_BadRatio_part, T.xa_BadRatio_part]
    rw [List.length_cons] at hz
    refine made_ok T (by omega) fun z1 z1d => ?_
    simp only [dSeq, dIte, dTB, dBin, dBinE, dUnE, dCalE, dPen, isPen, dC, dVar, dNil, dCons, dSet, dAsg, dRet, dNext, dAnd, dOr, dNot, dAndV, dOrV, dNotV, dBu, oLen, oInt, oAbs, oI, oAdd, oIx, dIx, gPen, gN, gC, gT, gZ, dLst, dTup, dPar, dSl, dNone, dPart, oSl, dCall, dIf, dDrop, fnN, inN, dAt, dSelfFld, dSelfSet, dOwn, dApp, dRaise, oNegA, oAbsA, oBoolA, oStrA, oIsN, oGcd, dFmt, dJs, dpt_one, oEq_ii, oEq_bb, oEq_ss, oNe_ii, oNe_ss, oEqA_ii, oEqA_bb, oEqA_ss, oEqA_in, oEqA_ri, oNeA_ii, oNeA_ss, oNeA_in, List.getElem?_cons_zero, List.getElem?_cons_succ, List.set_cons_zero, List.set_cons_succ, true_and, and_true, if_true, if_false, Bool.false_eq_true, List.length_cons, List.length_nil, Option.some.injEq, Int.reduceEq, ↓reduceIte, Nat.reduceAdd, Nat.reduceLeDiff, Nat.zero_le, decide_true, decide_false, Bool.not_true, Bool.not_false, D.bl.injEq, D.int.injEq, D.str.injEq, exists_eq_left', exists_eq_left, cq_law_draw_2, cq_law_pick_2, cq_law_size_1, cq_law_pair_1, cq_is_int_1, cq_Ratio_Ratio___init___2, cq_Ratio___eq___2, tq_eq_eq_Ratio, cq_Ratio___abs___1, tq_own_abs_Ratio, cq_law_divisor_2, cq_law_is_3, cq_Ratio_Ratio___init___0_bottom_top, cq_Ratio___neg___1, tq_own_neg_Ratio, cq_Ratio___bool___1, tq_own_bool_Ratio, cq_Ratio_Ratio___init___1, cq_Ratio___str___1, tq_own_str_Ratio, cq_law_made_right_1, cq_law_refused_right_1, isa_NoneType_BadRatio T, isa_bool_BadRatio T, isa_int_BadRatio T, isa_str_BadRatio T, isa_list_BadRatio T, isa_tuple_BadRatio T, isa_dict_BadRatio T, isa_c_Ratio_BadRatio T, isa_x_BadRatio_BadRatio T, isa_NoneType_Ratio T, isa_bool_Ratio T, isa_int_Ratio T, isa_str_Ratio T, isa_list_Ratio T, isa_tuple_Ratio T, isa_dict_Ratio T, isa_c_Ratio_Ratio T, isa_x_BadRatio_Ratio T, isa_NoneType_bool T, isa_bool_bool T, isa_int_bool T, isa_str_bool T, isa_list_bool T, isa_tuple_bool T, isa_dict_bool T, isa_c_Ratio_bool T, isa_x_BadRatio_bool T, isa_NoneType_int T, isa_bool_int T, isa_int_int T, isa_str_int T, isa_list_int T, isa_tuple_int T, isa_dict_int T, isa_c_Ratio_int T, isa_x_BadRatio_int T, T.em_BadRatio_CreditError, np_Ratio_NoneType T, np_Ratio_bool T, np_Ratio_int T, np_Ratio_str T, np_Ratio_list T, np_Ratio_tuple T, np_Ratio_dict T, np_Ratio_c_Ratio T, lk_Ratio_top, T.na_Ratio_top, lk_Ratio_bottom, T.na_Ratio_bottom, pd_Ratio_top, pd_Ratio_bottom, lx_BadRatio_part, T.xa_BadRatio_part]
    refine refused_ok T (by have := z1d.2; omega) fun z2 z2d => ?_
    simp only [dSeq, dIte, dTB, dBin, dBinE, dUnE, dCalE, dPen, isPen, dC, dVar, dNil, dCons, dSet, dAsg, dRet, dNext, dAnd, dOr, dNot, dAndV, dOrV, dNotV, dBu, oLen, oInt, oAbs, oI, oAdd, oIx, dIx, gPen, gN, gC, gT, gZ, dLst, dTup, dPar, dSl, dNone, dPart, oSl, dCall, dIf, dDrop, fnN, inN, dAt, dSelfFld, dSelfSet, dOwn, dApp, dRaise, oNegA, oAbsA, oBoolA, oStrA, oIsN, oGcd, dFmt, dJs, dpt_one, oEq_ii, oEq_bb, oEq_ss, oNe_ii, oNe_ss, oEqA_ii, oEqA_bb, oEqA_ss, oEqA_in, oEqA_ri, oNeA_ii, oNeA_ss, oNeA_in, List.getElem?_cons_zero, List.getElem?_cons_succ, List.set_cons_zero, List.set_cons_succ, true_and, and_true, if_true, if_false, Bool.false_eq_true, List.length_cons, List.length_nil, Option.some.injEq, Int.reduceEq, ↓reduceIte, Nat.reduceAdd, Nat.reduceLeDiff, Nat.zero_le, decide_true, decide_false, Bool.not_true, Bool.not_false, D.bl.injEq, D.int.injEq, D.str.injEq, exists_eq_left', exists_eq_left, cq_law_draw_2, cq_law_pick_2, cq_law_size_1, cq_law_pair_1, cq_is_int_1, cq_Ratio_Ratio___init___2, cq_Ratio___eq___2, tq_eq_eq_Ratio, cq_Ratio___abs___1, tq_own_abs_Ratio, cq_law_divisor_2, cq_law_is_3, cq_Ratio_Ratio___init___0_bottom_top, cq_Ratio___neg___1, tq_own_neg_Ratio, cq_Ratio___bool___1, tq_own_bool_Ratio, cq_Ratio_Ratio___init___1, cq_Ratio___str___1, tq_own_str_Ratio, cq_law_made_right_1, cq_law_refused_right_1, isa_NoneType_BadRatio T, isa_bool_BadRatio T, isa_int_BadRatio T, isa_str_BadRatio T, isa_list_BadRatio T, isa_tuple_BadRatio T, isa_dict_BadRatio T, isa_c_Ratio_BadRatio T, isa_x_BadRatio_BadRatio T, isa_NoneType_Ratio T, isa_bool_Ratio T, isa_int_Ratio T, isa_str_Ratio T, isa_list_Ratio T, isa_tuple_Ratio T, isa_dict_Ratio T, isa_c_Ratio_Ratio T, isa_x_BadRatio_Ratio T, isa_NoneType_bool T, isa_bool_bool T, isa_int_bool T, isa_str_bool T, isa_list_bool T, isa_tuple_bool T, isa_dict_bool T, isa_c_Ratio_bool T, isa_x_BadRatio_bool T, isa_NoneType_int T, isa_bool_int T, isa_int_int T, isa_str_int T, isa_list_int T, isa_tuple_int T, isa_dict_int T, isa_c_Ratio_int T, isa_x_BadRatio_int T, T.em_BadRatio_CreditError, np_Ratio_NoneType T, np_Ratio_bool T, np_Ratio_int T, np_Ratio_str T, np_Ratio_list T, np_Ratio_tuple T, np_Ratio_dict T, np_Ratio_c_Ratio T, lk_Ratio_top, T.na_Ratio_top, lk_Ratio_bottom, T.na_Ratio_bottom, pd_Ratio_top, pd_Ratio_bottom, lx_BadRatio_part, T.xa_BadRatio_part]
    exact law_laps T xs z2 _ (by have := z1d.2; have := z2d.2; omega) h
end
theorem law_plain {c : Wd} {A : Ad} (T : Txt c A) (h : c.cs.length ≤ 63) : t_law c A lawN ⟨.un :: .d .pen :: List.replicate (N_law.length - 2) .un, z0⟩ := by
  have e : (Sl.un :: Sl.d .pen :: List.replicate (N_law.length - 2) Sl.un) = [.un, .d .pen, .un] := rfl
  rw [e]
  unfold t_law
  rw [dSeq]
  unfold dFor
  simp only [dRng1, dSeq, dIte, dTB, dBin, dBinE, dUnE, dCalE, dPen, isPen, dC, dVar, dNil, dCons, dSet, dAsg, dRet, dNext, dAnd, dOr, dNot, dAndV, dOrV, dNotV, dBu, oLen, oInt, oAbs, oI, oAdd, oIx, dIx, gPen, gN, gC, gT, gZ, dLst, dTup, dPar, dSl, dNone, dPart, oSl, dCall, dIf, dDrop, fnN, inN, dAt, dSelfFld, dSelfSet, dOwn, dApp, dRaise, oNegA, oAbsA, oBoolA, oStrA, oIsN, oGcd, dFmt, dJs, dpt_one, oEq_ii, oEq_bb, oEq_ss, oNe_ii, oNe_ss, oEqA_ii, oEqA_bb, oEqA_ss, oEqA_in, oEqA_ri, oNeA_ii, oNeA_ss, oNeA_in, List.getElem?_cons_zero, List.getElem?_cons_succ, List.set_cons_zero, List.set_cons_succ, true_and, and_true, if_true, if_false, Bool.false_eq_true, List.length_cons, List.length_nil, Option.some.injEq, Int.reduceEq, ↓reduceIte, Nat.reduceAdd, Nat.reduceLeDiff, Nat.zero_le, decide_true, decide_false, Bool.not_true, Bool.not_false, D.bl.injEq, D.int.injEq, D.str.injEq, exists_eq_left', exists_eq_left]
  refine ⟨by decide, ?_⟩
  refine law_laps T _ _ _ ?_ fun z' s2 => ?_
  · rw [List.length_map, List.length_range]
    decide
  simp only [u_law_1, dSeq, dIte, dTB, dBin, dBinE, dUnE, dCalE, dPen, isPen, dC, dVar, dNil, dCons, dSet, dAsg, dRet, dNext, dAnd, dOr, dNot, dAndV, dOrV, dNotV, dBu, oLen, oInt, oAbs, oI, oAdd, oIx, dIx, gPen, gN, gC, gT, gZ, dLst, dTup, dPar, dSl, dNone, dPart, oSl, dCall, dIf, dDrop, fnN, inN, dAt, dSelfFld, dSelfSet, dOwn, dApp, dRaise, oNegA, oAbsA, oBoolA, oStrA, oIsN, oGcd, dFmt, dJs, dpt_one, oEq_ii, oEq_bb, oEq_ss, oNe_ii, oNe_ss, oEqA_ii, oEqA_bb, oEqA_ss, oEqA_in, oEqA_ri, oNeA_ii, oNeA_ss, oNeA_in, List.getElem?_cons_zero, List.getElem?_cons_succ, List.set_cons_zero, List.set_cons_succ, true_and, and_true, if_true, if_false, Bool.false_eq_true, List.length_cons, List.length_nil, Option.some.injEq, Int.reduceEq, ↓reduceIte, Nat.reduceAdd, Nat.reduceLeDiff, Nat.zero_le, decide_true, decide_false, Bool.not_true, Bool.not_false, D.bl.injEq, D.int.injEq, D.str.injEq, exists_eq_left', exists_eq_left, cq_law_draw_2, cq_law_pick_2, cq_law_size_1, cq_law_pair_1, cq_is_int_1, cq_Ratio_Ratio___init___2, cq_Ratio___eq___2, tq_eq_eq_Ratio, cq_Ratio___abs___1, tq_own_abs_Ratio, cq_law_divisor_2, cq_law_is_3, cq_Ratio_Ratio___init___0_bottom_top, cq_Ratio___neg___1, tq_own_neg_Ratio, cq_Ratio___bool___1, tq_own_bool_Ratio, cq_Ratio_Ratio___init___1, cq_Ratio___str___1, tq_own_str_Ratio, cq_law_made_right_1, cq_law_refused_right_1, isa_NoneType_BadRatio T, isa_bool_BadRatio T, isa_int_BadRatio T, isa_str_BadRatio T, isa_list_BadRatio T, isa_tuple_BadRatio T, isa_dict_BadRatio T, isa_c_Ratio_BadRatio T, isa_x_BadRatio_BadRatio T, isa_NoneType_Ratio T, isa_bool_Ratio T, isa_int_Ratio T, isa_str_Ratio T, isa_list_Ratio T, isa_tuple_Ratio T, isa_dict_Ratio T, isa_c_Ratio_Ratio T, isa_x_BadRatio_Ratio T, isa_NoneType_bool T, isa_bool_bool T, isa_int_bool T, isa_str_bool T, isa_list_bool T, isa_tuple_bool T, isa_dict_bool T, isa_c_Ratio_bool T, isa_x_BadRatio_bool T, isa_NoneType_int T, isa_bool_int T, isa_int_int T, isa_str_int T, isa_list_int T, isa_tuple_int T, isa_dict_int T, isa_c_Ratio_int T, isa_x_BadRatio_int T, T.em_BadRatio_CreditError, np_Ratio_NoneType T, np_Ratio_bool T, np_Ratio_int T, np_Ratio_str T, np_Ratio_list T, np_Ratio_tuple T, np_Ratio_dict T, np_Ratio_c_Ratio T, lk_Ratio_top, T.na_Ratio_top, lk_Ratio_bottom, T.na_Ratio_bottom, pd_Ratio_top, pd_Ratio_bottom, lx_BadRatio_part, T.xa_BadRatio_part]
  have r1 : rT 0 (-5) = 0 ∧ rB 0 (-5) = 1 := by decide
  have r2 : rT 0 9 = 0 ∧ rB 0 9 = 1 := by decide
  have r3 : rT 0 1 = 0 ∧ rB 0 1 = 1 := by decide
  refine mk_ok T (by decide) (by decide) ?_
  simp only [r1, dSeq, dIte, dTB, dBin, dBinE, dUnE, dCalE, dPen, isPen, dC, dVar, dNil, dCons, dSet, dAsg, dRet, dNext, dAnd, dOr, dNot, dAndV, dOrV, dNotV, dBu, oLen, oInt, oAbs, oI, oAdd, oIx, dIx, gPen, gN, gC, gT, gZ, dLst, dTup, dPar, dSl, dNone, dPart, oSl, dCall, dIf, dDrop, fnN, inN, dAt, dSelfFld, dSelfSet, dOwn, dApp, dRaise, oNegA, oAbsA, oBoolA, oStrA, oIsN, oGcd, dFmt, dJs, dpt_one, oEq_ii, oEq_bb, oEq_ss, oNe_ii, oNe_ss, oEqA_ii, oEqA_bb, oEqA_ss, oEqA_in, oEqA_ri, oNeA_ii, oNeA_ss, oNeA_in, List.getElem?_cons_zero, List.getElem?_cons_succ, List.set_cons_zero, List.set_cons_succ, true_and, and_true, if_true, if_false, Bool.false_eq_true, List.length_cons, List.length_nil, Option.some.injEq, Int.reduceEq, ↓reduceIte, Nat.reduceAdd, Nat.reduceLeDiff, Nat.zero_le, decide_true, decide_false, Bool.not_true, Bool.not_false, D.bl.injEq, D.int.injEq, D.str.injEq, exists_eq_left', exists_eq_left, cq_law_draw_2, cq_law_pick_2, cq_law_size_1, cq_law_pair_1, cq_is_int_1, cq_Ratio_Ratio___init___2, cq_Ratio___eq___2, tq_eq_eq_Ratio, cq_Ratio___abs___1, tq_own_abs_Ratio, cq_law_divisor_2, cq_law_is_3, cq_Ratio_Ratio___init___0_bottom_top, cq_Ratio___neg___1, tq_own_neg_Ratio, cq_Ratio___bool___1, tq_own_bool_Ratio, cq_Ratio_Ratio___init___1, cq_Ratio___str___1, tq_own_str_Ratio, cq_law_made_right_1, cq_law_refused_right_1, isa_NoneType_BadRatio T, isa_bool_BadRatio T, isa_int_BadRatio T, isa_str_BadRatio T, isa_list_BadRatio T, isa_tuple_BadRatio T, isa_dict_BadRatio T, isa_c_Ratio_BadRatio T, isa_x_BadRatio_BadRatio T, isa_NoneType_Ratio T, isa_bool_Ratio T, isa_int_Ratio T, isa_str_Ratio T, isa_list_Ratio T, isa_tuple_Ratio T, isa_dict_Ratio T, isa_c_Ratio_Ratio T, isa_x_BadRatio_Ratio T, isa_NoneType_bool T, isa_bool_bool T, isa_int_bool T, isa_str_bool T, isa_list_bool T, isa_tuple_bool T, isa_dict_bool T, isa_c_Ratio_bool T, isa_x_BadRatio_bool T, isa_NoneType_int T, isa_bool_int T, isa_int_int T, isa_str_int T, isa_list_int T, isa_tuple_int T, isa_dict_int T, isa_c_Ratio_int T, isa_x_BadRatio_int T, T.em_BadRatio_CreditError, np_Ratio_NoneType T, np_Ratio_bool T, np_Ratio_int T, np_Ratio_str T, np_Ratio_list T, np_Ratio_tuple T, np_Ratio_dict T, np_Ratio_c_Ratio T, lk_Ratio_top, T.na_Ratio_top, lk_Ratio_bottom, T.na_Ratio_bottom, pd_Ratio_top, pd_Ratio_bottom, lx_BadRatio_part, T.xa_BadRatio_part]
  refine mk_ok T (by decide) (by decide) ?_
  simp only [r1, dSeq, dIte, dTB, dBin, dBinE, dUnE, dCalE, dPen, isPen, dC, dVar, dNil, dCons, dSet, dAsg, dRet, dNext, dAnd, dOr, dNot, dAndV, dOrV, dNotV, dBu, oLen, oInt, oAbs, oI, oAdd, oIx, dIx, gPen, gN, gC, gT, gZ, dLst, dTup, dPar, dSl, dNone, dPart, oSl, dCall, dIf, dDrop, fnN, inN, dAt, dSelfFld, dSelfSet, dOwn, dApp, dRaise, oNegA, oAbsA, oBoolA, oStrA, oIsN, oGcd, dFmt, dJs, dpt_one, oEq_ii, oEq_bb, oEq_ss, oNe_ii, oNe_ss, oEqA_ii, oEqA_bb, oEqA_ss, oEqA_in, oEqA_ri, oNeA_ii, oNeA_ss, oNeA_in, List.getElem?_cons_zero, List.getElem?_cons_succ, List.set_cons_zero, List.set_cons_succ, true_and, and_true, if_true, if_false, Bool.false_eq_true, List.length_cons, List.length_nil, Option.some.injEq, Int.reduceEq, ↓reduceIte, Nat.reduceAdd, Nat.reduceLeDiff, Nat.zero_le, decide_true, decide_false, Bool.not_true, Bool.not_false, D.bl.injEq, D.int.injEq, D.str.injEq, exists_eq_left', exists_eq_left, cq_law_draw_2, cq_law_pick_2, cq_law_size_1, cq_law_pair_1, cq_is_int_1, cq_Ratio_Ratio___init___2, cq_Ratio___eq___2, tq_eq_eq_Ratio, cq_Ratio___abs___1, tq_own_abs_Ratio, cq_law_divisor_2, cq_law_is_3, cq_Ratio_Ratio___init___0_bottom_top, cq_Ratio___neg___1, tq_own_neg_Ratio, cq_Ratio___bool___1, tq_own_bool_Ratio, cq_Ratio_Ratio___init___1, cq_Ratio___str___1, tq_own_str_Ratio, cq_law_made_right_1, cq_law_refused_right_1, isa_NoneType_BadRatio T, isa_bool_BadRatio T, isa_int_BadRatio T, isa_str_BadRatio T, isa_list_BadRatio T, isa_tuple_BadRatio T, isa_dict_BadRatio T, isa_c_Ratio_BadRatio T, isa_x_BadRatio_BadRatio T, isa_NoneType_Ratio T, isa_bool_Ratio T, isa_int_Ratio T, isa_str_Ratio T, isa_list_Ratio T, isa_tuple_Ratio T, isa_dict_Ratio T, isa_c_Ratio_Ratio T, isa_x_BadRatio_Ratio T, isa_NoneType_bool T, isa_bool_bool T, isa_int_bool T, isa_str_bool T, isa_list_bool T, isa_tuple_bool T, isa_dict_bool T, isa_c_Ratio_bool T, isa_x_BadRatio_bool T, isa_NoneType_int T, isa_bool_int T, isa_int_int T, isa_str_int T, isa_list_int T, isa_tuple_int T, isa_dict_int T, isa_c_Ratio_int T, isa_x_BadRatio_int T, T.em_BadRatio_CreditError, np_Ratio_NoneType T, np_Ratio_bool T, np_Ratio_int T, np_Ratio_str T, np_Ratio_list T, np_Ratio_tuple T, np_Ratio_dict T, np_Ratio_c_Ratio T, lk_Ratio_top, T.na_Ratio_top, lk_Ratio_bottom, T.na_Ratio_bottom, pd_Ratio_top, pd_Ratio_bottom, lx_BadRatio_part, T.xa_BadRatio_part]
  refine mk_ok T (by decide) (by decide) ?_
  simp only [r2, dSeq, dIte, dTB, dBin, dBinE, dUnE, dCalE, dPen, isPen, dC, dVar, dNil, dCons, dSet, dAsg, dRet, dNext, dAnd, dOr, dNot, dAndV, dOrV, dNotV, dBu, oLen, oInt, oAbs, oI, oAdd, oIx, dIx, gPen, gN, gC, gT, gZ, dLst, dTup, dPar, dSl, dNone, dPart, oSl, dCall, dIf, dDrop, fnN, inN, dAt, dSelfFld, dSelfSet, dOwn, dApp, dRaise, oNegA, oAbsA, oBoolA, oStrA, oIsN, oGcd, dFmt, dJs, dpt_one, oEq_ii, oEq_bb, oEq_ss, oNe_ii, oNe_ss, oEqA_ii, oEqA_bb, oEqA_ss, oEqA_in, oEqA_ri, oNeA_ii, oNeA_ss, oNeA_in, List.getElem?_cons_zero, List.getElem?_cons_succ, List.set_cons_zero, List.set_cons_succ, true_and, and_true, if_true, if_false, Bool.false_eq_true, List.length_cons, List.length_nil, Option.some.injEq, Int.reduceEq, ↓reduceIte, Nat.reduceAdd, Nat.reduceLeDiff, Nat.zero_le, decide_true, decide_false, Bool.not_true, Bool.not_false, D.bl.injEq, D.int.injEq, D.str.injEq, exists_eq_left', exists_eq_left, cq_law_draw_2, cq_law_pick_2, cq_law_size_1, cq_law_pair_1, cq_is_int_1, cq_Ratio_Ratio___init___2, cq_Ratio___eq___2, tq_eq_eq_Ratio, cq_Ratio___abs___1, tq_own_abs_Ratio, cq_law_divisor_2, cq_law_is_3, cq_Ratio_Ratio___init___0_bottom_top, cq_Ratio___neg___1, tq_own_neg_Ratio, cq_Ratio___bool___1, tq_own_bool_Ratio, cq_Ratio_Ratio___init___1, cq_Ratio___str___1, tq_own_str_Ratio, cq_law_made_right_1, cq_law_refused_right_1, isa_NoneType_BadRatio T, isa_bool_BadRatio T, isa_int_BadRatio T, isa_str_BadRatio T, isa_list_BadRatio T, isa_tuple_BadRatio T, isa_dict_BadRatio T, isa_c_Ratio_BadRatio T, isa_x_BadRatio_BadRatio T, isa_NoneType_Ratio T, isa_bool_Ratio T, isa_int_Ratio T, isa_str_Ratio T, isa_list_Ratio T, isa_tuple_Ratio T, isa_dict_Ratio T, isa_c_Ratio_Ratio T, isa_x_BadRatio_Ratio T, isa_NoneType_bool T, isa_bool_bool T, isa_int_bool T, isa_str_bool T, isa_list_bool T, isa_tuple_bool T, isa_dict_bool T, isa_c_Ratio_bool T, isa_x_BadRatio_bool T, isa_NoneType_int T, isa_bool_int T, isa_int_int T, isa_str_int T, isa_list_int T, isa_tuple_int T, isa_dict_int T, isa_c_Ratio_int T, isa_x_BadRatio_int T, T.em_BadRatio_CreditError, np_Ratio_NoneType T, np_Ratio_bool T, np_Ratio_int T, np_Ratio_str T, np_Ratio_list T, np_Ratio_tuple T, np_Ratio_dict T, np_Ratio_c_Ratio T, lk_Ratio_top, T.na_Ratio_top, lk_Ratio_bottom, T.na_Ratio_bottom, pd_Ratio_top, pd_Ratio_bottom, lx_BadRatio_part, T.xa_BadRatio_part]
  refine (eq_ri T).mpr ?_
  simp only [dSeq, dIte, dTB, dBin, dBinE, dUnE, dCalE, dPen, isPen, dC, dVar, dNil, dCons, dSet, dAsg, dRet, dNext, dAnd, dOr, dNot, dAndV, dOrV, dNotV, dBu, oLen, oInt, oAbs, oI, oAdd, oIx, dIx, gPen, gN, gC, gT, gZ, dLst, dTup, dPar, dSl, dNone, dPart, oSl, dCall, dIf, dDrop, fnN, inN, dAt, dSelfFld, dSelfSet, dOwn, dApp, dRaise, oNegA, oAbsA, oBoolA, oStrA, oIsN, oGcd, dFmt, dJs, dpt_one, oEq_ii, oEq_bb, oEq_ss, oNe_ii, oNe_ss, oEqA_ii, oEqA_bb, oEqA_ss, oEqA_in, oEqA_ri, oNeA_ii, oNeA_ss, oNeA_in, List.getElem?_cons_zero, List.getElem?_cons_succ, List.set_cons_zero, List.set_cons_succ, true_and, and_true, if_true, if_false, Bool.false_eq_true, List.length_cons, List.length_nil, Option.some.injEq, Int.reduceEq, ↓reduceIte, Nat.reduceAdd, Nat.reduceLeDiff, Nat.zero_le, decide_true, decide_false, Bool.not_true, Bool.not_false, D.bl.injEq, D.int.injEq, D.str.injEq, exists_eq_left', exists_eq_left, cq_law_draw_2, cq_law_pick_2, cq_law_size_1, cq_law_pair_1, cq_is_int_1, cq_Ratio_Ratio___init___2, cq_Ratio___eq___2, tq_eq_eq_Ratio, cq_Ratio___abs___1, tq_own_abs_Ratio, cq_law_divisor_2, cq_law_is_3, cq_Ratio_Ratio___init___0_bottom_top, cq_Ratio___neg___1, tq_own_neg_Ratio, cq_Ratio___bool___1, tq_own_bool_Ratio, cq_Ratio_Ratio___init___1, cq_Ratio___str___1, tq_own_str_Ratio, cq_law_made_right_1, cq_law_refused_right_1, isa_NoneType_BadRatio T, isa_bool_BadRatio T, isa_int_BadRatio T, isa_str_BadRatio T, isa_list_BadRatio T, isa_tuple_BadRatio T, isa_dict_BadRatio T, isa_c_Ratio_BadRatio T, isa_x_BadRatio_BadRatio T, isa_NoneType_Ratio T, isa_bool_Ratio T, isa_int_Ratio T, isa_str_Ratio T, isa_list_Ratio T, isa_tuple_Ratio T, isa_dict_Ratio T, isa_c_Ratio_Ratio T, isa_x_BadRatio_Ratio T, isa_NoneType_bool T, isa_bool_bool T, isa_int_bool T, isa_str_bool T, isa_list_bool T, isa_tuple_bool T, isa_dict_bool T, isa_c_Ratio_bool T, isa_x_BadRatio_bool T, isa_NoneType_int T, isa_bool_int T, isa_int_int T, isa_str_int T, isa_list_int T, isa_tuple_int T, isa_dict_int T, isa_c_Ratio_int T, isa_x_BadRatio_int T, T.em_BadRatio_CreditError, np_Ratio_NoneType T, np_Ratio_bool T, np_Ratio_int T, np_Ratio_str T, np_Ratio_list T, np_Ratio_tuple T, np_Ratio_dict T, np_Ratio_c_Ratio T, lk_Ratio_top, T.na_Ratio_top, lk_Ratio_bottom, T.na_Ratio_bottom, pd_Ratio_top, pd_Ratio_bottom, lx_BadRatio_part, T.xa_BadRatio_part]
  refine mk_ok T (by decide) (by decide) ?_
  simp only [r3, dSeq, dIte, dTB, dBin, dBinE, dUnE, dCalE, dPen, isPen, dC, dVar, dNil, dCons, dSet, dAsg, dRet, dNext, dAnd, dOr, dNot, dAndV, dOrV, dNotV, dBu, oLen, oInt, oAbs, oI, oAdd, oIx, dIx, gPen, gN, gC, gT, gZ, dLst, dTup, dPar, dSl, dNone, dPart, oSl, dCall, dIf, dDrop, fnN, inN, dAt, dSelfFld, dSelfSet, dOwn, dApp, dRaise, oNegA, oAbsA, oBoolA, oStrA, oIsN, oGcd, dFmt, dJs, dpt_one, oEq_ii, oEq_bb, oEq_ss, oNe_ii, oNe_ss, oEqA_ii, oEqA_bb, oEqA_ss, oEqA_in, oEqA_ri, oNeA_ii, oNeA_ss, oNeA_in, List.getElem?_cons_zero, List.getElem?_cons_succ, List.set_cons_zero, List.set_cons_succ, true_and, and_true, if_true, if_false, Bool.false_eq_true, List.length_cons, List.length_nil, Option.some.injEq, Int.reduceEq, ↓reduceIte, Nat.reduceAdd, Nat.reduceLeDiff, Nat.zero_le, decide_true, decide_false, Bool.not_true, Bool.not_false, D.bl.injEq, D.int.injEq, D.str.injEq, exists_eq_left', exists_eq_left, cq_law_draw_2, cq_law_pick_2, cq_law_size_1, cq_law_pair_1, cq_is_int_1, cq_Ratio_Ratio___init___2, cq_Ratio___eq___2, tq_eq_eq_Ratio, cq_Ratio___abs___1, tq_own_abs_Ratio, cq_law_divisor_2, cq_law_is_3, cq_Ratio_Ratio___init___0_bottom_top, cq_Ratio___neg___1, tq_own_neg_Ratio, cq_Ratio___bool___1, tq_own_bool_Ratio, cq_Ratio_Ratio___init___1, cq_Ratio___str___1, tq_own_str_Ratio, cq_law_made_right_1, cq_law_refused_right_1, isa_NoneType_BadRatio T, isa_bool_BadRatio T, isa_int_BadRatio T, isa_str_BadRatio T, isa_list_BadRatio T, isa_tuple_BadRatio T, isa_dict_BadRatio T, isa_c_Ratio_BadRatio T, isa_x_BadRatio_BadRatio T, isa_NoneType_Ratio T, isa_bool_Ratio T, isa_int_Ratio T, isa_str_Ratio T, isa_list_Ratio T, isa_tuple_Ratio T, isa_dict_Ratio T, isa_c_Ratio_Ratio T, isa_x_BadRatio_Ratio T, isa_NoneType_bool T, isa_bool_bool T, isa_int_bool T, isa_str_bool T, isa_list_bool T, isa_tuple_bool T, isa_dict_bool T, isa_c_Ratio_bool T, isa_x_BadRatio_bool T, isa_NoneType_int T, isa_bool_int T, isa_int_int T, isa_str_int T, isa_list_int T, isa_tuple_int T, isa_dict_int T, isa_c_Ratio_int T, isa_x_BadRatio_int T, T.em_BadRatio_CreditError, np_Ratio_NoneType T, np_Ratio_bool T, np_Ratio_int T, np_Ratio_str T, np_Ratio_list T, np_Ratio_tuple T, np_Ratio_dict T, np_Ratio_c_Ratio T, lk_Ratio_top, T.na_Ratio_top, lk_Ratio_bottom, T.na_Ratio_bottom, pd_Ratio_top, pd_Ratio_bottom, lx_BadRatio_part, T.xa_BadRatio_part]
  refine (bool_ok T).mpr ⟨_, rfl, ?_⟩
  exact ⟨⟨rfl, rfl⟩, rfl⟩
end K02

namespace K02
open PySem L2 DL PySem.Spec PyProof.Rows
theorem law_fn {P : Program} {w : World} {K : PySem.W.Frag} {mg : Str → Option Value} {base : Heap} {A : Ad} {ts : List Tb} (T : ∀ p cs, Txt (lawWd P w K mg base p cs (tbs ts)) A) : ∃ fd, FunD K "law" "law" (defArgs s_law) (defBody s_law) (defScope s_law) [] [] A.f_law fd ∧ FnG (lawWd P w K mg base 0 [] (tbs ts)) 10 A.f_law fd ["_law_script"] (spLaw K (tbs ts)) := by
  obtain ⟨fdP, FP⟩ := (T 0 []).F_law_pen
  obtain ⟨fd, F⟩ := (T 0 []).F_law
  have GP : FnG (lawWd P w K mg base 0 [] (tbs ts)) 1 A.f_law_pen fdP ["_law_script"] (spPen K) := pen_ok (c := lawWd P w K mg base 0 [] (tbs ts)) FP ⟨rfl, rfl, rfl, by decide +kernel, rfl, by decide +kernel, by decide +kernel⟩ (.inl rfl) rfl (T 0 []).no_list
  exact ⟨fd, F, law_ok (N := N_law) (n := 1) (t := fun c => t_law c A) F sc_law rfl rfl rfl (.inl rfl) (by first | exact .inl rfl | exact .inr rfl) rfl GP FP.kp (T 0 []).mg_law_pen (kbn_f FP fun _ _ _ _ _ _ us hl => match us, hl with | [_], _ => rfl) (by decide) (fun env h => rfl)
    (fun X cf W hc B at_ => by
      obtain ⟨p, cs, e⟩ := hc
      exact dd_law (by rw [e]; exact T p cs) X cf W rfl B)
    (fun p ns hn => law_plain (T p ns) hn)⟩
theorem done {l : PySem.W.OpenLaw} {q : Program} {loose : List Str} {mean : ExcName → Option Value} {mb : Str → Option Value} {w : World} {K : PySem.W.Frag} {h : Heap} {mg : Str → Option Value} {fa : Addr} {f_law f_law_pen f_law_made_right f_law_pair f_law_draw f_law_pick f_law_size f_Ratio___init__ c_Ratio f_is_int c_BadRatio f_BadRatio_init f_law_is f_Ratio___eq__ f_law_divisor f_Ratio___abs__ f_Ratio___neg__ f_Ratio___bool__ f_Ratio___str__ f_law_refused_right f_law_heard c_CreditError cc_law_refused_right pt_law_refused_right : Addr} (X : K.In h) (TP : Top q loose mean mg mb h) (hfa : mg "law" = some (.ref fa))
    {oc_law kV_law dc_law pm_law cd_law ct_law : Value} {od_law an_law : Option Addr} {sl_law : Array (Option Value)}
    {oc_law_pen kV_law_pen dc_law_pen pm_law_pen cd_law_pen ct_law_pen : Value} {od_law_pen an_law_pen : Option Addr} {sl_law_pen : Array (Option Value)}
    {oc_law_made_right kV_law_made_right dc_law_made_right pm_law_made_right cd_law_made_right ct_law_made_right : Value} {od_law_made_right an_law_made_right : Option Addr} {sl_law_made_right : Array (Option Value)}
    {oc_law_pair kV_law_pair dc_law_pair pm_law_pair cd_law_pair ct_law_pair : Value} {od_law_pair an_law_pair : Option Addr} {sl_law_pair : Array (Option Value)}
    {oc_law_draw kV_law_draw dc_law_draw pm_law_draw cd_law_draw ct_law_draw : Value} {od_law_draw an_law_draw : Option Addr} {sl_law_draw : Array (Option Value)}
    {oc_law_pick kV_law_pick dc_law_pick pm_law_pick cd_law_pick ct_law_pick : Value} {od_law_pick an_law_pick : Option Addr} {sl_law_pick : Array (Option Value)}
    {oc_law_size kV_law_size dc_law_size pm_law_size cd_law_size ct_law_size : Value} {od_law_size an_law_size : Option Addr} {sl_law_size : Array (Option Value)}
    {oc_Ratio___init__ kV_Ratio___init__ dc_Ratio___init__ pm_Ratio___init__ cd_Ratio___init__ ct_Ratio___init__ : Value} {od_Ratio___init__ an_Ratio___init__ : Option Addr} {sl_Ratio___init__ : Array (Option Value)}
    {dt_Ratio___init__ : Addr} {oe_Ratio___init__ : Value} {of_Ratio___init__ : Option Addr} {it_Ratio___init__ : Array Value} {im_Ratio___init__ : Nat} {sm_Ratio___init__ : Array (Option Value)}
    {oc_is_int kV_is_int dc_is_int pm_is_int cd_is_int ct_is_int : Value} {od_is_int an_is_int : Option Addr} {sl_is_int : Array (Option Value)}
    {oc_BadRatio_init kV_BadRatio_init dc_BadRatio_init pm_BadRatio_init ct_BadRatio_init : Value} {od_BadRatio_init an_BadRatio_init : Option Addr} {sl_BadRatio_init : Array (Option Value)} {cc_BadRatio_init cf_BadRatio_init : Addr}
    {nm_BadRatio_init : Str} {q_BadRatio_init : Str} {N_BadRatio_init : Addr} {bs_BadRatio_init : List Value} {bm_BadRatio_init : List Value} {sn_BadRatio_init : List Str} {sub_BadRatio_init : List Value} {ab_BadRatio_init : Bool} {col_BadRatio_init : Option Bool} {dd_BadRatio_init : Option Addr} {k0_BadRatio_init : Option Value} {k1_BadRatio_init : Option Value} {k2_BadRatio_init : Option Value} {k3_BadRatio_init : Option Value} {k5_BadRatio_init : Option Value}
    {fc_BadRatio_init : Value} {fd_BadRatio_init : Option Addr} {fv_BadRatio_init : Array Value} {fs_BadRatio_init : Array (Option Value)} {ff_BadRatio_init : Str} {ft_BadRatio_init : Tok} {gc_BadRatio_init : Value} {gd_BadRatio_init : Option Addr} {gs_BadRatio_init : Array (Option Value)}
    {oc_law_is kV_law_is dc_law_is pm_law_is cd_law_is ct_law_is : Value} {od_law_is an_law_is : Option Addr} {sl_law_is : Array (Option Value)}
    {oc_Ratio___eq__ kV_Ratio___eq__ dc_Ratio___eq__ pm_Ratio___eq__ cd_Ratio___eq__ ct_Ratio___eq__ : Value} {od_Ratio___eq__ an_Ratio___eq__ : Option Addr} {sl_Ratio___eq__ : Array (Option Value)}
    {oc_law_divisor kV_law_divisor dc_law_divisor pm_law_divisor cd_law_divisor ct_law_divisor : Value} {od_law_divisor an_law_divisor : Option Addr} {sl_law_divisor : Array (Option Value)}
    {oc_Ratio___abs__ kV_Ratio___abs__ dc_Ratio___abs__ pm_Ratio___abs__ cd_Ratio___abs__ ct_Ratio___abs__ : Value} {od_Ratio___abs__ an_Ratio___abs__ : Option Addr} {sl_Ratio___abs__ : Array (Option Value)}
    {oc_Ratio___neg__ kV_Ratio___neg__ dc_Ratio___neg__ pm_Ratio___neg__ cd_Ratio___neg__ ct_Ratio___neg__ : Value} {od_Ratio___neg__ an_Ratio___neg__ : Option Addr} {sl_Ratio___neg__ : Array (Option Value)}
    {oc_Ratio___bool__ kV_Ratio___bool__ dc_Ratio___bool__ pm_Ratio___bool__ cd_Ratio___bool__ ct_Ratio___bool__ : Value} {od_Ratio___bool__ an_Ratio___bool__ : Option Addr} {sl_Ratio___bool__ : Array (Option Value)}
    {oc_Ratio___str__ kV_Ratio___str__ dc_Ratio___str__ pm_Ratio___str__ cd_Ratio___str__ ct_Ratio___str__ : Value} {od_Ratio___str__ an_Ratio___str__ : Option Addr} {sl_Ratio___str__ : Array (Option Value)}
    {oc_law_refused_right kV_law_refused_right dc_law_refused_right pm_law_refused_right cd_law_refused_right ct_law_refused_right : Value} {od_law_refused_right an_law_refused_right : Option Addr} {sl_law_refused_right : Array (Option Value)}
    {oc_law_heard kV_law_heard dc_law_heard pm_law_heard cd_law_heard ct_law_heard : Value} {od_law_heard an_law_heard : Option Addr} {sl_law_heard : Array (Option Value)}
    {ko_law_refused_right : Value} {kd_law_refused_right : Option Addr} {kv_law_refused_right : Array Value} {ks_law_refused_right : Array (Option Value)}
    (h_a_law : PySem.W.nsIn K mainGlobals "law" = some (some (.ref f_law)))
    (h_l_law : K.lookup f_law = some ⟨oc_law, od_law, .func (PySem.W.fnOf "law" "law" (defArgs s_law) (defBody s_law) (defScope s_law) .none kV_law dc_law pm_law an_law cd_law ct_law), sl_law⟩)
    (h_c_law : PySem.W.codeIn K cd_law "law" = true)
    (h_k_law : PySem.W.keepIn K (.ref f_law) = true)
    (h_a_law_pen : PySem.W.nsIn K mainGlobals "_law_pen" = some (some (.ref f_law_pen)))
    (h_l_law_pen : K.lookup f_law_pen = some ⟨oc_law_pen, od_law_pen, .func (PySem.W.fnOf "_law_pen" "_law_pen" (defArgs s_law_pen) (defBody s_law_pen) (defScope s_law_pen) .none kV_law_pen dc_law_pen pm_law_pen an_law_pen cd_law_pen ct_law_pen), sl_law_pen⟩)
    (h_c_law_pen : PySem.W.codeIn K cd_law_pen "_law_pen" = true)
    (h_k_law_pen : PySem.W.keepIn K (.ref f_law_pen) = true)
    (h_no_list : PySem.W.nsIn K mainGlobals "list" = some none)
    (h_no_range : PySem.W.nsIn K mainGlobals "range" = some none)
    (h_a_law_made_right : PySem.W.nsIn K mainGlobals "_law_made_right" = some (some (.ref f_law_made_right)))
    (h_l_law_made_right : K.lookup f_law_made_right = some ⟨oc_law_made_right, od_law_made_right, .func (PySem.W.fnOf "_law_made_right" "_law_made_right" (defArgs s_law_made_right) (defBody s_law_made_right) (defScope s_law_made_right) .none kV_law_made_right dc_law_made_right pm_law_made_right an_law_made_right cd_law_made_right ct_law_made_right), sl_law_made_right⟩)
    (h_c_law_made_right : PySem.W.codeIn K cd_law_made_right "_law_made_right" = true)
    (h_k_law_made_right : PySem.W.keepIn K (.ref f_law_made_right) = true)
    (h_a_law_pair : PySem.W.nsIn K mainGlobals "_law_pair" = some (some (.ref f_law_pair)))
    (h_l_law_pair : K.lookup f_law_pair = some ⟨oc_law_pair, od_law_pair, .func (PySem.W.fnOf "_law_pair" "_law_pair" (defArgs s_law_pair) (defBody s_law_pair) (defScope s_law_pair) .none kV_law_pair dc_law_pair pm_law_pair an_law_pair cd_law_pair ct_law_pair), sl_law_pair⟩)
    (h_c_law_pair : PySem.W.codeIn K cd_law_pair "_law_pair" = true)
    (h_k_law_pair : PySem.W.keepIn K (.ref f_law_pair) = true)
    (h_a_law_draw : PySem.W.nsIn K mainGlobals "_law_draw" = some (some (.ref f_law_draw)))
    (h_l_law_draw : K.lookup f_law_draw = some ⟨oc_law_draw, od_law_draw, .func (PySem.W.fnOf "_law_draw" "_law_draw" (defArgs s_law_draw) (defBody s_law_draw) (defScope s_law_draw) .none kV_law_draw dc_law_draw pm_law_draw an_law_draw cd_law_draw ct_law_draw), sl_law_draw⟩)
    (h_c_law_draw : PySem.W.codeIn K cd_law_draw "_law_draw" = true)
    (h_k_law_draw : PySem.W.keepIn K (.ref f_law_draw) = true)
    (h_no_int : PySem.W.nsIn K mainGlobals "int" = some none)
    (h_no_len : PySem.W.nsIn K mainGlobals "len" = some none)
    (h_no_abs : PySem.W.nsIn K mainGlobals "abs" = some none)
    (h_a_law_pick : PySem.W.nsIn K mainGlobals "_law_pick" = some (some (.ref f_law_pick)))
    (h_l_law_pick : K.lookup f_law_pick = some ⟨oc_law_pick, od_law_pick, .func (PySem.W.fnOf "_law_pick" "_law_pick" (defArgs s_law_pick) (defBody s_law_pick) (defScope s_law_pick) .none kV_law_pick dc_law_pick pm_law_pick an_law_pick cd_law_pick ct_law_pick), sl_law_pick⟩)
    (h_c_law_pick : PySem.W.codeIn K cd_law_pick "_law_pick" = true)
    (h_k_law_pick : PySem.W.keepIn K (.ref f_law_pick) = true)
    (h_a_law_size : PySem.W.nsIn K mainGlobals "_law_size" = some (some (.ref f_law_size)))
    (h_l_law_size : K.lookup f_law_size = some ⟨oc_law_size, od_law_size, .func (PySem.W.fnOf "_law_size" "_law_size" (defArgs s_law_size) (defBody s_law_size) (defScope s_law_size) .none kV_law_size dc_law_size pm_law_size an_law_size cd_law_size ct_law_size), sl_law_size⟩)
    (h_c_law_size : PySem.W.codeIn K cd_law_size "_law_size" = true)
    (h_k_law_size : PySem.W.keepIn K (.ref f_law_size) = true)
    (h_g_Ratio : PySem.W.nsIn K mainGlobals "Ratio" = some (some (.ref c_Ratio)))
    (h_a_Ratio___init__ : PySem.W.findIn K (.ref c_Ratio) "__init__" = some (some (.ref f_Ratio___init__)))
    (h_i_Ratio___init__ : PySem.W.isFn K (.ref f_Ratio___init__) = true)
    (h_l_Ratio___init__ : K.lookup f_Ratio___init__ = some ⟨oc_Ratio___init__, od_Ratio___init__, .func (PySem.W.fnOf "__init__" "Ratio.__init__" (defArgs s_Ratio___init__) (defBody s_Ratio___init__) (defScope s_Ratio___init__) (.ref dt_Ratio___init__) kV_Ratio___init__ dc_Ratio___init__ pm_Ratio___init__ an_Ratio___init__ cd_Ratio___init__ ct_Ratio___init__), sl_Ratio___init__⟩)
    (h_c_Ratio___init__ : PySem.W.codeIn K cd_Ratio___init__ "Ratio.__init__" = true)
    (h_k_Ratio___init__ : PySem.W.keepIn K (.ref f_Ratio___init__) = true)
    (h_dt_Ratio___init__ : K.lookup dt_Ratio___init__ = some ⟨oe_Ratio___init__, of_Ratio___init__, .seq it_Ratio___init__ im_Ratio___init__, sm_Ratio___init__⟩)
    (h_dv_Ratio___init__ : Vals [(.int 1 : V)] it_Ratio___init__.toList)
    (h_a_is_int : PySem.W.nsIn K mainGlobals "is_int" = some (some (.ref f_is_int)))
    (h_l_is_int : K.lookup f_is_int = some ⟨oc_is_int, od_is_int, .func (PySem.W.fnOf "is_int" "is_int" (defArgs s_is_int) (defBody s_is_int) (defScope s_is_int) .none kV_is_int dc_is_int pm_is_int an_is_int cd_is_int ct_is_int), sl_is_int⟩)
    (h_c_is_int : PySem.W.codeIn K cd_is_int "is_int" = true)
    (h_k_is_int : PySem.W.keepIn K (.ref f_is_int) = true)
    (h_no_isinstance : PySem.W.nsIn K mainGlobals "isinstance" = some none)
    (h_no_bool : PySem.W.nsIn K mainGlobals "bool" = some none)
    (h_g_BadRatio : PySem.W.nsIn K mainGlobals "BadRatio" = some (some (.ref c_BadRatio)))
    (h_oc_BadRatio_init : K.lookup c_BadRatio = some (excClassObj nm_BadRatio_init q_BadRatio_init c_BadRatio N_BadRatio_init bs_BadRatio_init bm_BadRatio_init true sn_BadRatio_init sub_BadRatio_init ab_BadRatio_init col_BadRatio_init dd_BadRatio_init k0_BadRatio_init k1_BadRatio_init k2_BadRatio_init k3_BadRatio_init k5_BadRatio_init "ValueError.__new__"))
    (h_rv_BadRatio_init : PySem.HandSPX.refsVE bm_BadRatio_init = true)
    (h_sa_BadRatio : PySem.W.findIn K (.ref c_BadRatio) "__setattr__" = some (some (.builtin "object.__setattr__")))
    (h_bx_BadRatio : PySem.W.subIn K (.ref c_BadRatio) (.type "BaseException") = some true)
    (h_tc_BadRatio : PySem.W.typeIn K (.ref c_BadRatio) = some (.type "type"))
    (h_kc_BadRatio : PySem.W.keepIn K (.ref c_BadRatio) = true)
    (h_a_BadRatio_init : PySem.W.findIn K (.ref c_BadRatio) "__init__" = some (some (.ref f_BadRatio_init)))
    (h_ty_BadRatio_init : PySem.W.typeIn K (.ref f_BadRatio_init) = some (.type "function"))
    (h_nx_BadRatio_part : PySem.W.findIn K (.ref c_BadRatio) "part" = some none)
    (h_l_BadRatio_init : K.lookup f_BadRatio_init = some ⟨oc_BadRatio_init, od_BadRatio_init, .func (PySem.W.fnX "__init__" "BadRatio.__init__" (defArgs s_BadRatio___init__) (defBody s_BadRatio___init__) (defScope s_BadRatio___init__) [(("__class__" : Str), cc_BadRatio_init)] .none kV_BadRatio_init dc_BadRatio_init pm_BadRatio_init an_BadRatio_init (.ref cf_BadRatio_init) ct_BadRatio_init), sl_BadRatio_init⟩)
    (h_c_BadRatio_init : PySem.W.codeIn K (.ref cf_BadRatio_init) "BadRatio.__init__" = true)
    (h_f1_BadRatio_init : K.lookup cf_BadRatio_init = some ⟨fc_BadRatio_init, fd_BadRatio_init, .fields fv_BadRatio_init, fs_BadRatio_init⟩)
    (h_f2_BadRatio_init : fv_BadRatio_init[2]? = some (.str ff_BadRatio_init ft_BadRatio_init))
    (h_f3_BadRatio_init : ((l.prog.main.file : Str) == ff_BadRatio_init) = true)
    (h_ce_BadRatio_init : K.lookup cc_BadRatio_init = some ⟨gc_BadRatio_init, gd_BadRatio_init, .cell (some (.ref c_BadRatio)), gs_BadRatio_init⟩)
    (h_top_super : (l.prog.main.scope.names.lookup ("super" : Str)).isSome = false)
    (h_no_super : PySem.W.nsIn K mainGlobals "super" = some none)
    (h_st_any : PySem.W.nsIn K cStatics "thirdparty.any" = some none)
    (h_su_BadRatio_init : PySem.W.ks_superIn K c_BadRatio c_BadRatio "__init__" = some (some (.builtin veI)))
    (h_sb_BadRatio_init : PySem.W.subIn K (.ref c_BadRatio) (.type "ValueError") = some true)
    (h_me_BadRatio_init : PySem.W.mroIn K c_BadRatio (.ref c_BadRatio) = some true)
    (h_cg : PySem.W.specialIn K (.builtin "object.__class__") "__get__" = some (some (.builtin "getset_descriptor.__get__")))
    (h_ct : PySem.W.takesIn K (.builtin "object.__class__") = some true)
    (h_xg_BadRatio : PySem.W.findIn K (.ref c_BadRatio) "__getattribute__" = some (some (.builtin "BaseException.__getattribute__")))
    (h_xa_BadRatio : PySem.W.findIn K (.ref c_BadRatio) "__getattr__" = some none)
    (h_xd_BadRatio : PySem.W.hasDictIn K c_BadRatio = true)
    (h_cc_BadRatio : PySem.W.findIn K (.ref c_BadRatio) "__class__" = some (some (.builtin "object.__class__")))
    (h_ob_BadRatio : PySem.W.mroIn K c_BadRatio (.type "object") = some true)
    (h_mo_gcd : PySem.W.nsIn K mainGlobals "gcd" = some (some (.builtin "math.gcd")))
    (h_pg_Ratio : PySem.W.plainGet K c_Ratio Str.empty = true)
    (h_hd_Ratio : PySem.W.hasDictIn K c_Ratio = true)
    (h_po_Ratio : PySem.W.plainOver K c_Ratio = true)
    (h_sa_Ratio : PySem.W.findIn K (.ref c_Ratio) "__setattr__" = some (some (.builtin "object.__setattr__")))
    (h_na_Ratio_top : PySem.W.findIn K (.ref c_Ratio) "top" = some none)
    (h_na_Ratio_bottom : PySem.W.findIn K (.ref c_Ratio) "bottom" = some none)
    (h_mk_Ratio : PySem.W.makesIn K c_Ratio = true)
    (h_kc_Ratio : PySem.W.keepIn K (.ref c_Ratio) = true)
    (h_a_law_is : PySem.W.nsIn K mainGlobals "_law_is" = some (some (.ref f_law_is)))
    (h_l_law_is : K.lookup f_law_is = some ⟨oc_law_is, od_law_is, .func (PySem.W.fnOf "_law_is" "_law_is" (defArgs s_law_is) (defBody s_law_is) (defScope s_law_is) .none kV_law_is dc_law_is pm_law_is an_law_is cd_law_is ct_law_is), sl_law_is⟩)
    (h_c_law_is : PySem.W.codeIn K cd_law_is "_law_is" = true)
    (h_k_law_is : PySem.W.keepIn K (.ref f_law_is) = true)
    (h_a_Ratio___eq__ : PySem.W.findIn K (.ref c_Ratio) "__eq__" = some (some (.ref f_Ratio___eq__)))
    (h_i_Ratio___eq__ : PySem.W.isFn K (.ref f_Ratio___eq__) = true)
    (h_l_Ratio___eq__ : K.lookup f_Ratio___eq__ = some ⟨oc_Ratio___eq__, od_Ratio___eq__, .func (PySem.W.fnOf "__eq__" "Ratio.__eq__" (defArgs s_Ratio___eq__) (defBody s_Ratio___eq__) (defScope s_Ratio___eq__) .none kV_Ratio___eq__ dc_Ratio___eq__ pm_Ratio___eq__ an_Ratio___eq__ cd_Ratio___eq__ ct_Ratio___eq__), sl_Ratio___eq__⟩)
    (h_c_Ratio___eq__ : PySem.W.codeIn K cd_Ratio___eq__ "Ratio.__eq__" = true)
    (h_k_Ratio___eq__ : PySem.W.keepIn K (.ref f_Ratio___eq__) = true)
    (h_cc_Ratio : PySem.W.findIn K (.ref c_Ratio) "__class__" = some (some (.builtin "object.__class__")))
    (h_ob_Ratio : PySem.W.mroIn K c_Ratio (.type "object") = some true)
    (h_ne_Ratio : PySem.W.findIn K (.ref c_Ratio) "__ne__" = some (some (.builtin "object.__ne__")))
    (h_bt_Ratio_NoneType : PySem.W.mroIn K c_Ratio (.type "NoneType") = some false)
    (h_bt_Ratio_bool : PySem.W.mroIn K c_Ratio (.type "bool") = some false)
    (h_bt_Ratio_int : PySem.W.mroIn K c_Ratio (.type "int") = some false)
    (h_bt_Ratio_str : PySem.W.mroIn K c_Ratio (.type "str") = some false)
    (h_bt_Ratio_list : PySem.W.mroIn K c_Ratio (.type "list") = some false)
    (h_bt_Ratio_tuple : PySem.W.mroIn K c_Ratio (.type "tuple") = some false)
    (h_bt_Ratio_dict : PySem.W.mroIn K c_Ratio (.type "dict") = some false)
    (h_nf_Ratio_NoneType : PySem.W.notFirst K c_Ratio (.type "NoneType") = true)
    (h_nf_Ratio_bool : PySem.W.notFirst K c_Ratio (.type "bool") = true)
    (h_nf_Ratio_int : PySem.W.notFirst K c_Ratio (.type "int") = true)
    (h_nf_Ratio_str : PySem.W.notFirst K c_Ratio (.type "str") = true)
    (h_nf_Ratio_list : PySem.W.notFirst K c_Ratio (.type "list") = true)
    (h_nf_Ratio_tuple : PySem.W.notFirst K c_Ratio (.type "tuple") = true)
    (h_nf_Ratio_dict : PySem.W.notFirst K c_Ratio (.type "dict") = true)
    (h_a_law_divisor : PySem.W.nsIn K mainGlobals "_law_divisor" = some (some (.ref f_law_divisor)))
    (h_l_law_divisor : K.lookup f_law_divisor = some ⟨oc_law_divisor, od_law_divisor, .func (PySem.W.fnOf "_law_divisor" "_law_divisor" (defArgs s_law_divisor) (defBody s_law_divisor) (defScope s_law_divisor) .none kV_law_divisor dc_law_divisor pm_law_divisor an_law_divisor cd_law_divisor ct_law_divisor), sl_law_divisor⟩)
    (h_c_law_divisor : PySem.W.codeIn K cd_law_divisor "_law_divisor" = true)
    (h_k_law_divisor : PySem.W.keepIn K (.ref f_law_divisor) = true)
    (h_a_Ratio___abs__ : PySem.W.findIn K (.ref c_Ratio) "__abs__" = some (some (.ref f_Ratio___abs__)))
    (h_i_Ratio___abs__ : PySem.W.isFn K (.ref f_Ratio___abs__) = true)
    (h_l_Ratio___abs__ : K.lookup f_Ratio___abs__ = some ⟨oc_Ratio___abs__, od_Ratio___abs__, .func (PySem.W.fnOf "__abs__" "Ratio.__abs__" (defArgs s_Ratio___abs__) (defBody s_Ratio___abs__) (defScope s_Ratio___abs__) .none kV_Ratio___abs__ dc_Ratio___abs__ pm_Ratio___abs__ an_Ratio___abs__ cd_Ratio___abs__ ct_Ratio___abs__), sl_Ratio___abs__⟩)
    (h_c_Ratio___abs__ : PySem.W.codeIn K cd_Ratio___abs__ "Ratio.__abs__" = true)
    (h_k_Ratio___abs__ : PySem.W.keepIn K (.ref f_Ratio___abs__) = true)
    (h_a_Ratio___neg__ : PySem.W.findIn K (.ref c_Ratio) "__neg__" = some (some (.ref f_Ratio___neg__)))
    (h_i_Ratio___neg__ : PySem.W.isFn K (.ref f_Ratio___neg__) = true)
    (h_l_Ratio___neg__ : K.lookup f_Ratio___neg__ = some ⟨oc_Ratio___neg__, od_Ratio___neg__, .func (PySem.W.fnOf "__neg__" "Ratio.__neg__" (defArgs s_Ratio___neg__) (defBody s_Ratio___neg__) (defScope s_Ratio___neg__) .none kV_Ratio___neg__ dc_Ratio___neg__ pm_Ratio___neg__ an_Ratio___neg__ cd_Ratio___neg__ ct_Ratio___neg__), sl_Ratio___neg__⟩)
    (h_c_Ratio___neg__ : PySem.W.codeIn K cd_Ratio___neg__ "Ratio.__neg__" = true)
    (h_k_Ratio___neg__ : PySem.W.keepIn K (.ref f_Ratio___neg__) = true)
    (h_no_repr : PySem.W.nsIn K mainGlobals "repr" = some none)
    (h_a_Ratio___bool__ : PySem.W.findIn K (.ref c_Ratio) "__bool__" = some (some (.ref f_Ratio___bool__)))
    (h_i_Ratio___bool__ : PySem.W.isFn K (.ref f_Ratio___bool__) = true)
    (h_l_Ratio___bool__ : K.lookup f_Ratio___bool__ = some ⟨oc_Ratio___bool__, od_Ratio___bool__, .func (PySem.W.fnOf "__bool__" "Ratio.__bool__" (defArgs s_Ratio___bool__) (defBody s_Ratio___bool__) (defScope s_Ratio___bool__) .none kV_Ratio___bool__ dc_Ratio___bool__ pm_Ratio___bool__ an_Ratio___bool__ cd_Ratio___bool__ ct_Ratio___bool__), sl_Ratio___bool__⟩)
    (h_c_Ratio___bool__ : PySem.W.codeIn K cd_Ratio___bool__ "Ratio.__bool__" = true)
    (h_k_Ratio___bool__ : PySem.W.keepIn K (.ref f_Ratio___bool__) = true)
    (h_no_str : PySem.W.nsIn K mainGlobals "str" = some none)
    (h_a_Ratio___str__ : PySem.W.findIn K (.ref c_Ratio) "__str__" = some (some (.ref f_Ratio___str__)))
    (h_i_Ratio___str__ : PySem.W.isFn K (.ref f_Ratio___str__) = true)
    (h_l_Ratio___str__ : K.lookup f_Ratio___str__ = some ⟨oc_Ratio___str__, od_Ratio___str__, .func (PySem.W.fnOf "__str__" "Ratio.__str__" (defArgs s_Ratio___str__) (defBody s_Ratio___str__) (defScope s_Ratio___str__) .none kV_Ratio___str__ dc_Ratio___str__ pm_Ratio___str__ an_Ratio___str__ cd_Ratio___str__ ct_Ratio___str__), sl_Ratio___str__⟩)
    (h_c_Ratio___str__ : PySem.W.codeIn K cd_Ratio___str__ "Ratio.__str__" = true)
    (h_k_Ratio___str__ : PySem.W.keepIn K (.ref f_Ratio___str__) = true)
    (h_a_law_refused_right : PySem.W.nsIn K mainGlobals "_law_refused_right" = some (some (.ref f_law_refused_right)))
    (h_l_law_refused_right : K.lookup f_law_refused_right = some ⟨oc_law_refused_right, od_law_refused_right, .func (PySem.W.fnOf "_law_refused_right" "_law_refused_right" (defArgs s_law_refused_right) (defBody s_law_refused_right) (defScope s_law_refused_right) .none kV_law_refused_right dc_law_refused_right pm_law_refused_right an_law_refused_right cd_law_refused_right ct_law_refused_right), sl_law_refused_right⟩)
    (h_c_law_refused_right : PySem.W.codeIn K cd_law_refused_right "_law_refused_right" = true)
    (h_k_law_refused_right : PySem.W.keepIn K (.ref f_law_refused_right) = true)
    (h_a_law_heard : PySem.W.nsIn K mainGlobals "_law_heard" = some (some (.ref f_law_heard)))
    (h_l_law_heard : K.lookup f_law_heard = some ⟨oc_law_heard, od_law_heard, .func (PySem.W.fnOf "_law_heard" "_law_heard" (defArgs s_law_heard) (defBody s_law_heard) (defScope s_law_heard) .none kV_law_heard dc_law_heard pm_law_heard an_law_heard cd_law_heard ct_law_heard), sl_law_heard⟩)
    (h_c_law_heard : PySem.W.codeIn K cd_law_heard "_law_heard" = true)
    (h_k_law_heard : PySem.W.keepIn K (.ref f_law_heard) = true)
    (h_g_CreditError : PySem.W.nsIn K mainGlobals "CreditError" = some (some (.ref c_CreditError)))
    (h_ld_law_refused_right : (PySem.W.fnOf "_law_refused_right" "_law_refused_right" (defArgs s_law_refused_right) (defBody s_law_refused_right) (defScope s_law_refused_right) .none kV_law_refused_right dc_law_refused_right pm_law_refused_right an_law_refused_right cd_law_refused_right ct_law_refused_right).code = .ref cc_law_refused_right)
    (h_lc_law_refused_right : K.lookup cc_law_refused_right = some ⟨ko_law_refused_right, kd_law_refused_right, .fields kv_law_refused_right, ks_law_refused_right⟩)
    (h_lp_law_refused_right : kv_law_refused_right[11]? = some (.ref pt_law_refused_right))
    (h_lt_law_refused_right : PySem.W.tabIn K "_law_refused_right" = some (cc_law_refused_right, pt_law_refused_right))
    (h_ln_law_refused_right : K.lookup pt_law_refused_right = none)
    (h_kt_NoneType_BadRatio : PySem.W.kitOne K (.type "NoneType") (.ref c_BadRatio) = some false)
    (h_kt_bool_BadRatio : PySem.W.kitOne K (.type "bool") (.ref c_BadRatio) = some false)
    (h_kt_int_BadRatio : PySem.W.kitOne K (.type "int") (.ref c_BadRatio) = some false)
    (h_kt_str_BadRatio : PySem.W.kitOne K (.type "str") (.ref c_BadRatio) = some false)
    (h_kt_list_BadRatio : PySem.W.kitOne K (.type "list") (.ref c_BadRatio) = some false)
    (h_kt_tuple_BadRatio : PySem.W.kitOne K (.type "tuple") (.ref c_BadRatio) = some false)
    (h_kt_dict_BadRatio : PySem.W.kitOne K (.type "dict") (.ref c_BadRatio) = some false)
    (h_kt_c_Ratio_BadRatio : PySem.W.kitOne K (.ref c_Ratio) (.ref c_BadRatio) = some false)
    (h_kt_c_BadRatio_BadRatio : PySem.W.kitOne K (.ref c_BadRatio) (.ref c_BadRatio) = some true)
    (h_kt_NoneType_Ratio : PySem.W.kitOne K (.type "NoneType") (.ref c_Ratio) = some false)
    (h_kt_bool_Ratio : PySem.W.kitOne K (.type "bool") (.ref c_Ratio) = some false)
    (h_kt_int_Ratio : PySem.W.kitOne K (.type "int") (.ref c_Ratio) = some false)
    (h_kt_str_Ratio : PySem.W.kitOne K (.type "str") (.ref c_Ratio) = some false)
    (h_kt_list_Ratio : PySem.W.kitOne K (.type "list") (.ref c_Ratio) = some false)
    (h_kt_tuple_Ratio : PySem.W.kitOne K (.type "tuple") (.ref c_Ratio) = some false)
    (h_kt_dict_Ratio : PySem.W.kitOne K (.type "dict") (.ref c_Ratio) = some false)
    (h_kt_c_Ratio_Ratio : PySem.W.kitOne K (.ref c_Ratio) (.ref c_Ratio) = some true)
    (h_kt_c_BadRatio_Ratio : PySem.W.kitOne K (.ref c_BadRatio) (.ref c_Ratio) = some false)
    (h_kt_NoneType_bool : PySem.W.kitOne K (.type "NoneType") (.type "bool") = some false)
    (h_kt_bool_bool : PySem.W.kitOne K (.type "bool") (.type "bool") = some true)
    (h_kt_int_bool : PySem.W.kitOne K (.type "int") (.type "bool") = some false)
    (h_kt_str_bool : PySem.W.kitOne K (.type "str") (.type "bool") = some false)
    (h_kt_list_bool : PySem.W.kitOne K (.type "list") (.type "bool") = some false)
    (h_kt_tuple_bool : PySem.W.kitOne K (.type "tuple") (.type "bool") = some false)
    (h_kt_dict_bool : PySem.W.kitOne K (.type "dict") (.type "bool") = some false)
    (h_kt_c_Ratio_bool : PySem.W.kitOne K (.ref c_Ratio) (.type "bool") = some false)
    (h_kt_c_BadRatio_bool : PySem.W.kitOne K (.ref c_BadRatio) (.type "bool") = some false)
    (h_kt_NoneType_int : PySem.W.kitOne K (.type "NoneType") (.type "int") = some false)
    (h_kt_bool_int : PySem.W.kitOne K (.type "bool") (.type "int") = some true)
    (h_kt_int_int : PySem.W.kitOne K (.type "int") (.type "int") = some true)
    (h_kt_str_int : PySem.W.kitOne K (.type "str") (.type "int") = some false)
    (h_kt_list_int : PySem.W.kitOne K (.type "list") (.type "int") = some false)
    (h_kt_tuple_int : PySem.W.kitOne K (.type "tuple") (.type "int") = some false)
    (h_kt_dict_int : PySem.W.kitOne K (.type "dict") (.type "int") = some false)
    (h_kt_c_Ratio_int : PySem.W.kitOne K (.ref c_Ratio) (.type "int") = some false)
    (h_kt_c_BadRatio_int : PySem.W.kitOne K (.ref c_BadRatio) (.type "int") = some false)
    (h_em_BadRatio_CreditError : PySem.W.exmOne K (.ref c_BadRatio) (.ref c_CreditError) = some true)
    (h_nf_Ratio_c_Ratio : PySem.W.notFirst K c_Ratio (.ref c_Ratio) = true)
    (hnd : (([(cc_law_refused_right, pt_law_refused_right, ("_law_refused_right" : Str) ++ ".<locals>." ++ "<lambda>")] : List Tb).map fun t => t.2.1).Nodup) {d_law_refused_right : DefRec} (h_lr_law_refused_right : (recsOf q).find? (fun e => e.name == ("_law_refused_right" : Str)) = some d_law_refused_right) :
    ∃ (cs : List Tb) (fd : FuncData), TbOk K h cs ∧ (∀ (s : Shared) (u : Value), BindsTo s fd ⟨[u], []⟩ [("_law_script", u)]) ∧ ∀ base : Heap, K.In base → base.Ns mainGlobals mg → (∀ t ∈ cs, LamX.TabB base mg t.1 t.2.1) → FnG (lawWd l.prog w K mg base 0 [] (tbs cs)) 10 fa fd ["_law_script"] (spLaw K (tbs cs)) := by
  have G := TP.g
  have e : f_law = fa := by
    have e := (PySem.W.mg_of X G h_a_law).symm.trans hfa
    cases e
    rfl
  subst e
  have key : ∀ base : Heap, K.In base → base.Ns mainGlobals mg → (∀ t ∈ ([(cc_law_refused_right, pt_law_refused_right, ("_law_refused_right" : Str) ++ ".<locals>." ++ "<lambda>")] : List Tb), LamX.TabB base mg t.1 t.2.1) → ∃ fd, FunD K "law" "law" (defArgs s_law) (defBody s_law) (defScope s_law) [] [] f_law fd ∧ FnG (lawWd l.prog w K mg base 0 [] (tbs [(cc_law_refused_right, pt_law_refused_right, ("_law_refused_right" : Str) ++ ".<locals>." ++ "<lambda>")])) 10 f_law fd ["_law_script"] (spLaw K (tbs [(cc_law_refused_right, pt_law_refused_right, ("_law_refused_right" : Str) ++ ".<locals>." ++ "<lambda>")])) := fun base _ _ HT => law_fn (A := ⟨f_law, f_law_pen, f_law_made_right, f_law_pair, f_law_draw, f_law_pick, f_law_size, f_Ratio___init__, c_Ratio, f_is_int, c_BadRatio, f_BadRatio_init, f_law_is, f_Ratio___eq__, f_law_divisor, f_Ratio___abs__, f_Ratio___neg__, f_Ratio___bool__, f_Ratio___str__, f_law_refused_right, f_law_heard, c_CreditError, cc_law_refused_right, pt_law_refused_right⟩) fun p cs => txt X G h_a_law h_l_law h_c_law h_k_law h_a_law_pen h_l_law_pen h_c_law_pen h_k_law_pen h_no_list h_no_range h_a_law_made_right h_l_law_made_right h_c_law_made_right h_k_law_made_right h_a_law_pair h_l_law_pair h_c_law_pair h_k_law_pair h_a_law_draw h_l_law_draw h_c_law_draw h_k_law_draw h_no_int h_no_len h_no_abs h_a_law_pick h_l_law_pick h_c_law_pick h_k_law_pick h_a_law_size h_l_law_size h_c_law_size h_k_law_size h_g_Ratio h_a_Ratio___init__ h_i_Ratio___init__ h_l_Ratio___init__ h_c_Ratio___init__ h_k_Ratio___init__ h_dt_Ratio___init__ h_dv_Ratio___init__ h_a_is_int h_l_is_int h_c_is_int h_k_is_int h_no_isinstance h_no_bool h_g_BadRatio h_oc_BadRatio_init h_rv_BadRatio_init h_sa_BadRatio h_bx_BadRatio h_tc_BadRatio h_kc_BadRatio h_a_BadRatio_init h_ty_BadRatio_init h_nx_BadRatio_part h_l_BadRatio_init h_c_BadRatio_init h_f1_BadRatio_init h_f2_BadRatio_init h_f3_BadRatio_init h_ce_BadRatio_init h_top_super h_no_super h_st_any h_su_BadRatio_init h_sb_BadRatio_init h_me_BadRatio_init h_cg h_ct h_xg_BadRatio h_xa_BadRatio h_xd_BadRatio h_cc_BadRatio h_ob_BadRatio h_mo_gcd h_pg_Ratio h_hd_Ratio h_po_Ratio h_sa_Ratio h_na_Ratio_top h_na_Ratio_bottom h_mk_Ratio h_kc_Ratio h_a_law_is h_l_law_is h_c_law_is h_k_law_is h_a_Ratio___eq__ h_i_Ratio___eq__ h_l_Ratio___eq__ h_c_Ratio___eq__ h_k_Ratio___eq__ h_cc_Ratio h_ob_Ratio h_ne_Ratio h_bt_Ratio_NoneType h_bt_Ratio_bool h_bt_Ratio_int h_bt_Ratio_str h_bt_Ratio_list h_bt_Ratio_tuple h_bt_Ratio_dict h_nf_Ratio_NoneType h_nf_Ratio_bool h_nf_Ratio_int h_nf_Ratio_str h_nf_Ratio_list h_nf_Ratio_tuple h_nf_Ratio_dict h_a_law_divisor h_l_law_divisor h_c_law_divisor h_k_law_divisor h_a_Ratio___abs__ h_i_Ratio___abs__ h_l_Ratio___abs__ h_c_Ratio___abs__ h_k_Ratio___abs__ h_a_Ratio___neg__ h_i_Ratio___neg__ h_l_Ratio___neg__ h_c_Ratio___neg__ h_k_Ratio___neg__ h_no_repr h_a_Ratio___bool__ h_i_Ratio___bool__ h_l_Ratio___bool__ h_c_Ratio___bool__ h_k_Ratio___bool__ h_no_str h_a_Ratio___str__ h_i_Ratio___str__ h_l_Ratio___str__ h_c_Ratio___str__ h_k_Ratio___str__ h_a_law_refused_right h_l_law_refused_right h_c_law_refused_right h_k_law_refused_right h_a_law_heard h_l_law_heard h_c_law_heard h_k_law_heard h_g_CreditError h_ld_law_refused_right h_lc_law_refused_right h_lp_law_refused_right h_lt_law_refused_right h_ln_law_refused_right h_kt_NoneType_BadRatio h_kt_bool_BadRatio h_kt_int_BadRatio h_kt_str_BadRatio h_kt_list_BadRatio h_kt_tuple_BadRatio h_kt_dict_BadRatio h_kt_c_Ratio_BadRatio h_kt_c_BadRatio_BadRatio h_kt_NoneType_Ratio h_kt_bool_Ratio h_kt_int_Ratio h_kt_str_Ratio h_kt_list_Ratio h_kt_tuple_Ratio h_kt_dict_Ratio h_kt_c_Ratio_Ratio h_kt_c_BadRatio_Ratio h_kt_NoneType_bool h_kt_bool_bool h_kt_int_bool h_kt_str_bool h_kt_list_bool h_kt_tuple_bool h_kt_dict_bool h_kt_c_Ratio_bool h_kt_c_BadRatio_bool h_kt_NoneType_int h_kt_bool_int h_kt_int_int h_kt_str_int h_kt_list_int h_kt_tuple_int h_kt_dict_int h_kt_c_Ratio_int h_kt_c_BadRatio_int h_em_BadRatio_CreditError h_nf_Ratio_c_Ratio hnd HT
  refine ⟨[(cc_law_refused_right, pt_law_refused_right, ("_law_refused_right" : Str) ++ ".<locals>." ++ "<lambda>")], PySem.W.fnOf "law" "law" (defArgs s_law) (defBody s_law) (defScope s_law) .none kV_law dc_law pm_law an_law cd_law ct_law, (tbOk_cons TP X h_lr_law_refused_right h_lt_law_refused_right h_ln_law_refused_right tbOk_nil), fun s v => .of_eq rfl, fun base hb gb HT => ?_⟩
  obtain ⟨fd, F, R⟩ := key base hb gb HT
  have e := DL.FunD.fd_eq F h_l_law
  subst e
  exact R
end K02
set_option maxRecDepth 100000 in
set_option maxHeartbeats 0 in
theorem PySem.Challenge.cw_creditturns_k02_ratios_made_holds : PySem.Challenge.rw_creditturns_k02_ratios_made.Holds := by
  w_on; o_law; k_head; (case hw => w_witness2)
  k_fill
  refine DL.lawWalk (l := PySem.Challenge.rw_creditturns_k02_ratios_made) (k := 10) (x := "_law_script") rfl rfl ⟨rfl, by decide, by decide⟩ (fun w h Y => by first | exact PySem.W.kIn_of Y | exact PySem.W.km_in_of Y) ?F
  case F =>
    intro w mg mb mean fa h Y KX TP hmg
    refine' K02.done KX TP hmg ?h_a_law ?h_l_law ?h_c_law ?h_k_law ?h_a_law_pen ?h_l_law_pen ?h_c_law_pen ?h_k_law_pen ?h_no_list ?h_no_range ?h_a_law_made_right ?h_l_law_made_right ?h_c_law_made_right ?h_k_law_made_right ?h_a_law_pair ?h_l_law_pair ?h_c_law_pair ?h_k_law_pair ?h_a_law_draw ?h_l_law_draw ?h_c_law_draw ?h_k_law_draw ?h_no_int ?h_no_len ?h_no_abs ?h_a_law_pick ?h_l_law_pick ?h_c_law_pick ?h_k_law_pick ?h_a_law_size ?h_l_law_size ?h_c_law_size ?h_k_law_size ?h_g_Ratio ?h_a_Ratio___init__ ?h_i_Ratio___init__ ?h_l_Ratio___init__ ?h_c_Ratio___init__ ?h_k_Ratio___init__ ?h_dt_Ratio___init__ ?h_dv_Ratio___init__ ?h_a_is_int ?h_l_is_int ?h_c_is_int ?h_k_is_int ?h_no_isinstance ?h_no_bool ?h_g_BadRatio ?h_oc_BadRatio_init ?h_rv_BadRatio_init ?h_sa_BadRatio ?h_bx_BadRatio ?h_tc_BadRatio ?h_kc_BadRatio ?h_a_BadRatio_init ?h_ty_BadRatio_init ?h_nx_BadRatio_part ?h_l_BadRatio_init ?h_c_BadRatio_init ?h_f1_BadRatio_init ?h_f2_BadRatio_init ?h_f3_BadRatio_init ?h_ce_BadRatio_init ?h_top_super ?h_no_super ?h_st_any ?h_su_BadRatio_init ?h_sb_BadRatio_init ?h_me_BadRatio_init ?h_cg ?h_ct ?h_xg_BadRatio ?h_xa_BadRatio ?h_xd_BadRatio ?h_cc_BadRatio ?h_ob_BadRatio ?h_mo_gcd ?h_pg_Ratio ?h_hd_Ratio ?h_po_Ratio ?h_sa_Ratio ?h_na_Ratio_top ?h_na_Ratio_bottom ?h_mk_Ratio ?h_kc_Ratio ?h_a_law_is ?h_l_law_is ?h_c_law_is ?h_k_law_is ?h_a_Ratio___eq__ ?h_i_Ratio___eq__ ?h_l_Ratio___eq__ ?h_c_Ratio___eq__ ?h_k_Ratio___eq__ ?h_cc_Ratio ?h_ob_Ratio ?h_ne_Ratio ?h_bt_Ratio_NoneType ?h_bt_Ratio_bool ?h_bt_Ratio_int ?h_bt_Ratio_str ?h_bt_Ratio_list ?h_bt_Ratio_tuple ?h_bt_Ratio_dict ?h_nf_Ratio_NoneType ?h_nf_Ratio_bool ?h_nf_Ratio_int ?h_nf_Ratio_str ?h_nf_Ratio_list ?h_nf_Ratio_tuple ?h_nf_Ratio_dict ?h_a_law_divisor ?h_l_law_divisor ?h_c_law_divisor ?h_k_law_divisor ?h_a_Ratio___abs__ ?h_i_Ratio___abs__ ?h_l_Ratio___abs__ ?h_c_Ratio___abs__ ?h_k_Ratio___abs__ ?h_a_Ratio___neg__ ?h_i_Ratio___neg__ ?h_l_Ratio___neg__ ?h_c_Ratio___neg__ ?h_k_Ratio___neg__ ?h_no_repr ?h_a_Ratio___bool__ ?h_i_Ratio___bool__ ?h_l_Ratio___bool__ ?h_c_Ratio___bool__ ?h_k_Ratio___bool__ ?h_no_str ?h_a_Ratio___str__ ?h_i_Ratio___str__ ?h_l_Ratio___str__ ?h_c_Ratio___str__ ?h_k_Ratio___str__ ?h_a_law_refused_right ?h_l_law_refused_right ?h_c_law_refused_right ?h_k_law_refused_right ?h_a_law_heard ?h_l_law_heard ?h_c_law_heard ?h_k_law_heard ?h_g_CreditError ?h_ld_law_refused_right ?h_lc_law_refused_right ?h_lp_law_refused_right ?h_lt_law_refused_right ?h_ln_law_refused_right ?h_kt_NoneType_BadRatio ?h_kt_bool_BadRatio ?h_kt_int_BadRatio ?h_kt_str_BadRatio ?h_kt_list_BadRatio ?h_kt_tuple_BadRatio ?h_kt_dict_BadRatio ?h_kt_c_Ratio_BadRatio ?h_kt_c_BadRatio_BadRatio ?h_kt_NoneType_Ratio ?h_kt_bool_Ratio ?h_kt_int_Ratio ?h_kt_str_Ratio ?h_kt_list_Ratio ?h_kt_tuple_Ratio ?h_kt_dict_Ratio ?h_kt_c_Ratio_Ratio ?h_kt_c_BadRatio_Ratio ?h_kt_NoneType_bool ?h_kt_bool_bool ?h_kt_int_bool ?h_kt_str_bool ?h_kt_list_bool ?h_kt_tuple_bool ?h_kt_dict_bool ?h_kt_c_Ratio_bool ?h_kt_c_BadRatio_bool ?h_kt_NoneType_int ?h_kt_bool_int ?h_kt_int_int ?h_kt_str_int ?h_kt_list_int ?h_kt_tuple_int ?h_kt_dict_int ?h_kt_c_Ratio_int ?h_kt_c_BadRatio_int ?h_em_BadRatio_CreditError ?h_nf_Ratio_c_Ratio ?hnd ?h_lr_law_refused_right
    (case h_a_law => k_is)
    (case h_l_law => k_is)
    (case h_c_law => k_is)
    (case h_k_law => k_is)
    (case h_a_law_pen => k_is)
    (case h_l_law_pen => k_is)
    (case h_c_law_pen => k_is)
    (case h_k_law_pen => k_is)
    (case h_no_list => k_is)
    (case h_no_range => k_is)
    (case h_a_law_made_right => k_is)
    (case h_l_law_made_right => k_is)
    (case h_c_law_made_right => k_is)
    (case h_k_law_made_right => k_is)
    (case h_a_law_pair => k_is)
    (case h_l_law_pair => k_is)
    (case h_c_law_pair => k_is)
    (case h_k_law_pair => k_is)
    (case h_a_law_draw => k_is)
    (case h_l_law_draw => k_is)
    (case h_c_law_draw => k_is)
    (case h_k_law_draw => k_is)
    (case h_no_int => k_is)
    (case h_no_len => k_is)
    (case h_no_abs => k_is)
    (case h_a_law_pick => k_is)
    (case h_l_law_pick => k_is)
    (case h_c_law_pick => k_is)
    (case h_k_law_pick => k_is)
    (case h_a_law_size => k_is)
    (case h_l_law_size => k_is)
    (case h_c_law_size => k_is)
    (case h_k_law_size => k_is)
    (case h_g_Ratio => k_is)
    (case h_a_Ratio___init__ => k_is)
    (case h_i_Ratio___init__ => k_is)
    (case h_l_Ratio___init__ => k_is)
    (case h_c_Ratio___init__ => k_is)
    (case h_k_Ratio___init__ => k_is)
    (case h_dt_Ratio___init__ => k_is)
    (case h_dv_Ratio___init__ => exact (.cons ⟨_, rfl⟩ .nil))
    (case h_a_is_int => k_is)
    (case h_l_is_int => k_is)
    (case h_c_is_int => k_is)
    (case h_k_is_int => k_is)
    (case h_no_isinstance => k_is)
    (case h_no_bool => k_is)
    (case h_g_BadRatio => k_is)
    (case h_oc_BadRatio_init => k_is)
    (case h_rv_BadRatio_init => first | rfl | decide)
    (case h_sa_BadRatio => k_is)
    (case h_bx_BadRatio => k_is)
    (case h_tc_BadRatio => k_is)
    (case h_kc_BadRatio => k_is)
    (case h_a_BadRatio_init => k_is)
    (case h_ty_BadRatio_init => k_is)
    (case h_nx_BadRatio_part => k_is)
    (case h_l_BadRatio_init => k_is)
    (case h_c_BadRatio_init => k_is)
    (case h_f1_BadRatio_init => k_is)
    (case h_f2_BadRatio_init => rfl)
    (case h_f3_BadRatio_init => decide +kernel)
    (case h_ce_BadRatio_init => k_is)
    (case h_top_super => decide +kernel)
    (case h_no_super => k_is)
    (case h_st_any => k_is)
    (case h_su_BadRatio_init => first | ks_is | kernel_rfl)
    (case h_sb_BadRatio_init => k_is)
    (case h_me_BadRatio_init => k_is)
    (case h_cg => k_is)
    (case h_ct => k_is)
    (case h_xg_BadRatio => k_is)
    (case h_xa_BadRatio => k_is)
    (case h_xd_BadRatio => k_is)
    (case h_cc_BadRatio => k_is)
    (case h_ob_BadRatio => k_is)
    (case h_mo_gcd => k_is)
    (case h_pg_Ratio => k_is)
    (case h_hd_Ratio => k_is)
    (case h_po_Ratio => k_is)
    (case h_sa_Ratio => k_is)
    (case h_na_Ratio_top => k_is)
    (case h_na_Ratio_bottom => k_is)
    (case h_mk_Ratio => k_is)
    (case h_kc_Ratio => k_is)
    (case h_a_law_is => k_is)
    (case h_l_law_is => k_is)
    (case h_c_law_is => k_is)
    (case h_k_law_is => k_is)
    (case h_a_Ratio___eq__ => k_is)
    (case h_i_Ratio___eq__ => k_is)
    (case h_l_Ratio___eq__ => k_is)
    (case h_c_Ratio___eq__ => k_is)
    (case h_k_Ratio___eq__ => k_is)
    (case h_cc_Ratio => k_is)
    (case h_ob_Ratio => k_is)
    (case h_ne_Ratio => k_is)
    (case h_bt_Ratio_NoneType => k_is)
    (case h_bt_Ratio_bool => k_is)
    (case h_bt_Ratio_int => k_is)
    (case h_bt_Ratio_str => k_is)
    (case h_bt_Ratio_list => k_is)
    (case h_bt_Ratio_tuple => k_is)
    (case h_bt_Ratio_dict => k_is)
    (case h_nf_Ratio_NoneType => k_is)
    (case h_nf_Ratio_bool => k_is)
    (case h_nf_Ratio_int => k_is)
    (case h_nf_Ratio_str => k_is)
    (case h_nf_Ratio_list => k_is)
    (case h_nf_Ratio_tuple => k_is)
    (case h_nf_Ratio_dict => k_is)
    (case h_a_law_divisor => k_is)
    (case h_l_law_divisor => k_is)
    (case h_c_law_divisor => k_is)
    (case h_k_law_divisor => k_is)
    (case h_a_Ratio___abs__ => k_is)
    (case h_i_Ratio___abs__ => k_is)
    (case h_l_Ratio___abs__ => k_is)
    (case h_c_Ratio___abs__ => k_is)
    (case h_k_Ratio___abs__ => k_is)
    (case h_a_Ratio___neg__ => k_is)
    (case h_i_Ratio___neg__ => k_is)
    (case h_l_Ratio___neg__ => k_is)
    (case h_c_Ratio___neg__ => k_is)
    (case h_k_Ratio___neg__ => k_is)
    (case h_no_repr => k_is)
    (case h_a_Ratio___bool__ => k_is)
    (case h_i_Ratio___bool__ => k_is)
    (case h_l_Ratio___bool__ => k_is)
    (case h_c_Ratio___bool__ => k_is)
    (case h_k_Ratio___bool__ => k_is)
    (case h_no_str => k_is)
    (case h_a_Ratio___str__ => k_is)
    (case h_i_Ratio___str__ => k_is)
    (case h_l_Ratio___str__ => k_is)
    (case h_c_Ratio___str__ => k_is)
    (case h_k_Ratio___str__ => k_is)
    (case h_a_law_refused_right => k_is)
    (case h_l_law_refused_right => k_is)
    (case h_c_law_refused_right => k_is)
    (case h_k_law_refused_right => k_is)
    (case h_a_law_heard => k_is)
    (case h_l_law_heard => k_is)
    (case h_c_law_heard => k_is)
    (case h_k_law_heard => k_is)
    (case h_g_CreditError => k_is)
    (case h_ld_law_refused_right => exact rfl)
    (case h_lc_law_refused_right => k_is)
    (case h_lp_law_refused_right => exact rfl)
    (case h_lt_law_refused_right => kernel_rfl)
    (case h_ln_law_refused_right => kernel_rfl)
    (case h_kt_NoneType_BadRatio => kit_is)
    (case h_kt_bool_BadRatio => kit_is)
    (case h_kt_int_BadRatio => kit_is)
    (case h_kt_str_BadRatio => kit_is)
    (case h_kt_list_BadRatio => kit_is)
    (case h_kt_tuple_BadRatio => kit_is)
    (case h_kt_dict_BadRatio => kit_is)
    (case h_kt_c_Ratio_BadRatio => kit_is)
    (case h_kt_c_BadRatio_BadRatio => kit_is)
    (case h_kt_NoneType_Ratio => kit_is)
    (case h_kt_bool_Ratio => kit_is)
    (case h_kt_int_Ratio => kit_is)
    (case h_kt_str_Ratio => kit_is)
    (case h_kt_list_Ratio => kit_is)
    (case h_kt_tuple_Ratio => kit_is)
    (case h_kt_dict_Ratio => kit_is)
    (case h_kt_c_Ratio_Ratio => kit_is)
    (case h_kt_c_BadRatio_Ratio => kit_is)
    (case h_kt_NoneType_bool => kit_is)
    (case h_kt_bool_bool => kit_is)
    (case h_kt_int_bool => kit_is)
    (case h_kt_str_bool => kit_is)
    (case h_kt_list_bool => kit_is)
    (case h_kt_tuple_bool => kit_is)
    (case h_kt_dict_bool => kit_is)
    (case h_kt_c_Ratio_bool => kit_is)
    (case h_kt_c_BadRatio_bool => kit_is)
    (case h_kt_NoneType_int => kit_is)
    (case h_kt_bool_int => kit_is)
    (case h_kt_int_int => kit_is)
    (case h_kt_str_int => kit_is)
    (case h_kt_list_int => kit_is)
    (case h_kt_tuple_int => kit_is)
    (case h_kt_dict_int => kit_is)
    (case h_kt_c_Ratio_int => kit_is)
    (case h_kt_c_BadRatio_int => kit_is)
    (case h_em_BadRatio_CreditError => kernel_rfl)
    (case h_nf_Ratio_c_Ratio => k_is)
    (case hnd => decide)
    (case h_lr_law_refused_right => rfl)

