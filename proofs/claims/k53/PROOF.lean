import PyProof.Rows.All
import Wide.All
import OpenK.AllK
import Wide.FinOn
import HandS.ForMost
import HandS.Exc
import HandS.TryOnly
import HandS.ExcOwn
import HandS.WordsExc
import HandS.CallSlots
import HandS.Defaults
import HandS.Flow
import HandS.Walk
import HandS.Wide
import HandS.IsInst
import HandS.MakeKw
import HandS.Lambda
import HandS.ListEq
import HandS.DictEq
import HandS.RaiseMore
import PyProof.ReprRoads
import HandS.TupAny
import HandS.WordsDict
import HandS.Text
import HandS.WideBits
import HandS.Comp
import HandS.OwnEq
import HandS.Ends
import HandS.Words
import HandS.EndTab
import HandS.ExcInit
import HandS.Nested
import HandS.ExcIs
import HandS.ExcField
import KE.KExcSuper
import HandS.Property
import HandS.Gcd
import HandS.FStr
import HandS.Small
import KE.KCallOwn
import KE.KNest
import KE.KOpsOwn
import PySem.Challenge.RW_creditturns_k53_buckets_compared
set_option Elab.async false
set_option linter.all false
set_option maxRecDepth 100000
set_option maxHeartbeats 0
/-! EL0 (v2): a layer of plain data over the abstract heap: D, what bears it (Rep), what can change (Cell, Z), a frame's state (S, Rel). -/
namespace DL
open PySem L2

inductive D where
  | non | bl (b : Bool) | int (i : Int) | str (s : Str)
  | tup (xs : List D) | lst (xs : List D) | dct (kvs : List (Key × D))
  | ins (C : Addr) (fs : List (Str × D))
  | exc (cls : Value) (fs : List (Str × D))
  | ref (a : Addr) | ty (n : String) | pen | obj (o : HO)

/-- G grows to G' -/
def Le (G G' : Hp) : Prop := ∀ a o, G a = some o → G' a = some o
theorem Le.refl (G : Hp) : Le G G := fun _ _ h => h
theorem Le.trans {G G1 G2 : Hp} (a : Le G G1) (b : Le G1 G2) : Le G G2 := fun x o h => b x o (a x o h)
theorem Le.new {G : Hp} {p : Addr} {o : HO} (h : G p = none) : Le G (upd G p o) := fun a u e => by
  rw [upd_ne (ne_of_none e h)]; exact e
theorem le_rd {G G' : Hp} {a : Addr} {u : HO} (e : Le G G') (h : Rd G a u) : Rd G' a u := by
  rcases h with h | ⟨o, h⟩
  · exact .inl (e a _ h)
  · exact .inr ⟨o, e a _ h⟩
theorem le_l {K : PySem.W.Frag} {G G' : Hp} {a : Addr} {xs : List V} (e : Le G G') (h : SqL K G a xs) : SqL K G' a xs := by
  rcases h with h | h
  · exact .inl (le_rd e h)
  · exact .inr h
theorem le_t {K : PySem.W.Frag} {G G' : Hp} {a : Addr} {xs : List V} (e : Le G G') (h : SqT K G a xs) : SqT K G' a xs := by
  rcases h with h | h
  · exact .inl (le_rd e h)
  · exact .inr h

/-- at a: an exception object of the class cls with the dict d -/
def ExV (cls : Value) (d : Option Addr) (a : Addr) : HO := .ext fun h => ∃ (oe : Obj) (vs : Array Value), h.get? a = some oe ∧ Zc cls d oe ∧ oe.data = .fields vs

mutual
/-- v bears d in the part G of the heap that never changes -/
inductive Rep (K : PySem.W.Frag) (p0 : Addr) (G : Hp) : V → D → Prop
  | non : Rep K p0 G .non .non
  | bl (b : Bool) : Rep K p0 G (.bl b) (.bl b)
  | int (i : Int) : Rep K p0 G (.int i) (.int i)
  | str (s : Str) : Rep K p0 G (.str s) (.str s)
  | ref (a : Addr) : Rep K p0 G (.ref a) (.ref a)
  | ty (n : String) : Rep K p0 G (.ty n) (.ty n)
  | pen : Rep K p0 G (.ref p0) .pen
  | obj {a : Addr} {o : HO} : G a = some o → Rep K p0 G (.ref a) (.obj o)
  | lst {a : Addr} {vs : List V} {xs : List D} : Rd G a (.lst vs) → RepL K p0 G vs xs → Rep K p0 G (.ref a) (.lst xs)
  | tup {a : Addr} {vs : List V} {xs : List D} : SqT K G a vs → RepL K p0 G vs xs → Rep K p0 G (.ref a) (.tup xs)
  | dct {a : Addr} {vs : List (Key × V)} {xs : List (Key × D)} : Rd G a (.dK vs) → RepK K p0 G vs xs → Rep K p0 G (.ref a) (.dct xs)
  | ins {a C dx : Addr} {vs : List (Str × V)} {xs : List (Str × D)} : G a = some (.ins C dx vs) → RepF K p0 G vs xs → Rep K p0 G (.ref a) (.ins C xs)
  | exc0 {a : Addr} {cls : Value} : G a = some (ExV cls none a) → Rep K p0 G (.ref a) (.exc cls [])
  | exc {a d : Addr} {cls : Value} {vs : List (Str × V)} {xs : List (Str × D)} : G a = some (ExV cls (some d) a) → G d = some (.xd vs) → RepF K p0 G vs xs → Rep K p0 G (.ref a) (.exc cls xs)
inductive RepL (K : PySem.W.Frag) (p0 : Addr) (G : Hp) : List V → List D → Prop
  | nil : RepL K p0 G [] []
  | cons {v : V} {d : D} {vs : List V} {ds : List D} : Rep K p0 G v d → RepL K p0 G vs ds → RepL K p0 G (v :: vs) (d :: ds)
inductive RepK (K : PySem.W.Frag) (p0 : Addr) (G : Hp) : List (Key × V) → List (Key × D) → Prop
  | nil : RepK K p0 G [] []
  | cons {k : Key} {v : V} {d : D} {vs : List (Key × V)} {ds : List (Key × D)} : Rep K p0 G v d → RepK K p0 G vs ds → RepK K p0 G ((k, v) :: vs) ((k, d) :: ds)
inductive RepF (K : PySem.W.Frag) (p0 : Addr) (G : Hp) : List (Str × V) → List (Str × D) → Prop
  | nil : RepF K p0 G [] []
  | cons {k : Str} {v : V} {d : D} {vs : List (Str × V)} {ds : List (Str × D)} : Rep K p0 G v d → RepF K p0 G vs ds → RepF K p0 G ((k, v) :: vs) ((k, d) :: ds)
end

section
variable {K : PySem.W.Frag} {p0 : Addr} {G G' : Hp}
theorem Rep.mono (e : Le G G') {v : V} {d : D} (h : Rep K p0 G v d) : Rep K p0 G' v d :=
  Rep.rec (motive_1 := fun v d _ => Rep K p0 G' v d) (motive_2 := fun v d _ => RepL K p0 G' v d) (motive_3 := fun v d _ => RepK K p0 G' v d) (motive_4 := fun v d _ => RepF K p0 G' v d)
    .non .bl .int .str .ref .ty .pen (fun h => .obj (e _ _ h)) (fun h _ ih => .lst (le_rd e h) ih) (fun h _ ih => .tup (le_t e h) ih) (fun h _ ih => .dct (le_rd e h) ih) (fun h _ ih => .ins (e _ _ h) ih) (fun h => .exc0 (e _ _ h)) (fun h h2 _ ih => .exc (e _ _ h) (e _ _ h2) ih)
    .nil (fun _ _ a b => .cons a b) .nil (fun _ _ a b => .cons a b) .nil (fun _ _ a b => .cons a b) h
theorem RepL.mono (e : Le G G') : ∀ {v : List V} {d : List D}, RepL K p0 G v d → RepL K p0 G' v d
  | _, _, .nil => .nil
  | _, _, .cons a b => .cons (a.mono e) (RepL.mono e b)
theorem RepK.mono (e : Le G G') : ∀ {v : List (Key × V)} {d : List (Key × D)}, RepK K p0 G v d → RepK K p0 G' v d
  | _, _, .nil => .nil
  | _, _, .cons a b => .cons (a.mono e) (RepK.mono e b)
theorem RepF.mono (e : Le G G') : ∀ {v : List (Str × V)} {d : List (Str × D)}, RepF K p0 G v d → RepF K p0 G' v d
  | _, _, .nil => .nil
  | _, _, .cons a b => .cons (a.mono e) (RepF.mono e b)
theorem RepL.len : ∀ {v : List V} {d : List D}, RepL K p0 G v d → v.length = d.length
  | _, _, .nil => rfl
  | _, _, .cons _ b => congrArg Nat.succ b.len
theorem RepL.get : ∀ {v : List V} {d : List D} {i : Nat} {x : D}, RepL K p0 G v d → d[i]? = some x → ∃ u, v[i]? = some u ∧ Rep K p0 G u x
  | _, _, i, x, .nil, h => by simp at h
  | _, _, 0, x, .cons a b, h => by simp at h; subst h; exact ⟨_, rfl, a⟩
  | _, _, i + 1, x, .cons a b, h => by
    obtain ⟨u, h1, h2⟩ := RepL.get (i := i) b (by simpa using h)
    exact ⟨u, by simpa using h1, h2⟩
theorem RepL.app : ∀ {v w : List V} {d e : List D}, RepL K p0 G v d → RepL K p0 G w e → RepL K p0 G (v ++ w) (d ++ e)
  | _, _, _, _, .nil, h => h
  | _, _, _, _, .cons a b, h => .cons a (RepL.app b h)
theorem RepL.drop : ∀ (n : Nat) {v : List V} {d : List D}, RepL K p0 G v d → RepL K p0 G (v.drop n) (d.drop n)
  | 0, _, _, h => h
  | n + 1, _, _, .nil => .nil
  | n + 1, _, _, .cons _ b => RepL.drop n b
theorem RepL.take : ∀ (n : Nat) {v : List V} {d : List D}, RepL K p0 G v d → RepL K p0 G (v.take n) (d.take n)
  | 0, _, _, _ => .nil
  | n + 1, _, _, .nil => .nil
  | n + 1, _, _, .cons a b => .cons a (RepL.take n b)
theorem RepF.look {f : Str} {x : D} : ∀ {v : List (Str × V)} {d : List (Str × D)}, RepF K p0 G v d → d.lookup f = some x → ∃ u, v.lookup f = some u ∧ Rep K p0 G u x
  | _, _, .nil, h => by simp at h
  | _, _, .cons (k := k) a b, h => by
    rw [List.lookup_cons] at h ⊢
    cases e : f == k with
    | true => rw [e] at h; cases h; exact ⟨_, rfl, a⟩
    | false => rw [e] at h; exact RepF.look b h
theorem RepF.look_none {f : Str} : ∀ {v : List (Str × V)} {d : List (Str × D)}, RepF K p0 G v d → d.lookup f = none → v.lookup f = none
  | _, _, .nil, h => rfl
  | _, _, .cons (k := k) a b, h => by
    rw [List.lookup_cons] at h ⊢
    cases e : f == k with
    | true => rw [e] at h; cases h
    | false => rw [e] at h; exact RepF.look_none b h
theorem RepF.len : ∀ {v : List (Str × V)} {d : List (Str × D)}, RepF K p0 G v d → v.length = d.length
  | _, _, .nil => rfl
  | _, _, .cons _ b => congrArg Nat.succ b.len
end

/-! ### what can change -/
/-- an object that may change and that all may know: a list, a dict, an instance -/
inductive Cell where
  | lst (xs : List D) | dct (kvs : List (Key × D)) | ins (C : Addr) (fs : List (Str × D))
/-- the fuel of the pen; the objects that are known to be there and may change -/
structure Z where
  fu : Nat
  ms : Addr → Option Cell
/-- what stands in a slot: nothing that is known; data; a list, a dict, an instance that this frame owns -/
inductive Sl where
  | un | d (x : D) | own (xs : List D) | ownK (kvs : List (Key × D)) | self (C : Addr) (fs : List (Str × D))
structure S where
  sl : List Sl
  z : Z
/-- fixed things: the written part, the pen's place and cells, the tables of code objects -/
structure Wd where
  P : Program
  w : World
  K : PySem.W.Frag
  mg : Str → Option Value
  base : Heap
  p0 : Addr
  cs : List Int
  tb : List (Addr × Str)
/-- a frame: what stood at its entry; mu: what else may change -/
structure Fr extends Wd where
  G0 : Hp
  H0 : Hp
  z0 : Z
  mu : List Addr

/-- the pen: its cells never change -/
def PenOk (K : PySem.W.Frag) (cs0 : List Int) (G H : Hp) (p0 : Addr) (n : Nat) : Prop :=
  ∃ (c : Addr) (b : Nat) (r : Int) (cs : List Int), H p0 = some (.lst [.ref c, .int (b : Int), .int r]) ∧ (Rd G c (.lst (cs.map V.int)) ∧ cs = cs0) ∧ b + n ≤ 1000000 ∧ cs.length ≤ 63
theorem PenOk.mono {K : PySem.W.Frag} {cs : List Int} {G G' H H' : Hp} {p0 : Addr} {n : Nat} (p : PenOk K cs G H p0 n) (e : Le G G') (h : H' p0 = H p0) : PenOk K cs G' H' p0 n := by
  obtain ⟨c, b, r, cs, h1, h2, h3, h4⟩ := p
  exact ⟨c, b, r, cs, h.trans h1, ⟨le_rd e h2.1, h2.2⟩, h3, h4⟩
theorem PenOk.less {K : PySem.W.Frag} {cs : List Int} {G H : Hp} {p0 : Addr} {n m : Nat} (p : PenOk K cs G H p0 n) (h : m ≤ n) : PenOk K cs G H p0 m := by
  obtain ⟨c, b, r, cs, h1, h2, h3, h4⟩ := p
  exact ⟨c, b, r, cs, h1, h2, by omega, h4⟩
def CellOk (c : Wd) (G H : Hp) (a : Addr) : Cell → Prop
  | .lst xs => ∃ vs, H a = some (.lst vs) ∧ RepL c.K c.p0 G vs xs
  | .dct xs => ∃ vs, H a = some (.dK vs) ∧ RepK c.K c.p0 G vs xs
  | .ins C fs => ∃ dx vs, H a = some (.ins C dx vs) ∧ RepF c.K c.p0 G vs fs
theorem CellOk.at {c : Wd} {G H : Hp} {a : Addr} {cl : Cell} (h : CellOk c G H a cl) : ∃ o, H a = some o := by
  cases cl with
  | lst xs => obtain ⟨vs, h, _⟩ := h; exact ⟨_, h⟩
  | dct xs => obtain ⟨vs, h, _⟩ := h; exact ⟨_, h⟩
  | ins C fs => obtain ⟨dx, vs, h, _⟩ := h; exact ⟨_, h⟩
theorem CellOk.mono {c : Wd} {G H G' H' : Hp} {a : Addr} {cl : Cell} (h : CellOk c G H a cl) (g : Le G G') (e : H' a = H a) : CellOk c G' H' a cl := by
  cases cl with
  | lst xs => obtain ⟨vs, h, r⟩ := h; exact ⟨_, e.trans h, r.mono g⟩
  | dct xs => obtain ⟨vs, h, r⟩ := h; exact ⟨_, e.trans h, r.mono g⟩
  | ins C fs => obtain ⟨dx, vs, h, r⟩ := h; exact ⟨_, _, e.trans h, r.mono g⟩
/-- what may change at the state z, from any frame: the pen, the objects of ms, the tables -/
def Spc (c : Wd) (z : Z) (a : Addr) : Prop := a = c.p0 ∨ z.ms a ≠ none ∨ a ∈ c.tb.map (·.1)
/-- the state as it stands -/
structure StOk (c : Wd) (G H : Hp) (z : Z) : Prop where
  le : Le G H
  pn : PenOk c.K c.cs G H c.p0 z.fu
  tb : LamX.Tabs c.tb H
  sg : ∀ a, Spc c z a → G a = none
  ms : ∀ a cl, z.ms a = some cl → CellOk c G H a cl ∧ a ≠ c.p0 ∧ a ∉ c.tb.map (·.1)
  nt : ∀ a ps, G a ≠ some (.tbl ps)
/-- from (G, H) on to (G', H'); S: what may change there, S': what may change now -/
structure Go (S S' : Addr → Prop) (G H G' H' : Hp) : Prop where
  g : Le G G'
  h : ∀ a o, H a = some o → ¬ S a → H' a = some o
  ht : ∀ a o, H a = some o → ∃ u, H' a = some u
  nw : ∀ a o, G' a = some o → G a = some o ∨ H a = none ∨ S a
  ks : ∀ a, S' a → S a ∨ H a = none
theorem Go.refl {S : Addr → Prop} {G H : Hp} : Go S S G H G H := ⟨Le.refl _, fun _ _ h _ => h, fun _ o h => ⟨o, h⟩, fun _ _ h => .inl h, fun _ h => .inl h⟩
theorem Go.old {S S' : Addr → Prop} {G H G' H' : Hp} (a : Go S S' G H G' H') {x : Addr} (e : H' x = none) : H x = none := by
  cases q : H x with
  | none => rfl
  | some o => obtain ⟨u, hu⟩ := a.ht x o q; rw [e] at hu; cases hu
theorem Go.trans {S S1 S2 : Addr → Prop} {G H G1 H1 G2 H2 : Hp} (a : Go S S1 G H G1 H1) (b : Go S1 S2 G1 H1 G2 H2) : Go S S2 G H G2 H2 := by
  refine ⟨a.g.trans b.g, fun x o h n => b.h x o (a.h x o h n) fun s => ?_, fun x o h => ?_, fun x o h => ?_, fun x h => ?_⟩
  · rcases a.ks x s with y | y
    · exact n y
    · rw [h] at y; cases y
  · obtain ⟨u, hu⟩ := a.ht x o h; exact b.ht x u hu
  · rcases b.nw x o h with y | y | y
    · exact a.nw x o y
    · exact .inr (.inl (a.old y))
    · rcases a.ks x y with q | q
      · exact .inr (.inr q)
      · exact .inr (.inl q)
  · rcases b.ks x h with y | y
    · exact a.ks x y
    · exact .inr (a.old y)
/-- fewer may change at first, more later are not told -/
theorem Go.imp {S S' T T' : Addr → Prop} {G H G' H' : Hp} (a : Go S S' G H G' H') (h1 : ∀ x, S x → T x) (h2 : ∀ x, T' x → S' x ∨ T x ∨ H x = none) : Go T T' G H G' H' :=
  ⟨a.g, fun x o h n => a.h x o h fun s => n (h1 x s), a.ht, fun x o h => (a.nw x o h).imp id (fun y => y.imp id (h1 x)), fun x h => by
    rcases h2 x h with y | y | y
    · exact (a.ks x y).imp (h1 x) id
    · exact .inl y
    · exact .inr y⟩
/-- a slot's value -/
def at_ (σ : L2.St) (i : Nat) : Option V := (σ[i]?).join
theorem at_some {σ : L2.St} {i : Nat} {v : V} (h : at_ σ i = some v) : σ[i]? = some (some v) := by
  unfold at_ at h
  cases e : σ[i]? with
  | none => rw [e] at h; cases h
  | some o =>
    rw [e] at h
    cases o with
    | none => cases h
    | some u => cases h; rfl
theorem at_set {σ : L2.St} {i j : Nat} {o : Option V} (hi : i < σ.length) : at_ (σ.set i o) j = if j = i then o else at_ σ j := by
  unfold at_
  by_cases e : j = i
  · subst e; rw [if_pos rfl, List.getElem?_set_self hi]; rfl
  · rw [if_neg e, List.getElem?_set_ne (Ne.symm e)]
def isOwn : Sl → Bool
  | .own _ => true
  | .ownK _ => true
  | .self _ _ => true
  | _ => false
/-- what the frame's slots own -/
def Own (δ : S) (σ : L2.St) (a : Addr) : Prop := ∃ i s, δ.sl[i]? = some s ∧ isOwn s = true ∧ at_ σ i = some (.ref a)
/-- what may change, seen from the frame -/
def Spf (c : Wd) (δ : S) (σ : L2.St) (a : Addr) : Prop := Spc c δ.z a ∨ Own δ σ a
def SlOk (c : Wd) (mu : List Addr) (G H : Hp) (z : Z) (ov : Option V) : Sl → Prop
  | .un => True
  | .d x => ∃ v, ov = some v ∧ Rep c.K c.p0 G v x
  | .own xs => ∃ a vs, ov = some (.ref a) ∧ H a = some (.lst vs) ∧ G a = none ∧ ¬ Spc c z a ∧ RepL c.K c.p0 G vs xs
  | .ownK xs => ∃ a vs, ov = some (.ref a) ∧ H a = some (.dK vs) ∧ G a = none ∧ ¬ Spc c z a ∧ RepK c.K c.p0 G vs xs
  | .self C fs => ∃ a dx vs, ov = some (.ref a) ∧ H a = some (.ins C dx vs) ∧ G a = none ∧ ¬ Spc c z a ∧ a ∈ mu ∧ RepF c.K c.p0 G vs fs
/-- the frame's state as it stands -/
structure Rel (c : Fr) (G H : Hp) (σ : L2.St) (δ : S) : Prop where
  st : StOk c.toWd G H δ.z
  go : Go (fun a => Spc c.toWd c.z0 a ∨ a ∈ c.mu) (Spf c.toWd δ σ) c.G0 c.H0 G H
  len : σ.length = δ.sl.length
  sl : ∀ i s, δ.sl[i]? = some s → SlOk c.toWd c.mu G H δ.z (at_ σ i) s
  uq : ∀ i j a s t, i ≠ j → δ.sl[i]? = some s → δ.sl[j]? = some t → isOwn s = true → isOwn t = true → at_ σ i = some (.ref a) → at_ σ j = some (.ref a) → False
/-- a step: new things, changes of what may change; the new state stands -/
structure Post (c : Wd) (z : Z) (G H G' H' : Hp) (z' : Z) : Prop where
  st : StOk c G' H' z'
  go : Go (Spc c z) (Spc c z') G H G' H'
theorem SlOk.own_at {c : Wd} {mu : List Addr} {G H : Hp} {z : Z} {ov : Option V} {s : Sl} (h : SlOk c mu G H z ov s) (o : isOwn s = true) : ∃ a u, ov = some (.ref a) ∧ H a = some u ∧ G a = none ∧ ¬ Spc c z a := by
  cases s with
  | un => cases o
  | d x => cases o
  | own xs => obtain ⟨a, vs, h1, h2, h3, h4, _⟩ := h; exact ⟨a, _, h1, h2, h3, h4⟩
  | ownK xs => obtain ⟨a, vs, h1, h2, h3, h4, _⟩ := h; exact ⟨a, _, h1, h2, h3, h4⟩
  | self C fs => obtain ⟨a, dx, vs, h1, h2, h3, h4, _⟩ := h; exact ⟨a, _, h1, h2, h3, h4⟩
theorem SlOk.mono {c : Wd} {mu : List Addr} {G H G' H' : Hp} {z z' : Z} {ov : Option V} {s : Sl} (h : SlOk c mu G H z ov s) (g : Le G G') (k : ∀ a u, isOwn s = true → ov = some (.ref a) → H a = some u → G a = none → ¬ Spc c z a → H' a = some u ∧ G' a = none ∧ ¬ Spc c z' a) : SlOk c mu G' H' z' ov s := by
  cases s with
  | un => trivial
  | d x => obtain ⟨v, h1, h2⟩ := h; exact ⟨v, h1, h2.mono g⟩
  | own xs => obtain ⟨a, vs, h1, h2, h3, h4, h5⟩ := h; obtain ⟨k1, k2, k3⟩ := k a _ rfl h1 h2 h3 h4; exact ⟨a, vs, h1, k1, k2, k3, h5.mono g⟩
  | ownK xs => obtain ⟨a, vs, h1, h2, h3, h4, h5⟩ := h; obtain ⟨k1, k2, k3⟩ := k a _ rfl h1 h2 h3 h4; exact ⟨a, vs, h1, k1, k2, k3, h5.mono g⟩
  | self C fs => obtain ⟨a, dx, vs, h1, h2, h3, h4, hm, h5⟩ := h; obtain ⟨k1, k2, k3⟩ := k a _ rfl h1 h2 h3 h4; exact ⟨a, dx, vs, h1, k1, k2, k3, hm, h5.mono g⟩
section
variable {c : Fr} {G H G' H' : Hp} {σ : L2.St} {δ : S} {z' : Z}
theorem Rel.le (R : Rel c G H σ δ) : Le G H := R.st.le
theorem Rel.pn (R : Rel c G H σ δ) : PenOk c.K c.cs G H c.p0 δ.z.fu := R.st.pn
theorem Rel.pg (R : Rel c G H σ δ) : G c.p0 = none := R.st.sg _ (.inl rfl)
/-- a step of a callee's, seen from the frame -/
theorem Post.spf (R : Rel c G H σ δ) (p : Post c.toWd δ.z G H G' H' z') : Go (Spf c.toWd δ σ) (Spf c.toWd { δ with z := z' } σ) G H G' H' :=
  p.go.imp (fun _ s => .inl s) fun x s => s.elim .inl fun o => .inr (.inl (.inr o))
theorem Rel.post (R : Rel c G H σ δ) (p : Post c.toWd δ.z G H G' H' z') : Rel c G' H' σ { δ with z := z' } := by
  refine ⟨p.st, R.go.trans (p.spf R), R.len, fun i s h => (R.sl i s h).mono p.go.g fun a u o e ha hg hs => ⟨p.go.h a u ha hs, ?_, fun q => ?_⟩, R.uq⟩
  · cases e2 : G' a with
    | none => rfl
    | some v =>
      rcases p.go.nw a v e2 with y | y | y
      · rw [hg] at y; cases y
      · rw [ha] at y; cases y
      · exact absurd y hs
  · rcases p.go.ks a q with y | y
    · exact hs y
    · rw [ha] at y; cases y
theorem Post.refl {c : Wd} {z : Z} (st : StOk c G H z) : Post c z G H G H z := ⟨st, Go.refl⟩
theorem Post.trans {c : Wd} {z z1 z2 : Z} {G1 H1 G2 H2 : Hp} (a : Post c z G H G1 H1 z1) (b : Post c z1 G1 H1 G2 H2 z2) : Post c z G H G2 H2 z2 := ⟨b.st, a.go.trans b.go⟩
theorem StOk.gnone {c : Wd} {z : Z} (s : StOk c G H z) {p : Addr} (h : H p = none) : G p = none := by
  cases e : G p with
  | none => rfl
  | some u => rw [s.le p u e] at h; cases h
theorem Rel.gnone (R : Rel c G H σ δ) {p : Addr} (h : H p = none) : G p = none := R.st.gnone h
theorem StOk.pne {c : Wd} {z : Z} (s : StOk c G H z) {p : Addr} (h : H p = none) : ¬ Spc c z p := fun e => by
  rcases e with e | e | e
  · obtain ⟨_, _, _, _, q, _⟩ := s.pn
    rw [e, q] at h; cases h
  · cases q : z.ms p with
    | none => exact e q
    | some cl =>
      obtain ⟨o, y⟩ := (s.ms _ _ q).1.at
      rw [y] at h; cases h
  · obtain ⟨q, m, rfl⟩ := List.mem_map.mp e
    obtain ⟨ps, y, _⟩ := s.tb q m
    rw [y] at h; cases h
/-- a new thing laid, known from then on -/
theorem StOk.laidG {c : Wd} {z : Z} (s : StOk c G H z) {p : Addr} {o : HO} (h : H p = none) : Go (Spc c z) (Spc c z) G H (upd G p o) (upd H p o) := by
  have gp := s.gnone h
  have nk : ∀ {b u}, H b = some u → upd H p o b = H b := fun {b u} e => by rw [upd_ne (ne_of_none e h)]
  refine ⟨Le.new gp, fun a u e _ => (nk e).trans e, fun a u e => ⟨u, (nk e).trans e⟩, fun a u e => ?_, fun a m => .inl m⟩
  by_cases q : a = p
  · subst q; exact .inr (.inl h)
  · rw [upd_ne q] at e; exact .inl e
theorem StOk.laid {c : Wd} {z : Z} (s : StOk c G H z) {p : Addr} {o : HO} (h : H p = none) (nt : ∀ ps, o ≠ .tbl ps := by intro _ q; first | cases q | (unfold ExV at q; cases q)) : Post c z G H (upd G p o) (upd H p o) z := by
  have gp := s.gnone h
  have nk : ∀ {b u}, H b = some u → upd H p o b = H b := fun {b u} e => by rw [upd_ne (ne_of_none e h)]
  have np := s.pne h
  refine ⟨⟨fun a u e => ?_, s.pn.mono (Le.new gp) (by rw [upd_ne (fun q => np (.inl q.symm))]), s.tb.ext fun b u e => (nk e).trans e, fun a m => ?_, fun a cl m => ?_, fun a ps e => ?_⟩, s.laidG h⟩
  · by_cases q : a = p
    · subst q; rw [upd_same] at e ⊢; exact e
    · rw [upd_ne q] at e ⊢; exact s.le a u e
  · rw [upd_ne (show a ≠ p from fun q => np (q ▸ m))]; exact s.sg a m
  · obtain ⟨k1, k2⟩ := s.ms a cl m
    obtain ⟨u, q⟩ := k1.at
    exact ⟨k1.mono (Le.new gp) (nk q), k2⟩
  · by_cases q : a = p
    · subst q; rw [upd_same] at e; exact nt ps (Option.some.inj e)
    · rw [upd_ne q] at e; exact s.nt a ps e
theorem Rel.laid (R : Rel c G H σ δ) {p : Addr} {o : HO} (h : H p = none) (nt : ∀ ps, o ≠ .tbl ps := by intro _ q; first | cases q | (unfold ExV at q; cases q)) : Post c.toWd δ.z G H (upd G p o) (upd H p o) δ.z := R.st.laid h nt
theorem Rel.laid' (R : Rel c G H σ δ) {p : Addr} {o : HO} (h : H p = none) (nt : ∀ ps, o ≠ .tbl ps := by intro _ q; first | cases q | (unfold ExV at q; cases q)) : Rel c (upd G p o) (upd H p o) σ δ := R.post (R.laid h nt)
/-- a new thing laid that is not known -/
theorem StOk.laidH {c : Wd} {z : Z} (s : StOk c G H z) {p : Addr} {o : HO} (h : H p = none) : Post c z G H G (upd H p o) z := by
  have nk : ∀ {b u}, H b = some u → upd H p o b = H b := fun {b u} e => by rw [upd_ne (ne_of_none e h)]
  refine ⟨⟨fun a u e => (nk (s.le a u e)).trans (s.le a u e), s.pn.mono (Le.refl _) (by rw [upd_ne (fun q => s.pne h (.inl q.symm))]), s.tb.ext fun b u e => (nk e).trans e, s.sg, fun a cl m => ?_, s.nt⟩, ⟨Le.refl _, fun a u e _ => (nk e).trans e, fun a u e => ⟨u, (nk e).trans e⟩, fun a u e => .inl e, fun a m => .inl m⟩⟩
  obtain ⟨k1, k2⟩ := s.ms a cl m
  obtain ⟨u, q⟩ := k1.at
  exact ⟨k1.mono (Le.refl _) (nk q), k2⟩
theorem Rel.laidH (R : Rel c G H σ δ) {p : Addr} {o : HO} (h : H p = none) : Post c.toWd δ.z G H G (upd H p o) δ.z := R.st.laidH h
end
/-- a slot gets data -/
theorem Rel.set {c : Fr} {G H : Hp} {σ : L2.St} {δ : S} (R : Rel c G H σ δ) {i : Nat} {v : V} {x : D} (hi : i < δ.sl.length) (r : Rep c.K c.p0 G v x) : Rel c G H (σ.set i (some v)) { δ with sl := δ.sl.set i (.d x) } := by
  have hs : i < σ.length := by rw [R.len]; exact hi
  have back : ∀ {j s a}, (δ.sl.set i (.d x))[j]? = some s → isOwn s = true → at_ (σ.set i (some v)) j = some (.ref a) → δ.sl[j]? = some s ∧ at_ σ j = some (.ref a) := fun {j s a} h o h2 => by
    have nj : j ≠ i := fun e => by subst e; rw [List.getElem?_set_self hi] at h; cases h; cases o
    rw [List.getElem?_set_ne (Ne.symm nj)] at h
    rw [at_set hs, if_neg nj] at h2
    exact ⟨h, h2⟩
  refine ⟨R.st, R.go.imp (fun _ s => s) fun a s => .inl (s.imp id fun ⟨j, s, h1, o, h2⟩ => ⟨j, s, (back h1 o h2).1, o, (back h1 o h2).2⟩), by simp [R.len], fun j s h => ?_, fun j k a s t ne h1 h2 o1 o2 a1 a2 => ?_⟩
  · rw [at_set hs]
    by_cases e : j = i
    · subst e
      rw [List.getElem?_set_self hi] at h; cases h
      rw [if_pos rfl]; exact ⟨v, rfl, r⟩
    · rw [List.getElem?_set_ne (Ne.symm e)] at h
      rw [if_neg e]; exact R.sl j s h
  · obtain ⟨h1, a1⟩ := back h1 o1 a1
    obtain ⟨h2, a2⟩ := back h2 o2 a2
    exact R.uq j k a s t ne h1 h2 o1 o2 a1 a2
/-- a slot is told less of -/
theorem Rel.forget {c : Fr} {G H : Hp} {σ : L2.St} {δ : S} (R : Rel c G H σ δ) (i : Nat) : Rel c G H σ { δ with sl := δ.sl.set i .un } := by
  have g : ∀ {j s}, (δ.sl.set i .un)[j]? = some s → isOwn s = true → δ.sl[j]? = some s := fun {j s} h o => by
    by_cases e : j = i
    · subst e
      by_cases hi : j < δ.sl.length
      · rw [List.getElem?_set_self hi] at h; cases h; cases o
      · rw [List.getElem?_eq_none (by simpa using hi)] at h; cases h
    · rw [List.getElem?_set_ne (Ne.symm e)] at h; exact h
  refine ⟨R.st, R.go.imp (fun _ s => s) fun a s => .inl (s.imp id fun ⟨j, s, h1, o, h2⟩ => ⟨j, s, g h1 o, o, h2⟩), by simp [R.len], fun j s h => ?_, fun j k a s t ne h1 h2 o1 o2 a1 a2 => R.uq j k a s t ne (g h1 o1) (g h2 o2) o1 o2 a1 a2⟩
  by_cases e : j = i
  · subst e
    by_cases hi : j < δ.sl.length
    · rw [List.getElem?_set_self hi] at h; cases h; trivial
    · rw [List.getElem?_eq_none (by simpa using hi)] at h; cases h
  · rw [List.getElem?_set_ne (Ne.symm e)] at h; exact R.sl j s h
/-- an owned object, from now on data -/
theorem Rel.freeze {c : Fr} {G H : Hp} {σ : L2.St} {δ : S} (R : Rel c G H σ δ) {i : Nat} {s : Sl} {a : Addr} {o : HO} {x : D} (hs : δ.sl[i]? = some s) (hi : at_ σ i = some (.ref a)) (ow : isOwn s = true) (hH : H a = some o)
    (hG : G a = none) (hS : ¬ Spc c.toWd δ.z a) (rx : Rep c.K c.p0 (upd G a o) (.ref a) x) (nt : ∀ ps, o ≠ .tbl ps := by intro _ q; cases q) : Rel c (upd G a o) H σ { δ with sl := δ.sl.set i (.d x) } := by
  have hl : i < δ.sl.length := (List.getElem?_eq_some_iff.mp hs).1
  have L : Le G (upd G a o) := Le.new hG
  have back : ∀ {j s}, (δ.sl.set i (.d x))[j]? = some s → isOwn s = true → δ.sl[j]? = some s ∧ j ≠ i := fun {j s} h o => by
    have nj : j ≠ i := fun e => by subst e; rw [List.getElem?_set_self hl] at h; cases h; cases o
    rw [List.getElem?_set_ne (Ne.symm nj)] at h
    exact ⟨h, nj⟩
  have st : StOk c.toWd (upd G a o) H δ.z := ⟨fun b u e => by
      by_cases q : b = a
      · subst q; rw [upd_same] at e; cases e; exact hH
      · rw [upd_ne q] at e; exact R.le b u e, R.st.pn.mono L rfl, R.st.tb, fun b m => by rw [upd_ne (show b ≠ a from fun q => hS (q ▸ m))]; exact R.st.sg b m, fun b cl m => (R.st.ms b cl m).imp (fun k => k.mono L rfl) id, fun b ps e => by
      by_cases q : b = a
      · subst q; rw [upd_same] at e; exact nt ps (Option.some.inj e)
      · rw [upd_ne q] at e; exact R.st.nt b ps e⟩
  have me : Spf c.toWd δ σ a := .inr ⟨i, s, hs, ow, hi⟩
  refine ⟨st, R.go.trans (S1 := Spf c.toWd δ σ) ⟨L, fun _ _ h _ => h, fun _ u h => ⟨u, h⟩, fun b u e => ?_, fun b h => .inl (h.imp id fun ⟨j, s, h1, o, h2⟩ => ⟨j, s, (back h1 o).1, o, h2⟩)⟩, by simp [R.len], fun j s' h => ?_, fun j k b s1 t1 ne h1 h2 o1 o2 a1 a2 => R.uq j k b s1 t1 ne (back h1 o1).1 (back h2 o2).1 o1 o2 a1 a2⟩
  · by_cases q : b = a
    · subst q; exact .inr (.inr me)
    · rw [upd_ne q] at e; exact .inl e
  · by_cases q : j = i
    · subst q
      rw [List.getElem?_set_self hl] at h; cases h
      exact ⟨_, hi, rx⟩
    · rw [List.getElem?_set_ne (Ne.symm q)] at h
      refine (R.sl j s' h).mono L fun d u os hd hu hg hn => ⟨hu, ?_, hn⟩
      rw [upd_ne (show d ≠ a from fun z => R.uq j i a s' s q h hs os ow (z ▸ hd) hi)]; exact hg
abbrev Gof (c : Fr) (δ δ' : S) (σ : L2.St) (G H G' H' : Hp) : Prop := Go (Spf c.toWd δ σ) (Spf c.toWd δ' σ) G H G' H'
theorem Rel.newG {c : Fr} {G H : Hp} {σ : L2.St} {δ : S} (R : Rel c G H σ δ) {p : Addr} {o : HO} (h : H p = none) : Gof c δ δ σ G H (upd G p o) (upd H p o) := (R.st.laidG h).imp (fun _ s => .inl s) fun x s => s.elim .inl fun o => .inr (.inl (.inr o))
theorem Rel.freezeG {c : Fr} {G H : Hp} {σ : L2.St} {δ : S} (R : Rel c G H σ δ) {i : Nat} {s : Sl} {a : Addr} {o : HO} {x : D} (hs : δ.sl[i]? = some s) (hi : at_ σ i = some (.ref a)) (ow : isOwn s = true) (hG : G a = none) : Gof c δ { δ with sl := δ.sl.set i (.d x) } σ G H (upd G a o) H := by
  have hl : i < δ.sl.length := (List.getElem?_eq_some_iff.mp hs).1
  have me : Spf c.toWd δ σ a := .inr ⟨i, s, hs, ow, hi⟩
  have back : ∀ {j s}, (δ.sl.set i (.d x))[j]? = some s → isOwn s = true → δ.sl[j]? = some s := fun {j s} h o => by
    have nj : j ≠ i := fun e => by subst e; rw [List.getElem?_set_self hl] at h; cases h; cases o
    rw [List.getElem?_set_ne (Ne.symm nj)] at h
    exact h
  refine ⟨Le.new hG, fun _ _ h _ => h, fun _ u h => ⟨u, h⟩, fun b u e => ?_, fun b h => .inl (h.imp id fun ⟨j, s, h1, o, h2⟩ => ⟨j, s, back h1 o, o, h2⟩)⟩
  by_cases q : b = a
  · subst q; exact .inr (.inr me)
  · rw [upd_ne q] at e; exact .inl e
/-- an owned object changes -/
theorem Rel.own {c : Fr} {G H : Hp} {σ : L2.St} {δ : S} (R : Rel c G H σ δ) {i : Nat} {s s' : Sl} {a : Addr} {o : HO} (hs : δ.sl[i]? = some s) (hi : at_ σ i = some (.ref a)) (ow : isOwn s = true) (hG : G a = none) (hS : ¬ Spc c.toWd δ.z a) (ow' : isOwn s' = true)
    (ok : SlOk c.toWd c.mu G (upd H a o) δ.z (some (.ref a)) s') : Rel c G (upd H a o) σ { δ with sl := δ.sl.set i s' } := by
  have hl : i < δ.sl.length := (List.getElem?_eq_some_iff.mp hs).1
  have back : ∀ {j t}, (δ.sl.set i s')[j]? = some t → isOwn t = true → ∃ t0, δ.sl[j]? = some t0 ∧ isOwn t0 = true := fun {j t} h o => by
    by_cases q : j = i
    · subst q; exact ⟨_, hs, ow⟩
    · rw [List.getElem?_set_ne (Ne.symm q)] at h; exact ⟨t, h, o⟩
  have me : Spf c.toWd δ σ a := .inr ⟨i, s, hs, ow, hi⟩
  have nt : ∀ b, b ∈ c.tb.map (·.1) → b ≠ a := fun b m q => hS (q ▸ .inr (.inr m))
  refine ⟨⟨fun b u e => ?_, R.st.pn.mono (Le.refl _) (by rw [upd_ne (fun q => hS (.inl q.symm))]), fun p m => ?_, R.st.sg, fun b cl m => (R.st.ms b cl m).imp (fun k => k.mono (Le.refl _) (by rw [upd_ne (show b ≠ a from fun q => hS (q ▸ .inr (.inl (by rw [m]; simp))))])) id, R.st.nt⟩,
    R.go.trans (S1 := Spf c.toWd δ σ) ⟨Le.refl _, fun b u h n => by rw [upd_ne (show b ≠ a from fun q => n (q ▸ me))]; exact h, fun b u h => ?_, fun _ _ h => .inl h, fun b h => .inl (h.imp id fun ⟨j, t, h1, o, h2⟩ => (back h1 o).elim fun t0 p => ⟨j, t0, p.1, p.2, h2⟩)⟩, by simp [R.len], fun j t h => ?_, fun j k b s1 t1 ne h1 h2 o1 o2 a1 a2 => ?_⟩
  · rw [upd_ne (show b ≠ a from fun q => by rw [q, hG] at e; cases e)]; exact R.le b u e
  · obtain ⟨ps, h1, h2, h3⟩ := R.st.tb p m
    have hne := nt _ (List.mem_map_of_mem m)
    refine ⟨ps, by rw [upd_ne hne]; exact h1, h2, fun pos cv hc => ?_⟩
    obtain ⟨cc, e1, e2⟩ := h3 pos cv hc
    refine ⟨cc, e1, ?_⟩
    rw [upd_ne (fun q => ?_)]
    · exact e2
    · obtain ⟨a', u, z1, z2, _⟩ := (R.sl i s hs).own_at ow
      rw [hi] at z1; cases z1
      rw [q] at e2
      have ok2 := (R.sl i s hs)
      rw [hi] at ok2
      cases s with
      | un => cases ow
      | d x => cases ow
      | own xs => obtain ⟨_, vs, y1, y2, _⟩ := ok2; cases y1; rw [e2] at y2; unfold LamX.CodeO at y2; cases y2
      | ownK xs => obtain ⟨_, vs, y1, y2, _⟩ := ok2; cases y1; rw [e2] at y2; unfold LamX.CodeO at y2; cases y2
      | self C fs => obtain ⟨_, dx, vs, y1, y2, _⟩ := ok2; cases y1; rw [e2] at y2; unfold LamX.CodeO at y2; cases y2
  · by_cases q : b = a
    · subst q; exact ⟨_, upd_same⟩
    · exact ⟨u, by rw [upd_ne q]; exact h⟩
  · by_cases q : j = i
    · subst q
      rw [List.getElem?_set_self hl] at h; cases h
      rw [hi]; exact ok
    · rw [List.getElem?_set_ne (Ne.symm q)] at h
      refine (R.sl j t h).mono (Le.refl _) fun d u os hd hu hg hn => ⟨?_, hg, hn⟩
      rw [upd_ne (show d ≠ a from fun z => R.uq j i a t s q h hs os ow (z ▸ hd) hi)]; exact hu
  · obtain ⟨s0, p1, p2⟩ := back h1 o1
    obtain ⟨t0, q1, q2⟩ := back h2 o2
    exact R.uq j k b s0 t0 ne p1 q1 p2 q2 a1 a2
/-- an object at xa, made since H, is known from now on -/
theorem StOk.frozen {c : Wd} {G H : Hp} {z : Z} {a : Addr} {o : HO} (s : StOk c G H z) (h : H a = some o) (g : G a = none) (n : ¬ Spc c z a) (nt : ∀ ps, o ≠ .tbl ps := by intro _ q; cases q) : StOk c (upd G a o) H z :=
  ⟨fun b u e => by
    by_cases q : b = a
    · subst q; rw [upd_same] at e; cases e; exact h
    · rw [upd_ne q] at e; exact s.le b u e, s.pn.mono (Le.new g) rfl, s.tb, fun b m => by rw [upd_ne (show b ≠ a from fun q => n (q ▸ m))]; exact s.sg b m, fun b cl m => (s.ms b cl m).imp (fun k => k.mono (Le.new g) rfl) id, fun b ps e => by
    by_cases q : b = a
    · subst q; rw [upd_same] at e; exact nt ps (Option.some.inj e)
    · rw [upd_ne q] at e; exact s.nt b ps e⟩
theorem Go.frozen {S S' : Addr → Prop} {G H G' H' : Hp} {a : Addr} {o : HO} (x : Go S (fun b => S' b ∨ b = a) G H G' H') (fa : H a = none) (n : ¬ S' a) (gn : G' a = none := by assumption) : Go S S' G H (upd G' a o) H' :=
  ⟨x.g.trans (Le.new gn), x.h, x.ht, fun b u e => by
    by_cases q : b = a
    · subst q; exact .inr (.inl fa)
    · rw [upd_ne q] at e; exact x.nw b u e, fun b h => x.ks b (.inl h)⟩
end DL

/-! EL1: readings over data and their lifts; expressions, calls, statements. -/
namespace DL
open PySem L2 PySem.Spec PyProof.Rows

/-- an exception by its class and its own fields -/
structure Er where
  cls : Value
  fs : List (Str × D)
def ErRep (c : Wd) (G : Hp) (cls : Value) (dd : Option Addr) (er : Er) : Prop :=
  cls = er.cls ∧ ((er.fs = [] ∧ dd = none) ∨ ∃ d vs, dd = some d ∧ G d = some (.xd vs) ∧ RepF c.K c.p0 G vs er.fs)

abbrev DTE := S → (D → S → Prop) → (Er → S → Prop) → Prop
abbrev DTT := S → (Bool → S → Prop) → (Er → S → Prop) → Prop
abbrev DTA := S → (List D → S → Prop) → (Er → S → Prop) → Prop
structure DN where
  nx : S → Prop
  rt : D → S → Prop
  bk : S → Prop
  ct : S → Prop
  ex : Er → S → Prop
abbrev DTS := DN → S → Prop
abbrev DTG := D → S → (S → Prop) → Prop

def ExOk (c : Fr) (W : WX) (G : Hp) (σ : L2.St) (E : Er → S → Prop) : Prop :=
  ∀ er δ' cls dd G' H', E er δ' → Le G G' → Rel c G' H' σ δ' → ErRep c.toWd G' cls dd er → W cls dd σ H'
theorem ExOk.mono {c : Fr} {W : WX} {G G' : Hp} {σ : L2.St} {E : Er → S → Prop} (h : ExOk c W G σ E) (e : Le G G') : ExOk c W G' σ E := fun er δ' cls dd G2 H' a b => h er δ' cls dd G2 H' a (e.trans b)

def liftE (c : Fr) (W : WX) (r : DTE) : TE := fun σ H Q => ∃ G δ P E, Rel c G H σ δ ∧ r δ P E ∧
  (∀ d δ' v G' H', P d δ' → Gof c δ δ' σ G H G' H' → Rel c G' H' σ δ' → Rep c.K c.p0 G' v d → Q v H') ∧ ExOk c W G σ E
def liftT (c : Fr) (W : WX) (r : DTT) : TT := fun σ H Q => ∃ G δ P E, Rel c G H σ δ ∧ r δ P E ∧
  (∀ d δ' G' H', P d δ' → Gof c δ δ' σ G H G' H' → Rel c G' H' σ δ' → Q d H') ∧ ExOk c W G σ E
def liftA (c : Fr) (W : WX) (r : DTA) : TA := fun σ H Q => ∃ G δ P E, Rel c G H σ δ ∧ r δ P E ∧
  (∀ d δ' v G' H', P d δ' → Gof c δ δ' σ G H G' H' → Rel c G' H' σ δ' → RepL c.K c.p0 G' v d → Q v H') ∧ ExOk c W G σ E
def liftG (c : Fr) (g : DTG) : TG := fun v σ H Q => ∃ G δ d P, Rel c G H σ δ ∧ Rep c.K c.p0 G v d ∧ g d δ P ∧
  (∀ δ' G' H' σ', P δ' → Le G G' → Rel c G' H' σ' δ' → Q σ' H')
structure NOk (c : Fr) (W : WX) (G : Hp) (D : Ends) (N : DN) : Prop where
  nx : ∀ δ' G' H' σ', N.nx δ' → Le G G' → Rel c G' H' σ' δ' → D.nx σ' H'
  rt : ∀ d δ' v G' H' σ', N.rt d δ' → Le G G' → Rel c G' H' σ' δ' → Rep c.K c.p0 G' v d → D.rt v H'
  bk : ∀ δ' G' H' σ', N.bk δ' → Le G G' → Rel c G' H' σ' δ' → D.bk σ' H'
  ct : ∀ δ' G' H' σ', N.ct δ' → Le G G' → Rel c G' H' σ' δ' → D.ct σ' H'
  ex : ∀ er δ' cls dd G' H' σ', N.ex er δ' → Le G G' → Rel c G' H' σ' δ' → ErRep c.toWd G' cls dd er → W cls dd σ' H'
theorem NOk.mono {c : Fr} {W : WX} {G G' : Hp} {D : Ends} {N : DN} (h : NOk c W G D N) (e : Le G G') : NOk c W G' D N :=
  ⟨fun a b x y p q => h.nx a b x y p (e.trans q), fun a b x y z w p q => h.rt a b x y z w p (e.trans q), fun a b x y p q => h.bk a b x y p (e.trans q), fun a b x y p q => h.ct a b x y p (e.trans q), fun a b x y z w v p q => h.ex a b x y z w v p (e.trans q)⟩
def liftS (c : Fr) (W : WX) (t : DTS) : TS := fun D σ H => ∃ G δ N, Rel c G H σ δ ∧ t N δ ∧ NOk c W G D N

abbrev DE (X : Cx) (c : Fr) (W : WX) (e : Expr) (r : DTE) : Prop := PE X e (liftE c W r)
abbrev DT (X : Cx) (c : Fr) (W : WX) (e : Expr) (r : DTT) : Prop := PT X e (liftT c W r)
abbrev DW (X : Cx) (c : Fr) (W : WX) (e : Expr) (r : DTT) : Prop := PW X e (liftT c W r)
abbrev DA (X : Cx) (c : Fr) (W : WX) (es : List Expr) (r : DTA) : Prop := PA X es (liftA c W r)
abbrev DG (X : Cx) (c : Fr) (tg : Expr) (g : DTG) : Prop := PG X tg (liftG c g)
abbrev DS (X : Cx) (c : Fr) (W : WX) (st : Stmt) (t : DTS) : Prop := PS X st (liftS c W t)
abbrev DSs (X : Cx) (c : Fr) (W : WX) (st : List Stmt) (t : DTS) : Prop := PSs X st (liftS c W t)

theorem peI {X : Cx} {e : Expr} {t t' : TE} (h : PE X e t) (k : ∀ σ H Q, t' σ H Q → t σ H Q) : PE X e t' := ⟨fun pins s σ H Q I q => h.run pins s σ H Q I (k σ H Q q)⟩
theorem ptI {X : Cx} {e : Expr} {t t' : TT} (h : PT X e t) (k : ∀ σ H Q, t' σ H Q → t σ H Q) : PT X e t' := ⟨fun pins s σ H Q I q => h.run pins s σ H Q I (k σ H Q q)⟩
theorem pwI {X : Cx} {e : Expr} {t t' : TT} (h : PW X e t) (k : ∀ σ H Q, t' σ H Q → t σ H Q) : PW X e t' := ⟨fun wh pins s σ H Q I q => h.run wh pins s σ H Q I (k σ H Q q)⟩
theorem paI {X : Cx} {e : List Expr} {t t' : TA} (h : PA X e t) (k : ∀ σ H Q, t' σ H Q → t σ H Q) : PA X e t' := ⟨fun pos pins s σ H Q I q => h.run pos pins s σ H Q I (k σ H Q q)⟩
theorem pgI {X : Cx} {e : Expr} {t t' : TG} (h : PG X e t) (k : ∀ v σ H Q, t' v σ H Q → t v σ H Q) : PG X e t' := ⟨fun pins s σ H v u Q I r q => h.run pins s σ H v u Q I r (k v σ H Q q)⟩
theorem psI {X : Cx} {e : Stmt} {t t' : TS} (h : PS X e t) (k : ∀ D σ H, t' D σ H → t D σ H) : PS X e t' := ⟨fun pins s σ H Q I q => h.run pins s σ H Q I (k Q σ H q)⟩
theorem pssI {X : Cx} {e : List Stmt} {t t' : TS} (h : PSs X e t) (k : ∀ D σ H, t' D σ H → t D σ H) : PSs X e t' := ⟨fun pins s σ H Q I q => h.run pins s σ H Q I (k Q σ H q)⟩

/-- the body's context, by what its rules ask -/
structure XB (X : Cx) (c : Fr) (W : WX) (N : List Str) (sc : Scope) (k : Nat) (bb : Bool) : Prop where
  hP : X.prog = c.P
  hw : X.w = c.w
  hK : X.K = c.K
  hm : X.mg = c.mg
  hb : X.base = c.base
  hN : X.N = N
  nd : N.Nodup
  hs : X.env.scope = sc
  calm : X.calm = true
  room : Room k X.A
  gd : X.A.guards = some []
  tk : Takes X W
  pw : PassesOwn (model X.prog X.w) X.A X.env X.xe
  fn : bb = false → ∀ x, X.fn x = true
  ex : bb = false → X.ex = []
  stk : bb = false → X.stack = X.env :: X.outer ∧ X.env.frame = some X.env.locals

section
variable {X : Cx} {c : Fr} {W : WX} {N : List Str} {sc : Scope} {k : Nat} {bb : Bool} {e a b : Expr} {es : List Expr} {pos : Pos} {r ra rb : DTE} {rs : DTA}

/-! ### constants, names -/
def dC (d : D) : DTE := fun δ P _ => P d δ
theorem de_int {i j pos} : DE X c W (.Constant (.int i) j pos) (dC (.int i)) := peI pe_int fun σ H Q ⟨G, δ, P, E, R, h, k, x⟩ => k _ _ _ G H h Go.refl R (.int i)
theorem de_bl {b j pos} : DE X c W (.Constant (.bool b) j pos) (dC (.bl b)) := peI pe_bl fun σ H Q ⟨G, δ, P, E, R, h, k, x⟩ => k _ _ _ G H h Go.refl R (.bl b)
theorem de_non {j pos} : DE X c W (.Constant .none j pos) (dC .non) := peI pe_non fun σ H Q ⟨G, δ, P, E, R, h, k, x⟩ => k _ _ _ G H h Go.refl R .non
theorem de_str {x j pos} : DE X c W (.Constant (.str x) j pos) (dC (.str x)) := peI pe_str fun σ H Q ⟨G, δ, P, E, R, h, k, x⟩ => k _ _ _ G H h Go.refl R (.str _)

def dVar (i : Nat) : DTE := fun δ P _ => match δ.sl[i]? with
  | some (.d x) => P x δ
  | some (.own xs) => P (.lst xs) { δ with sl := δ.sl.set i (.d (.lst xs)) }
  | some (.ownK xs) => P (.dct xs) { δ with sl := δ.sl.set i (.d (.dct xs)) }
  | _ => False
theorem de_var {i : Nat} {x : Str} (B : XB X c W N sc k bb) (hN : N[i]? = some x) (hv : Vis sc x) (hd : (x == ("__debug__" : Str)) = false := by decide) (hcd : (x == ("__classdict__" : Str)) = false := by decide) : DE X c W (.Name x pos) (dVar i) := by
  refine peI (pe_var (i := i) (by rw [B.hN]; exact hN) (by rw [B.hs]; exact hv) hd hcd) fun σ H Q ⟨G, δ, P, E, R, h, kk, xx⟩ => ?_
  unfold dVar at h
  cases e : δ.sl[i]? with
  | none => rw [e] at h; exact h.elim
  | some s =>
    rw [e] at h
    have hs := R.sl i s e
    cases s with
    | un => exact h.elim
    | d y => obtain ⟨v, h1, h2⟩ := hs; exact ⟨v, at_some h1, kk _ _ _ G H h Go.refl R h2⟩
    | own xs =>
      obtain ⟨d, vs, h1, h2, h3, h4, h5⟩ := hs
      have L : Le G (upd G d (.lst vs)) := Le.new h3
      have rx : Rep c.K c.p0 (upd G d (.lst vs)) (.ref d) (.lst xs) := .lst (.inl upd_same) (h5.mono L)
      exact ⟨_, at_some h1, kk _ _ _ _ H h (R.freezeG e h1 rfl h3) (R.freeze e h1 rfl h2 h3 h4 rx) rx⟩
    | ownK xs =>
      obtain ⟨d, vs, h1, h2, h3, h4, h5⟩ := hs
      have L : Le G (upd G d (.dK vs)) := Le.new h3
      have rx : Rep c.K c.p0 (upd G d (.dK vs)) (.ref d) (.dct xs) := .dct (.inl upd_same) (h5.mono L)
      exact ⟨_, at_some h1, kk _ _ _ _ H h (R.freezeG e h1 rfl h3) (R.freeze e h1 rfl h2 h3 h4 rx) rx⟩
    | self C fs => exact h.elim
/-- a module's name as a value: a number, a text, an object of the module -/
theorem de_glob {x : Str} {v : V} {u : Value} {d : D} (B : XB X c W N sc k bb) (hg : sc.names.lookup x = some .globalImplicit) (hm : c.mg x = some u) (r : RelV v u) (hr : ∀ G, Rep c.K c.p0 G v d) (hd : (x == ("__debug__" : Str)) = false := by decide) : DE X c W (.Name x pos) (dC d) :=
  peI (pe_glob (by show X.env.scope.names.lookup x = _; rw [B.hs]; exact hg) (by rw [B.hm]; exact hm) r hd) fun σ H Q ⟨G, δ, P, E, R, h, k, x⟩ => k _ _ _ G H h Go.refl R (hr G)

/-! ### argument lists, displays -/
def dNil : DTA := fun δ P _ => P [] δ
def dCons (r : DTE) (rs : DTA) : DTA := fun δ P E => r δ (fun x δ1 => rs δ1 (fun xs δ2 => P (x :: xs) δ2) E) E
theorem da_nil : DA X c W [] dNil := paI pa_nil fun σ H Q ⟨G, δ, P, E, R, h, k, x⟩ => k _ _ _ G H h Go.refl R .nil
theorem da_cons (ha : DE X c W e r) (hr : DA X c W es rs) (hs : starEach (e :: es) X.env = (false, eval e X.env) :: starEach es X.env := by rfl) : DA X c W (e :: es) (dCons r rs) :=
  paI (pa_cons ha hr hs) fun σ H Q ⟨G, δ, P, E, R, h, kk, x⟩ => ⟨G, δ, _, E, R, h, fun d δ1 v G1 H1 p1 L1 R1 r1 =>
    ⟨G1, δ1, _, E, R1, p1, fun ds δ2 vs G2 H2 p2 L2 R2 r2 => kk _ _ _ G2 H2 p2 (L1.trans L2) R2 (.cons (r1.mono L2.g) r2), x.mono L1.g⟩, x⟩
theorem sz5 {n : Nat} (h : n ≤ 100000) : n ≤ sizeLine := Nat.le_trans h (by decide)
theorem sl5 {n : Nat} (h : n < 100000) : n < sizeLine := Nat.lt_of_lt_of_le h (by decide)
def dTup (rs : DTA) : DTE := fun δ P E => rs δ (fun ds δ' => ds.length ≤ 100000 ∧ P (.tup ds) δ') E
def dLst (rs : DTA) : DTE := fun δ P E => rs δ (fun ds δ' => ds.length ≤ 100000 ∧ P (.lst ds) δ') E
theorem de_tup {x1} (h : DA X c W es rs) : DE X c W (.Tuple es x1 pos) (dTup rs) :=
  peI (pe_tup h) fun σ H Q ⟨G, δ, P, E, R, h, kk, x⟩ => ⟨G, δ, _, E, R, h, fun ds δ' vs G' H' ⟨z, p⟩ L R' r => ⟨by rw [r.len]; exact sz5 z, fun p0 hp =>
    kk _ _ _ _ _ p (L.trans (R'.newG hp)) (R'.laid' hp) (.tup (.inl (.inl upd_same)) (r.mono (Le.new (R'.gnone hp))))⟩, x⟩
theorem de_lst (h : DA X c W es rs) : DE X c W (.List es pos) (dLst rs) :=
  peI (pe_lst h) fun σ H Q ⟨G, δ, P, E, R, h, kk, x⟩ => ⟨G, δ, _, E, R, h, fun ds δ' vs G' H' ⟨z, p⟩ L R' r => ⟨by rw [r.len]; exact sz5 z, fun p0 hp =>
    kk _ _ _ _ _ p (L.trans (R'.newG hp)) (R'.laid' hp) (.lst (.inl upd_same) (r.mono (Le.new (R'.gnone hp))))⟩, x⟩

/-! ### operators -/
abbrev DOp := D → D → (D → Prop) → Prop
def DR2 (c : Fr) (r : R2) (o : DOp) : Prop := ∀ (G H : Hp) (σ : L2.St) (δ : S) (u v : V) (x y : D) (P : D → Prop) (Q : VK), Rel c G H σ δ → Rep c.K c.p0 G u x → Rep c.K c.p0 G v y → o x y P →
  (∀ d w G' H', P d → Gof c δ δ σ G H G' H' → Rel c G' H' σ δ → Rep c.K c.p0 G' w d → Q w H') → r u v H Q
structure OpD (X : Cx) (c : Fr) (f : Value → Value → Sem Value) (o : DOp) : Prop where
  ex : ∃ r, OpR X f r ∧ DR2 c r o
def dBin (o : DOp) (ra rb : DTE) : DTE := fun δ P E => ra δ (fun x δ1 => rb δ1 (fun y δ2 => o x y (fun z => P z δ2)) E) E
theorem dbin_ok {r2 : R2} {o : DOp} (h2 : DR2 c r2 o) {σ : L2.St} {H : Hp} {Q : VK} : liftE c W (dBin o ra rb) σ H Q → tOp r2 (liftE c W ra) (liftE c W rb) σ H Q := fun ⟨G, δ, P, E, R, h, kk, x⟩ =>
  ⟨G, δ, _, E, R, h, fun dx δ1 v G1 H1 p1 L1 R1 r1 => ⟨G1, δ1, _, E, R1, p1, fun dy δ2 u G2 H2 p2 L2 R2 r2 => h2 G2 H2 σ δ2 v u dx dy _ Q R2 (r1.mono L2.g) r2 p2 fun d w G3 H3 p3 L3 R3 r3 => kk d δ2 w G3 H3 p3 ((L1.trans L2).trans L3) R3 r3, x.mono L1.g⟩, x⟩
theorem de_bin {op : Operator} {o : DOp} (ho : OpD X c (binaryOp op) o) (ha : DE X c W a ra) (hb : DE X c W b rb) : DE X c W (.BinOp a op b pos) (dBin o ra rb) := by
  obtain ⟨r, h1, h2⟩ := ho.ex
  exact peI (pe_op h1 ha hb) fun σ H Q => dbin_ok h2
theorem de_cmp {op : CmpOp} {o : DOp} (ho : OpD X c (compareOp op) o) (ha : DE X c W a ra) (hb : DE X c W b rb) (hm : behindInMarks op b = false) : DE X c W (.Compare a [op] [b] pos) (dBin o ra rb) := by
  obtain ⟨r, h1, h2⟩ := ho.ex
  exact peI (pe_cmpR h1 ha hb hm) fun σ H Q => dbin_ok h2
/-- a True or False, as a test -/
def dTB (r : DTE) : DTT := fun δ P E => r δ (fun d δ' => match d with
  | .bl b => P b δ'
  | _ => False) E
theorem dtb_ok {σ : L2.St} {Q : Bool → Hp → Prop} {P : Bool → S → Prop} {d : D} {v : V} {G H G' H' : Hp} {δ' : S} (kk : ∀ d δ' G' H', P d δ' → Gof c δ δ' σ G H G' H' → Rel c G' H' σ δ' → Q d H') (p : match d with
  | .bl b => P b δ'
  | _ => False) (L : Gof c δ δ' σ G H G' H') (R' : Rel c G' H' σ δ') (r : Rep c.K c.p0 G' v d) : ∃ k, v = .bl k ∧ Q k H' := by
  cases r with
  | bl b => exact ⟨b, rfl, kk b δ' G' H' p L R'⟩
  | _ => exact p.elim
theorem dt_cmp {op : CmpOp} {o : DOp} (ho : OpD X c (compareOp op) o) (ha : DE X c W a ra) (hb : DE X c W b rb) (hm : behindInMarks op b = false) : DT X c W (.Compare a [op] [b] pos) (dTB (dBin o ra rb)) := by
  obtain ⟨r, h1, h2⟩ := ho.ex
  exact ptI (pt_cmpR h1 ha hb hm) fun σ H Q ⟨G, δ, P, E, R, h, kk, x⟩ => dbin_ok h2 ⟨G, δ, _, E, R, h, fun d δ' v G' H' p L R' r => dtb_ok kk p L R' r, x⟩
theorem dt_val (h : DE X c W e r) (he : ∀ whole, isTrue e X.env whole = (do let v ← whole; standAt e.pos; holding [v] (truthy v)) := by intro _; rfl) : DT X c W e (dTB r) :=
  ptI (pt_val h he) fun σ H Q ⟨G, δ, P, E, R, h, kk, x⟩ => ⟨G, δ, _, E, R, h, fun d δ' v G' H' p L R' r => dtb_ok kk p L R' r, x⟩
/-! ### and, or, not -/
def dAnd (t u : DTT) : DTT := fun δ P E => t δ (fun b δ1 => if b = true then u δ1 P E else P false δ1) E
def dOr (t u : DTT) : DTT := fun δ P E => t δ (fun b δ1 => if b = true then P true δ1 else u δ1 P E) E
def dNot (t : DTT) : DTT := fun δ P E => t δ (fun b δ1 => P (!b) δ1) E
variable {t u : DTT} {rest : List Expr}
theorem dw_and1 (ha : DT X c W a t) : DW X c W (.BoolOp .And [a] pos) t := pw_and1 ha
theorem dw_or1 (ha : DT X c W a t) : DW X c W (.BoolOp .Or [a] pos) t := pw_or1 ha
theorem dw_and (ha : DT X c W a t) (hb : DW X c W (.BoolOp .And (b :: rest) pos) u) : DW X c W (.BoolOp .And (a :: b :: rest) pos) (dAnd t u) :=
  pwI (pw_and ha hb) fun σ H Q ⟨G, δ, P, E, R, h, kk, x⟩ => ⟨G, δ, _, E, R, h, fun d δ1 G1 H1 p L R1 => by
    cases d with
    | true => exact ⟨G1, δ1, P, E, R1, p, fun d δ' G' H' p' L' R' => kk d δ' G' H' p' (L.trans L') R', x.mono L.g⟩
    | false => exact kk false δ1 G1 H1 p L R1, x⟩
theorem dw_or (ha : DT X c W a t) (hb : DW X c W (.BoolOp .Or (b :: rest) pos) u) : DW X c W (.BoolOp .Or (a :: b :: rest) pos) (dOr t u) :=
  pwI (pw_or ha hb) fun σ H Q ⟨G, δ, P, E, R, h, kk, x⟩ => ⟨G, δ, _, E, R, h, fun d δ1 G1 H1 p L R1 => by
    cases d with
    | false => exact ⟨G1, δ1, P, E, R1, p, fun d δ' G' H' p' L' R' => kk d δ' G' H' p' (L.trans L') R', x.mono L.g⟩
    | true => exact kk true δ1 G1 H1 p L R1, x⟩
theorem dt_not (ha : DT X c W a t) : DT X c W (.UnaryOp .Not a pos) (dNot t) :=
  ptI (pt_not ha) fun σ H Q ⟨G, δ, P, E, R, h, kk, x⟩ => ⟨G, δ, _, E, R, h, fun d δ1 G1 H1 p L R1 => kk _ _ _ _ p L R1, x⟩
/-- as values, all True or False -/
def dAndV (ra rb : DTE) : DTE := fun δ P E => dTB ra δ (fun b δ1 => if b = true then rb δ1 P E else P (.bl false) δ1) E
def dOrV (ra rb : DTE) : DTE := fun δ P E => dTB ra δ (fun b δ1 => if b = true then P (.bl true) δ1 else rb δ1 P E) E
def dNotV (ra : DTE) : DTE := fun δ P E => dTB ra δ (fun b δ1 => P (.bl (!b)) δ1) E
theorem de_one {op} (h : DE X c W a ra) : DE X c W (.BoolOp op [a] pos) ra := pe_one h
theorem de_and (ha : DE X c W a ra) (hb : DE X c W (.BoolOp .And (b :: rest) pos) rb) : DE X c W (.BoolOp .And (a :: b :: rest) pos) (dAndV ra rb) :=
  peI (pe_and ha hb) fun σ H Q ⟨G, δ, P, E, R, h, kk, x⟩ => ⟨G, δ, _, E, R, h, fun d δ1 v G1 H1 p L R1 r1 => by
    cases r1 with
    | bl q =>
      refine ⟨q, rfl, ?_⟩
      cases q with
      | true => exact ⟨G1, δ1, P, E, R1, p, fun d δ' v' G' H' p' L' R' => kk d δ' v' G' H' p' (L.trans L') R', x.mono L.g⟩
      | false => exact kk _ δ1 _ G1 H1 p L R1 (.bl false)
    | _ => exact p.elim, x⟩
theorem de_or (ha : DE X c W a ra) (hb : DE X c W (.BoolOp .Or (b :: rest) pos) rb) : DE X c W (.BoolOp .Or (a :: b :: rest) pos) (dOrV ra rb) :=
  peI (pe_or ha hb) fun σ H Q ⟨G, δ, P, E, R, h, kk, x⟩ => ⟨G, δ, _, E, R, h, fun d δ1 v G1 H1 p L R1 r1 => by
    cases r1 with
    | bl q =>
      refine ⟨q, rfl, ?_⟩
      cases q with
      | false => exact ⟨G1, δ1, P, E, R1, p, fun d δ' v' G' H' p' L' R' => kk d δ' v' G' H' p' (L.trans L') R', x.mono L.g⟩
      | true => exact kk _ δ1 _ G1 H1 p L R1 (.bl true)
    | _ => exact p.elim, x⟩
theorem de_not (ha : DE X c W a ra) : DE X c W (.UnaryOp .Not a pos) (dNotV ra) :=
  peI (pe_not ha) fun σ H Q ⟨G, δ, P, E, R, h, kk, x⟩ => ⟨G, δ, _, E, R, h, fun d δ1 v G1 H1 p L R1 r1 => by
    cases r1 with
    | bl q => exact ⟨q, rfl, kk _ δ1 _ G1 H1 p L R1 (.bl _)⟩
    | _ => exact p.elim, x⟩
def dIf (t : DTT) (ra rb : DTE) : DTE := fun δ P E => t δ (fun b δ1 => if b = true then ra δ1 P E else rb δ1 P E) E
theorem de_if {q : Expr} (hc : DT X c W q t) (ha : DE X c W a ra) (hb : DE X c W b rb) : DE X c W (.IfExp q a b pos) (dIf t ra rb) :=
  peI (pe_ifExp hc ha hb) fun σ H Q ⟨G, δ, P, E, R, h, kk, x⟩ => ⟨G, δ, _, E, R, h, fun d δ1 G1 H1 p L R1 => by
    cases d with
    | true => exact ⟨G1, δ1, P, E, R1, p, fun d δ' v' G' H' p' L' R' => kk d δ' v' G' H' p' (L.trans L') R', x.mono L.g⟩
    | false => exact ⟨G1, δ1, P, E, R1, p, fun d δ' v' G' H' p' L' R' => kk d δ' v' G' H' p' (L.trans L') R', x.mono L.g⟩, x⟩
/-- truth of any value -/
def tru : D → Option Bool
  | .non => some false
  | .bl b => some b
  | .int i => some (i != 0)
  | .str s => if s.length ≤ 100000 then some (s.length != 0) else none
  | .lst xs => some (!xs.isEmpty)
  | .tup xs => some (!xs.isEmpty)
  | .dct xs => some (!xs.isEmpty)
  | _ => none
def dTru (r : DTE) : DTT := fun δ P E => r δ (fun d δ' => match tru d with
  | some b => P b δ'
  | none => False) E
end
end DL

/-! EL2: statements, loops, calls of defs, a def by its body. -/
namespace DL
open PySem L2 PySem.Spec PyProof.Rows
section
variable {X : Cx} {c : Fr} {W : WX} {N : List Str} {sc : Scope} {k : Nat} {bb : Bool} {e a b : Expr} {es : List Expr} {pos : Pos} {r ra rb : DTE} {rs : DTA} {st : Stmt} {sts bd : List Stmt} {t u : DTS} {q : DTT}

def dNext : DTS := fun N δ => N.nx δ
def dSeq (t u : DTS) : DTS := fun N δ => t { N with nx := u N } δ
theorem dss_nil : DSs X c W [] dNext := pssI pss_nil fun D σ H ⟨G, δ, N, R, h, n⟩ => n.nx δ G H σ h (Le.refl _) R
theorem dss_cons (h1 : DS X c W st t) (h2 : DSs X c W sts u) : DSs X c W (st :: sts) (dSeq t u) :=
  pssI (pss_cons h1 h2) fun D σ H ⟨G, δ, N, R, h, n⟩ => ⟨G, δ, { N with nx := u N }, R, h,
    ⟨fun δ' G' H' σ' p L R' => ⟨G', δ', N, R', p, n.mono L⟩, n.rt, n.bk, n.ct, n.ex⟩⟩
theorem dss_one (h1 : DS X c W st t) : DSs X c W [st] t := pss_one h1
theorem ds_pass : DS X c W (.Pass pos) dNext := psI ps_pass fun D σ H ⟨G, δ, N, R, h, n⟩ => n.nx δ G H σ h (Le.refl _) R
theorem ds_break : DS X c W (.Break pos) (fun N δ => N.bk δ) := psI ps_break fun D σ H ⟨G, δ, N, R, h, n⟩ => n.bk δ G H σ h (Le.refl _) R
theorem ds_cont : DS X c W (.Continue pos) (fun N δ => N.ct δ) := psI ps_continue fun D σ H ⟨G, δ, N, R, h, n⟩ => n.ct δ G H σ h (Le.refl _) R
/-- what an expression's exception may do in a statement -/
theorem exOf {G : Hp} {D : Ends} {N : DN} {σ : L2.St} (n : NOk c W G D N) : ExOk c W G σ N.ex := fun er δ' cls dd G' H' p L R x => n.ex er δ' cls dd G' H' σ p L R x
def dDrop (r : DTE) : DTS := fun N δ => r δ (fun _ δ' => N.nx δ') N.ex
theorem ds_expr (h : DE X c W e r) (hs : swapsWith e none pos.line X.env = pure false := by rfl) : DS X c W (.Expr e pos) (dDrop r) :=
  psI (ps_expr h hs) fun D σ H ⟨G, δ, N, R, h, n⟩ => ⟨G, δ, _, N.ex, R, h, fun d δ' v G' H' p L R' _ => n.nx δ' G' H' σ p L.g R', exOf n⟩
def dRet (r : DTE) : DTS := fun N δ => r δ N.rt N.ex
theorem ds_ret (h : DE X c W e r) : DS X c W (.Return (some e) pos) (dRet r) :=
  psI (ps_ret h) fun D σ H ⟨G, δ, N, R, h, n⟩ => ⟨G, δ, _, N.ex, R, h, fun d δ' v G' H' p L R' rr => n.rt d δ' v G' H' σ p L.g R' rr, exOf n⟩
theorem ds_retN : DS X c W (.Return none pos) (fun N δ => N.rt .non δ) := psI ps_retN fun D σ H ⟨G, δ, N, R, h, n⟩ => n.rt .non δ .non G H σ h (Le.refl _) R .non
def dIte (q : DTT) (t u : DTS) : DTS := fun N δ => q δ (fun b δ1 => if b = true then t N δ1 else u N δ1) N.ex
theorem ds_if {cnd : Expr} {A B : List Stmt} (hc : DT X c W cnd q) (ha : DSs X c W A t) (hb : DSs X c W B u) : DS X c W (.If cnd A B pos) (dIte q t u) :=
  psI (ps_if hc ha hb) fun D σ H ⟨G, δ, N, R, h, n⟩ => ⟨G, δ, _, N.ex, R, h, fun d δ' G' H' p L R' => by
    cases d with
    | true => exact ⟨G', δ', N, R', p, n.mono L.g⟩
    | false => exact ⟨G', δ', N, R', p, n.mono L.g⟩, exOf n⟩
/-! ### targets -/
theorem Rel.set' {G H : Hp} {σ : L2.St} {δ : S} (R : Rel c G H σ δ) {i : Nat} {v : V} {x : D} (r : Rep c.K c.p0 G v x) : Rel c G H (σ.set i (some v)) { δ with sl := δ.sl.set i (.d x) } := by
  by_cases hi : i < δ.sl.length
  · exact R.set hi r
  · have e1 : σ.set i (some v) = σ := List.set_eq_of_length_le (by rw [R.len]; omega)
    have e2 : δ.sl.set i (.d x) = δ.sl := List.set_eq_of_length_le (by omega)
    rw [e1, e2]
    exact R
def gN (i : Nat) : DTG := fun d δ P => P { δ with sl := δ.sl.set i (.d d) }
theorem dg_name {i : Nat} {x : Str} (B : XB X c W N sc k false) (hi : N[i]? = some x) (hx : Loc sc x) : DG X c (.Name x pos) (gN i) :=
  pgI (pg_name (i := i) (by rw [B.hN]; exact B.nd) (by rw [B.hN]; exact hi) (by rw [B.hs]; exact hx) (.inl (B.fn rfl x))) fun v σ H Q ⟨G, δ, d, P, R, r, h, kk⟩ => kk _ G H _ h (Le.refl _) (R.set' r)
abbrev DTGs := List D → S → (S → Prop) → Prop
def liftGs (c : Fr) (g : DTGs) : TGs := fun v σ H Q => ∃ G δ d P, Rel c G H σ δ ∧ RepL c.K c.p0 G v d ∧ g d δ P ∧ (∀ δ' G' H' σ', P δ' → Le G G' → Rel c G' H' σ' δ' → Q σ' H')
abbrev DGs (X : Cx) (c : Fr) (tg : List Expr) (g : DTGs) : Prop := PGs X tg (liftGs c g)
theorem pgsI {e : List Expr} {t t' : TGs} (h : PGs X e t) (k : ∀ v σ H Q, t' v σ H Q → t v σ H Q) : PGs X e t' := ⟨fun pins s σ H v u Q I r q => h.run pins s σ H v u Q I r (k v σ H Q q)⟩
def gZ : DTGs := fun ds δ P => match ds with
  | [] => P δ
  | _ => False
def gC (g : DTG) (h : DTGs) : DTGs := fun ds δ P => match ds with
  | d :: r => g d δ (fun δ' => h r δ' P)
  | _ => False
theorem dgs_nil : DGs X c [] gZ := pgsI pgs_nil fun v σ H Q ⟨G, δ, d, P, R, r, h, kk⟩ => by
  cases r with
  | nil => exact ⟨rfl, kk _ G H _ h (Le.refl _) R⟩
  | cons a b => exact h.elim
theorem dgs_cons {g : DTG} {h : DTGs} (h1 : DG X c e g) (h2 : DGs X c es h) (hs : (assignEach (e :: es) X.env).map (·.2) = assign e X.env :: (assignEach es X.env).map (·.2) := by rfl) : DGs X c (e :: es) (gC g h) :=
  pgsI (pgs_cons h1 h2 hs) fun v σ H Q ⟨G, δ, d, P, R, r, h, kk⟩ => by
    cases r with
    | nil => exact h.elim
    | cons a b => exact ⟨_, _, rfl, G, δ, _, _, R, a, h, fun δ' G' H' σ' p L R' => ⟨G', δ', _, P, R', b.mono L, p, fun δ2 G2 H2 σ2 p2 L2 R2 => kk δ2 G2 H2 σ2 p2 (L.trans L2) R2⟩⟩
def gT (n : Nat) (g : DTGs) : DTG := fun d δ P => match d with
  | .tup xs => xs.length = n ∧ g xs δ P
  | _ => False
theorem dg_tup {n : Nat} {kk : Nat} {g : DTGs} (B : XB X c W N sc k bb) (h : DGs X c es g) (hn : (assignEach es X.env).length = n := by rfl) (hst : (assignEach es X.env).findIdx? (·.1) = none := by rfl) : DG X c (.Tuple es kk pos) (gT n g) :=
  pgI (pg_tup B.calm h hn hst) fun v σ H Q ⟨G, δ, d, P, R, r, h, kk⟩ => by
    cases r with
    | tup hq rl => exact ⟨_, _, rfl, by rw [B.hK]; exact le_t R.le hq, by rw [rl.len]; exact h.1, G, δ, _, P, R, rl, h.2, kk⟩
    | _ => exact h.elim
def dSet (i : Nat) (r : DTE) : DTS := fun N δ => r δ (fun d δ1 => N.nx { δ1 with sl := δ1.sl.set i (.d d) }) N.ex
theorem ds_set {i : Nat} {x : Str} {pos' : Pos} (B : XB X c W N sc k false) (hi : N[i]? = some x) (hx : Loc sc x) (he : DE X c W e r) (hs : swapsWith e (some (.Name x pos')) pos.line X.env = pure false := by rfl) : DS X c W (.Assign [.Name x pos'] e pos) (dSet i r) :=
  psI (ps_set (i := i) (by rw [B.hN]; exact B.nd) (by rw [B.hN]; exact hi) (by rw [B.hs]; exact hx) he hs (.inl (B.fn rfl x))) fun D σ H ⟨G, δ, N, R, h, n⟩ =>
    ⟨G, δ, _, N.ex, R, h, fun d δ' v G' H' p L R' rr => n.nx _ G' H' _ p L.g (R'.set' rr), exOf n⟩
def dAsg (r : DTE) (g : DTG) : DTS := fun N δ => r δ (fun d δ1 => g d δ1 N.nx) N.ex
theorem ds_asg {tg : Expr} {g : DTG} (he : DE X c W e r) (hg : DG X c tg g) (hs : swapsWithSole [tg] e pos.line X.env = pure false := by rfl) (hw : swappedStores [tg] e X.env = pure none := by rfl)
    (h1 : (assignEach [tg] X.env).map (·.2) = [assign tg X.env] := by rfl) : DS X c W (.Assign [tg] e pos) (dAsg r g) :=
  psI (ps_asg he hg hs hw h1) fun D σ H ⟨G, δ, N, R, h, n⟩ => ⟨G, δ, _, N.ex, R, h, fun d δ' v G' H' p L R' rr => ⟨G', δ', d, _, R', rr, p, fun δ2 G2 H2 σ2 p2 L2 R2 => n.nx δ2 G2 H2 σ2 p2 (L.g.trans L2) R2⟩, exOf n⟩
/-- a, b = x, y -/
def dPar (i j : Nat) (rs : DTA) : DTS := fun N δ => rs δ (fun ds δ1 => match ds with
  | [x, y] => N.nx { δ1 with sl := (δ1.sl.set i (.d x)).set j (.d y) }
  | _ => False) N.ex
theorem ds_par {i j : Nat} {x y : Str} {px py pt : Pos} {kt k2 pt2} (B : XB X c W N sc k false) (hi : N[i]? = some x) (hj : N[j]? = some y) (hij : i ≠ j)
    (hx : sc.names.lookup x = some .local) (hy : sc.names.lookup y = some .local) (ha : DA X c W [a, b] rs)
    (hw : ∀ env : Env, env.scope = sc → swappedStores [.Tuple [.Name x px, .Name y py] kt pt] (.Tuple [a, b] k2 pt2) env = pure (some [x, y]))
    (hs : swapsWithSole [.Tuple [.Name x px, .Name y py] kt pt] (.Tuple [a, b] k2 pt2) pos.line X.env = pure false := by rfl) :
    DS X c W (.Assign [.Tuple [.Name x px, .Name y py] kt pt] (.Tuple [a, b] k2 pt2) pos) (dPar i j rs) :=
  psI (ps_par B.calm (by rw [B.hN]; exact B.nd) (by rw [B.hN]; exact hi) (by rw [B.hN]; exact hj) hij (by rw [B.hs]; exact hx) (by rw [B.hs]; exact hy) ha (hw _ B.hs) hs) fun D σ H ⟨G, δ, N, R, h, n⟩ =>
    ⟨G, δ, _, N.ex, R, h, fun ds δ' vs G' H' p L R' rr => by
      cases rr with
      | nil => exact p.elim
      | cons r1 rr =>
        cases rr with
        | nil => exact p.elim
        | cons r2 rr =>
          cases rr with
          | nil => exact ⟨_, _, rfl, n.nx _ G' H' _ p L.g ((R'.set' r1).set' (i := j) r2)⟩
          | cons _ _ => exact p.elim, exOf n⟩

/-! ### loops -/
abbrev frOf (c : Wd) (G H : Hp) (z : Z) (mu : List Addr) : Fr := { c with G0 := G, H0 := H, z0 := z, mu := mu }
structure JOk (c : Wd) (J : It) (items : List D) (G : Hp) : Prop where
  go : ∀ i H G2, i < items.length → Le G G2 → Le G2 H → J.go i H
  stop : ∀ i H G2, items.length ≤ i → Le G G2 → Le G2 H → J.stop i H
  yld : ∀ i H x H' G2 z, Le G G2 → StOk c G2 H z → J.yld i H x H' → i < items.length → ∃ G' d, items[i]? = some d ∧ Post c z G2 H G' H' z ∧ Rep c.K c.p0 G' x d
abbrev DTI := DTA
def liftI (c : Fr) (W : WX) (r : DTI) : TI := fun σ H R => ∃ G δ P E, Rel c G H σ δ ∧ r δ P E ∧
  (∀ items δ' J G' H', P items δ' → Gof c δ δ' σ G H G' H' → Rel c G' H' σ δ' → JOk c.toWd J items G' → R J H') ∧ ExOk c W G σ E
abbrev DI (X : Cx) (c : Fr) (W : WX) (tg e : Expr) (r : DTI) : Prop := PI X tg e (liftI c W r)
theorem piI {tg e : Expr} {t t' : TI} (h : PI X tg e t) (k : ∀ σ H Q, t' σ H Q → t σ H Q) : PI X tg e t' := ⟨fun pins s σ H Q I q => h.run pins s σ H Q I (k σ H Q q)⟩
theorem jok_list {G : Hp} {K : PySem.W.Frag} (hK : K = c.K) {p : Addr} {vs : List V} {xs : List D} (h : SqL c.K G p vs) (r : RepL c.K c.p0 G vs xs) : JOk c.toWd (Itl K p) xs G := by
  subst hK
  refine ⟨fun i H G2 hi L L2 => ?_, fun i H G2 hi L L2 => ⟨vs, le_l (L.trans L2) h, by rw [r.len]; exact hi⟩, fun i H x H' G2 z L st ⟨e, y⟩ hi => ?_⟩
  · exact ⟨vs, vs[i]'(by rw [r.len]; exact hi), le_l (L.trans L2) h, by simp⟩
  · subst e
    have y1 := y vs (le_l (L.trans st.le) h)
    obtain ⟨u, h1, h2⟩ := r.get (i := i) (x := xs[i]) (by simp [hi])
    rw [y1] at h1; cases h1
    exact ⟨G2, xs[i], by simp [hi], .refl st, h2.mono L⟩
theorem jok_tup {G : Hp} {K : PySem.W.Frag} (hK : K = c.K) {p : Addr} {vs : List V} {xs : List D} (h : SqT c.K G p vs) (r : RepL c.K c.p0 G vs xs) : JOk c.toWd (Itt K p) xs G := by
  subst hK
  refine ⟨fun i H G2 hi L L2 => ?_, fun i H G2 hi L L2 => ⟨vs, le_t (L.trans L2) h, by rw [r.len]; exact hi⟩, fun i H x H' G2 z L st ⟨e, y⟩ hi => ?_⟩
  · exact ⟨vs, vs[i]'(by rw [r.len]; exact hi), le_t (L.trans L2) h, by simp⟩
  · subst e
    have y1 := y vs (le_t (L.trans st.le) h)
    obtain ⟨u, h1, h2⟩ := r.get (i := i) (x := xs[i]) (by simp [hi])
    rw [y1] at h1; cases h1
    exact ⟨G2, xs[i], by simp [hi], .refl st, h2.mono L⟩
theorem jok_range {G : Hp} {lo : Int} {n : Nat} : JOk c.toWd (Itr lo n) ((List.range n).map fun (i : Nat) => D.int (lo + (i : Int))) G := by
  refine ⟨fun i H G2 hi _ _ => (by simpa using hi : i < n), fun i H G2 hi _ _ => (by simpa using hi : n ≤ i), fun i H x H' G2 z L st ⟨e, y⟩ hi => ?_⟩
  subst e y
  have hi' : i < n := by simpa using hi
  exact ⟨G2, .int (lo + i), by simp [hi'], .refl st, .int _⟩
/-- for x in a list or a tuple -/
def dItL (r : DTE) : DTI := fun δ P E => r δ (fun d δ1 => match d with
  | .lst xs => P xs δ1
  | _ => False) E
def dItT (r : DTE) : DTI := fun δ P E => r δ (fun d δ1 => match d with
  | .tup xs => P xs δ1
  | _ => False) E
theorem di_list {tg : Expr} (B : XB X c W N sc k bb) (h : DE X c W e r) : DI X c W tg e (dItL r) :=
  piI (pi_list h) fun σ H Q ⟨G, δ, P, E, R, h, kk, x⟩ => ⟨G, δ, _, E, R, h, fun d δ1 v G1 H1 p L R1 rr => by
    cases rr with
    | lst hq rl => exact ⟨_, rfl, ⟨_, by rw [B.hK]; exact le_l R1.le (.inl hq)⟩, kk _ δ1 _ G1 H1 p L R1 (jok_list B.hK (.inl hq) rl)⟩
    | _ => exact p.elim, x⟩
theorem di_tup {tg : Expr} (B : XB X c W N sc k bb) (h : DE X c W e r) : DI X c W tg e (dItT r) :=
  piI (pi_tup h) fun σ H Q ⟨G, δ, P, E, R, h, kk, x⟩ => ⟨G, δ, _, E, R, h, fun d δ1 v G1 H1 p L R1 rr => by
    cases rr with
    | tup hq rl => exact ⟨_, rfl, ⟨_, by rw [B.hK]; exact le_t R1.le hq⟩, kk _ δ1 _ G1 H1 p L R1 (jok_tup B.hK hq rl)⟩
    | _ => exact p.elim, x⟩
def dRng1 (rs : DTA) : DTI := fun δ P E => rs δ (fun ds δ1 => match ds with
  | [.int j] => (-(2 ^ 62) ≤ j ∧ j < 2 ^ 62) ∧ P ((List.range j.toNat).map fun (i : Nat) => D.int (0 + (i : Int))) δ1
  | _ => False) E
def dRng2 (rs : DTA) : DTI := fun δ P E => rs δ (fun ds δ1 => match ds with
  | [.int i, .int j] => (-(2 ^ 62) ≤ i ∧ i < 2 ^ 62 ∧ -(2 ^ 62) ≤ j ∧ j < 2 ^ 62) ∧ P ((List.range (j - i).toNat).map fun (n : Nat) => D.int (i + (n : Int))) δ1
  | _ => False) E
theorem di_range1 {tg : Expr} {p : Pos} (B : XB X c W N sc k bb) (hg : sc.names.lookup ("range" : Str) = some .globalImplicit) (hm : c.mg ("range" : Str) = none) (ha : DA X c W [a] rs) (hs : starEach [a] X.env = [(false, eval a X.env)] := by rfl) : DI X c W tg (.Call (.Name "range" p) [a] [] pos) (dRng1 rs) :=
  piI (pi_range1 (by show X.env.scope.names.lookup _ = _; rw [B.hs]; exact hg) (by rw [B.hm]; exact hm) ha hs) fun σ H Q ⟨G, δ, P, E, R, h, kk, x⟩ => ⟨G, δ, _, E, R, h, fun d δ1 v G1 H1 p L R1 rr => by
    cases rr with
    | nil => exact p.elim
    | cons r1 rr =>
      cases rr with
      | nil =>
        cases r1 with
        | int j => exact ⟨j, rfl, p.1.1, p.1.2, kk _ δ1 _ G1 H1 p.2 L R1 jok_range⟩
        | _ => exact p.elim
      | cons _ _ => cases r1 <;> exact p.elim, x⟩
theorem di_range2 {tg : Expr} {p : Pos} (B : XB X c W N sc k bb) (hg : sc.names.lookup ("range" : Str) = some .globalImplicit) (hm : c.mg ("range" : Str) = none) (ha : DA X c W [a, b] rs) (hs : starEach [a, b] X.env = [(false, eval a X.env), (false, eval b X.env)] := by rfl) (hs2 : starEach [b] X.env = [(false, eval b X.env)] := by rfl) :
    DI X c W tg (.Call (.Name "range" p) [a, b] [] pos) (dRng2 rs) :=
  piI (pi_range2 (by show X.env.scope.names.lookup _ = _; rw [B.hs]; exact hg) (by rw [B.hm]; exact hm) ha hs hs2) fun σ H Q ⟨G, δ, P, E, R, h, kk, x⟩ => ⟨G, δ, _, E, R, h, fun d δ1 v G1 H1 p L R1 rr => by
    cases rr with
    | nil => exact p.elim
    | cons r1 rr =>
      cases rr with
      | nil => cases r1 <;> exact p.elim
      | cons r2 rr =>
        cases rr with
        | nil =>
          cases r1 with
          | int i =>
            cases r2 with
            | int j => exact ⟨i, j, rfl, p.1, kk _ δ1 _ G1 H1 p.2 L R1 jok_range⟩
            | _ => exact p.elim
          | _ => exact p.elim
        | cons _ _ => cases r1 <;> cases r2 <;> exact p.elim, x⟩
def dLoop (g : DTG) (tb : DTS) (N : DN) : List D → S → Prop
  | [], δ => N.nx δ
  | x :: r, δ => g x δ (fun δ2 => tb { N with nx := dLoop g tb N r, ct := dLoop g tb N r, bk := N.nx } δ2)
def dFor (ri : DTI) (g : DTG) (tb : DTS) : DTS := fun N δ => ri δ (fun items δ1 => dLoop g tb N items δ1) N.ex
theorem drop_cons {α : Type} {l : List α} {i : Nat} (h : i < l.length) : l.drop i = l[i] :: l.drop (i + 1) := List.drop_eq_getElem_cons h
theorem ds_for {tg iter : Expr} {ri : DTI} {g : DTG} (B : XB X c W N sc k bb) (hi : DI X c W tg iter ri) (hg : DG X c tg g) (hb : DSs X c W bd t) (hs : ∀ x, foldedSetIterable iter X.env x = pure x := by intro _; rfl) :
    DS X c W (.For tg iter bd [] pos) (dFor ri g t) :=
  psI (ps_for B.pw B.calm hi hg hb hs) fun D σ H ⟨G, δ, N, R, h, n⟩ => ⟨G, δ, _, N.ex, R, h, fun items δ1 J G1 H1 p L R1 j => by
    refine ⟨fun i m σ' H' => m = items.length - i ∧ i ≤ items.length ∧ ∃ G2 δ2, Le G1 G2 ∧ Rel c G2 H' σ' δ2 ∧ dLoop g t N (items.drop i) δ2, ⟨items.length, rfl, Nat.zero_le _, G1, δ1, Le.refl _, R1, p⟩, ?_⟩
    rintro i m σ' H' ⟨rfl, hi, G2, δ2, L2, R2, p2⟩
    by_cases hlt : i < items.length
    · right
      rw [drop_cons hlt] at p2
      refine ⟨j.go i H' G2 hlt L2 R2.le, fun σ' H' => i + 1 ≤ items.length ∧ ∃ G2 δ2, Le G1 G2 ∧ Rel c G2 H' σ' δ2 ∧ dLoop g t N (items.drop (i + 1)) δ2, fun σ3 H3 ⟨q1, q2⟩ => ⟨items.length - (i + 1), by omega, rfl, q1, q2⟩, fun x H3 y => ?_⟩
      obtain ⟨G3, d, e3, p3, r3⟩ := j.yld i H' x H3 G2 δ2.z L2 R2.st y hlt
      have L3 := p3.go.g
      have R3 := R2.post p3
      have ed : d = items[i] := by rw [List.getElem?_eq_getElem hlt] at e3; exact (Option.some.inj e3).symm
      subst ed
      refine ⟨G3, δ2, _, _, R3, r3, p2, fun δ4 G4 H4 σ4 p4 L4 R4 => ⟨G4, δ4, _, R4, p4, ?_⟩⟩
      have LL : Le G1 G4 := (L2.trans L3).trans L4
      have n4 := n.mono (L.g.trans LL)
      exact ⟨fun δ' G' H' σ' p L' R' => ⟨hlt, G', δ', LL.trans L', R', p⟩, n4.rt, n4.nx, fun δ' G' H' σ' p L' R' => ⟨hlt, G', δ', LL.trans L', R', p⟩, n4.ex⟩
    · left
      have e : items.drop i = [] := List.drop_eq_nil_of_le (by omega)
      rw [e] at p2
      exact ⟨j.stop i H' G2 (by omega) L2 R2.le, n.nx δ2 G2 H' σ' p2 (L.g.trans L2) R2⟩, exOf n⟩
def dWhl (q : DTT) (tb : DTS) (N : DN) : Nat → S → Prop
  | 0, _ => False
  | m + 1, δ => q δ (fun b δ1 => if b = true then tb { N with nx := dWhl q tb N m, ct := dWhl q tb N m, bk := N.nx } δ1 else N.nx δ1) N.ex
def dWhile (q : DTT) (tb : DTS) : DTS := fun N δ => ∃ m, dWhl q tb N m δ
theorem ds_while {cnd : Expr} (B : XB X c W N sc k bb) (hc : DT X c W cnd q) (hb : DSs X c W bd t) : DS X c W (.While cnd bd [] pos) (dWhile q t) :=
  psI (ps_while B.pw hc hb) fun D σ H ⟨G, δ, N, R, ⟨m0, h⟩, n⟩ => by
    refine ⟨fun m σ' H' => ∃ G2 δ2, Le G G2 ∧ Rel c G2 H' σ' δ2 ∧ dWhl q t N m δ2, ⟨m0, G, δ, Le.refl _, R, h⟩, ?_⟩
    rintro m σ' H' ⟨G2, δ2, L2, R2, p2⟩
    cases m with
    | zero => exact p2.elim
    | succ m =>
      refine ⟨G2, δ2, _, N.ex, R2, p2, fun b δ3 G3 H3 p3 L3 R3 => ?_, exOf (n.mono L2)⟩
      have n3 := n.mono (L2.trans L3.g)
      cases b with
      | false => exact n3.nx δ3 G3 H3 σ' p3 (Le.refl _) R3
      | true =>
        refine ⟨fun σ4 H4 => ∃ G2 δ2, Le G G2 ∧ Rel c G2 H4 σ4 δ2 ∧ dWhl q t N m δ2, fun σ4 H4 z => ⟨m, Nat.lt_succ_self _, z⟩, G3, δ3, _, R3, p3, ?_⟩
        exact ⟨fun δ' G' H' σ' p L' R' => ⟨G', δ', (L2.trans L3.g).trans L', R', p⟩, n3.rt, n3.nx, fun δ' G' H' σ' p L' R' => ⟨G', δ', (L2.trans L3.g).trans L', R', p⟩, n3.ex⟩

/-! ### defs: what they promise over data -/
abbrev DSp := List D → Z → (D → Z → Prop) → (Er → Z → Prop) → Prop
def liftSp (c : Wd) (s : DSp) : Sp := fun vs H Q E => ∃ (G : Hp) (ds : List D) (z : Z) (P : D → Z → Prop) (R : Er → Z → Prop), StOk c G H z ∧ RepL c.K c.p0 G vs ds ∧ s ds z P R ∧
  (∀ d z' v G' H', P d z' → Post c z G H G' H' z' → Rep c.K c.p0 G' v d → Q v H') ∧
  (∀ er z' cls dd G' H', R er z' → Post c z G H G' H' z' → ErRep c G' cls dd er → E cls dd H')
/-- the frame env is one of the def at f -/
structure AtF (K : PySem.W.Frag) (f : Addr) (qual : Str) (env : Env) : Prop where
  code : ∃ oc od fd osl, K.lookup f = some ⟨oc, od, .func fd, osl⟩ ∧ fd.code = env.code
  qual : env.qual = qual ++ ".<locals>."
/-- a def that keeps sp, called where no text is being made -/
structure FnG (c : Wd) (k : Nat) (f : Addr) (fd : FuncData) (ps : List Str) (sp : Sp) : Prop where
  len : ∀ vs H Q E, sp vs H Q E → vs.length = ps.length
  run : ∀ (A : Around) (outer : List Env) (s : Shared) (H : Hp) (args : Args) (us : List Value) (vs : List V) (Q : VK) (E : XK), Room k A → A.guards = some [] → Env0 c.P c.w c.K c.mg c.base A outer s H → BindsTo s fd args (ps.zip us) → Vals vs us →
    sp vs H Q E → codeAny (model c.P c.w) A (.call (.ref f) args) (CR (L2.CX c.P c.w) outer c.P c.w H s Q E) s
theorem fnG_of {c : Wd} {name qual : Str} {params : Arguments} {body : List Stmt} {scope : Scope} {dvs : List V} {kws : List (Str × V)} {f : Addr} {fd : FuncData} {N ps : List Str} {k : Nat} {sp : Sp} (F : FunD c.K name qual params body scope dvs kws f fd) (S : FnScope N ps scope)
    (len : ∀ vs H Q E, sp vs H Q E → vs.length = ps.length)
    (bd : ∀ (cdv : Value) (A : Around) (outer : List Env) (s : Shared) (H : Hp) (vs : List V) (Q : VK) (E : XK), Room k (A.deeper (envOfC qual scope s.heap.objs.size f cdv)) → A.guards = some [] → AtF c.K f qual (envOfC qual scope s.heap.objs.size f cdv) → sp vs H Q E →
      ∃ t, PSs (cxOf (L2.CX c.P c.w) c.P c.w c.K c.mg c.base N qual scope f cdv A outer s H E) body t ∧ t { nx := fun _ H' => Q .non H', rt := Q } (L2.start N vs) H) : FnG c (k + 1) f fd ps sp := by
  obtain ⟨oc, od, dV, kV, doc, pm, an, cdv, ct, osl, rfl, lk, hcd, _, _⟩ := F.ex
  refine ⟨len, fun A outer s H args us vs Q E room gd e0 bnd rv hs => ?_⟩
  have kin : c.K.In s.heap := e0.mod.kin.keeps fun q o e => (e0.bs q o e).1
  have nolim : s.heap.NoLimit := e0.mod.nolimit.keeps fun q o e => (e0.bs q o e).1
  have kinds : ∀ y ∈ ps.zip us, scope.names.lookup y.1 = some .local ∨ (scope.names.lookup y.1 = some .cell ∧ ((cellsFrom (s.heap.objs.size + 1) scope.names []).lookup y.1).isSome = true) := fun y hy => by
    obtain ⟨nm, val⟩ := y
    have hn := (List.of_mem_zip hy).1
    cases S.par nm hn with
    | inl z => exact .inl z
    | inr z => exact .inr ⟨z, PySem.W.cellsFrom_some _ _ _ (.inl z)⟩
  refine codeAny_call_function room.depth (kin _ _ lk) rfl S.co S.gen rfl (PySem.W.codeRec_of kin hcd) (bnd _ _ _ _ (wpAny_newFunctionEnv_cells S.kind kinds fun env he s1 x => ?_))
  subst he
  obtain ⟨t, ht, ht2⟩ := bd cdv A outer s H vs Q E (room.deeper _) gd ⟨⟨oc, od, _, osl, lk, rfl⟩, rfl⟩ hs
  have J : Inv (cxOf (L2.CX c.P c.w) c.P c.w c.K c.mg c.base N qual scope f cdv A outer s H E) [] (L2.start N vs) H s1 := inv_start S room.hd e0 (len _ _ _ _ hs) rv x
  refine ⟨nolim.keeps x.toInCall.keep, codeAny_func (wpAny_mono (ht.run [] s1 _ H _ J ht2) (fun fl s' z => ?_) fun _ _ z => z)⟩
  cases fl with
  | brk => exact z.elim fun _ z => z.elim fun _ z => z.2.elim
  | cont => exact z.elim fun _ z => z.elim fun _ z => z.2.elim
  | next => obtain ⟨σ', H', J', q⟩ := z; exact ⟨.non, H', J'.os, J'.bare, J'.base, J'.hok, rfl, q⟩
  | ret u => obtain ⟨v, σ', H', J', r', q⟩ := z; exact ⟨v, H', J'.os, J'.bare, J'.base, J'.hok, r', q⟩
theorem make_guards {A : Around} {C : Addr} {us : List Value} {kw : List (Str × Value)} (h : A.guards = some []) : (A.under (.builtin "type.__call__" ⟨.ref C :: us, kw⟩)).guards = some [] := by
  simp [Around.under, Code.guards, Code.isGuard, guardIds, pushGuards, h]
theorem passAtW (tk : Takes X W) (σ : L2.St) : PassesAt (L2.CX X.prog X.w) X σ (fun cls d H => W cls d σ H) := passAt tk σ
end
end DL

/-! EL3: what can be called: defs, classes, methods; attributes. -/
namespace DL
open PySem L2 PySem.Spec PyProof.Rows

abbrev Sp2 := List V → List V → Hp → VK → XK → Prop
abbrev DSp2 := List D → List D → Z → (D → Z → Prop) → (Er → Z → Prop) → Prop
def liftSp2 (c : Wd) (s : DSp2) : Sp2 := fun vs zs H Q E => ∃ (G : Hp) (ds es : List D) (z : Z) (P : D → Z → Prop) (R : Er → Z → Prop), StOk c G H z ∧ RepL c.K c.p0 G vs ds ∧ RepL c.K c.p0 G zs es ∧ s ds es z P R ∧
  (∀ d z' v G' H', P d z' → Post c z G H G' H' z' → Rep c.K c.p0 G' v d → Q v H') ∧
  (∀ er z' cls dd G' H', R er z' → Post c z G H G' H' z' → ErRep c G' cls dd er → E cls dd H')
/-- fv may be called from any body: with values and the keywords ks it keeps s -/
structure Callee (c : Wd) (fv : Value) (ks : List Str) (k : Nat) (s : DSp2) : Prop where
  keeper : PySem.W.keepIn c.K fv = true
  code : ∀ (X : Cx) (W : WX) (pins : List (Addr × Obj)) (st : Shared) (σ : L2.St) (H : Hp) (us ws : List Value) (vs zs : List V) (Q : VK), X.prog = c.P → X.w = c.w → X.K = c.K → X.mg = c.mg → X.base = c.base → Room k X.A → X.A.guards = some [] → Takes X W →
    Inv X pins σ H st → Vals vs us → Vals zs ws → zs.length = ks.length → liftSp2 c s vs zs H Q (fun cls d H' => W cls d σ H') →
    codeAny (model X.prog X.w) X.A (.call fv ⟨us, ks.zip ws⟩) (fun r s' => match r with | .ok (.ret v) => EP X pins σ Q v s' | .ok _ => False | .error e => X.xe e s') st
theorem Callee.run {c : Wd} {fv : Value} {ks : List Str} {k : Nat} {s : DSp2} (h : Callee c fv ks k s) (X : Cx) (W : WX) (pins : List (Addr × Obj)) (st : Shared) (σ : L2.St) (H : Hp) (us ws : List Value) (vs zs : List V) (Q : VK) (a1 : X.prog = c.P) (a2 : X.w = c.w) (a3 : X.K = c.K) (a4 : X.mg = c.mg) (a5 : X.base = c.base) (r : Room k X.A) (gd : X.A.guards = some []) (t : Takes X W)
    (I : Inv X pins σ H st) (rv : Vals vs us) (rz : Vals zs ws) (e : zs.length = ks.length) (q : liftSp2 c s vs zs H Q (fun cls d H' => W cls d σ H')) : wpAny (model X.prog X.w) X.A (call fv us (ks.zip ws)) (EP X pins σ Q) X.xe st :=
  wpAny_call (h.code X W pins st σ H us ws vs zs Q a1 a2 a3 a4 a5 r gd t I rv rz e q)
theorem Callee.mono {c : Wd} {fv : Value} {ks : List Str} {j k : Nat} {s : DSp2} (h : Callee c fv ks j s) (l : j ≤ k) : Callee c fv ks k s :=
  ⟨h.keeper, fun X W pins st σ H us ws vs zs Q a1 a2 a3 a4 a5 r => h.code X W pins st σ H us ws vs zs Q a1 a2 a3 a4 a5 (r.mono l)⟩
theorem Callee.imp {c : Wd} {fv : Value} {ks : List Str} {k : Nat} {s s' : DSp2} (h : Callee c fv ks k s) (l : ∀ ds es n P R, s' ds es n P R → s ds es n P R) : Callee c fv ks k s' :=
  ⟨h.keeper, fun X W pins st σ H us ws vs zs Q a1 a2 a3 a4 a5 r gd t I rv rz e ⟨G, ds, es, n, P, R, b1, b4, b5, b6, b7, b8⟩ => h.code X W pins st σ H us ws vs zs Q a1 a2 a3 a4 a5 r gd t I rv rz e ⟨G, ds, es, n, P, R, b1, b4, b5, l _ _ _ _ _ b6, b7, b8⟩⟩

/-- how a call's values fall to the parameters -/
structure Shape (c : Wd) (fd : FuncData) (ps : List Str) (n : Nat) (ks : List Str) (gD : List D → List D → List D) : Prop where
  ex : ∃ g gV, KBn c.K fd ps n ks g gV ∧ ∀ (G : Hp) (vs zs : List V) (ds es : List D), RepL c.K c.p0 G vs ds → RepL c.K c.p0 G zs es → RepL c.K c.p0 G (gV vs zs) (gD ds es)
/-- a def as a callee -/
theorem callee_fn {c : Wd} {f : Addr} {fd : FuncData} {ps ks : List Str} {n k : Nat} {gD : List D → List D → List D} {s : DSp} (F : FnG c k f fd ps (liftSp c s)) (kp : PySem.W.keepIn c.K (.ref f) = true) (b : Shape c fd ps n ks gD) :
    Callee c (.ref f) ks k (fun ds es m P R => ds.length = n ∧ s (gD ds es) m P R) := by
  refine ⟨kp, fun X W pins st σ H us ws vs zs Q a1 a2 a3 a4 a5 r gd t I rv rz e ⟨G, ds, es, m, P, R, b1, b4, b5, ⟨b6, b6'⟩, b7, b8⟩ => ?_⟩
  obtain ⟨g, gV, kb, hg⟩ := b.ex
  have hsp : liftSp c s (gV vs zs) H Q (fun cls d H' => W cls d σ H') := ⟨G, gD ds es, m, P, R, b1, hg G vs zs ds es b4 b5, b6', b7, b8⟩
  obtain ⟨hP, hw⟩ := (⟨a1, a2⟩ : X.prog = c.P ∧ X.w = c.w)
  have n1 : us.length = n := by rw [← rv.length, b4.len, b6]
  have n2 : ws.length = ks.length := by rw [← rz.length, e]
  have E0 : Env0 c.P c.w c.K c.mg c.base X.A X.stack st H := by rw [← a1, ← a2, ← a3, ← a4, ← a5]; exact I.env0
  rw [hP, hw]
  refine codeAny_mono (F.run X.A X.stack st H ⟨us, ks.zip ws⟩ (g us ws) (gV vs zs) Q _ r gd E0 (kb.to st us ws (by rw [← a3]; exact I.kIn) n1 n2) (kb.rel rv rz) hsp) fun res s' hq => ?_
  cases res with
  | error ee => rw [← hP, ← hw] at hq; exact passAtW t σ pins H st ee s' I hq
  | ok fl => rw [← hP, ← hw] at hq; cases fl <;> first | exact I.after hq | exact hq.elim

/-- an __init__'s promise: from the values (behind self) to the fields -/
abbrev DInit := List D → Z → (List (Str × D) → Z → Prop) → (Er → Z → Prop) → Prop
structure PostI (c : Wd) (a : Addr) (z : Z) (G H G' H' : Hp) (z' : Z) : Prop where
  st : StOk c G' H' z'
  go : Go (fun b => Spc c z b ∨ b = a) (fun b => Spc c z' b ∨ b = a) G H G' H'
def liftInit (c : Wd) (C : Addr) (s : DInit) : Sp := fun vs H Q E => ∃ (a dx : Addr) (vs' : List V) (G : Hp) (ds : List D) (z : Z) (P : List (Str × D) → Z → Prop) (R : Er → Z → Prop),
  vs = .ref a :: vs' ∧ H a = some (.ins C dx []) ∧ G a = none ∧ ¬ Spc c z a ∧ StOk c G H z ∧ RepL c.K c.p0 G vs' ds ∧ s ds z P R ∧
  (∀ fs z' fvs dx' G' H', P fs z' → PostI c a z G H G' H' z' → H' a = some (.ins C dx' fvs) → G' a = none → ¬ Spc c z' a → RepF c.K c.p0 G' fvs fs → Q .non H') ∧
  (∀ er z' cls dd G' H', R er z' → PostI c a z G H G' H' z' → ErRep c G' cls dd er → E cls dd H')
/-- a class as a callee -/
theorem callee_cls {c : Wd} {C f : Addr} {fd : FuncData} {ps ks : List Str} {n k : Nat} {gD gS : List D → List D → List D} {s : DInit} (M : Mk c.K C f) (F : FnG c k f fd ps (liftInit c C s))
    (b : Shape c fd ps (n + 1) ks gS) (hS : ∀ d r es, gS (d :: r) es = d :: gD r es) :
    Callee c (.ref C) ks (k + 1) (fun ds es m P R => ds.length = n ∧ s (gD ds es) m (fun fs m' => P (.ins C fs) m') R) := by
  refine ⟨M.kp, fun X W pins st σ H us ws vs zs Q a1 a2 a3 a4 a5 r gd t I rv rz e ⟨G, ds, es, m, P, R, b1, b4, b5, ⟨b6, b6'⟩, b7, b8⟩ => ?_⟩
  obtain ⟨g, gV, kb, hg⟩ := b.ex
  obtain ⟨hP, hw⟩ := (⟨a1, a2⟩ : X.prog = c.P ∧ X.w = c.w)
  have M' : Mk X.K C f := by rw [a3]; exact M
  -- the instance and its dict
  let xa := st.heap.objs.size + 1
  let da := st.heap.objs.size
  have fx : H xa = none := I.hok.fresh (Nat.le_succ _)
  have fx' : H da = none := I.hok.fresh (Nat.le_refl _)
  have nxd : da ≠ xa := Nat.ne_of_lt (Nat.lt_succ_self _)
  have J := Inv.made (C := C) I
  let H1 := upd (upd H da (.own xa)) xa (.ins C da [])
  have pA := b1.laidH (o := HO.own xa) fx'
  have pB := pA.st.laidH (p := xa) (o := HO.ins C da []) (by rw [upd_ne (Ne.symm nxd)]; exact fx)
  have p1 : Post c m G H G H1 m := pA.trans pB
  have gx : G xa = none := b1.gnone fx
  have nS : ¬ Spc c m xa := b1.pne fx
  -- the values, as the parameters take them
  have selfR : RepL c.K c.p0 G (.ref xa :: vs) (.ref xa :: ds) := .cons (.ref xa) b4
  have full := hg G (.ref xa :: vs) zs (.ref xa :: ds) es selfR b5
  have full' : RepL c.K c.p0 G (gV (.ref xa :: vs) zs) (.ref xa :: gD ds es) := by rw [← hS]; exact full
  have n1 : (Value.ref xa :: us).length = n + 1 := by rw [List.length_cons, ← rv.length, b4.len, b6]
  have n2 : ws.length = ks.length := by rw [← rz.length, e]
  obtain ⟨vr, hvr, rvr⟩ : ∃ vr, gV (.ref xa :: vs) zs = .ref xa :: vr ∧ RepL c.K c.p0 G vr (gD ds es) := by
    revert full'
    generalize gV (.ref xa :: vs) zs = L
    intro full'
    cases full' with
    | cons q1 q2 => cases q1 with | ref _ => exact ⟨_, rfl, q2⟩
  have goI : ∀ {z' : Z} {G' H' : Hp}, PostI c xa m G H1 G' H' z' → Go (Spc c m) (fun b => Spc c z' b ∨ b = xa) G H G' H' := fun {z' G' H'} po =>
    (p1.go.imp (T' := fun b => Spc c m b ∨ b = xa) (fun _ h => h) fun b h => h.elim .inl fun q => .inr (.inr (q ▸ fx))).trans po.go
  have hsp : liftInit c C s (gV (.ref xa :: vs) zs) H1 (fun v H2 => v = .non ∧ Q (.ref xa) H2) (fun cls d H' => W cls d σ H') := by
    refine ⟨xa, da, vr, G, gD ds es, m, fun fs m' => P (.ins C fs) m', R, hvr, upd_same, gx, nS, p1.st, rvr, b6', fun fs n' fvs dx' G' H' hp po ha gn ns hf => ⟨rfl, ?_⟩, fun er n' cls dd G' H' hr po hE => ?_⟩
    · have LL : Le G' (upd G' xa (.ins C dx' fvs)) := Le.new gn
      refine b7 (.ins C fs) n' (.ref xa) (upd G' xa (.ins C dx' fvs)) H' hp ⟨po.st.frozen ha gn ns, (goI po).frozen fx ns⟩ (.ins upd_same (hf.mono LL))
    · exact b8 er n' cls dd G' H' hr ⟨po.st, (goI po).imp (fun _ h => h) fun x h => .inl (.inl h)⟩ hE
  have rV : Vals (.ref xa :: vs) (Value.ref xa :: us) := .cons rfl rv
  have E0 := J.env0.make C us (ks.zip ws)
  rw [a1, a2, a3, a4, a5] at E0
  rw [hP, hw]
  refine make_map (f := f) I.kIn M'.makes M'.init (beq_iff_eq.mp M'.fn) (codeAny_mono (F.run _ X.stack _ H1 ⟨Value.ref xa :: us, ks.zip ws⟩ (g (Value.ref xa :: us) ws) (gV (.ref xa :: vs) zs) _ _ (r.make C us (ks.zip ws)) (make_guards gd)
    E0 (kb.to _ (Value.ref xa :: us) ws (by rw [← a3]; exact J.kIn) n1 n2) (kb.rel rV rz) hsp) fun res s' hq => ?_)
  cases res with
  | error ee => rw [← hP, ← hw] at hq; exact passAtW t σ pins H1 _ ee s' J hq
  | ok fl =>
    cases fl with
    | ret u =>
      rw [← hP, ← hw] at hq
      obtain ⟨v, H', J', rv', ev, q3⟩ := J.after hq
      subst ev
      exact ⟨rv', ⟨V.ref xa, H', J', rfl, q3⟩⟩
    | next => exact hq.elim
    | brk => exact hq.elim
    | cont => exact hq.elim

/-! ### a call by a global name -/
section
variable {X : Cx} {c : Fr} {W : WX} {N : List Str} {sc : Scope} {k j : Nat} {bb : Bool} {e a b o : Expr} {es : List Expr} {pos apos p : Pos} {r ra rb : DTE} {rs rk : DTA} {kws : List Keyword} {ks : List Str} {s : DSp2} {fv : Value} {x : Str}
abbrev DK (X : Cx) (c : Fr) (W : WX) (kws : List Keyword) (r : DTA) : Prop := PK X kws (liftA c W r)
theorem pkI {e : List Keyword} {t t' : TA} (h : PK X e t) (k : ∀ σ H Q, t' σ H Q → t σ H Q) : PK X e t' := ⟨fun pos pins s σ H Q I q => h.run pos pins s σ H Q I (k σ H Q q)⟩
theorem dk_nil : DK X c W [] dNil := pkI pk_nil fun σ H Q ⟨G, δ, P, E, R, h, k, x⟩ => k _ _ _ G H h Go.refl R .nil
theorem dk_cons {nm : Option Str} {kpos : Pos} (ha : DE X c W e r) (hr : DK X c W kws rk) : DK X c W (⟨nm, e, kpos⟩ :: kws) (dCons r rk) :=
  pkI (pk_cons ha hr) fun σ H Q ⟨G, δ, P, E, R, h, kk, x⟩ => ⟨G, δ, _, E, R, h, fun d δ1 v G1 H1 p1 L1 R1 r1 =>
    ⟨G1, δ1, _, E, R1, p1, fun ds δ2 vs G2 H2 p2 L2 R2 r2 => kk _ _ _ G2 H2 p2 (L1.trans L2) R2 (.cons (r1.mono L2.g) r2), x.mono L1.g⟩, x⟩
/-- a call's reading: s of the values and the keywords' values -/
def dCall (s : DSp2) (rs rk : DTA) : DTE := fun δ P E => rs δ (fun ds δ1 => rk δ1 (fun zs δ2 => s ds zs δ2.z (fun d n => P d { δ2 with z := n }) (fun er n => E er { δ2 with z := n })) E) E
def tCall2 (sp : Sp2) (W : WX) (nk : Nat) (t tk : TA) : TE := fun σ H Q => t σ H fun vs H1 => tk σ H1 fun zs H2 => zs.length = nk ∧ sp vs zs H2 Q (fun cls d H' => W cls d σ H')
theorem dcall_ok {σ : L2.St} {H : Hp} {Q : VK} {nk : Nat} (h : ∃ G δ P E, Rel c G H σ δ ∧ dCall s rs rk δ P E ∧ (∀ d δ' v G' H', P d δ' → Gof c δ δ' σ G H G' H' → Rel c G' H' σ δ' → Rep c.K c.p0 G' v d → Q v H') ∧ ExOk c W G σ E) (hl : ∀ ds zs n P R, s ds zs n P R → zs.length = nk) :
    tCall2 (liftSp2 c.toWd s) W nk (liftA c W rs) (liftA c W rk) σ H Q := by
  obtain ⟨G, δ, P, E, R, h, kk, x⟩ := h
  refine ⟨G, δ, _, E, R, h, fun ds δ1 vs G1 H1 p1 L1 R1 r1 => ⟨G1, δ1, _, E, R1, p1, fun zs δ2 us G2 H2 p2 L2 R2 r2 => ⟨by rw [r2.len]; exact hl _ _ _ _ _ p2, G2, ds, zs, δ2.z, _, _, R2.st, r1.mono L2.g, r2, p2, fun d n' v G' H' q po rr => ?_, fun er n' cls dd G' H' q po rr => ?_⟩, x.mono L1.g⟩, x⟩
  · exact kk d _ v G' H' q ((L1.trans L2).trans (po.spf R2)) (R2.post po) rr
  · exact x er _ cls dd G' H' q ((L1.trans L2).g.trans po.go.g) (R2.post po) rr
theorem xb_room (B : XB X c W N sc k bb) (h : j ≤ k) : Room j X.A := B.room.mono h
theorem runC (B : XB X c W N sc k bb) (hc : Callee c.toWd fv ks j s) (hj : j ≤ k) {pins : List (Addr × Obj)} {st : Shared} {σ : L2.St} {H : Hp} {us ws : List Value} {vs zs : List V} {Q : VK} (I : Inv X pins σ H st) (rv : Vals vs us) (rz : Vals zs ws) (e : zs.length = ks.length)
    (h : liftSp2 c.toWd s vs zs H Q (fun cls d H' => W cls d σ H')) : wpAny (model X.prog X.w) X.A (call fv us (ks.zip ws)) (EP X pins σ Q) X.xe st :=
  hc.run X W pins st σ H us ws vs zs Q B.hP B.hw B.hK B.hm B.hb (B.room.mono hj) B.gd B.tk I rv rz e h
theorem keepX (B : XB X c W N sc k bb) (hc : Callee c.toWd fv ks j s) : PySem.W.keepIn X.K fv = true := by rw [B.hK]; exact hc.keeper
theorem glX (B : XB X c W N sc k bb) (hg : sc.names.lookup x = some .globalImplicit) : Gl X x := by show X.env.scope.names.lookup x = _; rw [B.hs]; exact hg
/-- f(e, ..) -/
theorem de_call (B : XB X c W N sc k bb) (hm : c.mg x = some fv) (hc : Callee c.toWd fv [] j s) (hj : j ≤ k) (hg : sc.names.lookup x = some .globalImplicit) (ha : DA X c W (e :: es) rs)
    (hdb : (x == ("__debug__" : Str)) = false := by decide) (he : starEach (e :: es) X.env = (false, eval e X.env) :: starEach es X.env := by rfl) (hpl : (backTo pos (starEach es X.env)).any (·.1) = false := by rfl) :
    DE X c W (.Call (.Name x p) (e :: es) [] pos) (dCall (fun ds zs n P R => zs = [] ∧ s ds [] n P R) rs dNil) := by
  refine ⟨fun pins st σ H Q I h => ?_⟩
  obtain ⟨G, δ, P, E, R, h, kk, xx⟩ := h
  refine wpAny_Call_Name_kw (ld_glob I (glX B hg) (by rw [B.hm]; exact hm) ?_ hdb)
  refine PySem.W.callWith_K (h₀ := X.base) I.ok.mod.kin (keepX B hc) (thn (ha.run pos pins st σ H (fun vs H1 => liftSp2 c.toWd s vs [] H1 Q fun cls d H' => W cls d σ H') I ⟨G, δ, _, E, R, h, fun ds δ1 vs G1 H1 p1 L1 R1 r1 => ?_, xx⟩) fun us s1 ⟨vs, H1, I1, rv, q⟩ => ⟨I1.kIn, ?_⟩) he hpl
  · exact ⟨G1, ds, [], δ1.z, _, _, R1.st, r1, .nil, p1.2, fun d n' v G' H' q po rr => kk d _ v G' H' q (L1.trans (po.spf R1)) (R1.post po) rr, fun er n' cls dd G' H' q po rr => xx er _ cls dd G' H' q (L1.g.trans po.go.g) (R1.post po) rr⟩
  · exact runC B hc hj I1 rv .nil rfl q
/-- f() -/
theorem de_call0 (B : XB X c W N sc k bb) (hm : c.mg x = some fv) (hc : Callee c.toWd fv [] j s) (hj : j ≤ k) (hg : sc.names.lookup x = some .globalImplicit)
    (hdb : (x == ("__debug__" : Str)) = false := by decide) : DE X c W (.Call (.Name x p) [] [] pos) (dCall (fun ds zs n P R => zs = [] ∧ s ds [] n P R) dNil dNil) := by
  refine ⟨fun pins st σ H Q I h => ?_⟩
  obtain ⟨G, δ, P, E, R, h, kk, xx⟩ := h
  refine wpAny_Call_Name_kw (ld_glob I (glX B hg) (by rw [B.hm]; exact hm) ?_ hdb)
  refine PySem.W.callWith_K0 I.kIn (keepX B hc) (runC (us := []) (ws := []) B hc hj I .nil .nil rfl ?_)
  exact ⟨G, [], [], δ.z, _, _, R.st, .nil, .nil, h.2, fun d n' v G' H' q po rr => kk d _ v G' H' q (po.spf R) (R.post po) rr, fun er n' cls dd G' H' q po rr => xx er _ cls dd G' H' q po.go.g (R.post po) rr⟩
/-- f(e, .., k = v, ..) -/
theorem de_callK (B : XB X c W N sc k bb) (hm : c.mg x = some fv) (hc : Callee c.toWd fv ks j s) (hj : j ≤ k) (hg : sc.names.lookup x = some .globalImplicit) (ha : DA X c W (e :: es) rs) (hk : DK X c W kws rk)
    (hall : (backToKw pos (keywordEach kws X.env)).all (·.1.isSome) = true := by rfl) (hks : (backToKw pos (keywordEach kws X.env)).filterMap (·.1) = ks := by rfl)
    (hdb : (x == ("__debug__" : Str)) = false := by decide) (he : starEach (e :: es) X.env = (false, eval e X.env) :: starEach es X.env := by rfl)
    (hpl : ((backTo pos (starEach (e :: es) X.env)).any (·.1) || (backToKw pos (keywordEach kws X.env)).any (·.1.isNone)) = false := by rfl) :
    DE X c W (.Call (.Name x p) (e :: es) kws pos) (dCall (fun ds zs n P R => zs.length = ks.length ∧ s ds zs n P R) rs rk) := by
  refine ⟨fun pins st σ H Q I h => ?_⟩
  obtain ⟨G, δ, P, E, R, h, kk, xx⟩ := h
  refine wpAny_Call_Name_kw (ld_glob I (glX B hg) (by rw [B.hm]; exact hm) ?_ hdb)
  refine PySem.W.callWith_KW (h₀ := X.base) I.ok.mod.kin (keepX B hc) hall (thn (ha.run pos pins st σ H (fun vs H1 => liftA c W rk σ H1 fun zs H2 => zs.length = ks.length ∧ liftSp2 c.toWd s vs zs H2 Q fun cls d H' => W cls d σ H') I ⟨G, δ, _, E, R, h, fun ds δ1 vs G1 H1 p1 L1 R1 r1 => ?_, xx⟩) fun us s1 ⟨vs, H1, I1, rv, q⟩ => ?_) hpl he
  · exact ⟨G1, δ1, _, E, R1, p1, fun zs δ2 us G2 H2 p2 L2 R2 r2 => ⟨by rw [r2.len]; exact p2.1, G2, ds, zs, δ2.z, _, _, R2.st, r1.mono L2.g, r2, p2.2, fun d n' v G' H' q po rr => kk d _ v G' H' q ((L1.trans L2).trans (po.spf R2)) (R2.post po) rr, fun er n' cls dd G' H' q po rr => xx er _ cls dd G' H' q ((L1.trans L2).g.trans po.go.g) (R2.post po) rr⟩, xx.mono L1.g⟩
  · refine thn (hk.run pos pins s1 σ H1 _ I1 q) fun ws s2 ⟨zs, H2, I2, rz, e2, q2⟩ => ⟨I2.kIn, ?_⟩
    rw [hks]
    exact runC B hc hj I2 rv rz e2 q2
/-- f(k = v, ..) -/
theorem de_callK0 (B : XB X c W N sc k bb) (hm : c.mg x = some fv) (hc : Callee c.toWd fv ks j s) (hj : j ≤ k) (hg : sc.names.lookup x = some .globalImplicit) (hk : DK X c W kws rk)
    (hall : (backToKw pos (keywordEach kws X.env)).all (·.1.isSome) = true := by rfl) (hks : (backToKw pos (keywordEach kws X.env)).filterMap (·.1) = ks := by rfl)
    (hdb : (x == ("__debug__" : Str)) = false := by decide)
    (hpl : ((backTo pos (starEach [] X.env)).any (·.1) || (backToKw pos (keywordEach kws X.env)).any (·.1.isNone)) = false := by rfl) :
    DE X c W (.Call (.Name x p) [] kws pos) (dCall (fun ds zs n P R => zs.length = ks.length ∧ s ds zs n P R) dNil rk) := by
  refine ⟨fun pins st σ H Q I h => ?_⟩
  obtain ⟨G, δ, P, E, R, h, kk, xx⟩ := h
  refine wpAny_Call_Name_kw (ld_glob I (glX B hg) (by rw [B.hm]; exact hm) ?_ hdb)
  refine PySem.W.callWith_KW0 (h₀ := X.base) I.ok.mod.kin (keepX B hc) hall (thn (hk.run pos pins st σ H (fun zs H2 => zs.length = ks.length ∧ liftSp2 c.toWd s [] zs H2 Q fun cls d H' => W cls d σ H') I ⟨G, δ, _, E, R, h, fun zs δ2 us G2 H2 p2 L2 R2 r2 => ?_, xx⟩) fun ws s2 ⟨zs, H2, I2, rz, e2, q2⟩ => ⟨I2.kIn, ?_⟩) hpl
  · exact ⟨by rw [r2.len]; exact p2.1, G2, [], zs, δ2.z, _, _, R2.st, .nil, r2, p2.2, fun d n' v G' H' q po rr => kk d _ v G' H' q (L2.trans (po.spf R2)) (R2.post po) rr, fun er n' cls dd G' H' q po rr => xx er _ cls dd G' H' q (L2.g.trans po.go.g) (R2.post po) rr⟩
  · rw [hks]
    exact runC (us := []) B hc hj I2 .nil rz e2 q2

/-! ### attributes -/
structure CA (c : Wd) (C : Addr) (f : Str) : Prop where
  cl : Cls c.K C
  na : NoAttr c.K C f
def dFld (c : Wd) (f : Str) (r : DTE) : DTE := fun δ P E => r δ (fun d δ1 => match d with
  | .ins C fs => CA c C f ∧ (match fs.lookup f with
    | some x => P x δ1
    | none => False)
  | _ => False) E
theorem de_fld {f : Str} (B : XB X c W N sc k bb) (he : DE X c W e r) (hb : attributeBase e f X.env (eval e X.env) = eval e X.env := by rfl) : DE X c W (.Attribute e f pos) (dFld c.toWd f r) :=
  peI (pe_fld he hb) fun σ H Q ⟨G, δ, P, E, R, h, kk, x⟩ => ⟨G, δ, _, E, R, h, fun d δ1 v G1 H1 p L R1 rr => by
    cases rr with
    | ins h1 rf =>
      obtain ⟨ca, p⟩ := p
      revert p
      generalize hq : List.lookup f _ = q
      intro p
      cases q with
      | none => exact p.elim
      | some y =>
        obtain ⟨u, hu, ru⟩ := rf.look hq
        exact ⟨_, _, _, _, u, rfl, R1.le _ _ h1, by rw [B.hK]; exact ca.cl, by rw [B.hK]; exact ca.na, hu, kk y δ1 u G1 H1 p L R1 ru⟩
    | _ => exact p.elim, x⟩
/-- in an __init__: self.f, self.f = e -/
def dSelfFld (c : Wd) (i : Nat) (f : Str) : DTE := fun δ P _ => match δ.sl[i]? with
  | some (.self C fs) => CA c C f ∧ (match fs.lookup f with
    | some x => P x δ
    | none => False)
  | _ => False
theorem de_self {f x : Str} {i : Nat} (B : XB X c W N sc k bb) (hN : N[i]? = some x) (hv : Vis sc x) (hb : attributeBase (.Name x p) f X.env (eval (.Name x p) X.env) = eval (.Name x p) X.env := by rfl) (hd : (x == ("__debug__" : Str)) = false := by decide) (hcd : (x == ("__classdict__" : Str)) = false := by decide) :
    DE X c W (.Attribute (.Name x p) f pos) (dSelfFld c.toWd i f) := by
  refine peI (pe_fld (pe_var (i := i) (by rw [B.hN]; exact hN) (by rw [B.hs]; exact hv) hd hcd) hb) fun σ H Q ⟨G, δ, P, E, R, h, kk, xx⟩ => ?_
  unfold dSelfFld at h
  revert h
  cases e : δ.sl[i]? with
  | none => intro h; exact h.elim
  | some s =>
    have hs := R.sl i s e
    cases s with
    | self C fs =>
      rintro ⟨ca, h⟩
      obtain ⟨a, dx, vs, h1, h2, h3, hmu, hm, h4⟩ := hs
      revert h
      generalize hq : List.lookup f fs = q
      intro h
      cases q with
      | none => exact h.elim
      | some y =>
        obtain ⟨u, hu, ru⟩ := h4.look hq
        exact ⟨_, at_some h1, _, _, _, _, u, rfl, h2, by rw [B.hK]; exact ca.cl, by rw [B.hK]; exact ca.na, hu, kk y δ u G H h Go.refl R ru⟩
    | _ => intro h; exact h.elim
/-- fields put, in data -/
def putD (f : Str) (v : D) : List (Str × D) → List (Str × D)
  | [] => [(f, v)]
  | (g, w) :: r => if g = f then (g, v) :: r else (g, w) :: putD f v r
theorem RepF.put {K : PySem.W.Frag} {p0 : Addr} {G : Hp} {f : Str} {v : V} {d : D} (h : Rep K p0 G v d) : ∀ {vs : List (Str × V)} {ds : List (Str × D)}, RepF K p0 G vs ds → RepF K p0 G (putF f v vs) (putD f d ds)
  | _, _, .nil => .cons h .nil
  | _, _, .cons (k := g) a b => by
    unfold putF putD
    by_cases q : g = f
    · rw [if_pos q, if_pos q]; exact .cons h b
    · rw [if_neg q, if_neg q]; exact .cons a (RepF.put h b)
def dSelfSet (c : Wd) (i : Nat) (f : Str) (r : DTE) : DTS := fun N δ => r δ (fun d δ1 => match δ1.sl[i]? with
  | some (.self C fs) => CA c C f ∧ fs.length < 1000 ∧ N.nx { δ1 with sl := δ1.sl.set i (.self C (putD f d fs)) }
  | _ => False) N.ex
theorem ds_self {f x : Str} {i : Nat} {pos' : Pos} (B : XB X c W N sc k bb) (hN : N[i]? = some x) (hv : Vis sc x) (he : DE X c W e r)
    (hs : swapsWith e (some (.Attribute (.Name x p) f pos')) pos.line X.env = pure false := by rfl) (hd : (x == ("__debug__" : Str)) = false := by decide) (hcd : (x == ("__classdict__" : Str)) = false := by decide) : DS X c W (.Assign [.Attribute (.Name x p) f pos'] e pos) (dSelfSet c.toWd i f r) :=
  psI (ps_fld (pe_var (i := i) (by rw [B.hN]; exact hN) (by rw [B.hs]; exact hv) hd hcd) he hs) fun D σ H ⟨G, δ, N, R, h, n⟩ => ⟨G, δ, _, N.ex, R, h, fun d δ1 v G1 H1 p1 L1 R1 r1 => by
    revert p1
    cases e : δ1.sl[i]? with
    | none => intro h; exact h.elim
    | some s =>
      have hs := R1.sl i s e
      cases s with
      | self C fs =>
        rintro ⟨ca, hl, hn⟩
        obtain ⟨a, dx, vs, h1, h2, h3, hmu, hm, h4⟩ := hs
        exact ⟨_, at_some h1, _, _, _, _, rfl, h2, by rw [B.hK]; exact ca.cl, by rw [B.hK]; exact ca.na, by rw [h4.len]; exact hl, n.nx _ G1 _ σ hn L1.g (Rel.own R1 e h1 rfl h3 hmu rfl ⟨a, dx, _, rfl, upd_same, h3, hmu, hm, RepF.put r1 h4⟩)⟩
      | _ => intro h; exact h.elim, exOf n⟩
end
end DL

/-! EL4: a def by its body; an __init__ by its body; methods; comprehensions. -/
namespace DL
open PySem L2 PySem.Spec PyProof.Rows

def fnN (P : D → Z → Prop) (R : Er → Z → Prop) : DN := { nx := fun δ => P .non δ.z, rt := fun d δ => P d δ.z, bk := fun _ => False, ct := fun _ => False, ex := fun er δ => R er δ.z }
def startS (N : List Str) (ds : List D) (n : Z) : S := ⟨ds.map .d ++ List.replicate (N.length - ds.length) .un, n⟩
theorem at_start {N : List Str} {vs : List V} {i : Nat} {v : V} (h : vs[i]? = some v) : at_ (L2.start N vs) i = some v := by
  have hi : i < vs.length := (List.getElem?_eq_some_iff.mp h).1
  unfold at_ L2.start
  rw [List.getElem?_append_left (by simpa using hi), List.getElem?_map, h]
  rfl
theorem startS_get {N : List Str} {ds : List D} {n : Z} {i : Nat} {s : Sl} (h : (startS N ds n).sl[i]? = some s) : (∃ x, ds[i]? = some x ∧ s = .d x) ∨ s = .un := by
  unfold startS at h
  simp only at h
  by_cases hi : i < ds.length
  · rw [List.getElem?_append_left (by simpa using hi), List.getElem?_map] at h
    cases e : ds[i]? with
    | none => rw [e] at h; cases h
    | some x => rw [e] at h; cases h; exact .inl ⟨x, rfl, rfl⟩
  · rw [List.getElem?_append_right (by simpa using hi), List.getElem?_replicate] at h
    split at h
    · cases h; exact .inr rfl
    · cases h
theorem rel_start {c : Wd} {G H : Hp} {N : List Str} {vs : List V} {ds : List D} {n : Z} (st : StOk c G H n) (r : RepL c.K c.p0 G vs ds) : Rel (frOf c G H n []) G H (L2.start N vs) (startS N ds n) := by
  have own : ∀ a, ¬ Own (startS N ds n) (L2.start N vs) a := fun a ⟨i, s, h1, o, _⟩ => by
    rcases startS_get h1 with ⟨x, hx, rfl⟩ | rfl <;> cases o
  refine ⟨st, Go.refl (S := Spc c n) |>.imp (fun _ h => .inl h) (fun a h => h.elim .inl fun o => absurd o (own a)), ?_, fun i s h => ?_, fun i j a s t _ h1 h2 o1 _ _ _ => ?_⟩
  · unfold L2.start startS
    simp [r.len]
  · rcases startS_get h with ⟨x, hx, rfl⟩ | rfl
    · obtain ⟨u, h1, h2⟩ := r.get hx
      exact ⟨u, at_start h1, h2⟩
    · trivial
  · rcases startS_get h1 with ⟨x, hx, rfl⟩ | rfl <;> cases o1
section
variable {c : Wd} {name qual : Str} {params : Arguments} {body : List Stmt} {scope : Scope} {dvs : List V} {kws : List (Str × V)} {f : Addr} {fd : FuncData} {N ps : List Str} {k : Nat} {t : DTS}
/-- THE RULE for a def: its body's derivation, its reading -/
theorem fn_ok {sp : DSp} (F : FunD c.K name qual params body scope dvs kws f fd) (S : FnScope N ps scope) (len : ∀ ds n P R, sp ds n P R → ds.length = ps.length)
    (hb : ∀ (X : Cx) (cf : Fr) (W : WX), cf.toWd = c → XB X cf W N scope k false → DSs X cf W body t)
    (hr : ∀ ds n P R, sp ds n P R → t (fnN P R) (startS N ds n)) : FnG c (k + 1) f fd ps (liftSp c sp) := by
  refine fnG_of F S (fun vs H Q E h => ?_) fun cdv A outer s H vs Q E room gd _ h => ?_
  · obtain ⟨G, ds, n, P, R, b1, b4, b5, _⟩ := h
    rw [b4.len]; exact len ds n P R b5
  · obtain ⟨G, ds, n, P, R, b1, b4, b5, b6, b7⟩ := h
    have tk := takes_of (X := cxOf (L2.CX c.P c.w) c.P c.w c.K c.mg c.base N qual scope f cdv A outer s H E) (E := E) rfl rfl rfl rfl
    refine ⟨_, hb _ (frOf c G H n []) (fun cls dd _ H' => E cls dd H') rfl ⟨rfl, rfl, rfl, rfl, rfl, rfl, S.nd, rfl, rfl, room, gd, tk, passes_of rfl, fun _ _ => rfl, fun _ => rfl, fun _ => ⟨rfl, rfl⟩⟩, G, startS N ds n, fnN P R, rel_start b1 b4, hr ds n P R b5, ?_⟩
    have po : ∀ {δ' G' H' σ'}, Le G G' → Rel (frOf c G H n []) G' H' σ' δ' → Post c n G H G' H' δ'.z := fun {δ' G' H' σ'} L R' =>
      ⟨R'.st, R'.go.imp (fun a h => h.elim id fun m => absurd m (by simp)) fun a h => .inl (.inl h)⟩
    exact ⟨fun δ' G' H' σ' p L R' => b6 .non _ _ _ _ p (po L R') .non, fun d δ' v G' H' σ' p L R' rr => b6 d _ v _ _ p (po L R') rr, fun _ _ _ _ p => p.elim, fun _ _ _ _ p => p.elim,
      fun er δ' cls dd G' H' σ' p L R' he => b7 er _ cls dd _ _ p (po L R') he⟩
/-- a def that holds lambdas -/
theorem fn_okL {sp : DSp} (F : FunD c.K name qual params body scope dvs kws f fd) (S : FnScope N ps scope) (len : ∀ ds n P R, sp ds n P R → ds.length = ps.length)
    (hb : ∀ (X : Cx) (cf : Fr) (W : WX), cf.toWd = c → XB X cf W N scope k false → AtF c.K f qual X.env → DSs X cf W body t)
    (hr : ∀ ds n P R, sp ds n P R → t (fnN P R) (startS N ds n)) : FnG c (k + 1) f fd ps (liftSp c sp) := by
  refine fnG_of F S (fun vs H Q E h => ?_) fun cdv A outer s H vs Q E room gd hat h => ?_
  · obtain ⟨G, ds, n, P, R, b1, b4, b5, _⟩ := h
    rw [b4.len]; exact len ds n P R b5
  · obtain ⟨G, ds, n, P, R, b1, b4, b5, b6, b7⟩ := h
    have tk := takes_of (X := cxOf (L2.CX c.P c.w) c.P c.w c.K c.mg c.base N qual scope f cdv A outer s H E) (E := E) rfl rfl rfl rfl
    refine ⟨_, hb _ (frOf c G H n []) (fun cls dd _ H' => E cls dd H') rfl ⟨rfl, rfl, rfl, rfl, rfl, rfl, S.nd, rfl, rfl, room, gd, tk, passes_of rfl, fun _ _ => rfl, fun _ => rfl, fun _ => ⟨rfl, rfl⟩⟩ hat, G, startS N ds n, fnN P R, rel_start b1 b4, hr ds n P R b5, ?_⟩
    have po : ∀ {δ' G' H' σ'}, Le G G' → Rel (frOf c G H n []) G' H' σ' δ' → Post c n G H G' H' δ'.z := fun {δ' G' H' σ'} L R' =>
      ⟨R'.st, R'.go.imp (fun a h => h.elim id fun m => absurd m (by simp)) fun a h => .inl (.inl h)⟩
    exact ⟨fun δ' G' H' σ' p L R' => b6 .non _ _ _ _ p (po L R') .non, fun d δ' v G' H' σ' p L R' rr => b6 d _ v _ _ p (po L R') rr, fun _ _ _ _ p => p.elim, fun _ _ _ _ p => p.elim,
      fun er δ' cls dd G' H' σ' p L R' he => b7 er _ cls dd _ _ p (po L R') he⟩
/-- an __init__: its self in slot 0 -/
def startI (C : Addr) (N : List Str) (ds : List D) (n : Z) : S := ⟨.self C [] :: (ds.map .d ++ List.replicate (N.length - 1 - ds.length) .un), n⟩
def endI (C : Addr) (P : List (Str × D) → Z → Prop) (δ : S) : Prop := match (δ.sl[(0 : Nat)]? : Option Sl) with
  | some (.self C' fs) => C' = C ∧ P fs δ.z
  | _ => False
def inN (C : Addr) (P : List (Str × D) → Z → Prop) (R : Er → Z → Prop) : DN :=
  { nx := endI C P, rt := fun d δ => (match d with | .non => True | _ => False) ∧ endI C P δ, bk := fun _ => False, ct := fun _ => False, ex := fun er δ => R er δ.z }
theorem endI_get {C : Addr} {P : List (Str × D) → Z → Prop} {δ : S} (h : endI C P δ) : ∃ fs, δ.sl[0]? = some (.self C fs) ∧ P fs δ.z := by
  unfold endI at h
  revert h
  cases e : (δ.sl[(0 : Nat)]? : Option Sl) with
  | none => intro h; exact h.elim
  | some s =>
    cases s with
    | self C' fs => rintro ⟨rfl, h⟩; exact ⟨fs, rfl, h⟩
    | _ => intro h; exact h.elim
theorem startI_get {C : Addr} {N : List Str} {ds : List D} {n : Z} {i : Nat} {s : Sl} (h : (startI C N ds n).sl[i]? = some s) : (i = 0 ∧ s = .self C []) ∨ (∃ j x, i = j + 1 ∧ ds[j]? = some x ∧ s = .d x) ∨ s = .un := by
  unfold startI at h
  cases i with
  | zero => simp at h; exact .inl ⟨rfl, h.symm⟩
  | succ j =>
    rw [List.getElem?_cons_succ] at h
    right
    by_cases hi : j < ds.length
    · rw [List.getElem?_append_left (by simpa using hi), List.getElem?_map] at h
      cases e : ds[j]? with
      | none => rw [e] at h; cases h
      | some x => rw [e] at h; cases h; exact .inl ⟨j, x, rfl, e, rfl⟩
    · rw [List.getElem?_append_right (by simpa using hi), List.getElem?_replicate] at h
      split at h
      · cases h; exact .inr rfl
      · cases h
theorem rel_startI {G H : Hp} {a dx C : Addr} {vs : List V} {ds : List D} {n : Z} (hN : 0 < N.length) (ha : H a = some (.ins C dx [])) (ga : G a = none) (ns : ¬ Spc c n a) (st : StOk c G H n) (r : RepL c.K c.p0 G vs ds) :
    Rel (frOf c G H n [a]) G H (L2.start N (.ref a :: vs)) (startI C N ds n) := by
  have z : ∀ {i s}, (startI C N ds n).sl[i]? = some s → isOwn s = true → i = 0 := fun {i s} h o => by
    rcases startI_get h with ⟨rfl, rfl⟩ | ⟨j, x, rfl, hx, rfl⟩ | rfl
    · rfl
    · cases o
    · cases o
  have a0 : at_ (L2.start N (.ref a :: vs)) 0 = some (.ref a) := at_start rfl
  refine ⟨st, Go.refl (S := Spc c n) |>.imp (fun _ h => .inl h) (fun b h => h.elim .inl fun ⟨i, s, h1, o, h2⟩ => .inr (.inl (.inr ?_))), ?_, fun i s h => ?_, fun i j b s t nij h1 h2 o1 o2 _ _ => nij ((z h1 o1).trans (z h2 o2).symm)⟩
  · have e := z h1 o
    subst e
    rw [a0] at h2
    cases h2
    exact List.mem_singleton.mpr rfl
  · unfold L2.start startI
    simp [r.len]; omega
  · rcases startI_get h with ⟨rfl, rfl⟩ | ⟨j, x, rfl, hx, rfl⟩ | rfl
    · exact ⟨a, dx, [], a0, ha, ga, ns, by simp, .nil⟩
    · obtain ⟨u, h1, h2⟩ := r.get hx
      exact ⟨u, at_start (by simpa using h1), h2⟩
    · trivial
/-- THE RULE for an __init__ -/
theorem init_ok {C : Addr} {sp : DInit} (F : FunD c.K name qual params body scope dvs kws f fd) (S : FnScope N ps scope) (hN : 0 < N.length) (len : ∀ ds n P R, sp ds n P R → ds.length + 1 = ps.length)
    (hb : ∀ (X : Cx) (cf : Fr) (W : WX), cf.toWd = c → XB X cf W N scope k false → DSs X cf W body t)
    (hr : ∀ ds n P R, sp ds n P R → t (inN C P R) (startI C N ds n)) : FnG c (k + 1) f fd ps (liftInit c C sp) := by
  refine fnG_of F S (fun vs H Q E h => ?_) fun cdv A outer s H vs Q E room gd _ h => ?_
  · obtain ⟨a, dx, vs', G, ds, n, P, R, rfl, b1, b2, b3, b4, b6, b7, _⟩ := h
    rw [List.length_cons, b6.len]; exact len ds n P R b7
  · obtain ⟨a, dx, vs', G, ds, n, P, R, rfl, b1, b2, b3, b4, b6, b7, b8, b9⟩ := h
    have tk := takes_of (X := cxOf (L2.CX c.P c.w) c.P c.w c.K c.mg c.base N qual scope f cdv A outer s H E) (E := E) rfl rfl rfl rfl
    refine ⟨_, hb _ (frOf c G H n [a]) (fun cls dd _ H' => E cls dd H') rfl ⟨rfl, rfl, rfl, rfl, rfl, rfl, S.nd, rfl, rfl, room, gd, tk, passes_of rfl, fun _ _ => rfl, fun _ => rfl, fun _ => ⟨rfl, rfl⟩⟩, G, startI C N ds n, inN C P R, rel_startI hN b1 b2 b3 b4 b6, hr ds n P R b7, ?_⟩
    have po : ∀ {δ' G' H' σ'}, Le G G' → Rel (frOf c G H n [a]) G' H' σ' δ' → PostI c a n G H G' H' δ'.z := fun {δ' G' H' σ'} L R' =>
      ⟨R'.st, R'.go.imp (fun b h => h.imp id fun m => List.mem_singleton.mp m) fun b h => h.elim (fun q => .inl (.inl q)) fun q => .inr (.inl (.inr q))⟩
    have fin : ∀ {δ' G' H' σ'}, Le G G' → Rel (frOf c G H n [a]) G' H' σ' δ' → endI C P δ' → Q .non H' := fun {δ' G' H' σ'} L R' he => by
      obtain ⟨fs, e, p⟩ := endI_get he
      obtain ⟨a', dx', fvs, h1, h2, h3, h4, hm, h5⟩ := R'.sl 0 _ e
      obtain rfl : a' = a := List.mem_singleton.mp hm
      exact b8 fs _ fvs dx' G' H' p (po L R') h2 h3 h4 h5
    refine ⟨fun δ' G' H' σ' p L R' => fin L R' p, fun d δ' v G' H' σ' p L R' rr => ?_, fun _ _ _ _ p => p.elim, fun _ _ _ _ p => p.elim, fun er δ' cls dd G' H' σ' p L R' he => b9 er _ cls dd _ _ p (po L R') he⟩
    cases rr with
    | non => exact fin L R' p.2
    | _ => exact p.1.elim
end
end DL

/-! ELE: == of plain data, dicts among them. -/
namespace PySem.SeqAt
open AutoSeq1 (wpAny_loadPart')
open MeetsSeq
/-- == of two values by their rich comparison: k, and nothing changes -/
def RcP (prog : Program) (w : World) (A : Around) (s : Shared) (a b : Value) (k : Bool) : Prop := ∀ (E Q : Value → Shared → Prop), Q (.bool k) s → wpAny (model prog w) A (richCompare .Eq a b) Q E s
/-- a dict stands at a -/
def IsDic (h : Heap) (a : Addr) : Prop := ∃ (es : Array DictEntry) (ep : Nat) (dd : Option Addr) (sl : Array (Option Value)), h.get? a = some { cls := .type "dict", dict := dd, data := .dict es ep, slots := sl }

theorem dict_declines_none (a : Addr) (es : Array DictEntry) (ep : Nat) (dd : Option Addr) (sl : Array (Option Value))  :
    Meets (Builtin.«dict.__eq__» ⟨[.ref a, .none], []⟩) (fun _ R s => s.heap.get? a = some { cls := .type "dict", dict := dd, data := .dict es ep, slots := sl } ∧ R (.ok (.ret .notImplemented)) s) :=
  .of_wp fun prog w A R s h => by obtain ⟨hp, g, d, tk, os⟩ := s; obtain ⟨hl, h⟩ := h; have f1 := F.sub_NoneType_dict; have f2 := F.sub_dict_dict; wp_walk using wpAny_loadPart' hl, wpAny_load hl; exact ⟨_, rfl, h⟩
theorem none_declines_dict (a : Addr) (es : Array DictEntry) (ep : Nat) (dd : Option Addr) (sl : Array (Option Value))  :
    Meets (Builtin.«NoneType.__eq__» ⟨[.none, .ref a], []⟩) (fun _ R s => s.heap.get? a = some { cls := .type "dict", dict := dd, data := .dict es ep, slots := sl } ∧ R (.ok (.ret .notImplemented)) s) :=
  .of_wp fun prog w A R s h => by obtain ⟨hp, g, d, tk, os⟩ := s; obtain ⟨hl, h⟩ := h; wp_walk using wpAny_loadPart' hl, wpAny_load hl; exact ⟨_, rfl, h⟩
theorem dict_declines_bool (a : Addr) (es : Array DictEntry) (ep : Nat) (dd : Option Addr) (sl : Array (Option Value)) (b : Bool) :
    Meets (Builtin.«dict.__eq__» ⟨[.ref a, .bool b], []⟩) (fun _ R s => s.heap.get? a = some { cls := .type "dict", dict := dd, data := .dict es ep, slots := sl } ∧ R (.ok (.ret .notImplemented)) s) :=
  .of_wp fun prog w A R s h => by obtain ⟨hp, g, d, tk, os⟩ := s; obtain ⟨hl, h⟩ := h; have f1 := F.sub_bool_dict; have f2 := F.sub_dict_dict; wp_walk using wpAny_loadPart' hl, wpAny_load hl; exact ⟨_, rfl, h⟩
theorem bool_declines_dict (a : Addr) (es : Array DictEntry) (ep : Nat) (dd : Option Addr) (sl : Array (Option Value)) (b : Bool) :
    Meets (Builtin.«int.__eq__» ⟨[.bool b, .ref a], []⟩) (fun _ R s => s.heap.get? a = some { cls := .type "dict", dict := dd, data := .dict es ep, slots := sl } ∧ R (.ok (.ret .notImplemented)) s) :=
  .of_wp fun prog w A R s h => by obtain ⟨hp, g, d, tk, os⟩ := s; obtain ⟨hl, h⟩ := h; wp_walk using wpAny_loadPart' hl, wpAny_load hl; exact ⟨_, rfl, h⟩
theorem dict_declines_int (a : Addr) (es : Array DictEntry) (ep : Nat) (dd : Option Addr) (sl : Array (Option Value)) (b : Int) (u : Tok) :
    Meets (Builtin.«dict.__eq__» ⟨[.ref a, .int b u], []⟩) (fun _ R s => s.heap.get? a = some { cls := .type "dict", dict := dd, data := .dict es ep, slots := sl } ∧ R (.ok (.ret .notImplemented)) s) :=
  .of_wp fun prog w A R s h => by obtain ⟨hp, g, d, tk, os⟩ := s; obtain ⟨hl, h⟩ := h; have f1 := F.sub_int_dict; have f2 := F.sub_dict_dict; wp_walk using wpAny_loadPart' hl, wpAny_load hl; exact ⟨_, rfl, h⟩
theorem int_declines_dict (a : Addr) (es : Array DictEntry) (ep : Nat) (dd : Option Addr) (sl : Array (Option Value)) (b : Int) (u : Tok) :
    Meets (Builtin.«int.__eq__» ⟨[.int b u, .ref a], []⟩) (fun _ R s => s.heap.get? a = some { cls := .type "dict", dict := dd, data := .dict es ep, slots := sl } ∧ R (.ok (.ret .notImplemented)) s) :=
  .of_wp fun prog w A R s h => by obtain ⟨hp, g, d, tk, os⟩ := s; obtain ⟨hl, h⟩ := h; wp_walk using wpAny_loadPart' hl, wpAny_load hl; exact ⟨_, rfl, h⟩
theorem dict_declines_str (a : Addr) (es : Array DictEntry) (ep : Nat) (dd : Option Addr) (sl : Array (Option Value)) (b : Str) (u : Tok) :
    Meets (Builtin.«dict.__eq__» ⟨[.ref a, .str b u], []⟩) (fun _ R s => s.heap.get? a = some { cls := .type "dict", dict := dd, data := .dict es ep, slots := sl } ∧ R (.ok (.ret .notImplemented)) s) :=
  .of_wp fun prog w A R s h => by obtain ⟨hp, g, d, tk, os⟩ := s; obtain ⟨hl, h⟩ := h; have f1 := F.sub_str_dict; have f2 := F.sub_dict_dict; wp_walk using wpAny_loadPart' hl, wpAny_load hl; exact ⟨_, rfl, h⟩
theorem str_declines_dict (a : Addr) (es : Array DictEntry) (ep : Nat) (dd : Option Addr) (sl : Array (Option Value)) (b : Str) (u : Tok) :
    Meets (Builtin.«str.__eq__» ⟨[.str b u, .ref a], []⟩) (fun _ R s => s.heap.get? a = some { cls := .type "dict", dict := dd, data := .dict es ep, slots := sl } ∧ R (.ok (.ret .notImplemented)) s) :=
  .of_wp fun prog w A R s h => by obtain ⟨hp, g, d, tk, os⟩ := s; obtain ⟨hl, h⟩ := h; wp_walk using wpAny_loadPart' hl, wpAny_load hl; exact ⟨_, rfl, h⟩
theorem dict_declines_list (a l : Addr) (es : Array DictEntry) (ep n : Nat) (items : Array Value) (dd dd2 : Option Addr) (sl sl2 : Array (Option Value)) :
    Meets (Builtin.«dict.__eq__» ⟨[.ref a, .ref l], []⟩) (fun _ R s => s.heap.get? a = some { cls := .type "dict", dict := dd, data := .dict es ep, slots := sl } ∧ s.heap.get? l = some { cls := .type "list", dict := dd2, data := .seq items n, slots := sl2 } ∧ R (.ok (.ret .notImplemented)) s) :=
  .of_wp fun prog w A R s h => by obtain ⟨hp, g, d, tk, os⟩ := s; obtain ⟨hl, hl2, h⟩ := h; have f1 := F.sub_list_dict; wp_walk using wpAny_loadPart' hl, wpAny_load hl, wpAny_loadPart' hl2, wpAny_load hl2; exact ⟨_, rfl, h⟩
theorem list_declines_dict (a l : Addr) (es : Array DictEntry) (ep n : Nat) (items : Array Value) (dd dd2 : Option Addr) (sl sl2 : Array (Option Value)) :
    Meets (Builtin.«list.__eq__» ⟨[.ref l, .ref a], []⟩) (fun _ R s => s.heap.get? a = some { cls := .type "dict", dict := dd, data := .dict es ep, slots := sl } ∧ s.heap.get? l = some { cls := .type "list", dict := dd2, data := .seq items n, slots := sl2 } ∧ R (.ok (.ret .notImplemented)) s) :=
  .of_wp fun prog w A R s h => by obtain ⟨hp, g, d, tk, os⟩ := s; obtain ⟨hl, hl2, h⟩ := h; have f1 := F.sub_dict_list; wp_walk using wpAny_loadPart' hl, wpAny_load hl, wpAny_loadPart' hl2, wpAny_load hl2; exact ⟨_, rfl, h⟩
theorem dict_declines_tuple (a l : Addr) (es : Array DictEntry) (ep n : Nat) (items : Array Value) (dd dd2 : Option Addr) (sl sl2 : Array (Option Value)) :
    Meets (Builtin.«dict.__eq__» ⟨[.ref a, .ref l], []⟩) (fun _ R s => s.heap.get? a = some { cls := .type "dict", dict := dd, data := .dict es ep, slots := sl } ∧ s.heap.get? l = some { cls := .type "tuple", dict := dd2, data := .seq items n, slots := sl2 } ∧ R (.ok (.ret .notImplemented)) s) :=
  .of_wp fun prog w A R s h => by obtain ⟨hp, g, d, tk, os⟩ := s; obtain ⟨hl, hl2, h⟩ := h; have f1 := F.sub_tuple_dict; wp_walk using wpAny_loadPart' hl, wpAny_load hl, wpAny_loadPart' hl2, wpAny_load hl2; exact ⟨_, rfl, h⟩
theorem tuple_declines_dict (a l : Addr) (es : Array DictEntry) (ep n : Nat) (items : Array Value) (dd dd2 : Option Addr) (sl sl2 : Array (Option Value)) :
    Meets (Builtin.«tuple.__eq__» ⟨[.ref l, .ref a], []⟩) (fun _ R s => s.heap.get? a = some { cls := .type "dict", dict := dd, data := .dict es ep, slots := sl } ∧ s.heap.get? l = some { cls := .type "tuple", dict := dd2, data := .seq items n, slots := sl2 } ∧ R (.ok (.ret .notImplemented)) s) :=
  .of_wp fun prog w A R s h => by obtain ⟨hp, g, d, tk, os⟩ := s; obtain ⟨hl, hl2, h⟩ := h; have f1 := F.sub_dict_tuple; wp_walk using wpAny_loadPart' hl, wpAny_load hl, wpAny_loadPart' hl2, wpAny_load hl2; exact ⟨_, rfl, h⟩
end PySem.SeqAt

/-! ELF: == of plain data, dicts among them: the theorem over D. -/
namespace PySem.SeqAt
open AutoSeq1 (wpAny_loadPart')
open MeetsSeq
section
variable {P : Program} {w : World} {A : Around} {s : Shared}
theorem rcP_dict_none {a : Addr}  (hd : IsDic s.heap a) (hu : A.units < cLine) : RcP P w A s (.ref a) (.none) false := fun E Q h => by
  obtain ⟨es, ep, dd, sl, ho⟩ := hd
  exact rc_eq_decline_or (k := false) ⟨_, ho, rfl⟩ rfl (by decide) F.sub_NoneType_dict F.slot_dict_eq F.slot_NoneType_eq_refl
    (fun _ hq => call_meets F.slot_dict_eq ⟨_, ho, rfl⟩ F.entry_dict_eq (F.args_dict_eq_2 _ _) (dict_declines_none a es ep dd sl) ⟨ho, hq⟩)
    (fun _ hq => call_meets F.slot_NoneType_eq_refl rfl F.entry_NoneType_eq (F.args_NoneType_eq_2 _ _) (none_declines_dict a es ep dd sl) ⟨ho, hq⟩)
    (fun _ hq => wpAny_of_eq (rfl : isSame (.ref a) (.none) = pure false) hq) (.inr hu) h
theorem rcP_none_dict {a : Addr}  (hd : IsDic s.heap a) (hu : A.units < cLine) : RcP P w A s (.none) (.ref a) false := fun E Q h => by
  obtain ⟨es, ep, dd, sl, ho⟩ := hd
  exact rc_eq_decline_or (k := false) rfl ⟨_, ho, rfl⟩ (by decide) F.sub_dict_NoneType F.slot_NoneType_eq F.slot_dict_eq_refl
    (fun _ hq => call_meets F.slot_NoneType_eq rfl F.entry_NoneType_eq (F.args_NoneType_eq_2 _ _) (none_declines_dict a es ep dd sl) ⟨ho, hq⟩)
    (fun _ hq => call_meets F.slot_dict_eq_refl ⟨_, ho, rfl⟩ F.entry_dict_eq (F.args_dict_eq_2 _ _) (dict_declines_none a es ep dd sl) ⟨ho, hq⟩)
    (fun _ hq => wpAny_of_eq (rfl : isSame (.none) (.ref a) = pure false) hq) (.inr hu) h
theorem rcP_dict_bool {a : Addr} (b : Bool) (hd : IsDic s.heap a) (hu : A.units < cLine) : RcP P w A s (.ref a) (.bool b) false := fun E Q h => by
  obtain ⟨es, ep, dd, sl, ho⟩ := hd
  exact rc_eq_decline_or (k := false) ⟨_, ho, rfl⟩ rfl (by decide) F.sub_bool_dict F.slot_dict_eq F.slot_bool_eq_refl
    (fun _ hq => call_meets F.slot_dict_eq ⟨_, ho, rfl⟩ F.entry_dict_eq (F.args_dict_eq_2 _ _) (dict_declines_bool a es ep dd sl b) ⟨ho, hq⟩)
    (fun _ hq => call_meets F.slot_bool_eq_refl rfl F.entry_int_eq (F.args_int_eq_2 _ _) (bool_declines_dict a es ep dd sl b) ⟨ho, hq⟩)
    (fun _ hq => wpAny_of_eq (rfl : isSame (.ref a) (.bool b) = pure false) hq) (.inr hu) h
theorem rcP_bool_dict {a : Addr} (b : Bool) (hd : IsDic s.heap a) (hu : A.units < cLine) : RcP P w A s (.bool b) (.ref a) false := fun E Q h => by
  obtain ⟨es, ep, dd, sl, ho⟩ := hd
  exact rc_eq_decline_or (k := false) rfl ⟨_, ho, rfl⟩ (by decide) F.sub_dict_bool F.slot_bool_eq F.slot_dict_eq_refl
    (fun _ hq => call_meets F.slot_bool_eq rfl F.entry_int_eq (F.args_int_eq_2 _ _) (bool_declines_dict a es ep dd sl b) ⟨ho, hq⟩)
    (fun _ hq => call_meets F.slot_dict_eq_refl ⟨_, ho, rfl⟩ F.entry_dict_eq (F.args_dict_eq_2 _ _) (dict_declines_bool a es ep dd sl b) ⟨ho, hq⟩)
    (fun _ hq => wpAny_of_eq (rfl : isSame (.bool b) (.ref a) = pure false) hq) (.inr hu) h
theorem rcP_dict_int {a : Addr} (b : Int) (u : Tok) (hd : IsDic s.heap a) (hu : A.units < cLine) : RcP P w A s (.ref a) (.int b u) false := fun E Q h => by
  obtain ⟨es, ep, dd, sl, ho⟩ := hd
  exact rc_eq_decline_or (k := false) ⟨_, ho, rfl⟩ rfl (by decide) F.sub_int_dict F.slot_dict_eq F.slot_int_eq_refl
    (fun _ hq => call_meets F.slot_dict_eq ⟨_, ho, rfl⟩ F.entry_dict_eq (F.args_dict_eq_2 _ _) (dict_declines_int a es ep dd sl b u) ⟨ho, hq⟩)
    (fun _ hq => call_meets F.slot_int_eq_refl rfl F.entry_int_eq (F.args_int_eq_2 _ _) (int_declines_dict a es ep dd sl b u) ⟨ho, hq⟩)
    (fun _ hq => wpAny_of_eq (rfl : isSame (.ref a) (.int b u) = pure false) hq) (.inr hu) h
theorem rcP_int_dict {a : Addr} (b : Int) (u : Tok) (hd : IsDic s.heap a) (hu : A.units < cLine) : RcP P w A s (.int b u) (.ref a) false := fun E Q h => by
  obtain ⟨es, ep, dd, sl, ho⟩ := hd
  exact rc_eq_decline_or (k := false) rfl ⟨_, ho, rfl⟩ (by decide) F.sub_dict_int F.slot_int_eq F.slot_dict_eq_refl
    (fun _ hq => call_meets F.slot_int_eq rfl F.entry_int_eq (F.args_int_eq_2 _ _) (int_declines_dict a es ep dd sl b u) ⟨ho, hq⟩)
    (fun _ hq => call_meets F.slot_dict_eq_refl ⟨_, ho, rfl⟩ F.entry_dict_eq (F.args_dict_eq_2 _ _) (dict_declines_int a es ep dd sl b u) ⟨ho, hq⟩)
    (fun _ hq => wpAny_of_eq (rfl : isSame (.int b u) (.ref a) = pure false) hq) (.inr hu) h
theorem rcP_dict_str {a : Addr} (b : Str) (u : Tok) (hd : IsDic s.heap a) (hu : A.units < cLine) : RcP P w A s (.ref a) (.str b u) false := fun E Q h => by
  obtain ⟨es, ep, dd, sl, ho⟩ := hd
  exact rc_eq_decline_or (k := false) ⟨_, ho, rfl⟩ rfl (by decide) F.sub_str_dict F.slot_dict_eq F.slot_str_eq_refl
    (fun _ hq => call_meets F.slot_dict_eq ⟨_, ho, rfl⟩ F.entry_dict_eq (F.args_dict_eq_2 _ _) (dict_declines_str a es ep dd sl b u) ⟨ho, hq⟩)
    (fun _ hq => call_meets F.slot_str_eq_refl rfl F.entry_str_eq (F.args_str_eq_2 _ _) (str_declines_dict a es ep dd sl b u) ⟨ho, hq⟩)
    (fun _ hq => wpAny_of_eq (rfl : isSame (.ref a) (.str b u) = pure false) hq) (.inr hu) h
theorem rcP_str_dict {a : Addr} (b : Str) (u : Tok) (hd : IsDic s.heap a) (hu : A.units < cLine) : RcP P w A s (.str b u) (.ref a) false := fun E Q h => by
  obtain ⟨es, ep, dd, sl, ho⟩ := hd
  exact rc_eq_decline_or (k := false) rfl ⟨_, ho, rfl⟩ (by decide) F.sub_dict_str F.slot_str_eq F.slot_dict_eq_refl
    (fun _ hq => call_meets F.slot_str_eq rfl F.entry_str_eq (F.args_str_eq_2 _ _) (str_declines_dict a es ep dd sl b u) ⟨ho, hq⟩)
    (fun _ hq => call_meets F.slot_dict_eq_refl ⟨_, ho, rfl⟩ F.entry_dict_eq (F.args_dict_eq_2 _ _) (dict_declines_str a es ep dd sl b u) ⟨ho, hq⟩)
    (fun _ hq => wpAny_of_eq (rfl : isSame (.str b u) (.ref a) = pure false) hq) (.inr hu) h
theorem rcP_dict_list {a l : Addr} {xs : Array Value} (hd : IsDic s.heap a) (hl : s.heap.IsList l xs) (hu : A.units < cLine) : a ≠ l ∧ RcP P w A s (.ref a) (.ref l) false ∧ RcP P w A s (.ref l) (.ref a) false := by
  obtain ⟨es, ep, dd, sl, ho⟩ := hd
  obtain ⟨⟨cls, dd2, data, sl2⟩, ho2, hc, n, hdt⟩ := id hl
  simp only at hc hdt
  subst hc hdt
  have ne : a ≠ l := fun z => by
    rw [z, ho2] at ho
    exact absurd (congrArg Obj.cls (Option.some.inj ho)) (by simp)
  refine ⟨ne, fun E Q h => ?_, fun E Q h => ?_⟩
  · exact rc_eq_decline_or (k := false) ⟨_, ho, rfl⟩ ⟨_, ho2, rfl⟩ (by decide) F.sub_list_dict F.slot_dict_eq F.slot_list_eq_refl
      (fun _ hq => call_meets F.slot_dict_eq ⟨_, ho, rfl⟩ F.entry_dict_eq (F.args_dict_eq_2 _ _) (dict_declines_list a l es ep n xs dd dd2 sl sl2) ⟨ho, ho2, hq⟩)
      (fun _ hq => call_meets F.slot_list_eq_refl ⟨_, ho2, rfl⟩ F.entry_list_eq (F.args_list_eq_2 _ _) (list_declines_dict a l es ep n xs dd dd2 sl sl2) ⟨ho, ho2, hq⟩)
      (fun _ hq => wpAny_isSame_ref_other' ne ho ho2 (by simp) hq) (.inr hu) h
  · exact rc_eq_decline_or (k := false) ⟨_, ho2, rfl⟩ ⟨_, ho, rfl⟩ (by decide) F.sub_dict_list F.slot_list_eq F.slot_dict_eq_refl
      (fun _ hq => call_meets F.slot_list_eq ⟨_, ho2, rfl⟩ F.entry_list_eq (F.args_list_eq_2 _ _) (list_declines_dict a l es ep n xs dd dd2 sl sl2) ⟨ho, ho2, hq⟩)
      (fun _ hq => call_meets F.slot_dict_eq_refl ⟨_, ho, rfl⟩ F.entry_dict_eq (F.args_dict_eq_2 _ _) (dict_declines_list a l es ep n xs dd dd2 sl sl2) ⟨ho, ho2, hq⟩)
      (fun _ hq => wpAny_isSame_ref_other' ne.symm ho2 ho (by simp) hq) (.inr hu) h
theorem rcP_dict_tuple {a l : Addr} {xs : Array Value} (hd : IsDic s.heap a) (hl : s.heap.IsTuple l xs) (hu : A.units < cLine) : a ≠ l ∧ RcP P w A s (.ref a) (.ref l) false ∧ RcP P w A s (.ref l) (.ref a) false := by
  obtain ⟨es, ep, dd, sl, ho⟩ := hd
  obtain ⟨⟨cls, dd2, data, sl2⟩, ho2, hc, n, hdt⟩ := id hl
  simp only at hc hdt
  subst hc hdt
  have ne : a ≠ l := fun z => by
    rw [z, ho2] at ho
    exact absurd (congrArg Obj.cls (Option.some.inj ho)) (by simp)
  refine ⟨ne, fun E Q h => ?_, fun E Q h => ?_⟩
  · exact rc_eq_decline_or (k := false) ⟨_, ho, rfl⟩ ⟨_, ho2, rfl⟩ (by decide) F.sub_tuple_dict F.slot_dict_eq F.slot_tuple_eq_refl
      (fun _ hq => call_meets F.slot_dict_eq ⟨_, ho, rfl⟩ F.entry_dict_eq (F.args_dict_eq_2 _ _) (dict_declines_tuple a l es ep n xs dd dd2 sl sl2) ⟨ho, ho2, hq⟩)
      (fun _ hq => call_meets F.slot_tuple_eq_refl ⟨_, ho2, rfl⟩ F.entry_tuple_eq (F.args_tuple_eq_2 _ _) (tuple_declines_dict a l es ep n xs dd dd2 sl sl2) ⟨ho, ho2, hq⟩)
      (fun _ hq => wpAny_isSame_ref_other ne ho ho2 (by simp) hq) (.inr hu) h
  · exact rc_eq_decline_or (k := false) ⟨_, ho2, rfl⟩ ⟨_, ho, rfl⟩ (by decide) F.sub_dict_tuple F.slot_tuple_eq F.slot_dict_eq_refl
      (fun _ hq => call_meets F.slot_tuple_eq ⟨_, ho2, rfl⟩ F.entry_tuple_eq (F.args_tuple_eq_2 _ _) (tuple_declines_dict a l es ep n xs dd dd2 sl sl2) ⟨ho, ho2, hq⟩)
      (fun _ hq => call_meets F.slot_dict_eq_refl ⟨_, ho, rfl⟩ F.entry_dict_eq (F.args_dict_eq_2 _ _) (dict_declines_tuple a l es ep n xs dd dd2 sl sl2) ⟨ho, ho2, hq⟩)
      (fun _ hq => wpAny_isSame_ref_other' ne.symm ho2 ho (by simp) hq) (.inr hu) h
/-- two values of which one is no object: == within a builtin by their rich comparison -/
theorem RcP.eqP {a b : Value} {k : Bool} (h : RcP P w A s a b k) (ne : (a == b) = false) (nf : ∀ x t y u, a = .float x t → b = .float y u → False) : EqP P w A s a b k := fun E Q hq => by
  unfold eqBool
  refine wpAny_holding (wpAny_ite_split (fun hab => absurd hab (by rw [ne]; decide)) fun _ => ?_)
  split
  · rename_i q1
    injection q1 with q2 q3
    exact (nf _ _ _ _ q2 q3).elim
  · exact wpAny_bind (h E _ (wpAny_truthy_bool hq))
theorem tup_eqIn (l b : Addr) (xs ys : Array Value) (n n2 : Nat) (dd dd2 : Option Addr) (sl sl2 : Array (Option Value)) (e : Nat → Bool) :
    MeetsIn P w (Builtin.«tuple.__eq__» ⟨[.ref l, .ref b], []⟩)
      (fun A R s => s.heap.get? l = some { cls := .type "tuple", dict := dd, data := .seq xs n, slots := sl } ∧ s.heap.get? b = some { cls := .type "tuple", dict := dd2, data := .seq ys n2, slots := sl2 } ∧
        (∀ j (h1 : j < xs.size) (h2 : j < ys.size), EqP P w A.in1 s xs[j] ys[j] (e j)) ∧ R (.ok (.ret (.bool ((List.range (min xs.size ys.size)).all e && xs.size == ys.size)))) s) := by
  intro A R s h
  obtain ⟨hp, gn, dr, tk, os⟩ := s
  obtain ⟨hl, hb, he, h⟩ := h
  have f2 := AutoSeq1.sub_tuple_tuple
  have hZ : (xs.toList.zip ys.toList).length = min xs.size ys.size := by simp
  wp_walk using wpAny_loadPart' hl, wpAny_loadPart' hb, wpAny_forIn_list _ (fun more b s' => b.1 = none ∧ s' = ⟨hp, gn, dr, tk, os⟩ ∧ ∃ i, more = (xs.toList.zip ys.toList).drop i ∧
    R (.ok (.ret (.bool (((List.range (min xs.size ys.size)).drop i).all e && xs.size == ys.size)))) ⟨hp, gn, dr, tk, os⟩) _
  case turn =>
    rintro ⟨y, x⟩ more b s' ⟨hb', rfl, i, hz, hR⟩
    have hlt : i < (xs.toList.zip ys.toList).length := Nat.lt_of_not_le fun q => by rw [List.drop_of_length_le q] at hz; cases hz
    have hm : i < min xs.size ys.size := hZ ▸ hlt
    have h1 : i < xs.size := by omega
    have h2 : i < ys.size := by omega
    rw [List.drop_eq_getElem_cons hlt] at hz
    injection hz with hyx hrest
    have hy : y = xs[i] := by simpa using congrArg Prod.fst hyx
    have hx : x = ys[i] := by simpa using congrArg Prod.snd hyx
    subst hy hx
    have hd : (List.range (min xs.size ys.size)).drop i = i :: (List.range (min xs.size ys.size)).drop (i + 1) := by simp [List.drop_eq_getElem_cons, hm]
    rw [hd, List.all_cons] at hR
    refine wpAny_bind (he i h1 h2 _ _ ?_)
    cases q : e i with
    | true => rw [q] at hR; wp_walk; exact ⟨rfl, rfl, i + 1, hrest, by simpa using hR⟩
    | false => rw [q] at hR; wp_walk; simpa using hR
  case fin =>
    rintro ⟨b1, b2⟩ s' ⟨hb', rfl, i, hz, hR⟩
    simp only at hb'
    subst hb'
    have hge : min xs.size ys.size ≤ i := Nat.le_of_not_lt fun q => by rw [List.drop_eq_getElem_cons (hZ ▸ q)] at hz; cases hz
    rw [List.drop_of_length_le (by simpa using hge)] at hR
    wp_walk
    simpa [Builtin.Tuple.tupleCompareSizes] using hR
  case h => exact ⟨rfl, rfl, 0, rfl, by simpa using h⟩
theorem rcP_tuples {l b : Addr} {xs ys : Array Value} {e : Nat → Bool} (hl : s.heap.IsTuple l xs) (hb : s.heap.IsTuple b ys) (hu : A.units < cLine)
    (he : ∀ j (h1 : j < xs.size) (h2 : j < ys.size), EqP P w A.in1 s xs[j] ys[j] (e j)) : RcP P w A s (.ref l) (.ref b) ((List.range (min xs.size ys.size)).all e && xs.size == ys.size) := fun E Q h => by
  obtain ⟨⟨cls, dd, data, sl⟩, ho, hc, n, hd⟩ := id hl
  obtain ⟨⟨cls2, dd2, data2, sl2⟩, ho2, hc2, n2, hd2⟩ := id hb
  simp only at hc hd hc2 hd2
  subst hc hd hc2 hd2
  exact wpAny_richCompare_same_room (op := .Eq) ⟨_, ho, rfl⟩ ⟨_, ho2, rfl⟩ F.slot_tuple_eq (call_meetsIn F.slot_tuple_eq ⟨_, ho, rfl⟩ F.entry_tuple_eq (F.args_tuple_eq_2 _ _) (tup_eqIn l b xs ys n n2 dd dd2 sl sl2 e)
    ⟨ho, ho2, he, ⟨(fun x => nomatch x), h⟩⟩) hu
end
end PySem.SeqAt


/-! ELG: == and != of plain data as rules. -/
namespace DL
open PySem L2 PySem.Spec PyProof.Rows PySem.SeqAt
def valD (kvs : List (Key × D)) (k : Key) : Option D := (kvs.find? fun kv => decide (kv.1 = k)).map (·.2)
mutual
def eqD : D → D → Bool
  | .non, .non => true
  | .bl a, .bl b => a == b
  | .bl a, .int j => (if a then 1 else 0) == j
  | .int i, .bl b => i == (if b then 1 else 0)
  | .int i, .int j => i == j
  | .str x, .str y => x == y
  | .lst xs, .lst ys => eqL xs ys
  | .tup xs, .tup ys => eqL xs ys
  | .dct xs, .dct ys => xs.length == ys.length && eqK xs ys
  | _, _ => false
def eqL : List D → List D → Bool
  | [], [] => true
  | x :: xs, y :: ys => eqD x y && eqL xs ys
  | _, _ => false
def eqK : List (Key × D) → List (Key × D) → Bool
  | [], _ => true
  | (k, d) :: r, ys => (match valD ys k with
    | some e => eqD d e
    | none => false) && eqK r ys
end
mutual
/-- plain data, nested at most n deep -/
def plain : D → Nat → Bool
  | .non, _ => true
  | .bl _, _ => true
  | .int _, _ => true
  | .str _, _ => true
  | .lst xs, n + 1 => plainL xs n
  | .tup xs, n + 1 => plainL xs n
  | .dct xs, n + 1 => plainK xs n && decide ((xs.map (·.1)).Nodup)
  | _, _ => false
def plainL : List D → Nat → Bool
  | [], _ => true
  | x :: xs, n => plain x n && plainL xs n
def plainK : List (Key × D) → Nat → Bool
  | [], _ => true
  | (_, x) :: xs, n => plain x n && plainK xs n
end
section
variable {X : Cx} {pins : List (Addr × Obj)} {σ : L2.St} {G H : Hp} {s : Shared} {p0 : Addr}
theorem dic_of (I : Inv X pins σ H s) (le : Le G H) {a : Addr} {vs : List (Key × V)} (h : Rd G a (.dK vs)) : (a == sysModules) = false ∧ (∃ us, KV vs us ∧ s.heap.DictOf (mixKind X.prog X.w) a us) ∧ IsDic s.heap a := by
  obtain ⟨_, y, us, r, d⟩ := (le_rd le h).ok I.hok
  refine ⟨y, ⟨us, r, d⟩, ?_⟩
  obtain ⟨o, es, ep, ho, ex, hd, _⟩ := d
  obtain ⟨oc, od, dt, sl⟩ := o
  simp only at hd
  have hc : oc = .type "dict" := ex.1
  subst hc hd
  exact ⟨es, ep, od, sl, ho⟩
theorem kind_ls (I : Inv X pins σ H s) {a : Addr} {xs ys : List V} (h1 : SqL X.K H a xs) (h2 : SqT X.K H a ys) : False := by
  obtain ⟨us, _, p1, _⟩ := I.list h1
  obtain ⟨ws, _, p2, _⟩ := I.tuple h2
  exact ne_of_list_tuple p1.isList p2 rfl
theorem kind_ld (I : Inv X pins σ H s) {a : Addr} {xs : List V} (h1 : SqL X.K H a xs) (h2 : IsDic s.heap a) : False := by
  obtain ⟨us, _, p1, _⟩ := I.list h1
  obtain ⟨o, n, ho, hc, _⟩ := p1
  obtain ⟨es, ep, dd, sl, h⟩ := h2
  rw [h] at ho; cases ho
  exact absurd hc (by simp)
theorem kind_td (I : Inv X pins σ H s) {a : Addr} {xs : List V} (h1 : SqT X.K H a xs) (h2 : IsDic s.heap a) : False := by
  obtain ⟨us, _, p1, _⟩ := I.tuple h1
  obtain ⟨o, ho, hc, _⟩ := p1
  obtain ⟨es, ep, dd, sl, h⟩ := h2
  rw [h] at ho; cases ho
  exact absurd hc (by simp)
theorem rd_inj {a : Addr} {u v : HO} (h1 : Rd H a u) (h2 : Rd H a v) (nu : ∀ o z, u ≠ .frz o z) (nv : ∀ o z, v ≠ .frz o z) : u = v := by
  rcases h1 with h1 | ⟨o, h1⟩ <;> rcases h2 with h2 | ⟨o2, h2⟩ <;> rw [h1] at h2 <;> cases h2
  · rfl
  · exact (nu _ _ rfl).elim
  · exact (nv _ _ rfl).elim
  · rfl
mutual
theorem Rep.inj (I : Inv X pins σ H s) (le : Le G H) : ∀ (n : Nat) (a b : D) (x : V), plain a n = true → plain b n = true → Rep X.K p0 G x a → Rep X.K p0 G x b → a = b
  | n, _, b, _, pa, pb, .non, h => by cases h; rfl
  | n, _, b, _, pa, pb, .bl _, h => by cases h; rfl
  | n, _, b, _, pa, pb, .int _, h => by cases h; rfl
  | n, _, b, _, pa, pb, .str _, h => by cases h; rfl
  | n, _, b, _, pa, pb, .ref _, h => by cases n <;> simp [plain] at pa
  | n, _, b, _, pa, pb, .ty _, h => by cases n <;> simp [plain] at pa
  | n, _, b, _, pa, pb, .pen, h => by cases n <;> simp [plain] at pa
  | n, _, b, _, pa, pb, .ins _ _, h => by cases n <;> simp [plain] at pa
  | 0, _, b, _, pa, pb, .lst _ _, h => by simp [plain] at pa
  | 0, _, b, _, pa, pb, .tup _ _, h => by simp [plain] at pa
  | 0, _, b, _, pa, pb, .dct _ _, h => by simp [plain] at pa
  | n + 1, _, b, _, pa, pb, .lst h1 r1, h => by
    cases h with
    | lst h2 r2 =>
      have e := I.list_inj (le_l le (.inl h1)) (le_l le (.inl h2))
      subst e
      rw [RepL.inj I le n _ _ _ (by simpa [plain] using pa) (by simpa [plain] using pb) r1 r2]
    | tup h2 r2 => exact (kind_ls I (le_l le (.inl h1)) (le_t le h2)).elim
    | dct h2 r2 => exact (kind_ld I (le_l le (.inl h1)) (dic_of I le h2).2.2).elim
    | _ => simp [plain] at pb
  | n + 1, _, b, _, pa, pb, .tup h1 r1, h => by
    cases h with
    | tup h2 r2 =>
      have e := I.tuple_inj (le_t le h1) (le_t le h2)
      subst e
      rw [RepL.inj I le n _ _ _ (by simpa [plain] using pa) (by simpa [plain] using pb) r1 r2]
    | lst h2 r2 => exact (kind_ls I (le_l le (.inl h2)) (le_t le h1)).elim
    | dct h2 r2 => exact (kind_td I (le_t le h1) (dic_of I le h2).2.2).elim
    | _ => simp [plain] at pb
  | n + 1, _, b, _, pa, pb, .dct h1 r1, h => by
    cases h with
    | dct h2 r2 =>
      have e := rd_inj h1 h2 (fun _ _ q => by cases q) (fun _ _ q => by cases q)
      cases e
      rw [RepK.inj I le n _ _ _ (by simp only [plain, Bool.and_eq_true] at pa; exact pa.1) (by simp only [plain, Bool.and_eq_true] at pb; exact pb.1) r1 r2]
    | lst h2 r2 => exact (kind_ld I (le_l le (.inl h2)) (dic_of I le h1).2.2).elim
    | tup h2 r2 => exact (kind_td I (le_t le h2) (dic_of I le h1).2.2).elim
    | _ => simp [plain] at pb
theorem RepL.inj (I : Inv X pins σ H s) (le : Le G H) : ∀ (n : Nat) (a b : List D) (x : List V), plainL a n = true → plainL b n = true → RepL X.K p0 G x a → RepL X.K p0 G x b → a = b
  | n, _, _, _, pa, pb, .nil, h => by cases h; rfl
  | n, _, _, _, pa, pb, .cons h1 r1, h => by
    cases h with
    | cons h2 r2 =>
      simp only [plainL, Bool.and_eq_true] at pa pb
      rw [Rep.inj I le n _ _ _ pa.1 pb.1 h1 h2, RepL.inj I le n _ _ _ pa.2 pb.2 r1 r2]
theorem RepK.inj (I : Inv X pins σ H s) (le : Le G H) : ∀ (n : Nat) (a b : List (Key × D)) (x : List (Key × V)), plainK a n = true → plainK b n = true → RepK X.K p0 G x a → RepK X.K p0 G x b → a = b
  | n, _, _, _, pa, pb, .nil, h => by cases h; rfl
  | n, _, _, _, pa, pb, .cons h1 r1, h => by
    cases h with
    | cons h2 r2 =>
      simp only [plainK, Bool.and_eq_true] at pa pb
      rw [Rep.inj I le n _ _ _ pa.1 pb.1 h1 h2, RepK.inj I le n _ _ _ pa.2 pb.2 r1 r2]
end
theorem valD_mem : ∀ {xs : List (Key × D)} {k : Key} {d : D}, (xs.map (·.1)).Nodup → (k, d) ∈ xs → valD xs k = some d
  | (k', d') :: r, k, d, nd, h => by
    unfold valD
    rw [List.find?_cons]
    simp only [List.map_cons, List.nodup_cons] at nd
    rcases List.mem_cons.mp h with e | h
    · cases e; simp
    · have ne : k' ≠ k := fun e => nd.1 (e ▸ List.mem_map.mpr ⟨(k, d), h, rfl⟩)
      rw [decide_eq_false ne]
      exact valD_mem nd.2 h
mutual
theorem eqD_refl : ∀ (n : Nat) (a : D), plain a n = true → eqD a a = true
  | n, .non, _ => by simp [eqD]
  | n, .bl _, _ => by simp [eqD]
  | n, .int _, _ => by simp [eqD]
  | n, .str _, _ => by simp [eqD]
  | n + 1, .lst xs, h => by simp only [eqD]; exact eqL_refl n xs (by simpa [plain] using h)
  | n + 1, .tup xs, h => by simp only [eqD]; exact eqL_refl n xs (by simpa [plain] using h)
  | n + 1, .dct xs, h => by
    simp only [plain, Bool.and_eq_true, decide_eq_true_eq] at h
    simp only [eqD, beq_self_eq_true, Bool.true_and]
    exact eqK_refl n xs xs h.1 h.2 (fun _ h => h)
  | 0, .lst _, h => by simp [plain] at h
  | 0, .tup _, h => by simp [plain] at h
  | 0, .dct _, h => by simp [plain] at h
  | n, .ins _ _, h => by cases n <;> simp [plain] at h
  | n, .ref _, h => by cases n <;> simp [plain] at h
  | n, .ty _, h => by cases n <;> simp [plain] at h
  | n, .pen, h => by cases n <;> simp [plain] at h
theorem eqL_refl : ∀ (n : Nat) (a : List D), plainL a n = true → eqL a a = true
  | n, [], _ => by simp [eqL]
  | n, x :: xs, h => by
    simp only [plainL, Bool.and_eq_true] at h
    simp only [eqL, eqD_refl n x h.1, eqL_refl n xs h.2, Bool.and_self]
theorem eqK_refl : ∀ (n : Nat) (a ys : List (Key × D)), plainK a n = true → (ys.map (·.1)).Nodup → (∀ p ∈ a, p ∈ ys) → eqK a ys = true
  | n, [], _, _, _, _ => by simp [eqK]
  | n, (k, x) :: xs, ys, h, nd, hm => by
    simp only [plainK, Bool.and_eq_true] at h
    have e := valD_mem nd (hm _ List.mem_cons_self)
    simp only [eqK, e, eqD_refl n x h.1, eqK_refl n xs ys h.2 nd (fun p hp => hm p (List.mem_cons_of_mem _ hp)), Bool.and_self]
end
theorem eqL_len : ∀ {xs ys : List D}, eqL xs ys = true → xs.length = ys.length
  | [], [], _ => rfl
  | x :: xs, y :: ys, h => by
    simp only [eqL, Bool.and_eq_true] at h
    simp [eqL_len h.2]
/-- the item-wise answers -/
def eAt (xs ys : List D) (j : Nat) : Bool := match xs[j]?, ys[j]? with
  | some x, some y => eqD x y
  | _, _ => true
theorem eAt_succ (x y : D) (xs ys : List D) : (fun j => eAt (x :: xs) (y :: ys) (j + 1)) = eAt xs ys := by
  funext j; simp [eAt]
theorem all_shift (n : Nat) (f : Nat → Bool) : (List.range (n + 1)).all f = (f 0 && (List.range n).all fun j => f (j + 1)) := by
  rw [List.range_succ_eq_map, List.all_cons, List.all_map]
  rfl
theorem eqL_all : ∀ (xs ys : List D), eqL xs ys = ((List.range (min xs.length ys.length)).all (eAt xs ys) && xs.length == ys.length)
  | [], [] => by simp [eqL]
  | [], y :: ys => by simp [eqL]
  | x :: xs, [] => by simp [eqL]
  | x :: xs, y :: ys => by
    have ih := eqL_all xs ys
    have e1 : min (x :: xs).length (y :: ys).length = min xs.length ys.length + 1 := by simp only [List.length_cons]; omega
    rw [e1, all_shift, eAt_succ]
    have e2 : eAt (x :: xs) (y :: ys) 0 = eqD x y := by simp [eAt]
    have e3 : ((x :: xs).length == (y :: ys).length) = (xs.length == ys.length) := by
      simp only [List.length_cons]
      by_cases q : xs.length = ys.length
      · rw [q]; simp
      · have q2 : ¬ (xs.length + 1 = ys.length + 1) := by omega
        rw [beq_eq_false_iff_ne.mpr q, beq_eq_false_iff_ne.mpr q2]
    rw [e2, e3, eqL, ih]
    simp only [Bool.and_assoc]
theorem RepK.val {k : Key} : ∀ {vs : List (Key × V)} {ds : List (Key × D)} {K : PySem.W.Frag}, RepK K p0 G vs ds → (valD ds k = none → valV vs k = none) ∧ (∀ d, valD ds k = some d → ∃ v, valV vs k = some v ∧ Rep K p0 G v d)
  | _, _, _, .nil => ⟨fun _ => rfl, fun d h => by simp [valD] at h⟩
  | _, _, _, .cons (k := k') (v := v) (d := d) a r => by
    have ih := RepK.val (k := k) r
    unfold valD valV at ih ⊢
    rw [List.find?_cons, List.find?_cons]
    by_cases e : k' = k
    · simp only [e, decide_true]
      exact ⟨fun h => by simp at h, fun x h => by simp at h; subst h; exact ⟨v, rfl, a⟩⟩
    · simp only [decide_eq_false e]
      exact ih
end
end DL

/-! ELH: == of plain data: the theorem. -/
namespace DL
open PySem L2 PySem.Spec PyProof.Rows PySem.SeqAt
section
variable {X : Cx} {pins : List (Addr × Obj)} {σ : L2.St} {G H : Hp} {s : Shared} {p0 : Addr}
theorem repK_len : ∀ {vs : List (Key × V)} {ds : List (Key × D)} {K : PySem.W.Frag}, RepK K p0 G vs ds → vs.length = ds.length
  | _, _, _, .nil => rfl
  | _, _, _, .cons _ r => congrArg Nat.succ (repK_len r)
abbrev EqGoal (X : Cx) (p0 : Addr) (G : Hp) (s : Shared) (n : Nat) : Prop := ∀ (A : Around), A.units + n < cLine → ∀ (x y : V) (v u : Value) (a b : D), plain a n = true → plain b n = true → Rep X.K p0 G x a → Rep X.K p0 G y b → RelV x v → RelV y u →
    RcP X.prog X.w A s v u (eqD a b) ∧ EqP X.prog X.w A s v u (eqD a b)
theorem dRc {P : Program} {w : World} {A : Around} {v u : Value} {k : Bool} (h : RcAt A s v u k) : RcP P w A s v u k := fun E Q q => h P w E Q q
theorem refs_eq {P : Program} {w : World} {A : Around} {p q : Addr} {k : Bool} (h : RcP P w A s (.ref p) (.ref q) k) (hs : p = q → k = true) : EqP P w A s (.ref p) (.ref q) k := by
  by_cases e : p = q
  · rw [hs e]; subst e; exact (EqAt.same _).eqP
  · exact eqP_refs e h
theorem items_eq {n : Nat} {A : Around} (ih : EqGoal X p0 G s n) (hu : A.units + n < cLine) : ∀ {xs ys : List V} {as bs : List D} {us ws : List Value}, plainL as n = true → plainL bs n = true → RepL X.K p0 G xs as → RepL X.K p0 G ys bs → Vals xs us → Vals ys ws →
    ∀ j (h1 : j < us.length) (h2 : j < ws.length), EqP X.prog X.w A s us[j] ws[j] (eAt as bs j)
  | _, _, _, _, _, _, pa, pb, .cons h1 r1, .cons h2 r2, .cons v1 t1, .cons v2 t2, 0, _, _ => by
    simp only [plainL, Bool.and_eq_true] at pa pb
    exact (ih A hu _ _ _ _ _ _ pa.1 pb.1 h1 h2 v1 v2).2
  | _, _, _, _, _, _, pa, pb, .cons h1 r1, .cons h2 r2, .cons v1 t1, .cons v2 t2, j + 1, q1, q2 => by
    simp only [plainL, Bool.and_eq_true] at pa pb
    have e := items_eq ih hu pa.2 pb.2 r1 r2 t1 t2 j (Nat.lt_of_succ_lt_succ q1) (Nat.lt_of_succ_lt_succ q2)
    simpa [eAt] using e
  | _, _, _, _, _, _, _, _, .nil, _, .nil, _, j, q1, _ => by simp at q1
  | _, _, _, _, _, _, _, _, _, .nil, _, .nil, j, _, q2 => by simp at q2
theorem hits_eq {n : Nat} {A : Around} (ih : EqGoal X p0 G s n) (hu : A.units + n < cLine) {ys : List (Key × V)} {bs : List (Key × D)} {ws : List (Key × Value)} (pb : plainK bs n = true) (rb : RepK X.K p0 G ys bs) (tb : KV ys ws) :
    ∀ (as : List (Key × D)) {xs : List (Key × V)} {us : List (Key × Value)}, plainK as n = true → RepK X.K p0 G xs as → KV xs us → PySem.W.KeqHitsP X.prog X.w A s ws us (eqK as bs)
  | [], _, _, pa, r, t => by cases r; cases t; simp only [eqK]; exact .nil
  | (k, d) :: as, _, _, pa, r, t => by
    cases r with
    | cons h r =>
     cases t with
     | cons e t =>
      rename_i q us
      obtain ⟨k', v⟩ := q
      obtain ⟨e1, e2⟩ := e
      have e1 : k = k' := e1
      subst e1
      simp only [plainK, Bool.and_eq_true] at pa
      have ihr := hits_eq ih hu pb rb tb as pa.2 r t
      obtain ⟨m1, m2⟩ := RepK.val (k := k) rb
      have rv := tb.val k
      simp only [eqK]
      cases hv : valD bs k with
      | none =>
        rw [m1 hv] at rv
        simp only [Bool.false_and]
        exact .miss (RelO.none_of rv)
      | some y =>
        obtain ⟨yv, g1, g2⟩ := m2 y hv
        rw [g1] at rv
        obtain ⟨yu, g3, g4⟩ := rv.some_of
        have py : plain y n = true := by
          unfold valD at hv
          obtain ⟨pr, h1, h2⟩ := Option.map_eq_some_iff.mp hv
          have hm := List.mem_of_find?_eq_some h1
          have : ∀ (l : List (Key × D)), plainK l n = true → ∀ p ∈ l, plain p.2 n = true := by
            intro l
            induction l with
            | nil => intro _ p hp; cases hp
            | cons z l il =>
              intro hz p hp
              obtain ⟨zk, zd⟩ := z
              simp only [plainK, Bool.and_eq_true] at hz
              rcases List.mem_cons.mp hp with rfl | hp
              · exact hz.1
              · exact il hz.2 p hp
          rw [← h2]; exact this bs pb pr hm
        exact .hit g3 (ih A hu _ _ _ _ _ _ pa.1 py h g2 e2 g4).2 ihr
theorem lst_rc {m : Nat} {A : Around} (ih : EqGoal X p0 G s m) (hu0 : A.units < cLine) (in1 : A.in1.units + m < cLine) {p q : Addr} {xs ys : List V} {as bs : List D} {us1 us2 : List Value} (pa : plainL as m = true) (pb : plainL bs m = true) (r1 : RepL X.K p0 G xs as) (r2 : RepL X.K p0 G ys bs)
    (v1 : Vals xs us1) (v2 : Vals ys us2) (p1 : s.heap.IsList p us1.toArray) (p2 : s.heap.IsList q us2.toArray) : RcP X.prog X.w A s (.ref p) (.ref q) (eqD (.lst as) (.lst bs)) := by
  simp only [eqD]
  have l1 := v1.length; have l2 := v2.length; have l3 := r1.len; have l4 := r2.len
  by_cases hz : us1.length = us2.length
  · intro E Q q
    refine rcP_lists (e := eAt as bs) p1 p2 (by simpa using hz) hu0 (fun j q1 q2 => ?_) E Q ?_
    · have e := items_eq ih in1 pa pb r1 r2 v1 v2 j (by simpa using q1) (by simpa using q2)
      simpa using e
    · rw [eqL_all] at q
      have e1 : us1.toArray.size = min as.length bs.length := by
        rw [List.size_toArray, ← l1, l3]
        omega
      have e2 : (as.length == bs.length) = true := by simp; omega
      rw [e2, Bool.and_true] at q
      rw [e1]
      exact q
  · have f : eqL as bs = false := Bool.eq_false_iff.mpr fun z => hz (by have := eqL_len z; omega)
    rw [f]
    exact dRc (RcAt.lists_lengths p1 p2 (by simpa using hz) hu0)
theorem tup_rc {m : Nat} {A : Around} (ih : EqGoal X p0 G s m) (hu0 : A.units < cLine) (in1 : A.in1.units + m < cLine) {p q : Addr} {xs ys : List V} {as bs : List D} {us1 us2 : List Value} (pa : plainL as m = true) (pb : plainL bs m = true) (r1 : RepL X.K p0 G xs as) (r2 : RepL X.K p0 G ys bs)
    (v1 : Vals xs us1) (v2 : Vals ys us2) (p1 : s.heap.IsTuple p us1.toArray) (p2 : s.heap.IsTuple q us2.toArray) : RcP X.prog X.w A s (.ref p) (.ref q) (eqD (.tup as) (.tup bs)) := by
  simp only [eqD]
  have l1 := v1.length; have l2 := v2.length; have l3 := r1.len; have l4 := r2.len
  have q := rcP_tuples (P := X.prog) (w := X.w) (e := eAt as bs) p1 p2 hu0 fun j q1 q2 => (by
    have e := items_eq ih in1 pa pb r1 r2 v1 v2 j (by simpa using q1) (by simpa using q2)
    simpa using e)
  rw [eqL_all]
  rw [List.size_toArray, List.size_toArray, ← l1, ← l2, l3, l4] at q
  exact q
theorem dct_rc {m : Nat} {A : Around} (ih : EqGoal X p0 G s m) (hu0 : A.units < cLine) (in1 : A.in1.units + m < cLine) {p q : Addr} {xs ys : List (Key × V)} {as bs : List (Key × D)} {us1 us2 : List (Key × Value)} (pa : plainK as m = true) (pb : plainK bs m = true) (r1 : RepK X.K p0 G xs as) (r2 : RepK X.K p0 G ys bs)
    (v1 : KV xs us1) (v2 : KV ys us2) (y1 : (p == sysModules) = false) (y2 : (q == sysModules) = false) (d1 : s.heap.DictOf (mixKind X.prog X.w) p us1) (d2 : s.heap.DictOf (mixKind X.prog X.w) q us2) : RcP X.prog X.w A s (.ref p) (.ref q) (eqD (.dct as) (.dct bs)) := by
  simp only [eqD]
  intro E Q q
  have l1 := v1.length; have l2 := v2.length; have l3 := repK_len r1; have l4 := repK_len r2
  refine PySem.W.rcP_dicts (r := eqK as bs) y1 y2 d1 d2 hu0 (fun _ => hits_eq ih in1 pb r2 v2 as pa r1 v1) E Q ?_
  rw [← l1, ← l2, l3, l4]
  exact q
theorem eq_step (I : Inv X pins σ H s) (le : Le G H) (n : Nat) (ih : ∀ m, n = m + 1 → EqGoal X p0 G s m) : EqGoal X p0 G s n := by
  intro A hu x y v u a b pa pb ra rb rv ru
  have hu0 : A.units < cLine := by omega
  have in1 : ∀ m, n = m + 1 → A.in1.units + m < cLine := fun m e => by show A.units + 1 + m < cLine; omega
  have inj : ∀ {p : Addr}, Rep X.K p0 G (.ref p) a → Rep X.K p0 G (.ref p) b → eqD a b = true := fun {p} h1 h2 => by
    rw [Rep.inj I le n a b (.ref p) pa pb h1 h2]; exact eqD_refl n b pb
  cases ra with
  | non =>
    cases (show v = Value.none from rv)
    cases rb with
    | non =>
      cases (show u = Value.none from ru)
      exact ⟨dRc RcAt.none_none, (EqAt.same _).eqP⟩
    | bl b2 =>
      cases (show u = Value.bool _ from ru)
      exact ⟨dRc (RcAt.none_bool b2), (EqAt.none_bool b2).eqP⟩
    | int i2 =>
      obtain ⟨tu, rfl⟩ := (show ∃ t, u = Value.int _ t from ru)
      exact ⟨dRc (RcAt.none_int i2 tu), (EqAt.none_int i2 tu).eqP⟩
    | str s2 =>
      obtain ⟨tu, rfl⟩ := (show ∃ t, u = Value.str _ t from ru)
      exact ⟨dRc (RcAt.none_str s2 tu), (EqAt.none_str s2 tu).eqP⟩
    | lst h2 r2 =>
      cases (show u = Value.ref _ from ru)
      obtain ⟨us2, v2, p2, _⟩ := I.list (le_l le (.inl h2))
      exact ⟨dRc (RcAt.none_list p2.isList hu0), (EqAt.none_list p2.isList hu0).eqP⟩
    | tup h2 r2 =>
      cases (show u = Value.ref _ from ru)
      obtain ⟨us2, v2, p2, _⟩ := I.tuple (le_t le h2)
      exact ⟨dRc (RcAt.none_tuple p2 hu0), (EqAt.none_tuple p2 hu0).eqP⟩
    | dct h2 r2 =>
      cases (show u = Value.ref _ from ru)
      obtain ⟨y2, ⟨us2, v2, d2⟩, p2⟩ := dic_of I le h2
      exact ⟨rcP_none_dict p2 hu0, (rcP_none_dict p2 hu0).eqP (beq_eq_false_iff_ne.mpr fun z => by cases z) (fun _ _ _ _ z => by cases z)⟩
    | ref _ => cases n <;> simp [plain] at pb
    | ty _ => cases n <;> simp [plain] at pb
    | pen => cases n <;> simp [plain] at pb
    | ins _ _ => cases n <;> simp [plain] at pb
    | obj _ => cases n <;> simp [plain] at pb
    | exc0 _ => cases n <;> simp [plain] at pb
    | exc _ _ _ => cases n <;> simp [plain] at pb
  | bl b1 =>
    cases (show v = Value.bool _ from rv)
    cases rb with
    | non =>
      cases (show u = Value.none from ru)
      exact ⟨dRc (RcAt.bool_none b1), (EqAt.bool_none b1).eqP⟩
    | bl b2 =>
      cases (show u = Value.bool _ from ru)
      exact ⟨dRc (RcAt.bool_bool b1 b2), (EqAt.bool_bool b1 b2).eqP⟩
    | int i2 =>
      obtain ⟨tu, rfl⟩ := (show ∃ t, u = Value.int _ t from ru)
      exact ⟨dRc (RcAt.bool_int b1 i2 tu), (EqAt.bool_int b1 i2 tu).eqP⟩
    | str s2 =>
      obtain ⟨tu, rfl⟩ := (show ∃ t, u = Value.str _ t from ru)
      exact ⟨dRc (RcAt.bool_str b1 s2 tu), (EqAt.bool_str b1 s2 tu).eqP⟩
    | lst h2 r2 =>
      cases (show u = Value.ref _ from ru)
      obtain ⟨us2, v2, p2, _⟩ := I.list (le_l le (.inl h2))
      exact ⟨dRc (RcAt.bool_list b1 p2.isList hu0), (EqAt.bool_list b1 p2.isList hu0).eqP⟩
    | tup h2 r2 =>
      cases (show u = Value.ref _ from ru)
      obtain ⟨us2, v2, p2, _⟩ := I.tuple (le_t le h2)
      exact ⟨dRc (RcAt.bool_tuple b1 p2 hu0), (EqAt.bool_tuple b1 p2 hu0).eqP⟩
    | dct h2 r2 =>
      cases (show u = Value.ref _ from ru)
      obtain ⟨y2, ⟨us2, v2, d2⟩, p2⟩ := dic_of I le h2
      exact ⟨rcP_bool_dict b1 p2 hu0, (rcP_bool_dict b1 p2 hu0).eqP (beq_eq_false_iff_ne.mpr fun z => by cases z) (fun _ _ _ _ z => by cases z)⟩
    | ref _ => cases n <;> simp [plain] at pb
    | ty _ => cases n <;> simp [plain] at pb
    | pen => cases n <;> simp [plain] at pb
    | ins _ _ => cases n <;> simp [plain] at pb
    | obj _ => cases n <;> simp [plain] at pb
    | exc0 _ => cases n <;> simp [plain] at pb
    | exc _ _ _ => cases n <;> simp [plain] at pb
  | int i1 =>
    obtain ⟨tv, rfl⟩ := (show ∃ t, v = Value.int _ t from rv)
    cases rb with
    | non =>
      cases (show u = Value.none from ru)
      exact ⟨dRc (RcAt.int_none i1 tv), (EqAt.int_none i1 tv).eqP⟩
    | bl b2 =>
      cases (show u = Value.bool _ from ru)
      exact ⟨dRc (RcAt.int_bool i1 tv b2), (EqAt.int_bool i1 tv b2).eqP⟩
    | int i2 =>
      obtain ⟨tu, rfl⟩ := (show ∃ t, u = Value.int _ t from ru)
      exact ⟨dRc (RcAt.int_int i1 tv i2 tu), (EqAt.int_int i1 tv i2 tu).eqP⟩
    | str s2 =>
      obtain ⟨tu, rfl⟩ := (show ∃ t, u = Value.str _ t from ru)
      exact ⟨dRc (RcAt.int_str i1 tv s2 tu), (EqAt.int_str i1 tv s2 tu).eqP⟩
    | lst h2 r2 =>
      cases (show u = Value.ref _ from ru)
      obtain ⟨us2, v2, p2, _⟩ := I.list (le_l le (.inl h2))
      exact ⟨dRc (RcAt.int_list i1 tv p2.isList hu0), (EqAt.int_list i1 tv p2.isList hu0).eqP⟩
    | tup h2 r2 =>
      cases (show u = Value.ref _ from ru)
      obtain ⟨us2, v2, p2, _⟩ := I.tuple (le_t le h2)
      exact ⟨dRc (RcAt.int_tuple i1 tv p2 hu0), (EqAt.int_tuple i1 tv p2 hu0).eqP⟩
    | dct h2 r2 =>
      cases (show u = Value.ref _ from ru)
      obtain ⟨y2, ⟨us2, v2, d2⟩, p2⟩ := dic_of I le h2
      exact ⟨rcP_int_dict i1 tv p2 hu0, (rcP_int_dict i1 tv p2 hu0).eqP (beq_eq_false_iff_ne.mpr fun z => by cases z) (fun _ _ _ _ z => by cases z)⟩
    | ref _ => cases n <;> simp [plain] at pb
    | ty _ => cases n <;> simp [plain] at pb
    | pen => cases n <;> simp [plain] at pb
    | ins _ _ => cases n <;> simp [plain] at pb
    | obj _ => cases n <;> simp [plain] at pb
    | exc0 _ => cases n <;> simp [plain] at pb
    | exc _ _ _ => cases n <;> simp [plain] at pb
  | str s1 =>
    obtain ⟨tv, rfl⟩ := (show ∃ t, v = Value.str _ t from rv)
    cases rb with
    | non =>
      cases (show u = Value.none from ru)
      exact ⟨dRc (RcAt.str_none s1 tv), (EqAt.str_none s1 tv).eqP⟩
    | bl b2 =>
      cases (show u = Value.bool _ from ru)
      exact ⟨dRc (RcAt.str_bool s1 tv b2), (EqAt.str_bool s1 tv b2).eqP⟩
    | int i2 =>
      obtain ⟨tu, rfl⟩ := (show ∃ t, u = Value.int _ t from ru)
      exact ⟨dRc (RcAt.str_int s1 tv i2 tu), (EqAt.str_int s1 tv i2 tu).eqP⟩
    | str s2 =>
      obtain ⟨tu, rfl⟩ := (show ∃ t, u = Value.str _ t from ru)
      exact ⟨dRc (RcAt.str_str s1 tv s2 tu), (EqAt.str_str s1 tv s2 tu).eqP⟩
    | lst h2 r2 =>
      cases (show u = Value.ref _ from ru)
      obtain ⟨us2, v2, p2, _⟩ := I.list (le_l le (.inl h2))
      exact ⟨dRc (RcAt.str_list s1 tv p2.isList hu0), (EqAt.str_list s1 tv p2.isList hu0).eqP⟩
    | tup h2 r2 =>
      cases (show u = Value.ref _ from ru)
      obtain ⟨us2, v2, p2, _⟩ := I.tuple (le_t le h2)
      exact ⟨dRc (RcAt.str_tuple s1 tv p2 hu0), (EqAt.str_tuple s1 tv p2 hu0).eqP⟩
    | dct h2 r2 =>
      cases (show u = Value.ref _ from ru)
      obtain ⟨y2, ⟨us2, v2, d2⟩, p2⟩ := dic_of I le h2
      exact ⟨rcP_str_dict s1 tv p2 hu0, (rcP_str_dict s1 tv p2 hu0).eqP (beq_eq_false_iff_ne.mpr fun z => by cases z) (fun _ _ _ _ z => by cases z)⟩
    | ref _ => cases n <;> simp [plain] at pb
    | ty _ => cases n <;> simp [plain] at pb
    | pen => cases n <;> simp [plain] at pb
    | ins _ _ => cases n <;> simp [plain] at pb
    | obj _ => cases n <;> simp [plain] at pb
    | exc0 _ => cases n <;> simp [plain] at pb
    | exc _ _ _ => cases n <;> simp [plain] at pb
  | lst h1 r1 =>
    cases (show v = Value.ref _ from rv)
    obtain ⟨us1, v1, p1, _⟩ := I.list (le_l le (.inl h1))
    cases rb with
    | non =>
      cases (show u = Value.none from ru)
      exact ⟨dRc (RcAt.list_none p1.isList hu0), (EqAt.list_none p1.isList hu0).eqP⟩
    | bl b2 =>
      cases (show u = Value.bool _ from ru)
      exact ⟨dRc (RcAt.list_bool b2 p1.isList hu0), (EqAt.list_bool b2 p1.isList hu0).eqP⟩
    | int i2 =>
      obtain ⟨tu, rfl⟩ := (show ∃ t, u = Value.int _ t from ru)
      exact ⟨dRc (RcAt.list_int i2 tu p1.isList hu0), (EqAt.list_int i2 tu p1.isList hu0).eqP⟩
    | str s2 =>
      obtain ⟨tu, rfl⟩ := (show ∃ t, u = Value.str _ t from ru)
      exact ⟨dRc (RcAt.list_str s2 tu p1.isList hu0), (EqAt.list_str s2 tu p1.isList hu0).eqP⟩
    | lst h2 r2 =>
      cases (show u = Value.ref _ from ru)
      obtain ⟨us2, v2, p2, _⟩ := I.list (le_l le (.inl h2))
      cases n with
      | zero => simp [plain] at pa
      | succ m =>
        have goal := lst_rc (ih m rfl) hu0 (in1 m rfl) (by simpa [plain] using pa) (by simpa [plain] using pb) r1 r2 v1 v2 p1.isList p2.isList
        exact ⟨goal, refs_eq goal fun z => by subst z; exact inj (.lst h1 r1) (.lst h2 r2)⟩
    | tup h2 r2 =>
      cases (show u = Value.ref _ from ru)
      obtain ⟨us2, v2, p2, _⟩ := I.tuple (le_t le h2)
      exact ⟨dRc (RcAt.list_tuple p1.isList p2 hu0), (EqAt.list_tuple p1.isList p2 hu0).eqP⟩
    | dct h2 r2 =>
      cases (show u = Value.ref _ from ru)
      obtain ⟨y2, ⟨us2, v2, d2⟩, p2⟩ := dic_of I le h2
      obtain ⟨z1, z2, z3⟩ := rcP_dict_list (P := X.prog) (w := X.w) p2 p1.isList hu0
      exact ⟨z3, eqP_refs z1.symm z3⟩
    | ref _ => cases n <;> simp [plain] at pb
    | ty _ => cases n <;> simp [plain] at pb
    | pen => cases n <;> simp [plain] at pb
    | ins _ _ => cases n <;> simp [plain] at pb
    | obj _ => cases n <;> simp [plain] at pb
    | exc0 _ => cases n <;> simp [plain] at pb
    | exc _ _ _ => cases n <;> simp [plain] at pb
  | tup h1 r1 =>
    cases (show v = Value.ref _ from rv)
    obtain ⟨us1, v1, p1, _⟩ := I.tuple (le_t le h1)
    cases rb with
    | non =>
      cases (show u = Value.none from ru)
      exact ⟨dRc (RcAt.tuple_none p1 hu0), (EqAt.tuple_none p1 hu0).eqP⟩
    | bl b2 =>
      cases (show u = Value.bool _ from ru)
      exact ⟨dRc (RcAt.tuple_bool b2 p1 hu0), (EqAt.tuple_bool b2 p1 hu0).eqP⟩
    | int i2 =>
      obtain ⟨tu, rfl⟩ := (show ∃ t, u = Value.int _ t from ru)
      exact ⟨dRc (RcAt.tuple_int i2 tu p1 hu0), (EqAt.tuple_int i2 tu p1 hu0).eqP⟩
    | str s2 =>
      obtain ⟨tu, rfl⟩ := (show ∃ t, u = Value.str _ t from ru)
      exact ⟨dRc (RcAt.tuple_str s2 tu p1 hu0), (EqAt.tuple_str s2 tu p1 hu0).eqP⟩
    | lst h2 r2 =>
      cases (show u = Value.ref _ from ru)
      obtain ⟨us2, v2, p2, _⟩ := I.list (le_l le (.inl h2))
      exact ⟨dRc (RcAt.tuple_list p1 p2.isList hu0), (EqAt.tuple_list p1 p2.isList hu0).eqP⟩
    | tup h2 r2 =>
      cases (show u = Value.ref _ from ru)
      obtain ⟨us2, v2, p2, _⟩ := I.tuple (le_t le h2)
      cases n with
      | zero => simp [plain] at pa
      | succ m =>
        have goal := tup_rc (ih m rfl) hu0 (in1 m rfl) (by simpa [plain] using pa) (by simpa [plain] using pb) r1 r2 v1 v2 p1 p2
        exact ⟨goal, refs_eq goal fun z => by subst z; exact inj (.tup h1 r1) (.tup h2 r2)⟩
    | dct h2 r2 =>
      cases (show u = Value.ref _ from ru)
      obtain ⟨y2, ⟨us2, v2, d2⟩, p2⟩ := dic_of I le h2
      obtain ⟨z1, z2, z3⟩ := rcP_dict_tuple (P := X.prog) (w := X.w) p2 p1 hu0
      exact ⟨z3, eqP_refs z1.symm z3⟩
    | ref _ => cases n <;> simp [plain] at pb
    | ty _ => cases n <;> simp [plain] at pb
    | pen => cases n <;> simp [plain] at pb
    | ins _ _ => cases n <;> simp [plain] at pb
    | obj _ => cases n <;> simp [plain] at pb
    | exc0 _ => cases n <;> simp [plain] at pb
    | exc _ _ _ => cases n <;> simp [plain] at pb
  | dct h1 r1 =>
    cases (show v = Value.ref _ from rv)
    obtain ⟨y1, ⟨us1, v1, d1⟩, p1⟩ := dic_of I le h1
    cases rb with
    | non =>
      cases (show u = Value.none from ru)
      exact ⟨rcP_dict_none p1 hu0, (rcP_dict_none p1 hu0).eqP (beq_eq_false_iff_ne.mpr fun z => by cases z) (fun _ _ _ _ z => by cases z)⟩
    | bl b2 =>
      cases (show u = Value.bool _ from ru)
      exact ⟨rcP_dict_bool b2 p1 hu0, (rcP_dict_bool b2 p1 hu0).eqP (beq_eq_false_iff_ne.mpr fun z => by cases z) (fun _ _ _ _ z => by cases z)⟩
    | int i2 =>
      obtain ⟨tu, rfl⟩ := (show ∃ t, u = Value.int _ t from ru)
      exact ⟨rcP_dict_int i2 tu p1 hu0, (rcP_dict_int i2 tu p1 hu0).eqP (beq_eq_false_iff_ne.mpr fun z => by cases z) (fun _ _ _ _ z => by cases z)⟩
    | str s2 =>
      obtain ⟨tu, rfl⟩ := (show ∃ t, u = Value.str _ t from ru)
      exact ⟨rcP_dict_str s2 tu p1 hu0, (rcP_dict_str s2 tu p1 hu0).eqP (beq_eq_false_iff_ne.mpr fun z => by cases z) (fun _ _ _ _ z => by cases z)⟩
    | lst h2 r2 =>
      cases (show u = Value.ref _ from ru)
      obtain ⟨us2, v2, p2, _⟩ := I.list (le_l le (.inl h2))
      obtain ⟨z1, z2, z3⟩ := rcP_dict_list (P := X.prog) (w := X.w) p1 p2.isList hu0
      exact ⟨z2, eqP_refs z1 z2⟩
    | tup h2 r2 =>
      cases (show u = Value.ref _ from ru)
      obtain ⟨us2, v2, p2, _⟩ := I.tuple (le_t le h2)
      obtain ⟨z1, z2, z3⟩ := rcP_dict_tuple (P := X.prog) (w := X.w) p1 p2 hu0
      exact ⟨z2, eqP_refs z1 z2⟩
    | dct h2 r2 =>
      cases (show u = Value.ref _ from ru)
      obtain ⟨y2, ⟨us2, v2, d2⟩, p2⟩ := dic_of I le h2
      cases n with
      | zero => simp [plain] at pa
      | succ m =>
        simp only [plain, Bool.and_eq_true] at pa pb
        have goal' := dct_rc (ih m rfl) hu0 (in1 m rfl) pa.1 pb.1 r1 r2 v1 v2 y1 y2 d1 d2
        exact ⟨goal', refs_eq goal' fun z => by subst z; exact inj (.dct h1 r1) (.dct h2 r2)⟩
    | ref _ => cases n <;> simp [plain] at pb
    | ty _ => cases n <;> simp [plain] at pb
    | pen => cases n <;> simp [plain] at pb
    | ins _ _ => cases n <;> simp [plain] at pb
    | obj _ => cases n <;> simp [plain] at pb
    | exc0 _ => cases n <;> simp [plain] at pb
    | exc _ _ _ => cases n <;> simp [plain] at pb
  | ref _ => cases n <;> simp [plain] at pa
  | ty _ => cases n <;> simp [plain] at pa
  | pen => cases n <;> simp [plain] at pa
  | ins _ _ => cases n <;> simp [plain] at pa
  | obj _ => cases n <;> simp [plain] at pa
  | exc0 _ => cases n <;> simp [plain] at pa
  | exc _ _ _ => cases n <;> simp [plain] at pa
/-- THE THEOREM: == of plain data -/
theorem eq_run (I : Inv X pins σ H s) (le : Le G H) : ∀ (n : Nat), EqGoal X p0 G s n
  | 0 => eq_step I le 0 fun m e => by omega
  | n + 1 => eq_step I le (n + 1) fun m e => by cases e; exact eq_run I le n
end
end DL

/-! ELI: operators, subscripts, built-ins over data. -/
namespace PySem.SeqAt
open AutoSeq1 (wpAny_loadPart')
open MeetsSeq
section
variable {P : Program} {w : World} {A : Around} {s : Shared}
theorem tup_neIn (l b : Addr) (xs ys : Array Value) (n n2 : Nat) (dd dd2 : Option Addr) (sl sl2 : Array (Option Value)) (e : Nat → Bool) :
    MeetsIn P w (Builtin.«tuple.__ne__» ⟨[.ref l, .ref b], []⟩)
      (fun A R s => s.heap.get? l = some { cls := .type "tuple", dict := dd, data := .seq xs n, slots := sl } ∧ s.heap.get? b = some { cls := .type "tuple", dict := dd2, data := .seq ys n2, slots := sl2 } ∧
        (∀ j (h1 : j < xs.size) (h2 : j < ys.size), EqP P w A.in1 s xs[j] ys[j] (e j)) ∧ R (.ok (.ret (.bool (!((List.range (min xs.size ys.size)).all e && xs.size == ys.size))))) s) := by
  intro A R s h
  obtain ⟨hp, gn, dr, tk, os⟩ := s
  obtain ⟨hl, hb, he, h⟩ := h
  have f2 := AutoSeq1.sub_tuple_tuple
  have hZ : (xs.toList.zip ys.toList).length = min xs.size ys.size := by simp
  wp_walk using wpAny_loadPart' hl, wpAny_loadPart' hb, wpAny_forIn_list _ (fun more b s' => b.1 = none ∧ s' = ⟨hp, gn, dr, tk, os⟩ ∧ ∃ i, more = (xs.toList.zip ys.toList).drop i ∧
    R (.ok (.ret (.bool (!(((List.range (min xs.size ys.size)).drop i).all e && xs.size == ys.size))))) ⟨hp, gn, dr, tk, os⟩) _
  case turn =>
    rintro ⟨y, x⟩ more b s' ⟨hb', rfl, i, hz, hR⟩
    have hlt : i < (xs.toList.zip ys.toList).length := Nat.lt_of_not_le fun q => by rw [List.drop_of_length_le q] at hz; cases hz
    have hm : i < min xs.size ys.size := hZ ▸ hlt
    have h1 : i < xs.size := by omega
    have h2 : i < ys.size := by omega
    rw [List.drop_eq_getElem_cons hlt] at hz
    injection hz with hyx hrest
    have hy : y = xs[i] := by simpa using congrArg Prod.fst hyx
    have hx : x = ys[i] := by simpa using congrArg Prod.snd hyx
    subst hy hx
    have hd : (List.range (min xs.size ys.size)).drop i = i :: (List.range (min xs.size ys.size)).drop (i + 1) := by simp [List.drop_eq_getElem_cons, hm]
    rw [hd, List.all_cons] at hR
    refine wpAny_bind (he i h1 h2 _ _ ?_)
    cases q : e i with
    | true => rw [q] at hR; wp_walk; exact ⟨rfl, rfl, i + 1, hrest, by simpa using hR⟩
    | false => rw [q] at hR; wp_walk; simpa using hR
  case fin =>
    rintro ⟨b1, b2⟩ s' ⟨hb', rfl, i, hz, hR⟩
    simp only at hb'
    subst hb'
    have hge : min xs.size ys.size ≤ i := Nat.le_of_not_lt fun q => by rw [List.drop_eq_getElem_cons (hZ ▸ q)] at hz; cases hz
    rw [List.drop_of_length_le (by simpa using hge)] at hR
    wp_walk
    simpa [Builtin.Tuple.tupleCompareSizes, bne] using hR
  case h => exact ⟨rfl, rfl, 0, rfl, by simpa using h⟩
theorem rcNeP_tuples {l b : Addr} {xs ys : Array Value} {e : Nat → Bool} {E Q : Value → Shared → Prop} (hl : s.heap.IsTuple l xs) (hb : s.heap.IsTuple b ys) (hu : A.units < cLine)
    (he : ∀ j (h1 : j < xs.size) (h2 : j < ys.size), EqP P w A.in1 s xs[j] ys[j] (e j)) (h : Q (.bool (!((List.range (min xs.size ys.size)).all e && xs.size == ys.size))) s) : wpAny (model P w) A (richCompare .NotEq (.ref l) (.ref b)) Q E s := by
  obtain ⟨⟨cls, dd, data, sl⟩, ho, hc, n, hd⟩ := id hl
  obtain ⟨⟨cls2, dd2, data2, sl2⟩, ho2, hc2, n2, hd2⟩ := id hb
  simp only at hc hd hc2 hd2
  subst hc hd hc2 hd2
  exact wpAny_richCompare_same_room (op := .NotEq) ⟨_, ho, rfl⟩ ⟨_, ho2, rfl⟩ F.slot_tuple_ne (call_meetsIn F.slot_tuple_ne ⟨_, ho, rfl⟩ F.entry_tuple_ne (F.args_tuple_ne_2 _ _) (tup_neIn l b xs ys n n2 dd dd2 sl sl2 e)
    ⟨ho, ho2, he, ⟨(fun x => nomatch x), h⟩⟩) hu
end
end PySem.SeqAt
namespace DL
open PySem L2 PySem.Spec PyProof.Rows PySem.SeqAt
/-! ### data without dicts, as the library's -/
def kPy : Key → PyData
  | .inl i => .int i
  | .inr s => .str s
mutual
def toPy : D → PyData
  | .non => .none
  | .bl b => .bool b
  | .int i => .int i
  | .str x => .str x
  | .lst xs => .list (toPyL xs)
  | .tup xs => .tuple (toPyL xs)
  | .dct xs => .dict (toPyK xs)
  | _ => .none
def toPyL : List D → List PyData
  | [] => []
  | x :: xs => toPy x :: toPyL xs
def toPyK : List (Key × D) → List (PyData × PyData)
  | [] => []
  | (k, x) :: xs => (kPy k, toPy x) :: toPyK xs
end
mutual
/-- plain and without dicts -/
def noDic : D → Nat → Bool
  | .non, _ => true
  | .bl _, _ => true
  | .int _, _ => true
  | .str s, _ => PyData.strOk s
  | .lst xs, n + 1 => noDicL xs n
  | .tup xs, n + 1 => noDicL xs n
  | _, _ => false
def noDicL : List D → Nat → Bool
  | [], _ => true
  | x :: xs, n => noDic x n && noDicL xs n
end
section
variable {K : PySem.W.Frag} {p0 : Addr} {G H : Hp}
mutual
theorem Rep.dp (le : Le G H) : ∀ (n : Nat) (a : D) (x : V), noDic a n = true → Rep K p0 G x a → Dp K H x (toPy a)
  | n, _, _, _, .non => by simp only [toPy]; exact .non
  | n, _, _, _, .bl _ => by simp only [toPy]; exact .bl _
  | n, _, _, _, .int _ => by simp only [toPy]; exact .int _
  | n, _, _, _, .str _ => by simp only [toPy]; exact .str _
  | n, _, _, h, .ref _ => by cases n <;> simp [noDic] at h
  | n, _, _, h, .ty _ => by cases n <;> simp [noDic] at h
  | n, _, _, h, .pen => by cases n <;> simp [noDic] at h
  | n, _, _, h, .ins _ _ => by cases n <;> simp [noDic] at h
  | n, _, _, h, .dct _ _ => by cases n <;> simp [noDic] at h
  | 0, _, _, h, .lst _ _ => by simp [noDic] at h
  | 0, _, _, h, .tup _ _ => by simp [noDic] at h
  | n + 1, _, _, h, .lst h1 r1 => by simp only [toPy]; exact .lst (le_l le (.inl h1)) (RepL.dp le n _ _ (by simpa [noDic] using h) r1)
  | n + 1, _, _, h, .tup h1 r1 => by simp only [toPy]; exact .tup (le_t le h1) (RepL.dp le n _ _ (by simpa [noDic] using h) r1)
theorem RepL.dp (le : Le G H) : ∀ (n : Nat) (a : List D) (x : List V), noDicL a n = true → RepL K p0 G x a → DpAll K H x (toPyL a)
  | n, _, _, _, .nil => by simp only [toPyL]; exact .nil
  | n, _, _, h, .cons h1 r1 => by
    simp only [noDicL, Bool.and_eq_true] at h
    simp only [toPyL]
    exact .cons (Rep.dp le n _ _ h.1 h1) (RepL.dp le n _ _ h.2 r1)
end
mutual
theorem eqv_eq : ∀ (a b : D) (n m : Nat), noDic a n = true → noDic b m = true → PyData.eqv (toPy a) (toPy b) = eqD a b
  | .non, b, n, m, ha, hb => by cases b <;> (try (cases m <;> simp [noDic] at hb; done)) <;> simp [toPy, PyData.eqv, eqD]
  | .bl q, b, n, m, ha, hb => by cases b <;> (try (cases m <;> simp [noDic] at hb; done)) <;> simp [toPy, PyData.eqv, eqD]
  | .int i, b, n, m, ha, hb => by cases b <;> (try (cases m <;> simp [noDic] at hb; done)) <;> simp [toPy, PyData.eqv, eqD]
  | .str s, b, n, m, ha, hb => by cases b <;> (try (cases m <;> simp [noDic] at hb; done)) <;> simp [toPy, PyData.eqv, eqD]
  | .lst xs, b, n, m, ha, hb => by
    cases n with
    | zero => simp [noDic] at ha
    | succ n =>
      cases b <;> (try (cases m <;> simp [noDic] at hb; done)) <;> (try (simp [toPy, PyData.eqv, eqD]; done))
      cases m with
      | zero => simp [noDic] at hb
      | succ m => simp only [toPy, PyData.eqv, eqD]; exact eqvL_eq xs _ n m (by simpa [noDic] using ha) (by simpa [noDic] using hb)
  | .tup xs, b, n, m, ha, hb => by
    cases n with
    | zero => simp [noDic] at ha
    | succ n =>
      cases b <;> (try (cases m <;> simp [noDic] at hb; done)) <;> (try (simp [toPy, PyData.eqv, eqD]; done))
      cases m with
      | zero => simp [noDic] at hb
      | succ m => simp only [toPy, PyData.eqv, eqD]; exact eqvL_eq xs _ n m (by simpa [noDic] using ha) (by simpa [noDic] using hb)
  | .dct _, b, n, m, ha, hb => by cases n <;> simp [noDic] at ha
  | .ins _ _, b, n, m, ha, hb => by cases n <;> simp [noDic] at ha
  | .ref _, b, n, m, ha, hb => by cases n <;> simp [noDic] at ha
  | .ty _, b, n, m, ha, hb => by cases n <;> simp [noDic] at ha
  | .pen, b, n, m, ha, hb => by cases n <;> simp [noDic] at ha
theorem eqvL_eq : ∀ (a b : List D) (n m : Nat), noDicL a n = true → noDicL b m = true → PyData.eqvAll (toPyL a) (toPyL b) = eqL a b
  | [], [], _, _, _, _ => by simp [toPyL, PyData.eqvAll, eqL]
  | [], _ :: _, _, _, _, _ => by simp [toPyL, PyData.eqvAll, eqL]
  | _ :: _, [], _, _, _, _ => by simp [toPyL, PyData.eqvAll, eqL]
  | x :: xs, y :: ys, n, m, ha, hb => by
    simp only [noDicL, Bool.and_eq_true] at ha hb
    simp only [toPyL, PyData.eqvAll, eqL, eqv_eq x y n m ha.1 hb.1, eqvL_eq xs ys n m ha.2 hb.2]
end
end

mutual
theorem lay_of : ∀ (a : D) (n : Nat), noDic a n = true → (toPy a).canLay0 = true ∧ (toPy a).depth ≤ n
  | .non, n, _ => by simp [toPy, PyData.canLay0, PyData.depth]
  | .bl _, n, _ => by simp [toPy, PyData.canLay0, PyData.depth]
  | .int _, n, _ => by simp [toPy, PyData.canLay0, PyData.depth]
  | .str _, n, h => by simp [toPy, PyData.canLay0, PyData.depth]; simpa [noDic] using h
  | .lst xs, 0, h => by simp [noDic] at h
  | .tup xs, 0, h => by simp [noDic] at h
  | .lst xs, n + 1, h => by
    obtain ⟨h1, h2⟩ := lay_ofL xs n (by simpa [noDic] using h)
    simp only [toPy, PyData.canLay0, PyData.depth]
    exact ⟨h1, by omega⟩
  | .tup xs, n + 1, h => by
    obtain ⟨h1, h2⟩ := lay_ofL xs n (by simpa [noDic] using h)
    simp only [toPy, PyData.canLay0, PyData.depth]
    exact ⟨h1, by omega⟩
  | .dct _, n, h => by cases n <;> simp [noDic] at h
  | .ins _ _, n, h => by cases n <;> simp [noDic] at h
  | .ref _, n, h => by cases n <;> simp [noDic] at h
  | .ty _, n, h => by cases n <;> simp [noDic] at h
  | .pen, n, h => by cases n <;> simp [noDic] at h
theorem lay_ofL : ∀ (a : List D) (n : Nat), noDicL a n = true → PyData.canLayAll0 (toPyL a) = true ∧ PyData.depthAll (toPyL a) ≤ n
  | [], n, _ => by simp [toPyL, PyData.canLayAll0, PyData.depthAll]
  | x :: xs, n, h => by
    simp only [noDicL, Bool.and_eq_true] at h
    obtain ⟨h1, h2⟩ := lay_of x n h.1
    obtain ⟨h3, h4⟩ := lay_ofL xs n h.2
    simp only [toPyL, PyData.canLayAll0, PyData.depthAll, Bool.and_eq_true]
    exact ⟨⟨h1, h3⟩, by omega⟩
end
theorem shaped_of {a : D} (h : noDic a 40 = true) : shaped (toPy a) = true := by
  obtain ⟨h1, h2⟩ := lay_of a 40 h
  unfold shaped
  rw [h1, decide_eq_true (by omega)]
  rfl

/-! ### == and != -/
section
variable {X : Cx} {c : Fr} {W : WX} {N : List Str} {sc : Scope} {k : Nat} {bb : Bool}
def oEq : DOp := fun x y P => (plain x 40 = true ∧ plain y 40 = true) ∧ P (.bl (eqD x y))
def rEq2 (K : PySem.W.Frag) (p0 : Addr) : R2 := fun x y H Q => ∃ G a b, Le G H ∧ Rep K p0 G x a ∧ Rep K p0 G y b ∧ plain a 40 = true ∧ plain b 40 = true ∧ Q (.bl (eqD a b)) H
theorem op_eq2 (hu : X.A.units + 64 < cLine) {p0 : Addr} : OpR X (compareOp .Eq) (rEq2 X.K p0) := by
  intro pins s σ H x y v u Q I rx ry ⟨G, a, b, le, ra, rb, pa, pb, q⟩
  exact (eq_run I le 40 X.A (by omega) x y v u a b pa pb ra rb rx ry).1 _ _ ⟨.bl _, H, I, rfl, q⟩
theorem o_eq (B : XB X c W N sc k bb) : OpD X c (compareOp .Eq) oEq :=
  ⟨_, op_eq2 (p0 := c.p0) B.room.units, fun G H σ δ u v x y P Q R ru rv ⟨⟨h1, h2⟩, p⟩ kk => ⟨G, x, y, R.le, by rw [B.hK]; exact ru, by rw [B.hK]; exact rv, h1, h2, kk _ _ G H p Go.refl R (.bl _)⟩⟩
/-- tuples of plain data; or no dicts at all -/
def oNe : DOp := fun x y P => (match x, y with
  | .tup _, .tup _ => plain x 40 = true ∧ plain y 40 = true
  | .str _, .str _ => True
  | _, _ => noDic x 40 = true ∧ noDic y 40 = true) ∧ P (.bl (!eqD x y))
def rNe2 (K : PySem.W.Frag) (p0 : Addr) : R2 := fun x y H Q => ∃ G as bs p q, Le G H ∧ x = .ref p ∧ y = .ref q ∧ Rep K p0 G x (.tup as) ∧ Rep K p0 G y (.tup bs) ∧ plain (.tup as) 40 = true ∧ plain (.tup bs) 40 = true ∧ Q (.bl (!eqD (.tup as) (.tup bs))) H
theorem op_ne2 (hu : X.A.units + 64 < cLine) {p0 : Addr} : OpR X (compareOp .NotEq) (rNe2 X.K p0) := by
  intro pins s σ H x y v u Q I rx ry ⟨G, as, bs, p, q, le, ex, ey, ra, rb, pa, pb, qq⟩
  subst ex ey
  cases (show v = Value.ref p from rx)
  cases (show u = Value.ref q from ry)
  cases ra with
  | tup h1 r1 =>
    cases rb with
    | tup h2 r2 =>
      obtain ⟨us1, v1, p1, _⟩ := I.tuple (le_t le h1)
      obtain ⟨us2, v2, p2, _⟩ := I.tuple (le_t le h2)
      have l1 := v1.length; have l2 := v2.length; have l3 := r1.len; have l4 := r2.len
      refine rcNeP_tuples (P := X.prog) (w := X.w) (e := eAt as bs) p1 p2 (by omega) (fun j q1 q2 => ?_) ?_
      · have e := items_eq (A := X.A.in1) (eq_run I le 39) (by show X.A.units + 1 + 39 < cLine; omega) (by simpa [plain] using pa) (by simpa [plain] using pb) r1 r2 v1 v2 j (by simpa using q1) (by simpa using q2)
        simpa using e
      · rw [List.size_toArray, List.size_toArray, ← l1, ← l2, l3, l4, ← eqL_all]
        simp only [eqD] at qq
        exact ⟨.bl _, H, I, rfl, qq⟩
theorem o_ne (B : XB X c W N sc k bb) : OpD X c (compareOp .NotEq) oNe := by
  refine ⟨_, (op_ne2 (p0 := c.p0) B.room.units).or ((op_neD B.room.units).or op_ne), fun G H σ δ u v x y P Q R ru rv ⟨h, p⟩ kk => ?_⟩
  have gen : (noDic x 40 = true ∧ noDic y 40 = true) → rNeD X.K u v H Q := fun ⟨h1, h2⟩ =>
    ⟨toPy x, toPy y, by rw [B.hK]; exact Rep.dp R.le 40 x u h1 ru, by rw [B.hK]; exact Rep.dp R.le 40 y v h2 rv, shaped_of h1, shaped_of h2, by rw [eqv_eq x y 40 40 h1 h2]; exact kk _ _ G H p Go.refl R (.bl _)⟩
  cases x with
  | tup as =>
    cases y with
    | tup bs =>
      left
      have ru' := ru
      have rv' := rv
      cases ru with
      | tup a1 a2 =>
        cases rv with
        | tup b1 b2 => exact ⟨G, as, bs, _, _, R.le, rfl, rfl, by rw [B.hK]; exact ru', by rw [B.hK]; exact rv', h.1, h.2, kk _ _ G H p Go.refl R (.bl _)⟩
    | _ => right; left; exact gen h
  | str s1 =>
    cases y with
    | str s2 =>
      right; right
      cases ru
      cases rv
      refine ⟨rfl, ?_⟩
      have e : (!decide (V.str s1 = V.str s2)) = !eqD (.str s1) (.str s2) := by rw [dec_str]; simp [eqD]
      rw [e]
      exact kk _ _ G H p Go.refl R (.bl _)
    | _ => right; left; exact gen h
  | _ => right; left; exact gen h
end
end DL

/-! ELJ: repr of plain data. -/
namespace DL
open PySem L2 PySem.Spec PyProof.Rows PySem.SeqAt
section
variable {X : Cx} {pins : List (Addr × Obj)} {σ : L2.St} {G H : Hp} {s : Shared} {p0 : Addr}
/-- all of bs bear data at most m deep -/
def Low (K : PySem.W.Frag) (p0 : Addr) (G : Hp) (m : Nat) (bs : List Addr) : Prop := ∀ b ∈ bs, ∃ y n, plain y n = true ∧ Rep K p0 G (.ref b) y ∧ (toPy y).depth ≤ m
theorem Low.up {K : PySem.W.Frag} {m m' : Nat} {bs : List Addr} (h : Low K p0 G m bs) (l : m ≤ m') : Low K p0 G m' bs := fun b hb =>
  let ⟨y, n, h1, h2, h3⟩ := h b hb
  ⟨y, n, h1, h2, Nat.le_trans h3 l⟩
theorem Low.two {K : PySem.W.Frag} {m : Nat} {bs cs : List Addr} (h : Low K p0 G m bs) (h' : Low K p0 G m cs) : Low K p0 G m (bs ++ cs) := fun b hb =>
  (List.mem_append.mp hb).elim (h b) (h' b)
theorem plain_up : ∀ (n m : Nat) (a : D), n ≤ m → plain a n = true → plain a m = true := by
  intro n
  induction n with
  | zero => intro m a _ h; cases a <;> simp [plain] at h <;> simp [plain]
  | succ n ih =>
    intro m a l h
    cases m with
    | zero => omega
    | succ m =>
      have l' : n ≤ m := by omega
      have hL : ∀ xs : List D, plainL xs n = true → plainL xs m = true := by
        intro xs
        induction xs with
        | nil => intro _; rfl
        | cons x xs ix =>
          intro q
          simp only [plainL, Bool.and_eq_true] at q ⊢
          exact ⟨ih m x l' q.1, ix q.2⟩
      have hK : ∀ xs : List (Key × D), plainK xs n = true → plainK xs m = true := by
        intro xs
        induction xs with
        | nil => intro _; rfl
        | cons x xs ix =>
          intro q
          obtain ⟨k, x⟩ := x
          simp only [plainK, Bool.and_eq_true] at q ⊢
          exact ⟨ih m x l' q.1, ix q.2⟩
      cases a <;> simp [plain] at h <;> simp [plain]
      · exact hL _ h
      · exact hL _ h
      · exact ⟨hK _ h.1, h.2⟩
theorem low_not (I : Inv X pins σ H s) (le : Le G H) {a : Addr} {d : D} {n m : Nat} {bs : List Addr} (pd : plain d n = true) (r : Rep X.K p0 G (.ref a) d) (hd : m < (toPy d).depth) (h : Low X.K p0 G m bs) : a ∉ bs := fun hm => by
  obtain ⟨y, k, h1, h2, h3⟩ := h a hm
  have e := Rep.inj I le (max n k) d y (.ref a) (plain_up n _ d (Nat.le_max_left _ _) pd) (plain_up k _ y (Nat.le_max_right _ _) h1) r h2
  rw [e] at hd
  omega
theorem Low.put {K : PySem.W.Frag} {a : Addr} {d : D} {n m : Nat} {bs : List Addr} (pd : plain d n = true) (r : Rep K p0 G (.ref a) d) (hm : m ≤ (toPy d).depth) (h : Low K p0 G m bs) : Low K p0 G (toPy d).depth (a :: bs) := fun b hb => by
  rcases List.mem_cons.mp hb with rfl | hb
  · exact ⟨d, n, pd, r, Nat.le_refl _⟩
  · exact h.up hm b hb
theorem key_shown (k : Key) (v : Value) (h : keyIs k v = true) (hs : (kPy k).showable = true) (hz : (kPy k).shown.length ≤ sizeLine) {P : Program} {w : World} (bs : List Addr) (h0 : Heap) (d : Nat) : ReprK P w bs h0 d v (kPy k).shown := by
  rcases keyIs_shape h with ⟨i, t, rfl, rfl⟩ | ⟨x, t, rfl, rfl⟩
  · simp only [kPy, PyData.shown]; exact .of_is (ReprIs.int t (by simpa [kPy, PyData.showable] using hs)) _ _ _
  · simp only [kPy, PyData.shown]; exact .of_is (ReprIs.str x t (by simpa [kPy, PyData.shown] using hz)) _ _ _
theorem entK_more {P : Program} {w : World} {h0 : Heap} {as as' : List Addr} {d d' : Nat} (hsub : ∀ b ∈ as, b ∈ as') (hd : d ≤ d') : ∀ {l : List DictEntry} {ts : List Str}, ReprEntriesK P w as h0 d l ts → ReprEntriesK P w as' h0 d' l ts
  | _, _, .nil => .nil
  | _, _, .cons hx hy hl => .cons ((hx.more hsub).level_le hd) ((hy.more hsub).level_le hd) (entK_more hsub hd hl)
mutual
theorem rk (I : Inv X pins σ H s) (le : Le G H) : ∀ (n : Nat) (a : D) (x : V) (v : Value), plain a n = true → (toPy a).showable = true → (toPy a).shown.length ≤ sizeLine → Rep X.K p0 G x a → RelV x v →
    ∃ bs, Low X.K p0 G (toPy a).depth bs ∧ ReprK X.prog X.w bs s.heap (toPy a).depth v (toPy a).shown
  | n, _, _, v, pa, hs, hz, .non, rv => by
    cases (show v = Value.none from rv)
    simp only [toPy, PyData.shown]; exact ⟨[], (fun _ h => nomatch h), .of_is ReprIs.none _ _ _⟩
  | n, .bl b, _, v, pa, hs, hz, .bl _, rv => by
    cases (show v = Value.bool b from rv)
    simp only [toPy, PyData.shown]; exact ⟨[], (fun _ h => nomatch h), .of_is (ReprIs.bool b) _ _ _⟩
  | n, .int i, _, v, pa, hs, hz, .int _, rv => by
    obtain ⟨t, rfl⟩ := (show ∃ t, v = Value.int i t from rv)
    simp only [toPy, PyData.shown]; exact ⟨[], (fun _ h => nomatch h), .of_is (ReprIs.int t (by simpa [toPy, PyData.showable] using hs)) _ _ _⟩
  | n, .str y, _, v, pa, hs, hz, .str _, rv => by
    obtain ⟨t, rfl⟩ := (show ∃ t, v = Value.str y t from rv)
    simp only [toPy, PyData.shown]; exact ⟨[], (fun _ h => nomatch h), .of_is (ReprIs.str y t (by simpa only [toPy, PyData.shown] using hz)) _ _ _⟩
  | n, _, _, v, pa, hs, hz, .ref _, rv => by cases n <;> simp [plain] at pa
  | n, _, _, v, pa, hs, hz, .ty _, rv => by cases n <;> simp [plain] at pa
  | n, _, _, v, pa, hs, hz, .pen, rv => by cases n <;> simp [plain] at pa
  | n, _, _, v, pa, hs, hz, .ins _ _, rv => by cases n <;> simp [plain] at pa
  | 0, _, _, v, pa, hs, hz, .lst _ _, rv => by simp [plain] at pa
  | 0, _, _, v, pa, hs, hz, .tup _ _, rv => by simp [plain] at pa
  | 0, _, _, v, pa, hs, hz, .dct _ _, rv => by simp [plain] at pa
  | n + 1, .lst xs, .ref a, v, pa, hs, hz, .lst (vs := vs) h1 r1, rv => by
    cases (show v = Value.ref a from rv)
    have hz' : (listText (PyData.shownAll (toPyL xs))).length ≤ sizeLine := by simpa only [toPy, PyData.shown] using hz
    obtain ⟨us, v1, p1, _⟩ := I.list (le_l le (.inl h1))
    obtain ⟨bs, hb, hk⟩ := rkL I le n xs vs us (by simpa [plain] using pa) (by simpa [toPy, PyData.showable] using hs) (fun t ht => Nat.le_trans (listText_mem_le ht) hz') r1 v1
    have r : Rep X.K p0 G (.ref a) (.lst xs) := .lst h1 r1
    have ed : (toPy (.lst xs)).depth = PyData.depthAll (toPyL xs) + 1 := by simp only [toPy, PyData.depth] <;> omega
    have hna : a ∉ bs := low_not I le pa r (by rw [ed]; omega) hb
    refine ⟨a :: bs, Low.put pa r (by rw [ed]; omega) hb, ?_⟩
    obtain ⟨o, k, q1, q2, q3, q4⟩ := p1
    rw [ed]
    simp only [toPy, PyData.shown]
    cases us with
    | nil =>
      cases v1
      cases r1
      simp only [toPyL, PyData.shownAll, listText_nil]
      exact ReprK.listEmpty q1 q2 q4
    | cons u l => exact ReprK.list q1 q2 q4 hna (by simpa using hk.length_eq) (fun i y e => hk.item i y (by simpa using e))
  | n + 1, .tup xs, .ref a, v, pa, hs, hz, .tup (vs := vs) h1 r1, rv => by
    cases (show v = Value.ref a from rv)
    have hz' : (tupleText (PyData.shownAll (toPyL xs))).length ≤ sizeLine := by simpa only [toPy, PyData.shown] using hz
    obtain ⟨us, v1, p1, _⟩ := I.tuple (le_t le h1)
    obtain ⟨bs, hb, hk⟩ := rkL I le n xs vs us (by simpa [plain] using pa) (by simpa [toPy, PyData.showable] using hs) (fun t ht => Nat.le_trans (tupleText_mem_le ht) hz') r1 v1
    have r : Rep X.K p0 G (.ref a) (.tup xs) := .tup h1 r1
    have ed : (toPy (.tup xs)).depth = PyData.depthAll (toPyL xs) + 1 := by simp only [toPy, PyData.depth] <;> omega
    have hna : a ∉ bs := low_not I le pa r (by rw [ed]; omega) hb
    refine ⟨a :: bs, Low.put pa r (by rw [ed]; omega) hb, ?_⟩
    obtain ⟨o, q1, q2, k, q3⟩ := p1
    rw [ed]
    simp only [toPy, PyData.shown]
    exact ReprK.tuple q1 q2 q3 hna (by simpa using hk)
  | n + 1, .dct xs, .ref a, v, pa, hs, hz, .dct (vs := vs) h1 r1, rv => by
    cases (show v = Value.ref a from rv)
    have hz' : (dictText (PyData.shownKv (toPyK xs))).length ≤ sizeLine := by simpa only [toPy, PyData.shown] using hz
    obtain ⟨hsys, ⟨us, v1, d1⟩, _⟩ := dic_of I le h1
    obtain ⟨o, es, ep, q1, q2, q3, q4, q5, q6⟩ := d1
    have pa' : plainK xs n = true := by
      simp only [plain, Bool.and_eq_true] at pa; exact pa.1
    obtain ⟨bs, hb, hk⟩ := rkK I le n xs vs us es.toList pa' (by simpa [toPy, PyData.showable] using hs) (fun t ht => Nat.le_trans (dictText_mem_le ht) hz') r1 v1 q5
    have r : Rep X.K p0 G (.ref a) (.dct xs) := .dct h1 r1
    have ed : (toPy (.dct xs)).depth = PyData.depthKv (toPyK xs) + 1 := by simp only [toPy, PyData.depth] <;> omega
    have hna : a ∉ bs := low_not I le pa r (by rw [ed]; omega) hb
    refine ⟨a :: bs, Low.put pa r (by rw [ed]; omega) hb, ?_⟩
    rw [ed]
    simp only [toPy, PyData.shown]
    exact ReprK.dict q1 q2.1 q3 hsys hna hk
theorem rkL (I : Inv X pins σ H s) (le : Le G H) : ∀ (n : Nat) (a : List D) (x : List V) (v : List Value), plainL a n = true → PyData.showableAll (toPyL a) = true → (∀ t ∈ PyData.shownAll (toPyL a), t.length ≤ sizeLine) → RepL X.K p0 G x a → Vals x v →
    ∃ bs, Low X.K p0 G (PyData.depthAll (toPyL a)) bs ∧ ReprAllK X.prog X.w bs s.heap (PyData.depthAll (toPyL a)) v (PyData.shownAll (toPyL a))
  | n, _, _, _, _, _, _, .nil, .nil => ⟨[], (fun _ h => nomatch h), by simp only [toPyL, PyData.shownAll]; exact .nil⟩
  | n, d :: ds, _ :: _, _ :: _, pa, hs, hz, .cons h1 r1, .cons v1 t1 => by
    simp only [plainL, Bool.and_eq_true] at pa
    simp only [toPyL, PyData.showableAll, Bool.and_eq_true] at hs
    obtain ⟨b1, l1, k1⟩ := rk I le n _ _ _ pa.1 hs.1 (hz _ (by simp only [toPyL, PyData.shownAll]; exact List.mem_cons_self ..)) h1 v1
    obtain ⟨b2, l2, k2⟩ := rkL I le n _ _ _ pa.2 hs.2 (fun t ht => hz t (by simp only [toPyL, PyData.shownAll]; exact List.mem_cons_of_mem _ ht)) r1 t1
    have m1 : (toPy d).depth ≤ PyData.depthAll (toPyL (d :: ds)) := by simp only [toPyL, PyData.depthAll]; omega
    have m2 : PyData.depthAll (toPyL ds) ≤ PyData.depthAll (toPyL (d :: ds)) := by simp only [toPyL, PyData.depthAll]; omega
    refine ⟨b1 ++ b2, (l1.up m1).two (l2.up m2), ?_⟩
    simp only [toPyL, PyData.shownAll]
    exact .cons ((k1.more fun b hb => List.mem_append_left _ hb).level_le m1) (k2.more_le (fun b hb => List.mem_append_right _ hb) m2)
theorem rkK (I : Inv X pins σ H s) (le : Le G H) : ∀ (n : Nat) (a : List (Key × D)) (x : List (Key × V)) (v : List (Key × Value)) (es : List DictEntry), plainK a n = true → PyData.showableKv (toPyK a) = true → (∀ t ∈ PyData.shownKv (toPyK a), t.length ≤ sizeLine) → RepK X.K p0 G x a → KV x v → Pairs (mixKind X.prog X.w) es v →
    ∃ bs, Low X.K p0 G (PyData.depthKv (toPyK a)) bs ∧ ReprEntriesK X.prog X.w bs s.heap (PyData.depthKv (toPyK a)) es (PyData.shownKv (toPyK a))
  | n, _, _, _, _, _, _, _, .nil, .nil, .nil => ⟨[], (fun _ h => nomatch h), by simp only [toPyK, PyData.shownKv]; exact .nil⟩
  | n, (k, d) :: ds, (_, _) :: _, (k2, u) :: us, e :: es, pa, hs, hz, .cons h1 r1, .cons v1 t1, .cons q1 q2 q3 => by
    simp only [plainK, Bool.and_eq_true] at pa
    simp only [toPyK, PyData.showableKv, Bool.and_eq_true] at hs
    obtain ⟨e1, e2⟩ := v1
    have e1 : k = k2 := e1
    subst e1
    have q2 : e.val = u := q2
    have hz0 := hz _ (by simp only [toPyK, PyData.shownKv]; exact List.mem_cons_self ..)
    rw [strLen_append, strLen_append] at hz0
    obtain ⟨b1, l1, k1⟩ := rk I le n _ _ _ pa.1 hs.1.2 (by omega) h1 e2
    obtain ⟨b2, l2, k2⟩ := rkK I le n _ _ _ _ pa.2 hs.2 (fun t ht => hz t (by simp only [toPyK, PyData.shownKv]; exact List.mem_cons_of_mem _ ht)) r1 t1 q3
    have m1 : (toPy d).depth ≤ PyData.depthKv (toPyK ((k, d) :: ds)) := by simp only [toPyK, PyData.depthKv]; omega
    have m2 : PyData.depthKv (toPyK ds) ≤ PyData.depthKv (toPyK ((k, d) :: ds)) := by simp only [toPyK, PyData.depthKv]; omega
    refine ⟨b1 ++ b2, (l1.up m1).two (l2.up m2), ?_⟩
    simp only [toPyK, PyData.shownKv]
    refine .cons (key_shown k e.key q1 hs.1.1 (by omega) _ _ _) ?_ (entK_more (fun b hb => List.mem_append_right _ hb) m2 k2)
    rw [q2]
    exact (k1.more fun b hb => List.mem_append_left _ hb).level_le m1
end
end
end DL

/-! ELK: built-in calls, operators, subscripts, slices over data. -/
namespace DL
open PySem L2 PySem.Spec PyProof.Rows PySem.SeqAt
section
variable {X : Cx} {c : Fr} {W : WX} {N : List Str} {sc : Scope} {k : Nat} {bb : Bool} {e a b : Expr} {es : List Expr} {pos p : Pos} {r ra rb : DTE} {rs : DTA} {x : Str} {id T : String}
abbrev DBu := List D → (D → Prop) → Prop
def DRL (c : Fr) (r : List V → Hp → VK → Prop) (o : DBu) : Prop := ∀ (G H : Hp) (σ : L2.St) (δ : S) (vs : List V) (ds : List D) (P : D → Prop) (Q : VK), Rel c G H σ δ → RepL c.K c.p0 G vs ds → o ds P →
  (∀ d w G' H', P d → Gof c δ δ σ G H G' H' → Rel c G' H' σ δ → Rep c.K c.p0 G' w d → Q w H') → r vs H Q
structure BuD (X : Cx) (c : Fr) (f : Value) (o : DBu) : Prop where
  ex : ∃ r, CallR X f r ∧ DRL c r o
theorem BuD.or {f : Value} {o o' : DBu} (h : BuD X c f o) (h' : BuD X c f o') : BuD X c f (fun ds P => o ds P ∨ o' ds P) := by
  obtain ⟨r, h1, h2⟩ := h.ex
  obtain ⟨r', h1', h2'⟩ := h'.ex
  refine ⟨_, h1.or h1', fun G H σ δ vs ds P Q R rr o kk => ?_⟩
  rcases o with o | o
  · exact .inl (h2 G H σ δ vs ds P Q R rr o kk)
  · exact .inr (h2' G H σ δ vs ds P Q R rr o kk)
theorem BuD.imp {f : Value} {o o' : DBu} (h : BuD X c f o) (l : ∀ ds P, o' ds P → o ds P) : BuD X c f o' := by
  obtain ⟨r, h1, h2⟩ := h.ex
  exact ⟨r, h1, fun G H σ δ vs ds P Q R rr o kk => h2 G H σ δ vs ds P Q R rr (l _ _ o) kk⟩
def dBu (o : DBu) (rs : DTA) : DTE := fun δ P E => rs δ (fun ds δ1 => o ds (fun z => P z δ1)) E
theorem dbu_ok {o : DBu} {r : List V → Hp → VK → Prop} (hr : DRL c r o) {σ : L2.St} {H : Hp} {Q : VK} : liftE c W (dBu o rs) σ H Q → tCB r (liftA c W rs) σ H Q := fun ⟨G, δ, P, E, R, h, kk, x⟩ =>
  ⟨G, δ, _, E, R, h, fun ds δ1 vs G1 H1 p1 L1 R1 r1 => hr G1 H1 σ δ1 vs ds _ Q R1 r1 p1 fun d w G' H' q L R' rr => kk d δ1 w G' H' q (L1.trans L) R' rr, x⟩
theorem gX (B : XB X c W N sc k bb) (hg : sc.names.lookup x = some .globalImplicit) : Gl X x := by show X.env.scope.names.lookup x = _; rw [B.hs]; exact hg
/-- f(e, ..), f a built-in function -/
theorem de_bu {o : DBu} (B : XB X c W N sc k bb) (hm : c.mg x = none) (hv : bootBuiltins x = some (.builtin id)) (ho : BuD X c (.builtin id) o) (hg : sc.names.lookup x = some .globalImplicit) (ha : DA X c W (e :: es) rs) (hn : x ≠ "__name__" := by decide) (hdb : (x == ("__debug__" : Str)) = false := by decide)
    (he : starEach (e :: es) X.env = (false, eval e X.env) :: starEach es X.env := by rfl) (hpl : (backTo pos (starEach es X.env)).any (·.1) = false := by rfl) : DE X c W (.Call (.Name x p) (e :: es) [] pos) (dBu o rs) := by
  obtain ⟨r, h1, h2⟩ := ho.ex
  exact peI (pe_callB h1 (gX B hg) (by rw [B.hm]; exact hm) hv ha hn hdb he hpl) fun σ H Q => dbu_ok h2
theorem de_ty {o : DBu} (B : XB X c W N sc k bb) (hm : c.mg x = none) (hv : bootBuiltins x = some (.type T)) (ho : BuD X c (.type T) o) (hg : sc.names.lookup x = some .globalImplicit) (ha : DA X c W (e :: es) rs) (hn : x ≠ "__name__" := by decide) (hdb : (x == ("__debug__" : Str)) = false := by decide)
    (he : starEach (e :: es) X.env = (false, eval e X.env) :: starEach es X.env := by rfl) (hpl : (backTo pos (starEach es X.env)).any (·.1) = false := by rfl) : DE X c W (.Call (.Name x p) (e :: es) [] pos) (dBu o rs) := by
  obtain ⟨r, h1, h2⟩ := ho.ex
  exact peI (pe_callTy h1 (gX B hg) (by rw [B.hm]; exact hm) hv ha hn hdb he hpl) fun σ H Q => dbu_ok h2
/-- a built-in name as a value -/
theorem de_blt {v : V} {u : Value} {d : D} (B : XB X c W N sc k bb) (hg : sc.names.lookup x = some .globalImplicit) (hm : c.mg x = none) (hv : bootBuiltins x = some u) (rv : RelV v u) (hr : ∀ G, Rep c.K c.p0 G v d) (hn : x ≠ "__name__" := by decide) (hd : (x == ("__debug__" : Str)) = false := by decide) : DE X c W (.Name x pos) (dC d) :=
  peI (pe_bltn (gX B hg) (by rw [B.hm]; exact hm) hv rv hn hd) fun σ H Q ⟨G, δ, P, E, R, h, k, x⟩ => k _ _ _ G H h Go.refl R (hr G)

/-! ### repr, len, int, abs, list, tuple -/
theorem repr_run {pins : List (Addr × Obj)} {σ : L2.St} {G H : Hp} {s : Shared} {p0 : Addr} (I : Inv X pins σ H s) (le : Le G H) {A : Around} (hu : A.units + 60 < cLine) (gd : A.guards = some []) {a : D} {x : V} {v : Value} (pa : plain a 40 = true) (hs : (toPy a).showable = true) (hz : (toPy a).shown.length ≤ sizeLine) (r : Rep X.K p0 G x a) (rv : RelV x v) (dp : (toPy a).depth ≤ 50)
    {Q : Value → Shared → Prop} {E : Value → Shared → Prop} (q : ∀ u s', Inv X pins σ H s' → RelV (.str (toPy a).shown) u → Q u s') : wpAny (model X.prog X.w) A (call (.builtin "repr") [v]) Q E s := by
  have fin : ∀ h' u tk, (∀ b o, s.heap.get? b = some o → h'.get? b = some o) → Q (.str (toPy a).shown u) { s with heap := h', toks := tk } := fun h' u tk kk => q _ _ (I.kept kk) ⟨_, rfl⟩
  cases r with
  | non => cases (show v = Value.none from rv); refine PySem.P.repr_of_none ?_; simpa only [toPy, PyData.shown] using fin s.heap s.toks (s.toks + 1) (fun _ _ e => e)
  | bl b => cases (show v = Value.bool b from rv); refine PySem.P.repr_of_bool ?_; simpa only [toPy, PyData.shown] using fin s.heap s.toks (s.toks + 1) (fun _ _ e => e)
  | int i => obtain ⟨t, rfl⟩ := (show ∃ t, v = Value.int i t from rv); refine PySem.P.repr_of_int (by simpa [toPy, PyData.showable] using hs) ?_; simpa only [toPy, PyData.shown] using fin s.heap s.toks (s.toks + 1) (fun _ _ e => e)
  | str y => obtain ⟨t, rfl⟩ := (show ∃ t, v = Value.str y t from rv); refine PySem.P.repr_of_str ?_ (by simpa only [toPy, PyData.shown] using hz); simpa only [toPy, PyData.shown] using fin s.heap s.toks (s.toks + 1) (fun _ _ e => e)
  | ref _ => simp [plain] at pa
  | ty _ => simp [plain] at pa
  | pen => simp [plain] at pa
  | ins _ _ => simp [plain] at pa
  | obj _ => simp [plain] at pa
  | exc0 _ => simp [plain] at pa
  | exc _ _ _ => simp [plain] at pa
  | @lst a vs xs h1 r1 =>
    cases (show v = Value.ref a from rv)
    have hz' : (listText (PyData.shownAll (toPyL xs))).length ≤ sizeLine := by simpa only [toPy, PyData.shown] using hz
    obtain ⟨us, v1, p1, _⟩ := I.list (le_l le (.inl h1))
    obtain ⟨bs, hb, hk⟩ := rkL I le 39 xs vs us (by simpa [plain] using pa) (by simpa [toPy, PyData.showable] using hs) (fun t ht => Nat.le_trans (listText_mem_le ht) hz') r1 v1
    have r : Rep X.K p0 G (.ref a) (.lst xs) := .lst h1 r1
    have ed : (toPy (.lst xs)).depth = PyData.depthAll (toPyL xs) + 1 := by simp only [toPy, PyData.depth] <;> omega
    have hna : a ∉ bs := low_not I le pa r (by rw [ed]; omega) hb
    obtain ⟨o, k, q1, q2, q3, q4⟩ := p1
    simp only [toPy, PyData.shown] at fin
    refine call_repr_slot (T := "list") (idr := "list.__repr__") (by omega) ⟨o, q1, q2⟩ F.slot_list_repr.toG ?_
    cases us with
    | nil =>
      cases v1
      cases r1
      simp only [toPyL, PyData.shownAll, listText_nil] at fin
      exact call_list_repr_empty ⟨o, q1, q2⟩ q1 q4 ⟨_, _, rfl, fin s.heap _ _ fun _ _ e => e⟩
    | cons u l => exact call_list_reprK q1 q2 q4 hna (by simpa using hk.length_eq) (fun i y e => hk.item i y (by simpa using e)) (show A.in1.guards = some [] from gd) (fun b _ => Clear.nil b) (by rw [ed] at dp; show A.units + 1 + _ < _; omega) (fun _ _ e => e) (fun h' u tk kk => ⟨_, _, rfl, fin h' u tk kk⟩) hz'
  | @tup a vs xs h1 r1 =>
    cases (show v = Value.ref a from rv)
    have hz' : (tupleText (PyData.shownAll (toPyL xs))).length ≤ sizeLine := by simpa only [toPy, PyData.shown] using hz
    obtain ⟨us, v1, p1, _⟩ := I.tuple (le_t le h1)
    obtain ⟨bs, hb, hk⟩ := rkL I le 39 xs vs us (by simpa [plain] using pa) (by simpa [toPy, PyData.showable] using hs) (fun t ht => Nat.le_trans (tupleText_mem_le ht) hz') r1 v1
    have r : Rep X.K p0 G (.ref a) (.tup xs) := .tup h1 r1
    have ed : (toPy (.tup xs)).depth = PyData.depthAll (toPyL xs) + 1 := by simp only [toPy, PyData.depth] <;> omega
    have hna : a ∉ bs := low_not I le pa r (by rw [ed]; omega) hb
    obtain ⟨o, q1, q2, k, q3⟩ := p1
    simp only [toPy, PyData.shown] at fin
    refine call_repr_slot (T := "tuple") (idr := "tuple.__repr__") (by omega) ⟨o, q1, q2⟩ F.slot_tuple_repr ?_
    exact call_tuple_reprK q1 q2 q3 hna (by simpa using hk) (show A.in1.guards = some [] from gd) (fun b _ => Clear.nil b) (by rw [ed] at dp; show A.units + 1 + _ < _; omega) (fun _ _ e => e) (fun h' u tk kk => ⟨_, _, rfl, fin h' u tk kk⟩) hz'
  | @dct a vs xs h1 r1 =>
    cases (show v = Value.ref a from rv)
    have hz' : (dictText (PyData.shownKv (toPyK xs))).length ≤ sizeLine := by simpa only [toPy, PyData.shown] using hz
    obtain ⟨hsys, ⟨us, v1, d1⟩, _⟩ := dic_of I le h1
    obtain ⟨o, es, ep, q1, q2, q3, q4, q5, q6⟩ := d1
    have pa' : plainK xs 39 = true := by
      simp only [plain, Bool.and_eq_true] at pa; exact pa.1
    obtain ⟨bs, hb, hk⟩ := rkK I le 39 xs vs us es.toList pa' (by simpa [toPy, PyData.showable] using hs) (fun t ht => Nat.le_trans (dictText_mem_le ht) hz') r1 v1 q5
    have r : Rep X.K p0 G (.ref a) (.dct xs) := .dct h1 r1
    have ed : (toPy (.dct xs)).depth = PyData.depthKv (toPyK xs) + 1 := by simp only [toPy, PyData.depth] <;> omega
    have hna : a ∉ bs := low_not I le pa r (by rw [ed]; omega) hb
    simp only [toPy, PyData.shown] at fin
    refine call_repr_slot (T := "dict") (idr := "dict.__repr__") (by omega) ⟨o, q1, q2.1⟩ F.slot_dict_repr ?_
    exact call_dict_reprK q1 q2.1 q3 hsys hna hk (show A.in1.guards = some [] from gd) (fun b _ => Clear.nil b) (by rw [ed] at dp; show A.units + 1 + _ < _; omega) (fun _ _ e => e) (fun h' u tk kk => ⟨_, _, rfl, fin h' u tk kk⟩) hz'
/-- repr of plain data that can be shown -/
def shw (d : D) : Prop := plain d 40 = true ∧ (toPy d).showable = true ∧ (toPy d).depth ≤ 50 ∧ (toPy d).shown.length ≤ 100000
def oRepr : DBu := fun ds P => match ds with
  | [d] => shw d ∧ P (.str (toPy d).shown)
  | _ => False
theorem b_repr (B : XB X c W N sc k bb) : BuD X c (.builtin "repr") oRepr := by
  refine ⟨fun xs H Q => ∃ G x a, xs = [x] ∧ Le G H ∧ Rep X.K c.p0 G x a ∧ shw a ∧ Q (.str (toPy a).shown) H, fun pins s σ H xs us Q I r h => ?_, fun G H σ δ vs ds P Q R rr o kk => ?_⟩
  · obtain ⟨G, x, a, rfl, le, ra, ⟨h1, h2, h3, h4⟩, q⟩ := h
    obtain ⟨u, rfl, rx⟩ := vals1 r
    exact repr_run I le (by have := B.room.un; omega) B.gd h1 h2 (sz5 h4) ra rx h3 fun u s' I' ru => ⟨_, H, I', ru, q⟩
  · cases rr with
    | nil => exact o.elim
    | cons r1 rr =>
      cases rr with
      | nil => exact ⟨G, _, _, rfl, R.le, by rw [B.hK]; exact r1, o.1, kk _ _ G H o.2 Go.refl R (.str _)⟩
      | cons _ _ => exact o.elim
def oLen : DBu := fun ds P => match ds with
  | [.str s] => s.length ≤ 100000 ∧ P (.int s.length)
  | [.lst xs] => P (.int xs.length)
  | [.tup xs] => P (.int xs.length)
  | _ => False
theorem b_len (B : XB X c W N sc k bb) : BuD X c (.builtin "len") oLen := by
  refine ⟨_, call_len, fun G H σ δ vs ds P Q R rr o kk => ?_⟩
  cases rr with
  | nil => exact o.elim
  | cons r1 rr =>
    cases rr with
    | cons _ _ => cases r1 <;> exact o.elim
    | nil =>
      cases r1 with
      | str s => exact ⟨_, _, rfl, ⟨sz5 o.1, rfl⟩, kk _ _ G H o.2 Go.refl R (.int _)⟩
      | lst h1 r1 => exact ⟨_, _, rfl, .inl ⟨_, by rw [B.hK]; exact le_l R.le (.inl h1), rfl⟩, by rw [r1.len]; exact kk _ _ G H o Go.refl R (.int _)⟩
      | tup h1 r1 => exact ⟨_, _, rfl, .inr ⟨_, by rw [B.hK]; exact le_t R.le h1, rfl⟩, by rw [r1.len]; exact kk _ _ G H o Go.refl R (.int _)⟩
      | _ => exact o.elim
def oInt : DBu := fun ds P => match ds with
  | [.int i] => P (.int i)
  | [.bl b] => P (.int (if b then 1 else 0))
  | _ => False
theorem b_int : BuD X c (.type "int") oInt := by
  refine ⟨_, call_int1, fun G H σ δ vs ds P Q R rr o kk => ?_⟩
  cases rr with
  | nil => exact o.elim
  | cons r1 rr =>
    cases rr with
    | cons _ _ => cases r1 <;> exact o.elim
    | nil =>
      cases r1 with
      | int i => exact .inl ⟨_, rfl, kk _ _ G H o Go.refl R (.int _)⟩
      | bl b => exact .inr ⟨_, rfl, kk _ _ G H o Go.refl R (.int _)⟩
      | _ => exact o.elim
def oAbs : DBu := fun ds P => match ds with
  | [.int i] => P (.int (if i < 0 then -i else i))
  | _ => False
theorem b_abs : BuD X c (.builtin "abs") oAbs := by
  refine ⟨_, call_abs, fun G H σ δ vs ds P Q R rr o kk => ?_⟩
  cases rr with
  | nil => exact o.elim
  | cons r1 rr =>
    cases rr with
    | cons _ _ => cases r1 <;> exact o.elim
    | nil =>
      cases r1 with
      | int i => exact ⟨_, rfl, kk _ _ G H o Go.refl R (.int _)⟩
      | _ => exact o.elim
def oList : DBu := fun ds P => match ds with
  | [.lst xs] => P (.lst xs)
  | [.tup xs] => P (.lst xs)
  | _ => False
theorem b_list (B : XB X c W N sc k bb) : BuD X c (.type "list") oList := by
  refine ⟨_, call_list_of, fun G H σ δ vs ds P Q R rr o kk => ?_⟩
  cases rr with
  | nil => exact o.elim
  | cons r1 rr =>
    cases rr with
    | cons _ _ => cases r1 <;> exact o.elim
    | nil =>
      cases r1 with
      | lst h1 r1 => exact ⟨_, _, rfl, .inl (by rw [B.hK]; exact le_l R.le (.inl h1)), fun l hl => kk _ _ _ _ o (R.newG hl) (R.laid' hl) (.lst (.inl upd_same) (r1.mono (Le.new (R.gnone hl))))⟩
      | tup h1 r1 => exact ⟨_, _, rfl, .inr (by rw [B.hK]; exact le_t R.le h1), fun l hl => kk _ _ _ _ o (R.newG hl) (R.laid' hl) (.lst (.inl upd_same) (r1.mono (Le.new (R.gnone hl))))⟩
      | _ => exact o.elim
def oTuple : DBu := fun ds P => match ds with
  | [.lst xs] => P (.tup xs)
  | [.tup xs] => P (.tup xs)
  | _ => False
theorem b_tuple (B : XB X c W N sc k bb) : BuD X c (.type "tuple") oTuple := by
  refine ⟨_, call_tuple_of, fun G H σ δ vs ds P Q R rr o kk => ?_⟩
  cases rr with
  | nil => exact o.elim
  | cons r1 rr =>
    cases rr with
    | cons _ _ => cases r1 <;> exact o.elim
    | nil =>
      cases r1 with
      | lst h1 r1 => exact ⟨_, _, rfl, .inl ⟨by rw [B.hK]; exact le_l R.le (.inl h1), fun l hl => kk _ _ _ _ o (R.newG hl) (R.laid' hl) (.tup (.inl (.inl upd_same)) (r1.mono (Le.new (R.gnone hl))))⟩⟩
      | tup h1 r1 => exact ⟨_, _, rfl, .inr ⟨by rw [B.hK]; exact le_t R.le h1, kk _ _ G H o Go.refl R (.tup h1 r1)⟩⟩
      | _ => exact o.elim

/-! ### isinstance -/
/-- what isinstance asks of an own class -/
structure CI (c : Wd) (C : Addr) : Prop where
  cl : Cls c.K C
  a : PySem.W.findIn c.K (.ref C) "__class__" = some (some (.builtin "object.__class__"))
  n : PySem.W.specialIn c.K (.builtin "object.__class__") "__get__" = some (some (.builtin "getset_descriptor.__get__"))
  t : PySem.W.takesIn c.K (.builtin "object.__class__") = some true
  m : PySem.W.mroIn c.K C (.type "object") = some true
def tyD (c : Wd) : D → (Value → Prop) → Prop
  | .non, P => P (.type "NoneType")
  | .bl _, P => P (.type "bool")
  | .int _, P => P (.type "int")
  | .str _, P => P (.type "str")
  | .lst _, P => P (.type "list")
  | .tup _, P => P (.type "tuple")
  | .dct _, P => P (.type "dict")
  | .ins C _, P => CI c C ∧ P (.ref C)
  | _, _ => False
theorem ty_of {G H : Hp} (le : Le G H) {K : PySem.W.Frag} (hK : K = c.K) {x : V} {d : D} (r : Rep c.K c.p0 G x d) {P : Value → Prop} (h : tyD c.toWd d P) : ∃ t, TyX K H x t ∧ P t := by
  subst hK
  cases r with
  | non => exact ⟨_, .base .non, h⟩
  | bl b => exact ⟨_, .base (.bl b), h⟩
  | int i => exact ⟨_, .base (.int i), h⟩
  | str s => exact ⟨_, .base (.str s), h⟩
  | lst h1 r1 =>
    rcases le_rd le h1 with q | ⟨o, q⟩
    · exact ⟨_, .base (.lst q), h⟩
    · exact ⟨_, .base (.frz q), h⟩
  | tup h1 r1 =>
    rcases le_t le h1 with (q | ⟨o, q⟩) | ⟨o, its, n, q1, q2, _⟩
    · exact ⟨_, .base (.tup q), h⟩
    · exact ⟨_, .fTuple q, h⟩
    · exact ⟨_, .kTuple q1 q2, h⟩
  | dct h1 r1 =>
    rcases le_rd le h1 with q | ⟨o, q⟩
    · exact ⟨_, .base (.dK q), h⟩
    · exact ⟨_, .fDict q, h⟩
  | ins h1 r1 => exact ⟨_, .base (.ins (le _ _ h1) h.1.cl h.1.a h.1.n h.1.t h.1.m), h.2⟩
  | _ => exact h.elim
def clD : D → Option Value
  | .ty n => some (.type n)
  | .ref C => some (.ref C)
  | _ => none
def oIsi (c : Wd) : DBu := fun ds P => match ds with
  | [d, k] => (match clD k with
    | some u => tyD c d (fun t => ∃ b, PySem.W.kitOne c.K t u = some b ∧ P (.bl b))
    | none => False)
  | _ => False
theorem b_isi (B : XB X c W N sc k bb) : BuD X c (.builtin "isinstance") (oIsi c.toWd) := by
  refine ⟨_, call_isi, fun G H σ δ vs ds P Q R rr o kk => ?_⟩
  cases rr with
  | nil => exact o.elim
  | cons r1 rr =>
    cases rr with
    | nil => exact o.elim
    | cons r2 rr =>
      cases rr with
      | cons _ _ => exact o.elim
      | nil =>
        cases r2 with
        | ty n =>
          obtain ⟨t, ht, bo, e, hp⟩ := ty_of R.le B.hK r1 o
          exact ⟨_, _, t, _, bo, rfl, .ty n, ht, by rw [B.hK]; exact e, kk _ _ G H hp Go.refl R (.bl _)⟩
        | ref C =>
          obtain ⟨t, ht, bo, e, hp⟩ := ty_of R.le B.hK r1 o
          exact ⟨_, _, t, _, bo, rfl, .own C, ht, by rw [B.hK]; exact e, kk _ _ G H hp Go.refl R (.bl _)⟩
        | _ => exact o.elim
end
end DL

/-! ELL: operators, subscripts, slices over data. -/
namespace DL
open PySem L2 PySem.Spec PyProof.Rows PySem.SeqAt
section
variable {X : Cx} {c : Fr} {W : WX} {N : List Str} {sc : Scope} {k : Nat} {bb : Bool} {e a b : Expr} {es : List Expr} {pos p p2 : Pos} {r ra rb : DTE} {rs : DTA} {x : Str} {id T : String}
theorem OpD.or {f : Value → Value → Sem Value} {o o' : DOp} (h : OpD X c f o) (h' : OpD X c f o') : OpD X c f (fun x y P => o x y P ∨ o' x y P) := by
  obtain ⟨r, h1, h2⟩ := h.ex
  obtain ⟨r', h1', h2'⟩ := h'.ex
  refine ⟨_, h1.or h1', fun G H σ δ u v x y P Q R ru rv o kk => ?_⟩
  rcases o with o | o
  · exact .inl (h2 G H σ δ u v x y P Q R ru rv o kk)
  · exact .inr (h2' G H σ δ u v x y P Q R ru rv o kk)
theorem OpD.imp {f : Value → Value → Sem Value} {o o' : DOp} (h : OpD X c f o) (l : ∀ x y P, o' x y P → o x y P) : OpD X c f o' := by
  obtain ⟨r, h1, h2⟩ := h.ex
  exact ⟨r, h1, fun G H σ δ u v x y P Q R ru rv o kk => h2 G H σ δ u v x y P Q R ru rv (l _ _ _ o) kk⟩
/-- ints -/
def oI (C : Int → Int → Prop) (g : Int → Int → D) : DOp := fun x y P => match x, y with
  | .int i, .int j => C i j ∧ P (g i j)
  | _, _ => False
theorem oI_of {f : Value → Value → Sem Value} {C : Int → Int → Prop} {g : Int → Int → V} {gd : Int → Int → D} (h : OpR X f (rI C g)) (hr : ∀ G i j, Rep c.K c.p0 G (g i j) (gd i j)) : OpD X c f (oI C gd) := by
  refine ⟨_, h, fun G H σ δ u v x y P Q R ru rv o kk => ?_⟩
  cases ru with
  | int i =>
    cases rv with
    | int j => exact ⟨i, j, rfl, rfl, o.1, kk _ _ G H o.2 Go.refl R (hr G i j)⟩
    | _ => exact o.elim
  | _ => cases rv <;> exact o.elim
theorem oI_of0 {f : Value → Value → Sem Value} {g : Int → Int → V} {gd : Int → Int → D} (h : OpR X f (rI0 g)) (hr : ∀ G i j, Rep c.K c.p0 G (g i j) (gd i j)) : OpD X c f (oI (fun _ _ => True) gd) := by
  refine ⟨_, h, fun G H σ δ u v x y P Q R ru rv o kk => ?_⟩
  cases ru with
  | int i =>
    cases rv with
    | int j => exact ⟨i, j, rfl, rfl, kk _ _ G H o.2 Go.refl R (hr G i j)⟩
    | _ => exact o.elim
  | _ => cases rv <;> exact o.elim
theorem o_addI : OpD X c (binaryOp .Add) (oI (fun _ _ => True) fun i j => .int (i + j)) := oI_of0 op_add fun _ _ _ => .int _
theorem o_sub : OpD X c (binaryOp .Sub) (oI (fun _ _ => True) fun i j => .int (i - j)) := oI_of0 op_sub fun _ _ _ => .int _
theorem o_mul : OpD X c (binaryOp .Mult) (oI CMul fun i j => .int (i * j)) := oI_of op_mul fun _ _ _ => .int _
theorem o_mulX : OpD X c (binaryOp .Mult) (oI CMulX fun i j => .int (i * j)) := oI_of op_mulX fun _ _ _ => .int _
theorem o_fdiv : OpD X c (binaryOp .FloorDiv) (oI CDiv fun i j => .int (i / j)) := oI_of op_fdiv fun _ _ _ => .int _
theorem o_fdivW : OpD X c (binaryOp .FloorDiv) (oI CDivW fun i j => .int (i / j)) := oI_of op_fdivW fun _ _ _ => .int _
theorem o_mod : OpD X c (binaryOp .Mod) (oI (fun _ j => 0 < j) fun i j => .int (i % j)) := oI_of op_mod fun _ _ _ => .int _
theorem o_pow : OpD X c (binaryOp .Pow) (oI CPow fun i j => .int (i ^ j.toNat)) := oI_of op_pow fun _ _ _ => .int _
theorem o_lt : OpD X c (compareOp .Lt) (oI (fun _ _ => True) fun i j => .bl (decide (i < j))) := oI_of0 op_lt fun _ _ _ => .bl _
theorem o_le : OpD X c (compareOp .LtE) (oI (fun _ _ => True) fun i j => .bl (decide (i ≤ j))) := oI_of0 op_le fun _ _ _ => .bl _
theorem o_gt : OpD X c (compareOp .Gt) (oI (fun _ _ => True) fun i j => .bl (decide (j < i))) := oI_of0 op_gt fun _ _ _ => .bl _
theorem o_ge : OpD X c (compareOp .GtE) (oI (fun _ _ => True) fun i j => .bl (decide (j ≤ i))) := oI_of0 op_ge fun _ _ _ => .bl _
/-- is None, is not None -/
def oIsN (neg : Bool) : DOp := fun x y P => match x, y with
  | .non, .non => P (.bl (!neg))
  | .bl _, .non => P (.bl neg)
  | .int _, .non => P (.bl neg)
  | .str _, .non => P (.bl neg)
  | .lst _, .non => P (.bl neg)
  | .tup _, .non => P (.bl neg)
  | .dct _, .non => P (.bl neg)
  | .ins _ _, .non => P (.bl neg)
  | .exc _ _, .non => P (.bl neg)
  | .ref _, .non => P (.bl neg)
  | .ty _, .non => P (.bl neg)
  | .pen, .non => P (.bl neg)
  | .obj _, .non => P (.bl neg)
  | _, _ => False
theorem o_isN : OpD X c (compareOp .Is) (oIsN false) := by
  refine ⟨_, op_isN, fun G H σ δ u v x y P Q R ru rv o kk => ?_⟩
  cases rv with
  | non =>
    refine ⟨rfl, ?_⟩
    cases ru <;> first | exact o.elim | exact kk _ _ G H o Go.refl R (.bl _)
  | _ => cases ru <;> exact o.elim
theorem o_notN : OpD X c (compareOp .IsNot) (oIsN true) := by
  refine ⟨_, op_notN, fun G H σ δ u v x y P Q R ru rv o kk => ?_⟩
  cases rv with
  | non =>
    refine ⟨rfl, ?_⟩
    cases ru <;> first | exact o.elim | exact kk _ _ G H o Go.refl R (.bl _)
  | _ => cases ru <;> exact o.elim
/-- list + list -/
def rCatL : R2 := fun x y H Q => ∃ l b xs zs, x = .ref l ∧ y = .ref b ∧ Rd H l (.lst xs) ∧ Rd H b (.lst zs) ∧ xs.length + zs.length ≤ sizeLine ∧ ∀ p, H p = none → Q (.ref p) (upd H p (.lst (xs ++ zs)))
theorem op_catL : OpR X (binaryOp .Add) rCatL := by
  intro pins s σ H x y v u Q I rx ry h
  obtain ⟨l, b, xs, zs, rfl, rfl, hH, hB, hz, q⟩ := h
  cases rx
  cases ry
  obtain ⟨z, its, n, r, e⟩ := hH.ok I.hok
  obtain ⟨z2, its2, n2, r2, e2⟩ := hB.ok I.hok
  have hl := r.length
  have hl2 := r2.length
  refine PySem.P.add_list e e2 ?_ (by rw [List.size_toArray, List.size_toArray]; omega)
  have ea : its.toArray ++ its2.toArray = (its ++ its2).toArray := by simp
  rw [ea]
  exact ⟨.ref _, _, I.lnew (t' := s.toks) (r.append r2) (by rw [List.length_append]; omega), rfl, q _ I.fresh⟩
theorem RepL.nil_iff {K : PySem.W.Frag} {p0 : Addr} {G : Hp} {vs : List V} {ds : List D} (h : RepL K p0 G vs ds) : vs = [] ↔ ds = [] := by cases h <;> simp
/-- + -/
def oAdd : DOp := fun x y P => match x, y with
  | .int i, .int j => P (.int (i + j))
  | .int i, .bl b => P (.int (i + b2i b))
  | .str s, .str t => s.length + t.length ≤ 1000000 ∧ P (.str (s ++ t))
  | .lst xs, .lst ys => xs.length + ys.length ≤ 100000 ∧ P (.lst (xs ++ ys))
  | .tup xs, .tup ys => xs.length + ys.length ≤ 100000 ∧ P (.tup (xs ++ ys))
  | _, _ => False
theorem sz6 {n : Nat} (h : n ≤ 1000000) : n ≤ sizeLine := Nat.le_trans h (by decide)
theorem o_add (hK : X.K = c.K) : OpD X c (binaryOp .Add) oAdd := by
  refine ⟨_, op_add.or (op_add_ib.or (op_add_str.or (op_catL.or op_catA))), fun G H σ δ u v x y P Q R ru rv o kk => ?_⟩
  cases ru with
  | int i =>
    cases rv with
    | int j => exact .inl ⟨i, j, rfl, rfl, kk _ _ G H o Go.refl R (.int _)⟩
    | bl j => exact .inr (.inl ⟨i, j, rfl, rfl, kk _ _ G H o Go.refl R (.int _)⟩)
    | _ => exact o.elim
  | str i =>
    cases rv with
    | str j => exact .inr (.inr (.inl ⟨i, j, rfl, rfl, sz6 o.1, kk _ _ G H o.2 Go.refl R (.str _)⟩))
    | _ => exact o.elim
  | lst h1 r1 =>
    cases rv with
    | lst h2 r2 => exact .inr (.inr (.inr (.inl ⟨_, _, _, _, rfl, rfl, le_rd R.le h1, le_rd R.le h2, by rw [r1.len, r2.len]; exact sz5 o.1, fun p hp =>
        kk _ _ _ _ o.2 (R.newG hp) (R.laid' hp) (.lst (.inl upd_same) ((r1.app r2).mono (Le.new (R.gnone hp))))⟩)))
    | _ => exact o.elim
  | tup h1 r1 =>
    cases rv with
    | tup h2 r2 => exact .inr (.inr (.inr (.inr ⟨_, _, _, _, rfl, rfl, by rw [hK]; exact le_t R.le h1, by rw [hK]; exact le_t R.le h2, by rw [r1.len, r2.len]; exact sz5 o.1,
        fun z => by have e := r1.nil_iff.mp z; have p := o.2; rw [e] at p; exact kk _ _ G H p Go.refl R (.tup h2 (by simpa using r2)),
        fun _ z => by have e := r2.nil_iff.mp z; have p := o.2; rw [e, List.append_nil] at p; exact kk _ _ G H p Go.refl R (.tup h1 r1),
        fun _ _ p hp => kk _ _ _ _ o.2 (R.newG hp) (R.laid' hp) (.tup (.inl (.inl upd_same)) ((r1.app r2).mono (Le.new (R.gnone hp))))⟩)))
    | _ => exact o.elim
  | _ => cases rv <;> exact o.elim

/-! ### unary minus -/
def dNeg (ra : DTE) : DTE := fun δ P E => ra δ (fun d δ1 => match d with
  | .int i => P (.int (-i)) δ1
  | _ => False) E
theorem de_neg (ha : DE X c W a ra) : DE X c W (.UnaryOp .USub a pos) (dNeg ra) :=
  peI (pe_un un_neg ha) fun σ H Q ⟨G, δ, P, E, R, h, kk, x⟩ => ⟨G, δ, _, E, R, h, fun d δ1 v G1 H1 p L R1 rr => by
    cases rr with
    | int i => exact ⟨i, rfl, kk _ δ1 _ G1 H1 p L R1 (.int _)⟩
    | _ => exact p.elim, x⟩

/-! ### subscripts -/
def oIx : DOp := fun x y P => match x, y with
  | .lst xs, .int i => ∃ d, atI xs i = some d ∧ P d
  | .tup xs, .int i => ∃ d, atI xs i = some d ∧ P d
  | .str s, .int i => s.length ≤ 1000000 ∧ ∃ ch, atI s.cps.toList i = some ch ∧ P (.str ⟨#[ch]⟩)
  | _, _ => False
theorem RepL.atI {K : PySem.W.Frag} {p0 : Addr} {G : Hp} {vs : List V} {ds : List D} (h : RepL K p0 G vs ds) {i : Int} {d : D} (e : L2.atI ds i = some d) : ∃ v, L2.atI vs i = some v ∧ Rep K p0 G v d := by
  unfold L2.atI at e ⊢
  rw [h.len]
  cases q : ixN ds.length i with
  | none => rw [q] at e; cases e
  | some j => rw [q] at e; exact h.get e
def dIx (ra rb : DTE) : DTE := dBin oIx ra rb
theorem de_ix (B : XB X c W N sc k bb) (ha : DE X c W a ra) (hb : DE X c W b rb) (hs : PlainIx b := by intro _ _; rfl) : DE X c W (.Subscript a b pos) (dIx ra rb) :=
  peI (pe_ix ix_seq ha hb hs) fun σ H Q => dbin_ok (r2 := rIx X.K) (o := oIx) fun G H σ δ u v x y P Q R ru rv o kk => by
    cases ru with
    | lst h1 r1 =>
      cases rv with
      | int i => obtain ⟨d, e, p⟩ := o; obtain ⟨w, e2, rw⟩ := r1.atI e; exact .inl ⟨_, _, i, w, rfl, rfl, by rw [B.hK]; exact le_l R.le (.inl h1), e2, kk _ _ G H p Go.refl R rw⟩
      | _ => exact o.elim
    | tup h1 r1 =>
      cases rv with
      | int i => obtain ⟨d, e, p⟩ := o; obtain ⟨w, e2, rw⟩ := r1.atI e; exact .inr (.inl ⟨_, _, i, w, rfl, rfl, by rw [B.hK]; exact le_t R.le h1, e2, kk _ _ G H p Go.refl R rw⟩)
      | _ => exact o.elim
    | str s =>
      cases rv with
      | int i => obtain ⟨z, ch, e, p⟩ := o; exact .inr (.inr ⟨s, i, ch, rfl, rfl, sz6 z, e, kk _ _ G H p Go.refl R (.str _)⟩)
      | _ => exact o.elim
    | _ => cases rv <;> exact o.elim

/-! ### slices -/
abbrev DTO := S → (Option Int → S → Prop) → (Er → S → Prop) → Prop
def liftO (c : Fr) (W : WX) (r : DTO) : TO := fun σ H Q => ∃ G δ P E, Rel c G H σ δ ∧ r δ P E ∧
  (∀ d δ' G' H', P d δ' → Gof c δ δ' σ G H G' H' → Rel c G' H' σ δ' → Q d H') ∧ ExOk c W G σ E
abbrev DO (X : Cx) (c : Fr) (W : WX) (e : Option Expr) (r : DTO) : Prop := PO X e (liftO c W r)
theorem poI {e : Option Expr} {t t' : TO} (h : PO X e t) (k : ∀ σ H Q, t' σ H Q → t σ H Q) : PO X e t' := ⟨fun pins s σ H Q I q => h.run pins s σ H Q I (k σ H Q q)⟩
def dNone : DTO := fun δ P _ => P none δ
def dPart (r : DTE) : DTO := fun δ P E => r δ (fun d δ1 => match d with
  | .int i => P (some i) δ1
  | _ => False) E
theorem do_none : DO X c W none dNone := poI po_none fun σ H Q ⟨G, δ, P, E, R, h, kk, x⟩ => kk _ _ G H h Go.refl R
theorem do_some (ha : DE X c W a ra) : DO X c W (some a) (dPart ra) := poI (po_some ha) fun σ H Q ⟨G, δ, P, E, R, h, kk, x⟩ => ⟨G, δ, _, E, R, h, fun d δ1 v G1 H1 p L R1 rr => by
    cases rr with
    | int i => exact ⟨i, rfl, kk _ δ1 G1 H1 p L R1⟩
    | _ => exact p.elim, x⟩
def cutD {α : Type} (xs : List α) (lo hi : Option Int) : List α := (xs.drop (HT.sIx xs.length 0 lo)).take (HT.sIx xs.length xs.length hi - HT.sIx xs.length 0 lo)
theorem RepL.cut {K : PySem.W.Frag} {p0 : Addr} {G : Hp} {vs : List V} {ds : List D} (h : RepL K p0 G vs ds) (lo hi : Option Int) : RepL K p0 G (cutV vs lo hi) (cutD ds lo hi) := by
  unfold cutV cutD
  rw [h.len]
  exact RepL.take _ (RepL.drop _ h)
def oSl (d : D) (lo hi : Option Int) (P : D → Prop) : Prop := match d with
  | .lst xs => P (.lst (cutD xs lo hi))
  | .tup xs => P (.tup (cutD xs lo hi))
  | .str s => s.length ≤ 1000000 ∧ P (.str (cutS s lo hi))
  | _ => False
def dSl (ra : DTE) (ro rp : DTO) : DTE := fun δ P E => ra δ (fun d δ1 => ro δ1 (fun lo δ2 => rp δ2 (fun hi δ3 => oSl d lo hi (fun z => P z δ3)) E) E) E
theorem whole_cut {α : Type} {xs : List α} {lo hi : Option Int} (h : HT.sIx xs.length 0 lo = 0 ∧ HT.sIx xs.length xs.length hi = xs.length) : cutD xs lo hi = xs := by
  unfold cutD
  rw [h.1, h.2]
  simp
theorem de_sl {lo hi : Option Expr} {ro rp : DTO} (B : XB X c W N sc k bb) (ha : DE X c W a ra) (hl : DO X c W lo ro) (hh : DO X c W hi rp) : DE X c W (.Subscript a (.Slice lo hi none p2) pos) (dSl ra ro rp) :=
  peI (pe_slice (sl_list.or (sl_tupA.or sl_str)) ha hl hh) fun σ H Q ⟨G, δ, P, E, R, h, kk, x⟩ => ⟨G, δ, _, E, R, h, fun d δ1 v G1 H1 p L R1 rr =>
    ⟨G1, δ1, _, E, R1, p, fun l δ2 G2 H2 p2 L2 R2 => ⟨G2, δ2, _, E, R2, p2, fun u δ3 G3 H3 p3 L3 R3 => by
      have rr3 := rr.mono (L2.g.trans L3.g)
      have LL := (L.trans L2).trans L3
      cases rr3 with
      | lst h1 r1 => exact .inl ⟨_, _, rfl, by rw [B.hK]; exact le_l R3.le (.inl h1), fun p hp => kk _ _ _ _ _ p3 (LL.trans (R3.newG hp)) (R3.laid' hp) (.lst (.inl upd_same) ((r1.cut l u).mono (Le.new (R3.gnone hp))))⟩
      | tup h1 r1 => exact .inr (.inl ⟨_, _, rfl, by rw [B.hK]; exact le_t R3.le h1, fun w => by rw [r1.len] at w; have e := whole_cut w; have p := p3; unfold oSl at p; simp only [e] at p; exact kk _ _ _ _ _ p LL R3 (.tup h1 r1),
          fun _ p hp => kk _ _ _ _ _ p3 (LL.trans (R3.newG hp)) (R3.laid' hp) (.tup (.inl (.inl upd_same)) ((r1.cut l u).mono (Le.new (R3.gnone hp))))⟩)
      | str s => exact .inr (.inr ⟨s, rfl, sz6 p3.1, kk _ _ _ _ _ p3.2 LL R3 (.str _)⟩)
      | _ => exact p3.elim, (x.mono L.g).mono L2.g⟩, x.mono L.g⟩, x⟩
end
end DL

/-! ELM: list comprehensions over data. -/
namespace DL
open PySem L2 PySem.Spec PyProof.Rows PySem.SeqAt
section
variable {X : Cx} {c : Fr} {W : WX} {N : List Str} {sc : Scope} {k : Nat} {bb : Bool} {e a b : Expr} {es : List Expr} {pos p : Pos} {r ra rb : DTE} {rs : DTA} {x : Str}
abbrev Gog (c : Fr) (δ : S) (σ : L2.St) (δ' : S) (σ' : L2.St) (G H G' H' : Hp) : Prop := Go (Spf c.toWd δ σ) (Spf c.toWd δ' σ') G H G' H'
theorem spf_set {c : Wd} {δ : S} {σ : L2.St} {i : Nat} {v : V} {d : D} {a : Addr} (hl : σ.length = δ.sl.length) (h : Spf c { δ with sl := δ.sl.set i (.d d) } (σ.set i (some v)) a) : Spf c δ σ a := by
  refine h.imp id fun ⟨j, s, h1, o, h2⟩ => ?_
  by_cases e : j = i
  · subst e
    by_cases hi : j < δ.sl.length
    · rw [List.getElem?_set_self hi] at h1; cases h1; cases o
    · rw [List.getElem?_eq_none (by simpa using hi)] at h1; cases h1
  · rw [List.getElem?_set_ne (Ne.symm e)] at h1
    refine ⟨j, s, h1, o, ?_⟩
    unfold at_ at h2 ⊢
    rwa [List.getElem?_set_ne (Ne.symm e)] at h2
/-- a comprehension's target: the slots vs alone change -/
def liftGo (c : Fr) (vs : List Nat) (g : DTG) : TG := fun v σ H Q => ∃ G δ d P, Rel c G H σ δ ∧ Rep c.K c.p0 G v d ∧ g d δ P ∧
  (∀ δ' G' H' σ', P δ' → Gog c δ σ δ' σ' G H G' H' → Rel c G' H' σ' δ' → wipe σ' vs = wipe σ vs → Q σ' H')
abbrev DGo (X : Cx) (c : Fr) (vs : List Nat) (tg : Expr) (g : DTG) : Prop := PG X tg (liftGo c vs g)
theorem wipe_set {σ : L2.St} {i : Nat} {o : Option V} : ∀ {vs : List Nat}, i ∈ vs → wipe (σ.set i o) vs = wipe σ vs
  | v :: vs, h => by
    unfold wipe
    by_cases q : i ∈ vs
    · rw [wipe_set q]
    · have e : i = v := by simpa [q] using h
      subst e
      have hw : ∀ {ws : List Nat}, i ∉ ws → wipe (σ.set i o) ws = (wipe σ ws).set i o := by
        intro ws
        induction ws with
        | nil => intro _; rfl
        | cons w ws ih =>
          intro hn
          have n1 : i ≠ w := fun z => hn (by simp [z])
          have n2 : i ∉ ws := fun z => hn (by simp [z])
          unfold wipe
          rw [ih n2, List.set_comm _ _ n1]
      rw [hw q, List.set_set]
theorem wipe_at {σ : L2.St} {i : Nat} {vs : List Nat} (h : i ∉ vs) : at_ (wipe σ vs) i = at_ σ i := by
  unfold at_
  rw [wipe_out h]
theorem wipe_get {σ : L2.St} {j : Nat} : ∀ {vs : List Nat}, (wipe σ vs)[j]? = if j ∈ vs then (σ[j]?).map (fun _ => none) else σ[j]?
  | [] => by simp [wipe]
  | v :: vs => by
    unfold wipe
    rw [List.getElem?_set, wipe_length]
    by_cases e : v = j
    · subst e
      by_cases h : v < σ.length
      · simp [h]
      · simp [h]
    · rw [if_neg e, wipe_get]
      have e' : ¬ j = v := fun z => e z.symm
      simp [e']
theorem wipe_twice {σ : L2.St} {vs : List Nat} : wipe (wipe σ vs) vs = wipe σ vs := List.ext_getElem? fun j => by
  rw [wipe_get, wipe_get]
  by_cases h : j ∈ vs
  · simp only [h, if_true]; cases σ[j]? <;> rfl
  · simp [h]
theorem dgo_name {i : Nat} {x : Str} {vs : List Nat} (B : XB X c W N sc k bb) (hi : N[i]? = some x) (hx : sc.names.lookup x = some .local) (hv : i ∈ vs) : DGo X c vs (.Name x pos) (gN i) :=
  pgI (pg_name (i := i) (by rw [B.hN]; exact B.nd) (by rw [B.hN]; exact hi) (by rw [B.hs]; exact .inl hx) (.inr (by rw [B.hs]; exact hx))) fun v σ H Q ⟨G, δ, d, P, R, r, h, kk⟩ => kk _ G H _ h ((Go.refl (S := Spf c.toWd δ σ)).imp (fun _ s => s) fun a s => .inl (spf_set R.len s)) (R.set' r) (wipe_set hv)
def liftGos (c : Fr) (vs : List Nat) (g : DTGs) : TGs := fun v σ H Q => ∃ G δ d P, Rel c G H σ δ ∧ RepL c.K c.p0 G v d ∧ g d δ P ∧ (∀ δ' G' H' σ', P δ' → Gog c δ σ δ' σ' G H G' H' → Rel c G' H' σ' δ' → wipe σ' vs = wipe σ vs → Q σ' H')
abbrev DGos (X : Cx) (c : Fr) (vs : List Nat) (tg : List Expr) (g : DTGs) : Prop := PGs X tg (liftGos c vs g)
theorem dgos_nil {vs : List Nat} : DGos X c vs [] gZ := pgsI pgs_nil fun v σ H Q ⟨G, δ, d, P, R, r, h, kk⟩ => by
  cases r with
  | nil => exact ⟨rfl, kk _ G H _ h Go.refl R rfl⟩
  | cons a b => exact h.elim
theorem dgos_cons {vs : List Nat} {g : DTG} {h : DTGs} (h1 : DGo X c vs e g) (h2 : DGos X c vs es h) (hs : (assignEach (e :: es) X.env).map (·.2) = assign e X.env :: (assignEach es X.env).map (·.2) := by rfl) : DGos X c vs (e :: es) (gC g h) :=
  pgsI (pgs_cons h1 h2 hs) fun v σ H Q ⟨G, δ, d, P, R, r, h, kk⟩ => by
    cases r with
    | nil => exact h.elim
    | cons a b => exact ⟨_, _, rfl, G, δ, _, _, R, a, h, fun δ' G' H' σ' p L R' e1 => ⟨G', δ', _, P, R', b.mono L.g, p, fun δ2 G2 H2 σ2 p2 L2 R2 e2 => kk δ2 G2 H2 σ2 p2 (L.trans L2) R2 (e2.trans e1)⟩⟩
theorem dgo_tup {vs : List Nat} {n : Nat} {kk : Nat} {g : DTGs} (B : XB X c W N sc k bb) (h : DGos X c vs es g) (hn : (assignEach es X.env).length = n := by rfl) (hst : (assignEach es X.env).findIdx? (·.1) = none := by rfl) : DGo X c vs (.Tuple es kk pos) (gT n g) :=
  pgI (pg_tup B.calm h hn hst) fun v σ H Q ⟨G, δ, d, P, R, r, h, kk⟩ => by
    cases r with
    | tup hq rl => exact ⟨_, _, rfl, by rw [B.hK]; exact le_t R.le hq, by rw [rl.len]; exact h.1, G, δ, _, P, R, rl, h.2, kk⟩
    | _ => exact h.elim
/-- the tests of a clause -/
abbrev DTs (X : Cx) (c : Fr) (W : WX) (ifs : List Expr) (t : DTT) : Prop := PTs X ifs (liftT c W t)
def dYes : DTT := fun δ P _ => P true δ
theorem dts_nil : DTs X c W [] dYes := ⟨fun pins s σ H Q I ⟨G, δ, P, E, R, h, kk, x⟩ => pts_nil.run pins s σ H Q I (kk true δ G H h Go.refl R)⟩
theorem dts_one {t : DTT} (h : DT X c W a t) : DTs X c W [a] t := pts_one h
/-- any frame over the same world -/
theorem pg_ex {ι : Type} {tg : Expr} {g : ι → TG} (h : ∀ i, PG X tg (g i)) : PG X tg (fun v σ H Q => ∃ i, g i v σ H Q) := ⟨fun pins s σ H v u Q I r ⟨i, q⟩ => (h i).run pins s σ H v u Q I r q⟩
theorem pe_ex {ι : Type} {g : ι → TE} (h : ∀ i, PE X e (g i)) : PE X e (fun σ H Q => ∃ i, g i σ H Q) := ⟨fun pins s σ H Q I ⟨i, q⟩ => (h i).run pins s σ H Q I q⟩
theorem pts_ex {ι : Type} {ifs : List Expr} {g : ι → TT} (h : ∀ i, PTs X ifs (g i)) : PTs X ifs (fun σ H Q => ∃ i, g i σ H Q) := ⟨fun pins s σ H Q I ⟨i, q⟩ => (h i).run pins s σ H Q I q⟩
def never : WX := fun _ _ _ _ => False
/-- the slots as a block sees them -/
def cleanSl (vs : List Nat) : Nat → List Sl → List Sl
  | _, [] => []
  | i, s :: r => (if i ∈ vs then .un else match s with
    | .d x => .d x
    | _ => .un) :: cleanSl vs (i + 1) r
theorem clean_len (vs : List Nat) : ∀ (i : Nat) (l : List Sl), (cleanSl vs i l).length = l.length
  | _, [] => rfl
  | i, s :: r => by simp [cleanSl, clean_len vs (i + 1) r]
theorem clean_get {vs : List Nat} : ∀ {i j : Nat} {l : List Sl} {s : Sl}, (cleanSl vs i l)[j]? = some s → s = .un ∨ (i + j ∉ vs ∧ ∃ x, s = .d x ∧ l[j]? = some (.d x))
  | i, j, [], s, h => by simp [cleanSl] at h
  | i, 0, t :: r, s, h => by
    simp only [cleanSl, List.getElem?_cons_zero, Option.some.injEq] at h
    by_cases q : i ∈ vs
    · rw [if_pos q] at h; exact .inl h.symm
    · rw [if_neg q] at h
      cases t <;> first | exact .inl h.symm | exact .inr ⟨by simpa using q, _, h.symm, rfl⟩
  | i, j + 1, t :: r, s, h => by
    simp only [cleanSl, List.getElem?_cons_succ] at h ⊢
    rcases clean_get h with z | ⟨z1, z2⟩
    · exact .inl z
    · exact .inr ⟨by rwa [show i + (j + 1) = i + 1 + j by omega], z2⟩
theorem clean_own {vs : List Nat} {i j : Nat} {l : List Sl} {s : Sl} (h : (cleanSl vs i l)[j]? = some s) : isOwn s = false := by
  rcases clean_get h with rfl | ⟨_, x, rfl, _⟩ <;> rfl
def dCol (g : DTG) (tt : DTT) (te : DTE) (cl : List Sl) (P : List D → Z → Prop) : List D → List D → Z → Prop
  | [], acc, n => P acc n
  | x :: r, acc, n => g x ⟨cl, n⟩ (fun δ2 => tt δ2 (fun b δ3 => if b = true then te δ3 (fun y δ4 => acc.length < 100000 ∧ dCol g tt te cl P r (acc ++ [y]) δ4.z) (fun _ _ => False) else dCol g tt te cl P r acc δ3.z) (fun _ _ => False))
def dLC (ri : DTI) (g : DTG) (tt : DTT) (te : DTE) (vs : List Nat) : DTE := fun δ P E => ri δ (fun items δ1 => dCol g tt te (cleanSl vs 0 δ1.sl) (fun ds n => P (.lst ds) { δ1 with z := n }) items [] δ1.z) E
theorem RepL.snoc {K : PySem.W.Frag} {p0 : Addr} {G : Hp} {v : V} {d : D} (h : Rep K p0 G v d) : ∀ {vs : List V} {ds : List D}, RepL K p0 G vs ds → RepL K p0 G (vs ++ [v]) (ds ++ [d])
  | _, _, .nil => .cons h .nil
  | _, _, .cons a b => .cons a (RepL.snoc h b)
/-- the block's frame, at its start -/
theorem own_none {δ : S} {σ : L2.St} (ho : ∀ (i : Nat) (s : Sl), δ.sl[i]? = some s → isOwn s = false) (a : Addr) : ¬ Own δ σ a := fun ⟨i, s, h1, o, _⟩ => by rw [ho i s h1] at o; cases o
theorem spf_clean {c : Wd} {cl : List Sl} {n : Z} {σ : L2.St} {a : Addr} (ho : ∀ (i : Nat) (s : Sl), cl[i]? = some s → isOwn s = false) (h : Spf c ⟨cl, n⟩ σ a) : Spc c n a := h.elim id fun o => absurd o (own_none (δ := ⟨cl, n⟩) ho a)
theorem rel_block {G H : Hp} {σ : L2.St} {δ : S} {q : Addr} (R : Rel c G H σ δ) (hq : H q = none) (vs : List Nat) (o : HO) : Rel (frOf c.toWd G (upd H q o) δ.z [q]) G (upd H q o) (wipe σ vs) ⟨cleanSl vs 0 δ.sl, δ.z⟩ := by
  refine ⟨(R.laidH hq).st, (Go.refl (S := Spc c.toWd δ.z)).imp (fun _ h => .inl h) (fun a h => .inl (spf_clean (fun i s h => clean_own h) h)), by rw [wipe_length, R.len]; exact (clean_len vs 0 δ.sl).symm, fun i s h => ?_, fun i j a s t _ h1 _ o1 _ _ _ => by rw [clean_own h1] at o1; cases o1⟩
  rcases clean_get h with rfl | ⟨hv, x, rfl, hl⟩
  · trivial
  · obtain ⟨v, h1, h2⟩ := R.sl i _ hl
    exact ⟨v, by rw [wipe_at (by simpa using hv)]; exact h1, h2⟩
/-- the slots of one state, all else of a later one -/
theorem rel_mix {G G' H H' : Hp} {σ σ' : L2.St} {cl : List Sl} {n : Z} {δ' : S} (R : Rel c G H σ ⟨cl, n⟩) (R' : Rel c G' H' σ' δ') (L : Le G G') (ho : ∀ (i : Nat) (s : Sl), cl[i]? = some s → isOwn s = false) : Rel c G' H' σ ⟨cl, δ'.z⟩ := by
  refine ⟨R'.st, R'.go.imp (fun _ h => h) (fun a h => .inl (.inl (spf_clean ho h))), R.len, fun i s h => ?_, fun i j a s t _ h1 _ o1 _ _ _ => by rw [ho i s h1] at o1; cases o1⟩
  have h' := R.sl i s h
  have o := ho i s h
  cases s with
  | un => trivial
  | d x => obtain ⟨v, h1, h2⟩ := h'; exact ⟨v, h1, h2.mono L⟩
  | own _ => cases o
  | ownK _ => cases o
  | self _ _ => cases o
/-- a list that nothing else knows changes -/
theorem StOk.change {c : Wd} {G H : Hp} {z : Z} {q : Addr} {o u : HO} (s : StOk c G H z) (gq : G q = none) (hq : H q = some u) (hu : ∀ a n, u ≠ LamX.CodeO a n) (n : ¬ Spc c z q) : StOk c G (upd H q o) z := by
  refine ⟨fun b u e => ?_, s.pn.mono (Le.refl _) (by rw [upd_ne (fun e => n (.inl e.symm))]), fun p m => ?_, s.sg, fun b cl m => (s.ms b cl m).imp (fun k => k.mono (Le.refl _) (by rw [upd_ne (show b ≠ q from fun e => n (e ▸ .inr (.inl (by rw [m]; simp))))])) id, s.nt⟩
  · rw [upd_ne (show b ≠ q from fun e2 => by rw [e2, gq] at e; cases e)]; exact s.le b u e
  · obtain ⟨ps, h1, h2, h3⟩ := s.tb p m
    refine ⟨ps, by rw [upd_ne (show p.1 ≠ q from fun e => n (e ▸ .inr (.inr (List.mem_map_of_mem m))))]; exact h1, h2, fun pos cv hc => ?_⟩
    obtain ⟨cc, e1, e2⟩ := h3 pos cv hc
    refine ⟨cc, e1, ?_⟩
    rw [upd_ne (fun e => by rw [e, hq] at e2; exact hu _ _ (Option.some.inj e2))]
    exact e2
theorem lst_code {xs : List V} (a : Addr) (n : Str) : HO.lst xs ≠ LamX.CodeO a n := by unfold LamX.CodeO; intro h; cases h
theorem rel_mu {G H : Hp} {σ : L2.St} {cl : List Sl} {n : Z} {q : Addr} {o : HO} {xs : List V} (R : Rel c G H σ ⟨cl, n⟩) (ho : ∀ (i : Nat) (s : Sl), cl[i]? = some s → isOwn s = false) (hm : q ∈ c.mu) (gq : G q = none) (hq : H q = some (.lst xs)) (ns : ¬ Spc c.toWd n q) : Rel c G (upd H q o) σ ⟨cl, n⟩ := by
  refine ⟨R.st.change gq hq lst_code ns, ⟨R.go.g, fun a u e h => ?_, fun a u e => ?_, R.go.nw, fun a h => R.go.ks a h⟩, R.len, fun i s h => ?_, fun i j a s t _ h1 _ o1 _ _ _ => by rw [ho i s h1] at o1; cases o1⟩
  · rw [upd_ne (show a ≠ q from fun z => h (.inr (z ▸ hm)))]; exact R.go.h a u e h
  · by_cases ne : a = q
    · subst ne; exact ⟨_, upd_same⟩
    · rw [upd_ne ne]; exact R.go.ht a u e
  · have h' := R.sl i s h
    have o := ho i s h
    cases s with
    | un => trivial
    | d x => exact h'
    | own _ => cases o
    | ownK _ => cases o
    | self _ _ => cases o
theorem relabel_eq {scope : Scope} {env : Env} {sc : Scope} (h : env.scope = sc) : relabel scope env = relS scope sc := by
  subst h
  rfl
theorem xb_blk {scope : Scope} (B : XB X c W N sc k bb) (c' : Fr) (hc : c'.toWd = c.toWd) (s : Shared) (H : Hp) (C : Addr) (cl : List (Str × Addr)) (fp : List Addr) : XB (X.blk s H scope (compEnvC scope cl C X.env) fp) c' never N (relS scope sc) k true :=
  ⟨by rw [hc]; exact B.hP, by rw [hc]; exact B.hw, by rw [hc]; exact B.hK, by rw [hc]; exact B.hm, by rw [hc]; exact B.hb, B.hN, B.nd, relabel_eq B.hs, B.calm, B.room, B.gd, fun u s' h => by
    obtain ⟨a, B', sI, pins, σ, H, cls, d, e, I, nb, up, sky, na, os, ag, w⟩ := h
    exact w, PassesOwn.never, (fun h => by cases h), (fun h => by cases h), (fun h => by cases h)⟩
/-- [elt for tg in iter if ..] -/
theorem de_lc {elt tg iter : Expr} {ifs : List Expr} {scope : Scope} {own : List (Str × Nat)} {ri : DTI} {g : DTG} {tt : DTT} {te : DTE} (B : XB X c W N sc k bb) (hi : DI X c W tg iter ri) (ok : BlkOk N sc scope own)
    (hb : ∀ (X' : Cx) (c' : Fr), c'.toWd = c.toWd → XB X' c' never N (relS scope sc) k true → DGo X' c' (own.map (·.2)) tg g ∧ DTs X' c' never ifs tt ∧ DE X' c' never elt te)
    (hs : ∀ x, foldedSetIterable iter X.env x = pure x := by intro _; rfl) : DE X c W (.ListComp elt [⟨tg, iter, ifs, 0⟩] scope pos) (dLC ri g tt te (own.map (·.2))) := by
  let ι := { c' : Fr // c'.toWd = c.toWd }
  have hg := fun s H C cl fp => pg_ex (X := X.blk s H scope (compEnvC scope cl C X.env) fp) (ι := ι) fun i => (hb _ i.1 i.2 (xb_blk B i.1 i.2 s H C cl fp)).1
  have ht := fun s H C cl fp => pts_ex (X := X.blk s H scope (compEnvC scope cl C X.env) fp) (ι := ι) fun i => (hb _ i.1 i.2 (xb_blk B i.1 i.2 s H C cl fp)).2.1
  have he := fun s H C cl fp => pe_ex (X := X.blk s H scope (compEnvC scope cl C X.env) fp) (ι := ι) fun i => (hb _ i.1 i.2 (xb_blk B i.1 i.2 s H C cl fp)).2.2
  refine peI (pe_lc B.calm (by rw [B.hN]; exact B.nd) hi (by rw [B.hN, B.hs]; exact ok) hg ht he hs) fun σ H Q ⟨G, δ, P, E, R, h, kk, x⟩ => ?_
  refine ⟨G, δ, _, E, R, h, fun items δ1 J G1 H1 p L R1 j => ?_, x⟩
  intro q hq
  have gq1 : G1 q = none := R1.gnone hq
  have ns1 : ¬ Spc c.toWd δ1.z q := R1.st.pne hq
  let c' : Fr := frOf c.toWd G1 (upd H1 q (.lst [])) δ1.z [q]
  let cl := cleanSl (own.map (·.2)) 0 δ1.sl
  let PP : List D → Z → Prop := fun ds n => P (.lst ds) { δ1 with z := n }
  have ho : ∀ (i : Nat) (s : Sl), cl[i]? = some s → isOwn s = false := fun i s h => clean_own h
  refine ⟨fun i m H' => m = items.length - i ∧ i ≤ items.length ∧ ∃ G2 n vacc acc, Rel c' G2 H' (wipe σ (own.map (·.2))) ⟨cl, n⟩ ∧ Le G1 G2 ∧ H' q = some (.lst vacc) ∧ (G2 q = none ∧ ¬ Spc c.toWd n q) ∧ RepL c.K c.p0 G2 vacc acc ∧ dCol g tt te cl PP (items.drop i) acc n,
    ⟨items.length, rfl, Nat.zero_le _, G1, δ1.z, [], [], rel_block R1 hq _ _, Le.refl _, upd_same, ⟨gq1, ns1⟩, .nil, p⟩, ?_⟩
  rintro i m H' ⟨rfl, hi', G2, n, vacc, acc, R2, L2, hH, ⟨gq2, ns2⟩, hr, p2⟩
  by_cases hlt : i < items.length
  · right
    rw [drop_cons hlt] at p2
    refine ⟨j.go i H' G2 hlt L2 R2.le, fun H'' => i + 1 ≤ items.length ∧ ∃ G2 n vacc acc, Rel c' G2 H'' (wipe σ (own.map (·.2))) ⟨cl, n⟩ ∧ Le G1 G2 ∧ H'' q = some (.lst vacc) ∧ (G2 q = none ∧ ¬ Spc c.toWd n q) ∧ RepL c.K c.p0 G2 vacc acc ∧ dCol g tt te cl PP (items.drop (i + 1)) acc n,
      fun H3 ⟨q1, q2⟩ => ⟨items.length - (i + 1), by omega, rfl, q1, q2⟩, fun x3 H3 y => ?_⟩
    obtain ⟨G3, d, e3, po3, r3⟩ := j.yld i H' x3 H3 G2 n L2 R2.st y hlt
    have R3 : Rel c' G3 H3 (wipe σ (own.map (·.2))) ⟨cl, n⟩ := R2.post po3
    have ed : d = items[i] := by rw [List.getElem?_eq_getElem hlt] at e3; exact (Option.some.inj e3).symm
    subst ed
    -- what the step leaves of the list
    have stay : ∀ {S S' : Addr → Prop} {Ga Ha Gb Hb : Hp}, Go S S' Ga Ha Gb Hb → Ha q = some (.lst vacc) → Ga q = none → ¬ S q → Hb q = some (.lst vacc) ∧ Gb q = none ∧ ¬ S' q := fun {S S' Ga Ha Gb Hb} go h1 h2 h3 => by
      refine ⟨go.h _ _ h1 h3, ?_, fun h => ?_⟩
      · cases e : Gb q with
        | none => rfl
        | some u =>
          rcases go.nw q u e with z | z | z
          · rw [h2] at z; cases z
          · rw [h1] at z; cases z
          · exact absurd z h3
      · rcases go.ks q h with z | z
        · exact h3 z
        · rw [h1] at z; cases z
    obtain ⟨a1, a2, a3⟩ := stay po3.go hH gq2 ns2
    refine ⟨⟨c', rfl⟩, G3, ⟨cl, n⟩, _, _, R3, r3, p2, fun δ4 G4 H4 σ4 p4 L4 R4 ew => ?_⟩
    obtain ⟨b1, b2, b3⟩ := stay L4 a1 a2 (fun z => a3 (spf_clean ho z))
    refine ⟨by rw [ew]; exact wipe_twice, ⟨c', rfl⟩, G4, δ4, _, _, R4, p4, fun b δ5 G5 H5 p5 L5 R5 => ?_, fun er δ' cls dd G' H' z => z.elim⟩
    obtain ⟨d1, d2, d3⟩ := stay L5 b1 b2 b3
    have L35 : Le G2 G5 := (po3.go.g.trans L4.g).trans L5.g
    cases b with
    | false =>
      simp only [Bool.false_eq_true, if_false] at p5 ⊢
      exact ⟨hlt, G5, δ5.z, vacc, acc, rel_mix R2 R5 L35 ho, L2.trans L35, d1, ⟨d2, fun z => d3 (.inl z)⟩, hr.mono L35, p5⟩
    | true =>
      simp only [if_true] at p5 ⊢
      refine ⟨⟨c', rfl⟩, G5, δ5, _, _, R5, p5, fun z δ6 v6 G6 H6 p6 L6 R6 r6 => ?_, fun er δ' cls dd G' H' z => z.elim⟩
      have L26 : Le G2 G6 := L35.trans L6.g
      obtain ⟨e1, e2, e3⟩ := stay L6 d1 d2 d3
      have e3' : ¬ Spc c.toWd δ6.z q := fun z => e3 (.inl z)
      refine ⟨vacc, e1, sl5 (by rw [hr.len]; exact p6.1), hlt, G6, δ6.z, vacc ++ [v6], acc ++ [z], rel_mu (rel_mix R2 R6 L26 ho) ho (by simp [c']) e2 e1 e3', L2.trans L26, upd_same, ⟨e2, e3'⟩, RepL.snoc r6 (hr.mono L26), p6.2⟩
  · left
    have e : items.drop i = [] := List.drop_eq_nil_of_le (by omega)
    rw [e] at p2
    refine ⟨j.stop i H' G2 (by omega) L2 R2.le, ?_⟩
    have LL : Le G2 (upd G2 q (.lst vacc)) := Le.new gq2
    have po : Post c.toWd δ1.z G1 H1 (upd G2 q (.lst vacc)) H' n := by
      refine ⟨R2.st.frozen hH gq2 ns2, ?_⟩
      have g1 : Go (Spc c.toWd δ1.z) (fun b => Spc c.toWd δ1.z b ∨ b = q) G1 H1 G1 (upd H1 q (.lst [])) := (R1.laidH (o := .lst []) hq).go.imp (fun _ h => h) fun b h => h.imp id fun z => .inr (by rw [z]; exact hq)
      have g2 : Go (fun b => Spc c.toWd δ1.z b ∨ b = q) (fun b => Spc c.toWd n b ∨ b = q) G1 (upd H1 q (.lst [])) G2 H' := R2.go.imp (fun b h => h.imp id fun m => List.mem_singleton.mp m) fun b h => h.elim (fun z => .inl (.inl z)) fun z => .inr (.inl (.inr z))
      exact (g1.trans g2).frozen hq ns2
    exact kk (.lst acc) _ (.ref q) _ H' p2 (L.trans (po.spf R1)) (R1.post po) (.lst (.inl upd_same) (hr.mono LL))
end
end DL

/-! ELN: == and != by an own __eq__. -/
namespace PySem.SeqAt
open MeetsSeq
theorem none_declines_own (x C dx : Addr)  :
    Meets (Builtin.«NoneType.__eq__» ⟨[.none, .ref x], []⟩) (fun _ R s => s.heap.get? x = some (PySem.W.instObj C dx) ∧ R (.ok (.ret .notImplemented)) s) :=
  .of_wp fun prog w A R s h => by obtain ⟨hp, g, d, tk, os⟩ := s; obtain ⟨hl, h⟩ := h; wp_walk using AutoSeq1.wpAny_loadPart' hl, wpAny_load hl; exact ⟨_, rfl, h⟩
theorem int_declines_own (x C dx : Addr) (b : Int) (u : Tok) :
    Meets (Builtin.«int.__eq__» ⟨[.int b u, .ref x], []⟩) (fun _ R s => s.heap.get? x = some (PySem.W.instObj C dx) ∧ R (.ok (.ret .notImplemented)) s) :=
  .of_wp fun prog w A R s h => by obtain ⟨hp, g, d, tk, os⟩ := s; obtain ⟨hl, h⟩ := h; wp_walk using AutoSeq1.wpAny_loadPart' hl, wpAny_load hl; exact ⟨_, rfl, h⟩
theorem bool_declines_own (x C dx : Addr) (b : Bool) :
    Meets (Builtin.«int.__eq__» ⟨[.bool b, .ref x], []⟩) (fun _ R s => s.heap.get? x = some (PySem.W.instObj C dx) ∧ R (.ok (.ret .notImplemented)) s) :=
  .of_wp fun prog w A R s h => by obtain ⟨hp, g, d, tk, os⟩ := s; obtain ⟨hl, h⟩ := h; wp_walk using AutoSeq1.wpAny_loadPart' hl, wpAny_load hl; exact ⟨_, rfl, h⟩
theorem str_declines_own (x C dx : Addr) (b : Str) (u : Tok) :
    Meets (Builtin.«str.__eq__» ⟨[.str b u, .ref x], []⟩) (fun _ R s => s.heap.get? x = some (PySem.W.instObj C dx) ∧ R (.ok (.ret .notImplemented)) s) :=
  .of_wp fun prog w A R s h => by obtain ⟨hp, g, d, tk, os⟩ := s; obtain ⟨hl, h⟩ := h; wp_walk using AutoSeq1.wpAny_loadPart' hl, wpAny_load hl; exact ⟨_, rfl, h⟩
theorem list_declines_own {K : PySem.W.Frag} {P : Program} {w : World} (x C dx l : Addr) (hs : PySem.W.mroIn K C (.type "list") = some false) :
    MeetsIn P w (Builtin.«list.__eq__» ⟨[.ref l, .ref x], []⟩) (fun _ R s => K.In s.heap ∧ s.heap.get? x = some (PySem.W.instObj C dx) ∧ R (.ok (.ret .notImplemented)) s) := by
  intro A R s h
  obtain ⟨X, hl, h⟩ := h
  have hx := PySem.W.looks_mroIn (M := model P w) X hs
  obtain ⟨hp, g, d, tk, os⟩ := s
  wp_walk using AutoSeq1.wpAny_loadPart' hl, wpAny_load hl
  refine hx.here ?_
  wp_walk
  exact h
theorem tuple_declines_own {K : PySem.W.Frag} {P : Program} {w : World} (x C dx l : Addr) (hs : PySem.W.mroIn K C (.type "tuple") = some false) :
    MeetsIn P w (Builtin.«tuple.__eq__» ⟨[.ref l, .ref x], []⟩) (fun _ R s => K.In s.heap ∧ s.heap.get? x = some (PySem.W.instObj C dx) ∧ R (.ok (.ret .notImplemented)) s) := by
  intro A R s h
  obtain ⟨X, hl, h⟩ := h
  have hx := PySem.W.looks_mroIn (M := model P w) X hs
  obtain ⟨hp, g, d, tk, os⟩ := s
  wp_walk using AutoSeq1.wpAny_loadPart' hl, wpAny_load hl
  refine hx.here ?_
  wp_walk
  exact h
theorem dict_declines_own {K : PySem.W.Frag} {P : Program} {w : World} (x C dx a : Addr) (es : Array DictEntry) (ep : Nat) (dd : Option Addr) (sl : Array (Option Value)) (hs : PySem.W.mroIn K C (.type "dict") = some false) :
    MeetsIn P w (Builtin.«dict.__eq__» ⟨[.ref a, .ref x], []⟩) (fun _ R s => K.In s.heap ∧ s.heap.get? x = some (PySem.W.instObj C dx) ∧ s.heap.get? a = some { cls := .type "dict", dict := dd, data := .dict es ep, slots := sl } ∧ R (.ok (.ret .notImplemented)) s) := by
  intro A R s h
  obtain ⟨X, hl, ha, h⟩ := h
  have hx := PySem.W.looks_mroIn (M := model P w) X hs
  obtain ⟨hp, g, d, tk, os⟩ := s
  have f2 := F.sub_dict_dict
  wp_walk using AutoSeq1.wpAny_loadPart' hl, wpAny_load hl, AutoSeq1.wpAny_loadPart' ha, wpAny_load ha
  refine hx.here ?_
  wp_walk
  exact h
end PySem.SeqAt

namespace DL
open PySem L2 PySem.Spec PyProof.Rows PySem.SeqAt
theorem tryOwn {M : Model} {A : Around} {E : Value → Shared → Prop} {st : Shared} {K : PySem.W.Frag} {x C f : Addr} {ox : Obj} {od : Option Obj} {name : Str} {b : Value} {Q : Value → Shared → Prop} (X : K.In st.heap) (I : PySem.W.InstAt st.heap x ox C od) (hs : PySem.W.findIn K (.ref C) name = some (some (.ref f))) (hf : PySem.W.isFn K (.ref f) = true)
    (h : wpAny M A (call (.ref f) [.ref x, b]) (PySem.W.CmpBack Q) E st) : wpAny M A (tryCompare (.ref x) name b) (fun r s' => ∃ v, r = some v ∧ Q v s') E st := by
  unfold tryCompare
  refine wpAny_bind (PySem.W.ifBound_K X I hs hf (wpAny_mono h (fun v s' hv => ?_) fun _ _ e => e))
  cases v <;> first | exact hv.elim | exact wpAny_pure ⟨_, rfl, hv⟩
/-- a rich comparison whose left side answers -/
theorem rc_left {M : Model} {A : Around} {E : Value → Shared → Prop} {st : Shared} {K : PySem.W.Frag} {x C : Addr} {ox : Obj} {od : Option Obj} {op : CmpOp} {b tb : Value} {Q : Value → Shared → Prop} (hu : A.units < cLine) (X : K.In st.heap) (I : PySem.W.InstAt st.heap x ox C od)
    (hb : PySem.W.Looks M st.heap (typeOf b) tb) (hn : PySem.W.notFirst K C tb = true) (one : wpAny M A (tryCompare (.ref x) (cmpInfo op).2.1 b) (fun r s' => ∃ v, r = some v ∧ Q v s') E st) : wpAny M A (richCompare op (.ref x) b) Q E st := by
  unfold richCompare
  simp only [oneThing_ref]
  refine wpAny_holding (wpAny_bind (wpAny_cRoomFor hu ?_))
  refine wpAny_bind (I.type.here (wpAny_bind (hb.here ?_)))
  split
  · rename_i q
    have e : PySem.W.subIn K tb (.ref C) = some false := by
      rcases Bool.or_eq_true_iff.mp hn with e | e
      · rw [beq_iff_eq.mp e] at q; simp at q
      · exact beq_iff_eq.mp e
    refine wpAny_bind ((PySem.W.looks_subIn X e).here ?_)
    simp only [Bool.false_eq_true, if_false]
    refine wpAny_bind (wpAny_mono one (fun r s' z => ?_) fun _ _ e => e)
    obtain ⟨v, rfl, hq⟩ := z
    exact wpAny_pure hq
  · refine wpAny_bind (wpAny_pure ?_)
    simp only [Bool.false_eq_true, if_false]
    refine wpAny_bind (wpAny_mono one (fun r s' z => ?_) fun _ _ e => e)
    obtain ⟨v, rfl, hq⟩ := z
    exact wpAny_pure hq
/-- a rich comparison: the left side, of a built-in type, declines, the right one's own def answers -/
theorem rc_right {M : Model} {A : Around} {E : Value → Shared → Prop} {st : Shared} {K : PySem.W.Frag} {x C : Addr} {ox : Obj} {od : Option Obj} {a : Value} {T : String} {Q : Value → Shared → Prop} (hu : A.units < cLine) (X : K.In st.heap) (I : PySem.W.InstAt st.heap x ox C od)
    (ha : PySem.W.Looks M st.heap (typeOf a) (.type T)) (hn : PySem.W.mroIn K C (.type T) = some false) (h1 : oneThing? .Eq a (.ref x) = none)
    (one : wpAny M A (tryCompare a "__eq__" (.ref x)) (fun r s' => r = none ∧ s' = st) E st) (two : wpAny M A (tryCompare (.ref x) "__eq__" a) (fun r s' => ∃ v, r = some v ∧ Q v s') E st) : wpAny M A (richCompare .Eq a (.ref x)) Q E st := by
  simp only [richCompare, cmpInfo_Eq, h1]
  refine wpAny_holding (wpAny_bind (wpAny_cRoomFor hu ?_))
  refine wpAny_bind (ha.here (wpAny_bind (I.type.here ?_)))
  split
  · refine wpAny_bind ((PySem.W.looks_mroIn X hn).here ?_)
    simp only [Bool.false_eq_true, if_false, Bool.not_false, if_true]
    refine wpAny_bind (m := tryCompare a _ (.ref x)) (wpAny_mono one (fun r s1 z => ?_) fun _ _ e => e)
    obtain ⟨z1, z2⟩ := z
    subst z1
    subst z2
    refine wpAny_bind (m := tryCompare (.ref x) _ a) (wpAny_mono two (fun r s2 z => ?_) fun _ _ e => e)
    obtain ⟨v, rfl, hq⟩ := z
    exact wpAny_pure hq
  · rename_i q
    exact absurd (by simp) q
/-- object.__ne__ of an instance with an own __eq__ -/
theorem ne_entry {M : Model} {A : Around} {E : Value → Shared → Prop} {st : Shared} {K : PySem.W.Frag} {x C f : Addr} {ox : Obj} {od : Option Obj} {b : Value} {Q : Fin → Shared → Prop} (X : K.In st.heap) (I : PySem.W.InstAt st.heap x ox C od) (hs : PySem.W.findIn K (.ref C) "__eq__" = some (some (.ref f))) (hf : PySem.W.isFn K (.ref f) = true) (hu : A.units < cLine)
    (hcall : wpAny M A (call (.ref f) [.ref x, b]) (fun v s' => ∃ k, v = .bool k ∧ Q (.done (.ret (.bool (!k)))) s') E st) : wpAny M A (Builtin.«object.__ne__» ⟨[.ref x, b], []⟩) Q E st := by
  unfold Builtin.«object.__ne__»
  repeat (first
    | with_reducible refine wpAny_cRoomFor hu ?_
    | (refine wpAny_bind (m := callSpecialIfBound? (.ref x) (Str.ofString "__eq__") [b])
        (PySem.W.ifBound_K X I hs hf (wpAny_mono hcall (fun r s' hr => by
          obtain ⟨k, rfl, hq⟩ := hr
          repeat (first | exact hq | exact wpAny_pure hq | exact wpAny_truthy_bool hq | (refine wpAny_bind (m := truthy (.bool _)) (wpAny_truthy_bool ?_)) | wp_step)) fun _ _ e => e)))
    | wp_step)
theorem ifBound_ne {M : Model} {A : Around} {E : Value → Shared → Prop} {st : Shared} {K : PySem.W.Frag} {x C : Addr} {ox : Obj} {od : Option Obj} {args : List Value} {Q : Option Value → Shared → Prop} (X : K.In st.heap) (I : PySem.W.InstAt st.heap x ox C od) (hs : PySem.W.findIn K (.ref C) "__ne__" = some (some (.builtin "object.__ne__")))
    (h : wpAny M A (call (.builtin "object.__ne__") (.ref x :: args)) (fun v => Q (some v)) E st) : wpAny M A (callSpecialIfBound? (.ref x) "__ne__" args) Q E st := by
  simp only [callSpecialIfBound?, bindSpecialIfBound?]
  refine wpAny_holding (wpAny_bind (wpAny_bind (wpAny_bind (I.type.here ((PySem.W.looks_findIn X hs).here ?_)))))
  refine wpAny_bind (wpAny_askSetting (wpAny_ite ?_))
  have fin : wpAny M A (call (.builtin "object.__ne__") ([.ref x] ++ args) >>= fun v => pure (some v)) Q E st := wpAny_bind (wpAny_mono h (fun v s' h' => wpAny_pure h') fun _ _ h' => h')
  split
  · exact wpAny_bind (wpAny_of_eq (F.cmp_object.ne.bind _) (wpAny_pure (by exact fin)))
  · exact wpAny_tryCatch (wpAny_bind (wpAny_of_eq (F.cmp_object.ne.bind _) (wpAny_pure (by exact fin))))
theorem try_ne {P : Program} {w : World} {A : Around} {E : Value → Shared → Prop} {st : Shared} {K : PySem.W.Frag} {x C f : Addr} {ox : Obj} {od : Option Obj} {b : Value} {Q : Value → Shared → Prop} (X : K.In st.heap) (I : PySem.W.InstAt st.heap x ox C od) (hs : PySem.W.findIn K (.ref C) "__eq__" = some (some (.ref f))) (hf : PySem.W.isFn K (.ref f) = true) (hn : PySem.W.findIn K (.ref C) "__ne__" = some (some (.builtin "object.__ne__"))) (hm : PySem.W.mroIn K C (.type "object") = some true) (hu : A.units + 1 < cLine)
    (hcall : wpAny (model P w) A.in1 (call (.ref f) [.ref x, b]) (fun v s' => ∃ k, v = .bool k ∧ Q (.bool (!k)) s') E st) : wpAny (model P w) A (tryCompare (.ref x) "__ne__" b) (fun r s' => ∃ v, r = some v ∧ Q v s') E st := by
  unfold tryCompare
  refine wpAny_bind (ifBound_ne X I hn (wpAny_call (codeAny_call_builtin F.cmp_object.ne.plain F.cmpEntry_ne (PySem.W.check_slot F.cmpKind_ne F.cmpSplit_ne (I.type.andThen (PySem.W.looks_mroIn X hm)) (F.cmpArgs_ne _ _)
    (ne_entry (A := A.in1) X I hs hf hu (wpAny_mono hcall (fun v s' hv => ?_) fun _ _ e => e))))))
  obtain ⟨k, rfl, hq⟩ := hv
  exact ⟨k, rfl, wpAny_pure ⟨_, rfl, hq⟩⟩
end DL

/-! ELO: operators that may change the state and raise; own comparisons. -/
namespace DL
open PySem L2 PySem.Spec PyProof.Rows PySem.SeqAt
abbrev DOpE := D → D → Z → (D → Z → Prop) → (Er → Z → Prop) → Prop
abbrev DUnE := D → Z → (D → Z → Prop) → (Er → Z → Prop) → Prop
/-- how a step's end is told -/
def KP (c : Fr) (G H : Hp) (σ : L2.St) (δ : S) (P : D → Z → Prop) (Q : VK) : Prop := ∀ d z' w G' H', P d z' → Gof c δ { δ with z := z' } σ G H G' H' → Rel c G' H' σ { δ with z := z' } → Rep c.K c.p0 G' w d → Q w H'
def KE (c : Fr) (W : WX) (G : Hp) (σ : L2.St) (δ : S) (E : Er → Z → Prop) : Prop := ∀ er z' cls dd G' H', E er z' → Le G G' → Rel c G' H' σ { δ with z := z' } → ErRep c.toWd G' cls dd er → W cls dd σ H'
def OpE (X : Cx) (c : Fr) (W : WX) (f : Value → Value → Sem Value) (o : DOpE) : Prop :=
  ∀ (pins : List (Addr × Obj)) (st : Shared) (σ : L2.St) (H : Hp) (u v : V) (x y : Value) (dx dy : D) (G : Hp) (δ : S) (P : D → Z → Prop) (E : Er → Z → Prop) (Q : VK),
    Inv X pins σ H st → RelV u x → RelV v y → Rel c G H σ δ → Rep c.K c.p0 G u dx → Rep c.K c.p0 G v dy → o dx dy δ.z P E → KP c G H σ δ P Q → KE c W G σ δ E →
    wpAny (model X.prog X.w) X.A (f x y) (EP X pins σ Q) X.xe st
def UnE (X : Cx) (c : Fr) (W : WX) (f : Value → Sem Value) (o : DUnE) : Prop :=
  ∀ (pins : List (Addr × Obj)) (st : Shared) (σ : L2.St) (H : Hp) (u : V) (x : Value) (dx : D) (G : Hp) (δ : S) (P : D → Z → Prop) (E : Er → Z → Prop) (Q : VK),
    Inv X pins σ H st → RelV u x → Rel c G H σ δ → Rep c.K c.p0 G u dx → o dx δ.z P E → KP c G H σ δ P Q → KE c W G σ δ E →
    wpAny (model X.prog X.w) X.A (f x) (EP X pins σ Q) X.xe st
section
variable {X : Cx} {c : Fr} {W : WX} {N : List Str} {sc : Scope} {k j : Nat} {bb : Bool} {e a b : Expr} {es : List Expr} {pos p : Pos} {r ra rb : DTE} {rs : DTA} {x : Str} {C : Addr} {s : DSp2} {f : Addr}
theorem OpE.or {g : Value → Value → Sem Value} {o o' : DOpE} (h : OpE X c W g o) (h' : OpE X c W g o') : OpE X c W g (fun x y z P E => o x y z P E ∨ o' x y z P E) :=
  fun pins st σ H u v x y dx dy G δ P E Q I r1 r2 R p1 p2 q kp ke => q.elim (fun q => h pins st σ H u v x y dx dy G δ P E Q I r1 r2 R p1 p2 q kp ke) (fun q => h' pins st σ H u v x y dx dy G δ P E Q I r1 r2 R p1 p2 q kp ke)
theorem OpE.imp {g : Value → Value → Sem Value} {o o' : DOpE} (h : OpE X c W g o) (l : ∀ x y z P E, o' x y z P E → o x y z P E) : OpE X c W g o' :=
  fun pins st σ H u v x y dx dy G δ P E Q I r1 r2 R p1 p2 q kp ke => h pins st σ H u v x y dx dy G δ P E Q I r1 r2 R p1 p2 (l _ _ _ _ _ q) kp ke
theorem UnE.or {g : Value → Sem Value} {o o' : DUnE} (h : UnE X c W g o) (h' : UnE X c W g o') : UnE X c W g (fun x z P E => o x z P E ∨ o' x z P E) :=
  fun pins st σ H u x dx G δ P E Q I r1 R p1 q kp ke => q.elim (fun q => h pins st σ H u x dx G δ P E Q I r1 R p1 q kp ke) (fun q => h' pins st σ H u x dx G δ P E Q I r1 R p1 q kp ke)
theorem UnE.imp {g : Value → Sem Value} {o o' : DUnE} (h : UnE X c W g o) (l : ∀ x z P E, o' x z P E → o x z P E) : UnE X c W g o' :=
  fun pins st σ H u x dx G δ P E Q I r1 R p1 q kp ke => h pins st σ H u x dx G δ P E Q I r1 R p1 (l _ _ _ _ q) kp ke
/-- an operator of plain data -/
theorem opE_of {g : Value → Value → Sem Value} {o : DOp} (h : OpD X c g o) : OpE X c W g (fun x y z P _ => o x y (fun d => P d z)) := by
  obtain ⟨r, h1, h2⟩ := h.ex
  exact fun pins st σ H u v x y dx dy G δ P E Q I r1 r2 R p1 p2 q kp ke => h1 pins st σ H u v x y Q I r1 r2 (h2 G H σ δ u v dx dy (fun d => P d δ.z) Q R p1 p2 q fun d w G' H' p L R' rr => kp d δ.z w G' H' p L R' rr)
def dBinE (o : DOpE) (ra rb : DTE) : DTE := fun δ P E => ra δ (fun x δ1 => rb δ1 (fun y δ2 => o x y δ2.z (fun d z => P d { δ2 with z := z }) (fun er z => E er { δ2 with z := z })) E) E
def RBin (X : Cx) (c : Fr) (W : WX) (σ : L2.St) (o : DOpE) (Q : VK) (u v : V) (H : Hp) : Prop := ∃ G δ dx dy P E, Rel c G H σ δ ∧ Rep c.K c.p0 G u dx ∧ Rep c.K c.p0 G v dy ∧ o dx dy δ.z P E ∧ KP c G H σ δ P Q ∧ KE c W G σ δ E
theorem dbinE_in {o : DOpE} {σ : L2.St} {H : Hp} {Q : VK} : liftE c W (dBinE o ra rb) σ H Q → liftE c W ra σ H fun u H1 => liftE c W rb σ H1 fun v H2 => RBin X c W σ o Q u v H2 := fun ⟨G, δ, P, E, R, h, kk, xx⟩ =>
  ⟨G, δ, _, E, R, h, fun dx δ1 u G1 H1 p1 L1 R1 r1 => ⟨G1, δ1, _, E, R1, p1, fun dy δ2 v G2 H2 p2 L2 R2 r2 => ⟨G2, δ2, dx, dy, _, _, R2, r1.mono L2.g, r2, p2,
    fun d z' w G' H' p L R' rr => kk d _ w G' H' p ((L1.trans L2).trans L) R' rr, fun er z' cls dd G' H' p L R' q => xx er _ cls dd G' H' p ((L1.trans L2).g.trans L) R' q⟩, xx.mono L1.g⟩, xx⟩
theorem de_binE {op : Operator} {o : DOpE} (ho : OpE X c W (binaryOp op) o) (ha : DE X c W a ra) (hb : DE X c W b rb) : DE X c W (.BinOp a op b pos) (dBinE o ra rb) :=
  ⟨fun pins st σ H Q I h => wpAny_BinOp (binT ha hb I (dbinE_in (X := X) h) fun v u s2 x y H2 I2 rx ry ⟨G, δ, dx, dy, P, E, R, p1, p2, q, kp, ke⟩ => ho pins s2 σ H2 x y v u dx dy G δ P E Q I2 rx ry R p1 p2 q kp ke)⟩
theorem de_cmpE {op : CmpOp} {o : DOpE} (ho : OpE X c W (compareOp op) o) (ha : DE X c W a ra) (hb : DE X c W b rb) (hm : behindInMarks op b = false) : DE X c W (.Compare a [op] [b] pos) (dBinE o ra rb) :=
  ⟨fun pins st σ H Q I h => wpAny_Compare1 (binT ha hb I (dbinE_in (X := X) h) fun v u s2 x y H2 I2 rx ry ⟨G, δ, dx, dy, P, E, R, p1, p2, q, kp, ke⟩ => ho pins s2 σ H2 x y v u dx dy G δ P E Q I2 rx ry R p1 p2 q kp ke) hm⟩
theorem dt_cmpE {op : CmpOp} {o : DOpE} (ho : OpE X c W (compareOp op) o) (ha : DE X c W a ra) (hb : DE X c W b rb) (hm : behindInMarks op b = false) : DT X c W (.Compare a [op] [b] pos) (dTB (dBinE o ra rb)) := by
  refine ⟨fun pins st σ H Q I ⟨G, δ, P, E, R, h, kk, xx⟩ => ?_⟩
  have h' := dbinE_in (X := X) (Q := fun v H' => ∃ b, v = V.bl b ∧ Q b H') ⟨G, δ, _, E, R, h, fun d δ' v G' H' p L R' r => dtb_ok kk p L R' r, xx⟩
  refine wpAny_isTrue_Compare1 (thn (ha.run pins st σ H _ I h') fun v s1 ⟨x, H1, I1, r1, q1⟩ => thn (hb.run pins s1 σ H1 _ I1 q1) fun u s2 ⟨y, H2, I2, r2, G2, δ2, dx, dy, P2, E2, R2, p1, p2, q, kp, ke⟩ =>
    thn (ho pins s2 σ H2 x y v u dx dy G2 δ2 P2 E2 _ I2 r1 r2 R2 p1 p2 q kp ke) fun cc s3 ⟨z, H3, I3, r3, kb, eb, q3⟩ => ?_) hm
  subst eb
  cases r3
  exact wpAny_truthy_bool ⟨H3, I3, q3⟩
def dUnE (o : DUnE) (ra : DTE) : DTE := fun δ P E => ra δ (fun x δ1 => o x δ1.z (fun d z => P d { δ1 with z := z }) (fun er z => E er { δ1 with z := z })) E
theorem de_unE {op : UnaryOp} {o : DUnE} (ho : UnE X c W (unaryOp op) o) (ha : DE X c W a ra) : DE X c W (.UnaryOp op a pos) (dUnE o ra) :=
  ⟨fun pins st σ H Q I ⟨G, δ, P, E, R, h, kk, xx⟩ => UnaryOp_ (thn (ha.run pins st σ H (fun u H1 => ∃ G1 δ1 dx P1 E1, Rel c G1 H1 σ δ1 ∧ Rep c.K c.p0 G1 u dx ∧ o dx δ1.z P1 E1 ∧ KP c G1 H1 σ δ1 P1 Q ∧ KE c W G1 σ δ1 E1) I
    ⟨G, δ, _, E, R, h, fun dx δ1 u G1 H1 p1 L1 R1 r1 => ⟨G1, δ1, dx, _, _, R1, r1, p1, fun d z' w G' H' p L R' rr => kk d _ w G' H' p (L1.trans L) R' rr, fun er z' cls dd G' H' p L R' q => xx er _ cls dd G' H' p (L1.g.trans L) R' q⟩, xx⟩)
    fun v s1 ⟨u, H1, I1, r1, G1, δ1, dx, P1, E1, R1, p1, q, kp, ke⟩ => ho pins s1 σ H1 u v dx G1 δ1 P1 E1 Q I1 r1 R1 p1 q kp ke)⟩

/-! ### a def of a class, run from within an operator -/
theorem inv_atA {pins : List (Addr × Obj)} {σ : L2.St} {H : Hp} {st : Shared} (I : Inv X pins σ H st) {A : Around} (h1 : A.frames = X.A.frames) (h2 : A.handled = none) : Inv { X with A := A } pins σ H st :=
  ⟨⟨I.ok.mod, I.ok.kind, I.ok.glob, I.ok.blt, I.ok.above, I.ok.inj, I.ok.has, I.ok.cab, fun _ => h2, h1.trans I.ok.frames, I.ok.stk, I.ok.exf, I.ok.bs, I.ok.bsz, I.ok.noex, I.ok.exfs, I.ok.funs, I.ok.frf⟩,
    I.os, I.bare, I.base, I.loc, I.cell, I.free, I.freeC, I.pin, I.hok, I.len⟩
theorem inv_backA {pins : List (Addr × Obj)} {σ : L2.St} {H : Hp} {st : Shared} {A : Around} (ok : X.Ok) (I : Inv { X with A := A } pins σ H st) : Inv X pins σ H st :=
  ⟨ok, I.os, I.bare, I.base, I.loc, I.cell, I.free, I.freeC, I.pin, I.hok, I.len⟩
theorem takesA (tk : Takes X W) (ok : X.Ok) {A : Around} : Takes { X with A := A } W := fun u s' ⟨a, B, sI, pins, σ, H, cls, d, e, I, nb, up, sky, na, os, ag, w⟩ => tk u s' ⟨a, B, sI, pins, σ, H, cls, d, e, inv_backA ok I, nb, up, sky, na, os, ag, w⟩
theorem runD {fv : Value} {ks : List Str} {A : Around} (B : XB X c W N sc k bb) (hc : Callee c.toWd fv ks j s) (hr : Room j A) (hg : A.guards = some []) (hf : A.frames = X.A.frames) {pins : List (Addr × Obj)} {st : Shared} {σ : L2.St} {H G : Hp} {δ : S} {us ws : List Value} {vs zs : List V} {ds es : List D} {P : D → Z → Prop} {E : Er → Z → Prop} {Q : VK}
    (I : Inv X pins σ H st) (rv : Vals vs us) (rz : Vals zs ws) (hl : zs.length = ks.length) (R : Rel c G H σ δ) (rd : RepL c.K c.p0 G vs ds) (re : RepL c.K c.p0 G zs es) (h : s ds es δ.z P E) (kp : KP c G H σ δ P Q) (ke : KE c W G σ δ E) :
    wpAny (model X.prog X.w) A (call fv us (ks.zip ws)) (EP X pins σ Q) X.xe st := by
  have ok := I.ok
  refine wpAny_mono (hc.run { X with A := A } W pins st σ H us ws vs zs Q B.hP B.hw B.hK B.hm B.hb hr hg (takesA B.tk ok) (inv_atA I hf hr.hd) rv rz hl ⟨G, ds, es, δ.z, P, E, R.st, rd, re, h, fun d z' v G' H' p po rr => kp d z' v G' H' p (po.spf R) (R.post po) rr, fun er z' cls dd G' H' p po rr => ke er z' cls dd G' H' p po.go.g (R.post po) rr⟩) (fun u s' ⟨v, H', I', r', q⟩ => ⟨v, H', inv_backA ok I', r', q⟩) fun _ _ z => z

/-! ### own comparisons -/
/-- a class's own def for nm -/
structure OwnD (c : Wd) (C : Addr) (nm : Str) (k : Nat) (s : DSp2) : Prop where
  ex : ∃ f : Addr, Callee c (.ref f) [] k s ∧ PySem.W.findIn c.K (.ref C) nm = some (some (.ref f)) ∧ PySem.W.isFn c.K (.ref f) = true
theorem OwnD.mono {c : Wd} {C : Addr} {nm : Str} {j k : Nat} {s : DSp2} (h : OwnD c C nm j s) (l : j ≤ k) : OwnD c C nm k s := by
  obtain ⟨f, F, h1, h2⟩ := h.ex
  exact ⟨f, F.mono l, h1, h2⟩
def notF (w : Wd) (C : Addr) (y : D) : Prop := tyD w y (fun t => PySem.W.notFirst w.K C t = true)
theorem units1 (B : XB X c W N sc k bb) : X.A.units + 150 < cLine := by have := B.room.un; omega
theorem looksTy (B : XB X c W N sc k bb) {pins : List (Addr × Obj)} {st : Shared} {σ : L2.St} {G H : Hp} (I : Inv X pins σ H st) (le : Le G H) {y : V} {v : Value} {d : D} (ry : Rep c.K c.p0 G y d) (rv : RelV y v) {P : Value → Prop} (h : tyD c.toWd d P) :
    ∃ t, P t ∧ PySem.W.Looks (model X.prog X.w) st.heap (typeOf v) t := by
  obtain ⟨t, ht, hp⟩ := ty_of le B.hK ry h
  obtain ⟨Z, kx, hz, _⟩ := kit_of I rv ht
  exact ⟨t, hp, kx.ty _ _ I.kIn hz⟩
theorem rep_ins {K : PySem.W.Frag} {p0 : Addr} {G : Hp} {x : V} {C : Addr} {fs : List (Str × D)} (h : Rep K p0 G x (.ins C fs)) : ∃ xa dx vs, x = .ref xa ∧ G xa = some (.ins C dx vs) := by
  cases h with
  | ins h1 r1 => exact ⟨_, _, _, rfl, h1⟩
theorem insAt {pins : List (Addr × Obj)} {st : Shared} {σ : L2.St} {H : Hp} (I : Inv X pins σ H st) {xa dx : Addr} {vs : List (Str × V)} (h : H xa = some (.ins C dx vs)) : ∃ od, PySem.W.InstAt st.heap xa (PySem.W.instObj C dx) C (some od) := by
  obtain ⟨mA, O, _⟩ := ins_get I.hok h
  obtain ⟨od, J, _⟩ := O.look
  exact ⟨od, J⟩
theorem noNI {pins : List (Addr × Obj)} {σ : L2.St} {Q : VK} {Q' : Value → Shared → Prop} {v : Value} {s' : Shared} (h : EP X pins σ Q v s') (q : EP X pins σ Q v s' → Q' v s') : PySem.W.CmpBack Q' v s' := by
  have hv := h
  obtain ⟨w, H', I', r, _⟩ := h
  cases v <;> first | exact q hv | (exfalso; revert r; cases w <;> intro r <;> first | (obtain ⟨_, r⟩ := r; cases r) | cases r)
/-- x op y, x an instance of C -/
def oLft (w : Wd) (C : Addr) (s : DSp2) : DOpE := fun x y z P E => match x with
  | .ins C' fs => C' = C ∧ notF w C y ∧ s [.ins C' fs, y] [] z P E
  | _ => False
theorem cmp_left {op : CmpOp} {g : Value → Value → Sem Value} (hgo : ∀ u v, g u v = richCompare op u v) (B : XB X c W N sc k bb) (hE : OwnD c.toWd C (cmpInfo op).2.1 j s) (hj : j ≤ k) : OpE X c W g (oLft c.toWd C s) := by
  intro pins st σ H u v x y dx dy G δ P E Q I r1 r2 R p1 p2 q kp ke
  cases dx with
  | ins C' fs =>
    obtain ⟨rfl, nf, hs⟩ := q
    obtain ⟨xa, dd, vs, rfl, hG⟩ := rep_ins p1
    cases (show x = Value.ref xa from r1)
    obtain ⟨od, J⟩ := insAt I (R.le _ _ hG)
    obtain ⟨t, hn, ht⟩ := looksTy B I R.le p2 r2 nf
    obtain ⟨f, F, h1, h2⟩ := hE.ex
    rw [hgo]
    exact rc_left (op := op) (by have := units1 B; omega) I.kIn J ht (by rw [B.hK]; exact hn) (tryOwn I.kIn J (by rw [B.hK]; exact h1) (by rw [B.hK]; exact h2)
      (wpAny_mono (runD (ks := []) (ws := []) (zs := []) (vs := [.ref xa, v]) (us := [.ref xa, y]) B F (B.room.mono hj) B.gd rfl I (.cons rfl (.cons r2 .nil)) .nil rfl R (.cons p1 (.cons p2 .nil)) .nil hs kp ke) (fun _ _ z => noNI z id) fun _ _ z => z))
  | _ => exact q.elim
theorem eq_left (B : XB X c W N sc k bb) (hE : OwnD c.toWd C "__eq__" j s) (hj : j ≤ k) : OpE X c W (compareOp .Eq) (oLft c.toWd C s) := cmp_left (fun _ _ => rfl) B hE hj
theorem lt_left (B : XB X c W N sc k bb) (hE : OwnD c.toWd C "__lt__" j s) (hj : j ≤ k) : OpE X c W (compareOp .Lt) (oLft c.toWd C s) := cmp_left (fun _ _ => rfl) B hE hj
theorem le_left (B : XB X c W N sc k bb) (hE : OwnD c.toWd C "__le__" j s) (hj : j ≤ k) : OpE X c W (compareOp .LtE) (oLft c.toWd C s) := cmp_left (fun _ _ => rfl) B hE hj
theorem gt_left (B : XB X c W N sc k bb) (hE : OwnD c.toWd C "__gt__" j s) (hj : j ≤ k) : OpE X c W (compareOp .Gt) (oLft c.toWd C s) := cmp_left (fun _ _ => rfl) B hE hj
theorem ge_left (B : XB X c W N sc k bb) (hE : OwnD c.toWd C "__ge__" j s) (hj : j ≤ k) : OpE X c W (compareOp .GtE) (oLft c.toWd C s) := cmp_left (fun _ _ => rfl) B hE hj
/-- x != y by x's own __eq__ -/
structure NeC (c : Wd) (C : Addr) : Prop where
  ne : PySem.W.findIn c.K (.ref C) "__ne__" = some (some (.builtin "object.__ne__"))
  ob : PySem.W.mroIn c.K C (.type "object") = some true
def oNeL (w : Wd) (C : Addr) (s : DSp2) : DOpE := fun x y z P E => match x with
  | .ins C' fs => C' = C ∧ notF w C y ∧ s [.ins C' fs, y] [] z (fun d z' => ∃ b, d = .bl b ∧ P (.bl (!b)) z') E
  | _ => False
theorem ne_left (B : XB X c W N sc (k + 1) bb) (hE : OwnD c.toWd C "__eq__" j s) (hN : NeC c.toWd C) (hj : j ≤ k) : OpE X c W (compareOp .NotEq) (oNeL c.toWd C s) := by
  intro pins st σ H u v x y dx dy G δ P E Q I r1 r2 R p1 p2 q kp ke
  cases dx with
  | ins C' fs =>
    obtain ⟨rfl, nf, hs⟩ := q
    obtain ⟨xa, dd, vs, rfl, hG⟩ := rep_ins p1
    cases (show x = Value.ref xa from r1)
    obtain ⟨od, J⟩ := insAt I (R.le _ _ hG)
    obtain ⟨t, hn, ht⟩ := looksTy B I R.le p2 r2 nf
    obtain ⟨f, F, h1, h2⟩ := hE.ex
    show wpAny _ _ (richCompare .NotEq (.ref xa) y) _ _ _
    refine rc_left (op := .NotEq) (by have := units1 B; omega) I.kIn J ht (by rw [B.hK]; exact hn) (try_ne I.kIn J (by rw [B.hK]; exact h1) (by rw [B.hK]; exact h2) (by rw [B.hK]; exact hN.ne) (by rw [B.hK]; exact hN.ob) (by have := units1 B; omega)
      (wpAny_mono (runD (A := X.A.in1) (ks := []) (ws := []) (zs := []) (vs := [.ref xa, v]) (us := [.ref xa, y]) (Q := fun w H' => ∃ b, w = .bl b ∧ Q (.bl (!b)) H') B F (B.room.in1.mono hj) B.gd rfl I (.cons rfl (.cons r2 .nil)) .nil rfl R (.cons p1 (.cons p2 .nil)) .nil hs (fun d z' w G' H' ⟨b, e, hp⟩ L R' rr => ?_) ke) (fun w s' ⟨wv, H', I', rw', b, e, hq⟩ => ?_) fun _ _ z => z))
    · subst e
      cases rr
      exact ⟨b, rfl, kp _ z' _ G' H' hp L R' (.bl _)⟩
    · subst e
      cases (show w = Value.bool b from rw')
      exact ⟨b, rfl, .bl (!b), H', I', rfl, hq⟩
  | _ => exact q.elim
end
end DL

/-! ELP: in, not in: an own __eq__ on the right side of each comparison, or plain data. -/
namespace DL
open PySem L2 PySem.Spec PyProof.Rows PySem.SeqAt MeetsSeq
section
variable {prog : Program} {w : World} {A : Around} {R : Result → Shared → Prop} {E : Value → Shared → Prop}
/-- at each turn the list is read anew -/
def InI (prog : Program) (w : World) (A : Around) (E : Value → Shared → Prop) (l : Addr) (x : Value) (N : Nat) (I : Nat → Shared → Prop) (T : Shared → Prop) : Prop :=
  ∀ i s, I i s → ∃ (items : Array Value) (n : Nat), s.heap.get? l = some { cls := .type "list", data := .seq items n } ∧ items.size = N ∧
    ∀ (h : i < items.size), wpAny (model prog w) A.in1 (eqBool items[i] x) (fun r s' => if r = true then T s' else I (i + 1) s') E s
theorem in_loopG (l : Addr) (x : Value) (N : Nat) (I : Nat → Shared → Prop) (T : Shared → Prop) (hl : InI prog w A (fun e s' => R (.error e) s') l x N I T)
    (fin : ∀ s, I N s → R (.ok (.ret (.bool false))) s) (yes : ∀ s, T s → R (.ok (.ret (.bool true))) s) (k : Nat) :
    ∀ i : Nat, N - i = k → i ≤ N → ∀ s, I i s →
      wpAny (model prog w) A.in1 (Builtin.«list.__contains__.loop» ⟨[.ref l, x, rawInt i], []⟩) (GQ.FinOf prog w A R) (fun e s' => R (.error e) s') s := by
  induction k with
  | zero =>
    intro i hk hi s h
    obtain ⟨items, n, hl1, hs1, _⟩ := hl _ _ h
    have hi' : i = N := by omega
    have hR : R (.ok (.ret (.bool false))) s := fin s (hi' ▸ h)
    obtain ⟨hp, g, d, tk, os⟩ := s
    wp_walk using AutoSeq1.wpAny_loadPart' hl1
    have hi1 : items[((i : Nat) : Int).toNat]? = none := by simp; omega
    rw [hi1]
    wp_walk
    exact hR
  | succ k ih =>
    intro i hk hi s h
    obtain ⟨items, n, hl1, hs1, turn⟩ := hl _ _ h
    have hlt : i < items.size := by omega
    have ht := turn hlt
    obtain ⟨hp, g, d, tk, os⟩ := s
    wp_walk using AutoSeq1.wpAny_loadPart' hl1
    have hi1 : items[((i : Nat) : Int).toNat]? = some items[i] := by simp [hlt]
    have hc : ((i : Int) + 1) = ((i + 1 : Nat) : Int) := by omega
    rw [hi1]
    refine wpAny_bind (wpAny_mono ht (fun r s2 h2 => ?_) fun _ _ x => x)
    cases r with
    | true =>
      rw [if_pos rfl] at h2
      have hR := yes s2 h2
      obtain ⟨hp2, g2, d2, tk2, os2⟩ := s2
      wp_walk
      exact hR
    | false =>
      rw [if_neg (by simp)] at h2
      have hrec := ih (i + 1) (by omega) (by omega) s2 h2
      obtain ⟨hp2, g2, d2, tk2, os2⟩ := s2
      wp_walk
      rw [hc]
      exact ⟨plainId_quiet plain_contains_loop _, codeAny_builtin entry_contains_loop (by
        rw [Around.under_plainId plain_contains_loop _]
        exact hrec)⟩
theorem list_inG (l : Addr) (x : Value) (N : Nat) (I : Nat → Shared → Prop) (T : Shared → Prop) (hl : InI prog w A (fun e s' => R (.error e) s') l x N I T)
    (fin : ∀ s, I N s → R (.ok (.ret (.bool false))) s) (yes : ∀ s, T s → R (.ok (.ret (.bool true))) s) {s : Shared} (h : I 0 s) :
    wpAny (model prog w) A.in1 (Builtin.«list.__contains__» ⟨[.ref l, x], []⟩) (GQ.FinOf prog w A R) (fun e s' => R (.error e) s') s := by
  have hrec := in_loopG (A := A) (R := R) l x N I T hl fin yes _ 0 rfl (Nat.zero_le _) s h
  obtain ⟨items, n, hl1, hs1, _⟩ := hl _ _ h
  obtain ⟨hp, g, d, tk, os⟩ := s
  wp_walk using AutoSeq1.wpAny_loadPart' hl1
  exact ⟨plainId_quiet plain_contains_loop _, codeAny_builtin entry_contains_loop (by
    rw [Around.under_plainId plain_contains_loop _]
    exact hrec)⟩
theorem contains_listG {l : Addr} {x : Value} {N : Nat} {Q : Bool → Shared → Prop} {s : Shared} (I : Nat → Shared → Prop) (T : Shared → Prop) (hl : InI prog w A E l x N I T) (fin : ∀ s, I N s → Q false s) (yes : ∀ s, T s → Q true s) (h : I 0 s) :
    wpAny (model prog w) A (contains (.ref l) x) Q E s := by
  obtain ⟨items, n, hl1, hs1, _⟩ := hl _ _ h
  refine wpAny_contains_slot ⟨_, hl1, rfl⟩ F.slot_list_contains (wpAny_mono (GQ.call_here (Q := fun v s' => ∃ b, v = .bool b ∧ Q b s') F.slot_list_contains ⟨_, hl1, rfl⟩ F.entry_list_contains (F.args_list_contains_2 _ _)
    (list_inG (R := wants (fun v s' => ∃ b, v = .bool b ∧ Q b s') E) l x N I T hl (fun s' q => ⟨_, rfl, fin s' q⟩) (fun s' q => ⟨_, rfl, yes s' q⟩) h)) (fun v s' hv => ?_) fun _ _ e => e)
  obtain ⟨b, rfl, hq⟩ := hv
  exact wpAny_truthy_bool hq
end
/-- a class that is below none of the built-in types of plain data -/
structure BtC (c : Wd) (C : Addr) : Prop where
  bt : ∀ T, T ∈ ["NoneType", "bool", "int", "str", "list", "tuple", "dict"] → PySem.W.mroIn c.K C (.type T) = some false
section
variable {X : Cx} {c : Fr} {W : WX} {N : List Str} {sc : Scope} {k j : Nat} {bb : Bool} {e a b : Expr} {es : List Expr} {pos p : Pos} {r ra rb : DTE} {rs : DTA} {x : Str} {C : Addr} {s : DSp2}
/-- == within a container -/
theorem eqB_of {M : Model} {A : Around} {E : Value → Shared → Prop} {st : Shared} {a : Value} {x : Addr} {Q : Bool → Shared → Prop} (hne : a ≠ .ref x) (h : wpAny M A (richCompare .Eq a (.ref x)) (fun v s' => ∃ r, v = .bool r ∧ Q r s') E st) : wpAny M A (eqBool a (.ref x)) Q E st := by
  unfold eqBool
  refine wpAny_holding ?_
  refine wpAny_ite_split (fun hab => absurd (eq_of_beq hab) hne) (fun _ => ?_)
  have fin : wpAny M A (richCompare .Eq a (.ref x) >>= fun v => truthOfDropped v) Q E st := wpAny_bind (wpAny_mono h (fun v s' hv => by
    obtain ⟨r, rfl, q⟩ := hv
    exact wpAny_truthy_bool q) fun _ _ x => x)
  cases a <;> exact fin
/-- plain data, == : the left side declines -/
theorem declines (B : XB X c W N sc k bb) (hE : BtC c.toWd C) {A : Around} (hu : A.units < cLine) {pins : List (Addr × Obj)} {st : Shared} {σ : L2.St} {G H : Hp} (I : Inv X pins σ H st) (le : Le G H) {y : V} {v : Value} {dy : D} (py : plain dy 40 = true) (ry : Rep c.K c.p0 G y dy) (rv : RelV y v) {xa dx : Addr} {vs : List (Str × V)} (hx : H xa = some (.ins C dx vs)) :
    v ≠ .ref xa ∧ ∃ T, PySem.W.mroIn c.K C (.type T) = some false ∧ PySem.W.Looks (model X.prog X.w) st.heap (typeOf v) (.type T) ∧ oneThing? .Eq v (.ref xa) = none ∧ ∀ E, wpAny (model X.prog X.w) A (tryCompare v "__eq__" (.ref xa)) (fun r s' => r = none ∧ s' = st) E st := by
  obtain ⟨od, J⟩ := insAt I hx
  have hob := J.at_
  have one : ∀ {z : Value}, (∀ f t, z ≠ .float f t) → True := fun _ => trivial
  have lk : ∀ {z : Value} {T : String}, st.TypeIs z T → PySem.W.Looks (model X.prog X.w) st.heap (typeOf z) (.type T) := fun {z T} h => by
    intro A Q E s' kk q
    refine wpAny_typeOf ?_ q
    cases z with
    | ref a => obtain ⟨o, h1, h2⟩ := h; exact ⟨o, kk _ _ h1, h2⟩
    | _ => exact h
  cases ry with
  | non =>
    cases (show v = Value.none from rv)
    exact ⟨by simp, "NoneType", hE.bt _ (by simp), lk rfl, rfl, fun E => wpAny_tryCompare_declines (show st.TypeIs .none "NoneType" from rfl) F.slot_NoneType_eq (call_meets F.slot_NoneType_eq rfl F.entry_NoneType_eq (F.args_NoneType_eq_2 _ _) (none_declines_own xa C dx) ⟨hob, rfl, rfl, rfl⟩)⟩
  | bl b =>
    cases (show v = Value.bool b from rv)
    exact ⟨by simp, "bool", hE.bt _ (by simp), lk rfl, rfl, fun E => wpAny_tryCompare_declines (show st.TypeIs (.bool b) "bool" from rfl) F.slot_bool_eq (call_meets F.slot_bool_eq rfl F.entry_int_eq (F.args_int_eq_2 _ _) (bool_declines_own xa C dx b) ⟨hob, rfl, rfl, rfl⟩)⟩
  | int i =>
    obtain ⟨t, rfl⟩ := (show ∃ t, v = Value.int i t from rv)
    exact ⟨by simp, "int", hE.bt _ (by simp), lk (typeIs_int st i t), rfl, fun E => wpAny_tryCompare_declines (typeIs_int st i t) F.slot_int_eq (call_meets F.slot_int_eq (typeIs_int st i t) F.entry_int_eq (F.args_int_eq_2 _ _) (int_declines_own xa C dx i t) ⟨hob, rfl, rfl, rfl⟩)⟩
  | str y =>
    obtain ⟨t, rfl⟩ := (show ∃ t, v = Value.str y t from rv)
    exact ⟨by simp, "str", hE.bt _ (by simp), lk (typeIs_str st y t), rfl, fun E => wpAny_tryCompare_declines (typeIs_str st y t) F.slot_str_eq (call_meets F.slot_str_eq (typeIs_str st y t) F.entry_str_eq (F.args_str_eq_2 _ _) (str_declines_own xa C dx y t) ⟨hob, rfl, rfl, rfl⟩)⟩
  | @lst l ws zs h1 r1 =>
    cases (show v = Value.ref l from rv)
    obtain ⟨us, v1, p1, _⟩ := I.list (le_l le (.inl h1))
    have hT : st.TypeIs (.ref l) "list" := p1.isList.typeIs
    refine ⟨fun z => ?_, "list", hE.bt _ (by simp), lk hT, oneThing_ref .., fun E => wpAny_tryCompare_declines hT F.slot_list_eq (call_meetsIn F.slot_list_eq hT F.entry_list_eq (F.args_list_eq_2 _ _) (list_declines_own (K := c.K) xa C dx l (hE.bt _ (by simp))) ⟨by rw [← B.hK]; exact I.kIn, hob, rfl, rfl, rfl⟩)⟩
    obtain ⟨o, h1, h2⟩ := hT
    cases z
    rw [hob] at h1; cases h1; cases h2
  | @tup l ws zs h1 r1 =>
    cases (show v = Value.ref l from rv)
    obtain ⟨us, v1, p1, _⟩ := I.tuple (le_t le (by rw [B.hK]; exact h1))
    have hT : st.TypeIs (.ref l) "tuple" := p1.typeIs
    refine ⟨fun z => ?_, "tuple", hE.bt _ (by simp), lk hT, oneThing_ref .., fun E => wpAny_tryCompare_declines hT F.slot_tuple_eq (call_meetsIn F.slot_tuple_eq hT F.entry_tuple_eq (F.args_tuple_eq_2 _ _) (tuple_declines_own (K := c.K) xa C dx l (hE.bt _ (by simp))) ⟨by rw [← B.hK]; exact I.kIn, hob, rfl, rfl, rfl⟩)⟩
    obtain ⟨o, h1, h2⟩ := hT
    cases z
    rw [hob] at h1; cases h1; cases h2
  | @dct l ws zs h1 r1 =>
    cases (show v = Value.ref l from rv)
    obtain ⟨es, ep, dd, sl, ho⟩ := (dic_of I le h1).2.2
    have hT : st.TypeIs (.ref l) "dict" := ⟨_, ho, rfl⟩
    refine ⟨fun z => ?_, "dict", hE.bt _ (by simp), lk hT, oneThing_ref .., fun E => wpAny_tryCompare_declines hT F.slot_dict_eq (call_meetsIn F.slot_dict_eq hT F.entry_dict_eq (F.args_dict_eq_2 _ _) (dict_declines_own (K := c.K) xa C dx l es ep dd sl (hE.bt _ (by simp))) ⟨by rw [← B.hK]; exact I.kIn, hob, ho, rfl, rfl, rfl⟩)⟩
    cases z
    rw [hob] at ho; cases ho
  | ref _ => simp [plain] at py
  | ty _ => simp [plain] at py
  | pen => simp [plain] at py
  | ins _ _ => simp [plain] at py
  | obj _ => simp [plain] at py
  | exc0 _ => simp [plain] at py
  | exc _ _ _ => simp [plain] at py


/-- x == y, x plain, y an instance of C -/
def oRgt (C : Addr) (s : DSp2) : DOpE := fun x y z P E => match y with
  | .ins C' fs => C' = C ∧ plain x 40 = true ∧ s [.ins C' fs, x] [] z P E
  | _ => False
theorem eq_right (B : XB X c W N sc k bb) (hE : OwnD c.toWd C "__eq__" j s) (hT : BtC c.toWd C) (hj : j ≤ k) : OpE X c W (compareOp .Eq) (oRgt C s) := by
  intro pins st σ H u v x y dx dy G δ P E Q I r1 r2 R p1 p2 q kp ke
  cases dy with
  | ins C' fs =>
    obtain ⟨rfl, px, hs⟩ := q
    obtain ⟨xa, dd, vs, rfl, hG⟩ := rep_ins p2
    cases (show y = Value.ref xa from r2)
    obtain ⟨hne, T, hm, ht, h1t, dec⟩ := declines B hT (A := X.A) (by have := units1 B; omega) I R.le px p1 r1 (R.le _ _ hG)
    obtain ⟨od, J⟩ := insAt I (R.le _ _ hG)
    obtain ⟨f, F, f1, f2⟩ := hE.ex
    show wpAny _ _ (richCompare .Eq x (.ref xa)) _ _ _
    exact rc_right (by have := units1 B; omega) I.kIn J ht (by rw [B.hK]; exact hm) h1t (dec _) (tryOwn I.kIn J (by rw [B.hK]; exact f1) (by rw [B.hK]; exact f2)
      (wpAny_mono (runD (ks := []) (ws := []) (zs := []) (vs := [.ref xa, u]) (us := [.ref xa, x]) B F (B.room.mono hj) B.gd rfl I (.cons rfl (.cons r1 .nil)) .nil rfl R (.cons p2 (.cons p1 .nil)) .nil hs kp ke) (fun _ _ z => noNI z id) fun _ _ z => z))
  | _ => exact q.elim
end
end DL

/-! ELQ: the pen: its cells, how many were begun, the rest of a great one. -/
namespace DL
open PySem L2 PySem.Spec PyProof.Rows PySem.SeqAt
section
variable {X : Cx} {c : Fr} {W : WX} {N : List Str} {sc : Scope} {k j : Nat} {bb : Bool} {e a b : Expr} {es : List Expr} {pos p p2 : Pos} {r ra rb : DTE} {rs : DTA} {x : Str}
/-- the pen's contents change -/
theorem StOk.pen {c : Wd} {G H : Hp} {z : Z} (s : StOk c G H z) {q : Addr} {b : Nat} {r : Int} {n : Nat} (hq : Rd G q (.lst (c.cs.map V.int))) (hz : b + n ≤ 1000000) (hl : c.cs.length ≤ 63) : StOk c G (upd H c.p0 (.lst [.ref q, .int (b : Int), .int r])) { z with fu := n } := by
  obtain ⟨q0, b0, r0, cs0, hp0, _⟩ := s.pn
  have gp := s.sg _ (.inl rfl)
  refine ⟨fun a u e => ?_, ⟨q, b, r, c.cs, upd_same, ⟨hq, rfl⟩, hz, hl⟩, fun p m => ?_, fun a h => s.sg a h, fun a cl m => ?_, s.nt⟩
  · rw [upd_ne (show a ≠ c.p0 from fun z => by rw [z, gp] at e; cases e)]; exact s.le a u e
  · obtain ⟨ps, h1, h2, h3⟩ := s.tb p m
    refine ⟨ps, by rw [upd_ne (show p.1 ≠ c.p0 from fun e => by rw [e, hp0] at h1; cases h1)]; exact h1, h2, fun pos cv hc => ?_⟩
    obtain ⟨cc, e1, e2⟩ := h3 pos cv hc
    exact ⟨cc, e1, by rw [upd_ne (fun e => by rw [e, hp0] at e2; exact lst_code _ _ (Option.some.inj e2))]; exact e2⟩
  · obtain ⟨k1, k2, k3⟩ := s.ms a cl m
    exact ⟨k1.mono (Le.refl _) (by rw [upd_ne k2]), k2, k3⟩
theorem Rel.pen {G H : Hp} {σ : L2.St} {δ : S} (R : Rel c G H σ δ) {q : Addr} {b : Nat} {z : Int} {n : Nat} (hq : Rd G q (.lst (c.cs.map V.int))) (hz : b + n ≤ 1000000) (hl : c.cs.length ≤ 63) : Rel c G (upd H c.p0 (.lst [.ref q, .int (b : Int), .int z])) σ { δ with z := { δ.z with fu := n } } := by
  have g : Go (Spf c.toWd δ σ) (Spf c.toWd { δ with z := { δ.z with fu := n } } σ) G H G (upd H c.p0 (.lst [.ref q, .int (b : Int), .int z])) := by
    refine ⟨Le.refl _, fun a u e h => ?_, fun a u e => ?_, fun _ _ h => .inl h, fun a h => .inl h⟩
    · rw [upd_ne (show a ≠ c.p0 from fun z => h (.inl (.inl z)))]; exact e
    · by_cases ne : a = c.p0
      · subst ne; exact ⟨_, upd_same⟩
      · exact ⟨u, by rw [upd_ne ne]; exact e⟩
  refine ⟨R.st.pen hq hz hl, R.go.trans g, R.len, fun i s h => (R.sl i s h).mono (Le.refl _) fun a u _ _ ha hg hs => ⟨by rw [upd_ne (show a ≠ c.p0 from fun z => hs (.inl z))]; exact ha, hg, hs⟩, R.uq⟩
theorem penV {K : PySem.W.Frag} {p0 : Addr} {G : Hp} {v : V} (h : Rep K p0 G v .pen) : v = .ref p0 := by cases h; rfl
theorem cellsD {K : PySem.W.Frag} {p0 : Addr} {G : Hp} : ∀ (cs : List Int), RepL K p0 G (cs.map V.int) (cs.map D.int)
  | [] => .nil
  | i :: r => .cons (.int i) (cellsD r)
def isPen (δ : S) (i : Nat) : Prop := δ.sl[i]? = some (.d .pen)
/-- pen[0], pen[1], pen[2] -/
def dPen (w : Wd) (i : Nat) (ix : Int) : DTE := fun δ P _ => isPen δ i ∧ (if ix = 0 then w.cs.length ≤ 63 → P (.lst (w.cs.map D.int)) δ else if ix = 1 then ∀ b : Nat, b + δ.z.fu ≤ 1000000 → P (.int (b : Int)) δ else if ix = 2 then ∀ z : Int, P (.int z) δ else False)
theorem de_pen {i : Nat} {x : Str} {ix : Int} {jx} {pos' : Pos} (B : XB X c W N sc k bb) (hN : N[i]? = some x) (hv : Vis sc x) (hd : (x == ("__debug__" : Str)) = false := by decide) (hcd : (x == ("__classdict__" : Str)) = false := by decide) :
    DE X c W (.Subscript (.Name x p) (.Constant (.int ix) jx pos') pos) (dPen c.toWd i ix) :=
  peI (pe_ix ix_seq (pe_var (i := i) (by rw [B.hN]; exact hN) (by rw [B.hs]; exact hv) hd hcd) pe_int (fun _ _ => rfl)) fun σ H Q ⟨G, δ, P, E, R, ⟨ip, h⟩, kk, x⟩ => by
    obtain ⟨v, h1, h2⟩ := R.sl i _ ip
    have ev := penV h2
    subst ev
    obtain ⟨q, b, z, cs, q1, ⟨q2, q3⟩, q4, q5⟩ := R.pn
    subst q3
    refine ⟨_, at_some h1, .inl ⟨c.p0, [.ref q, .int (b : Int), .int z], ix, ?_⟩⟩
    by_cases i0 : ix = 0
    · subst i0
      rw [if_pos rfl] at h
      exact ⟨.ref q, rfl, rfl, .inl (.inl q1), rfl, kk _ δ _ G H (h q5) Go.refl R (.lst q2 (cellsD _))⟩
    · rw [if_neg i0] at h
      by_cases i1 : ix = 1
      · subst i1
        rw [if_pos rfl] at h
        exact ⟨.int b, rfl, rfl, .inl (.inl q1), rfl, kk _ δ _ G H (h b q4) Go.refl R (.int _)⟩
      · rw [if_neg i1] at h
        by_cases i2 : ix = 2
        · subst i2
          rw [if_pos rfl] at h
          exact ⟨.int z, rfl, rfl, .inl (.inl q1), rfl, kk _ δ _ G H (h z) Go.refl R (.int _)⟩
        · rw [if_neg i2] at h; exact h.elim
/-- pen[1] = .., pen[2] = .. -/
def gPen (i : Nat) (ix : Int) : DTG := fun d δ P => isPen δ i ∧ (match d with
  | .int v => if ix = 1 then ∃ b n : Nat, v = (b : Int) ∧ b + n ≤ 1000000 ∧ P { δ with z := { δ.z with fu := n } } else if ix = 2 then ∃ n : Nat, n ≤ δ.z.fu ∧ P { δ with z := { δ.z with fu := n } } else False
  | _ => False)
theorem dg_pen {i : Nat} {x : Str} {ix : Int} {jx} {pos' : Pos} (B : XB X c W N sc k bb) (hN : N[i]? = some x) (hv : Vis sc x) (hd : (x == ("__debug__" : Str)) = false := by decide) (hcd : (x == ("__classdict__" : Str)) = false := by decide) :
    DG X c (.Subscript (.Name x p) (.Constant (.int ix) jx pos') pos) (gPen i ix) :=
  pgI (pg_sub (pe_var (i := i) (by rw [B.hN]; exact hN) (by rw [B.hs]; exact hv) hd hcd) pe_int set_list) fun v σ H Q ⟨G, δ, d, P, R, r, ⟨ip, h⟩, kk⟩ => by
    obtain ⟨w, h1, h2⟩ := R.sl i _ ip
    have ev := penV h2
    subst ev
    obtain ⟨q, b, z, cs, q1, ⟨q2, q3⟩, q4, q5⟩ := R.pn
    subst q3
    refine ⟨_, at_some h1, c.p0, [.ref q, .int (b : Int), .int z], ix, ?_⟩
    cases r with
    | int v =>
      by_cases i1 : ix = 1
      · subst i1
        simp only [if_true] at h
        obtain ⟨b', n, e, hz, hp⟩ := h
        subst e
        exact ⟨1, rfl, rfl, q1, rfl, kk _ G _ _ hp (Le.refl _) (R.pen q2 hz q5)⟩
      · simp only [i1, if_false] at h
        by_cases i2 : ix = 2
        · subst i2
          simp only [if_true] at h
          obtain ⟨n, hn, hp⟩ := h
          exact ⟨2, rfl, rfl, q1, rfl, kk _ G _ _ hp (Le.refl _) (R.pen q2 (by omega) q5)⟩
        · simp only [i2, if_false] at h
    | _ => exact h.elim
/-- what a draw gives -/
def sDraw : DSp := fun ds z P _ => ∃ m : Int, ds = [.pen, .int m] ∧ 0 < m ∧ m < 2 ^ 200 ∧ 0 < z.fu ∧ ∀ v : Int, 0 ≤ v → v < m → P (.int v) { z with fu := z.fu - 1 }
end
end DL

/-! ELR: small rules; the law's end. -/
namespace DL
open PySem L2 PySem.Spec PyProof.Rows PySem.SeqAt
section
variable {X : Cx} {c : Fr} {W : WX} {N : List Str} {sc : Scope} {k j : Nat} {bb : Bool} {e a b : Expr} {es : List Expr} {pos p p2 : Pos} {r ra rb : DTE} {rs : DTA} {x : Str} {t : DTS} {st : Stmt} {sts : List Stmt}
/-- {} -/
theorem de_dct0 : DE X c W (.Dict [] [] pos) (dC (.dct [])) := peI pe_dnewK fun σ H Q ⟨G, δ, P, E, R, h, kk, x⟩ p hp =>
  kk _ δ _ _ _ h (R.newG hp) (R.laid' hp) (.dct (.inl upd_same) .nil)
/-- {text: int} -/
theorem de_dct1 {z : Str} {i : Int} {j1 j2 : Nat} {p3 p4 : Pos} : DE X c W (.Dict [some (.Constant (.str z) j1 p3)] [.Constant (.int i) j2 p4] pos) (dC (.dct [(.inr z, .int i)])) :=
  peI (pe_disp (pps_cons pe_str pe_int pps_nil) rfl rfl (by simp) (by simp)) fun σ H Q ⟨G, δ, P, E, R, h, kk, x⟩ p hp => by
    refine ⟨upd_same, [(.inr z, V.int i)], rfl, by simp, ?_⟩
    have e : upd (upd H p (.dK [])) p (.dK (mergeK [] [(Sum.inr z, V.int i)])) = upd H p (.dK [((.inr z : Key), V.int i)]) := by
      funext a
      by_cases q : a = p
      · subst q; rw [upd_same, upd_same]; rfl
      · rw [upd_ne q, upd_ne q, upd_ne q]
    rw [e]
    exact kk _ δ _ _ _ h (R.newG hp) (R.laid' hp) (.dct (.inl upd_same) (.cons (.int i) .nil))
/-- names, by sight -/
theorem dv {i : Nat} {x : Str} (B : XB X c W N sc k bb) (hN : N[i]? = some x := by rfl) (hv : Vis sc x := by first | exact Or.inl rfl | exact Or.inr (Or.inl rfl) | exact Or.inr (Or.inr rfl)) (hd : (x == ("__debug__" : Str)) = false := by decide) (hcd : (x == ("__classdict__" : Str)) = false := by decide) : DE X c W (.Name x pos) (dVar i) := de_var B hN hv hd hcd
theorem dset {i : Nat} {x : Str} {pos' : Pos} (B : XB X c W N sc k false) (he : DE X c W e r) (hi : N[i]? = some x := by rfl) (hx : Loc sc x := by first | exact Or.inl rfl | exact Or.inr rfl) (hs : swapsWith e (some (.Name x pos')) pos.line X.env = pure false := by rfl) : DS X c W (.Assign [.Name x pos'] e pos) (dSet i r) := ds_set B hi hx he hs
theorem dgn {i : Nat} {x : Str} (B : XB X c W N sc k false) (hi : N[i]? = some x := by rfl) (hx : Loc sc x := by first | exact Or.inl rfl | exact Or.inr rfl) : DG X c (.Name x pos) (gN i) := dg_name B hi hx
theorem dcp {op : CmpOp} {o : DOp} (ho : OpD X c (compareOp op) o) (ha : DE X c W a ra) (hb : DE X c W b rb) (hm : behindInMarks op b = false := by first | exact nobehind _ (by decide) (by decide) | rfl) : DE X c W (.Compare a [op] [b] pos) (dBin o ra rb) := de_cmp ho ha hb hm
theorem dtc {op : CmpOp} {o : DOp} (ho : OpD X c (compareOp op) o) (ha : DE X c W a ra) (hb : DE X c W b rb) (hm : behindInMarks op b = false := by first | exact nobehind _ (by decide) (by decide) | rfl) : DT X c W (.Compare a [op] [b] pos) (dTB (dBin o ra rb)) := dt_cmp ho ha hb hm
/-! ### how a call's values fall to the parameters -/
def pick {α : Type} (ix : List Nat) (l : List α) : List α := ix.filterMap fun i => l[i]?
theorem Vals.pick {vs : List V} {us : List Value} (h : Vals vs us) : ∀ ix : List Nat, Vals (pick ix vs) (pick ix us)
  | [] => .nil
  | i :: ix => by
    unfold DL.pick
    rw [List.filterMap_cons, List.filterMap_cons]
    cases e : vs[i]? with
    | none =>
      have e2 : us[i]? = none := by
        rw [List.getElem?_eq_none_iff] at e ⊢
        rw [← h.length]; exact e
      rw [e2]
      exact Vals.pick h ix
    | some v =>
      obtain ⟨u, h1, h2⟩ := h.get e
      rw [h1]
      exact .cons h2 (Vals.pick h ix)
theorem RepL.pick {K : PySem.W.Frag} {p0 : Addr} {G : Hp} {vs : List V} {ds : List D} (h : RepL K p0 G vs ds) : ∀ ix : List Nat, RepL K p0 G (pick ix vs) (pick ix ds)
  | [] => .nil
  | i :: ix => by
    unfold DL.pick
    rw [List.filterMap_cons, List.filterMap_cons]
    cases e : ds[i]? with
    | none =>
      have e2 : vs[i]? = none := by
        rw [List.getElem?_eq_none_iff] at e ⊢
        rw [h.len]; exact e
      rw [e2]
      exact RepL.pick h ix
    | some d =>
      obtain ⟨u, h1, h2⟩ := h.get e
      rw [h1]
      exact .cons h2 (RepL.pick h ix)
theorem Vals.app : ∀ {vs : List V} {us : List Value} {zs : List V} {ws : List Value}, Vals vs us → Vals zs ws → Vals (vs ++ zs) (us ++ ws)
  | _, _, _, _, .nil, h => h
  | _, _, _, _, .cons a b, h => .cons a (Vals.app b h)
/-- a def without defaults: n values, the keywords ks; the parameters from ix -/
theorem shape_of {w : Wd} {x qual : Str} {st : Stmt} {f : Addr} {fd : FuncData} {ps ks : List Str} {n : Nat} (F : Fun w.K x qual st f fd) (ix : List Nat)
    (h : ∀ (kV doc pm : Value) (an : Option Addr) (cdv ct : Value) (us ws : List Value), us.length = n → ws.length = ks.length → bindArgs (PySem.W.fnOf x qual (defArgs st) (defBody st) (defScope st) .none kV doc pm an cdv ct) ⟨us, ks.zip ws⟩ = pure (ps.zip (pick ix (us ++ ws)))) :
    Shape w fd ps n ks (fun ds es => pick ix (ds ++ es)) := by
  obtain ⟨oc, od, kV, doc, pm, an, cdv, ct, osl, rfl, lk, hcd⟩ := F.ex
  exact ⟨_, _, ⟨fun s us ws _ h1 h2 => .of_eq (h kV doc pm an cdv ct us ws h1 h2), fun r1 r2 => Vals.pick (Vals.app r1 r2) ix⟩, fun G vs zs ds es r1 r2 => RepL.pick (r1.app r2) ix⟩
/-- all by place -/
theorem shape_0 {w : Wd} {x qual : Str} {st : Stmt} {f : Addr} {fd : FuncData} {ps : List Str} {n : Nat} (F : Fun w.K x qual st f fd)
    (h : ∀ (kV doc pm : Value) (an : Option Addr) (cdv ct : Value) (us : List Value), us.length = n → bindArgs (PySem.W.fnOf x qual (defArgs st) (defBody st) (defScope st) .none kV doc pm an cdv ct) ⟨us, []⟩ = pure (ps.zip us)) :
    Shape w fd ps n [] (fun ds _ => ds) := by
  obtain ⟨oc, od, kV, doc, pm, an, cdv, ct, osl, rfl, lk, hcd⟩ := F.ex
  exact ⟨fun us _ => us, fun vs _ => vs, ⟨fun s us ws _ h1 h2 => by
    have e : ws = [] := List.length_eq_zero_iff.mp h2
    subst e
    exact .of_eq (h kV doc pm an cdv ct us h1), fun r1 _ => r1⟩, fun G vs zs ds es r1 _ => r1⟩
theorem kbn_0 {K : PySem.W.Frag} {x qual : Str} {st : Stmt} {f : Addr} {fd : FuncData} {ps : List Str} {n : Nat} (F : Fun K x qual st f fd)
    (h : ∀ (kV doc pm : Value) (an : Option Addr) (cdv ct : Value) (us : List Value), us.length = n → bindArgs (PySem.W.fnOf x qual (defArgs st) (defBody st) (defScope st) .none kV doc pm an cdv ct) ⟨us, []⟩ = pure (ps.zip us)) :
    KBn K fd ps n [] (fun us _ => us) (fun vs _ => vs) := by
  obtain ⟨oc, od, kV, doc, pm, an, cdv, ct, osl, rfl, lk, hcd⟩ := F.ex
  exact ⟨fun s us ws _ h1 h2 => by
    have e : ws = [] := List.length_eq_zero_iff.mp h2
    subst e
    exact .of_eq (h kV doc pm an cdv ct us h1), fun r1 _ => r1⟩
theorem fun_d {K : PySem.W.Frag} {x qual : Str} {st : Stmt} {f : Addr} {fd : FuncData} (F : Fun K x qual st f fd) : FunD K x qual (defArgs st) (defBody st) (defScope st) [] [] f fd := by
  obtain ⟨oc, od, kV, doc, pm, an, cdv, ct, osl, rfl, lk, hcd⟩ := F.ex
  exact ⟨⟨oc, od, .none, kV, doc, pm, an, cdv, ct, osl, rfl, lk, hcd, .inl ⟨rfl, rfl⟩, .inl rfl⟩, F.kp⟩
/-! ### the pen's making -/
/-- the pen is new: the script's cells, nothing begun -/
def spPen (K : PySem.W.Frag) : Sp := fun vs H Q _ => ∃ (l : Addr) (ns : List Int), vs = [.ref l] ∧ SqL K H l (ns.map V.int) ∧ ns.length ≤ 63 ∧
  ∀ (p q : Addr) (H' : Hp), Ext H H' → H p = none → H q = none → p ≠ q → H' q = some (.lst (ns.map V.int)) → H' p = some (.lst [.ref q, .int 0, .int 0]) → Q (.ref p) H'
/-- any frame that bears the world -/
def liftAny (K0 : Wd → Prop) (Wx : WX) (t : Wd → DTS) : TS := fun D σ H => ∃ cf : Fr, K0 cf.toWd ∧ liftS cf Wx (t cf.toWd) D σ H
theorem pss_any {K0 : Wd → Prop} {Wx : WX} {t : Wd → DTS} (h : ∀ cf : Fr, K0 cf.toWd → DSs X cf Wx sts (t cf.toWd)) : PSs X sts (liftAny K0 Wx t) := ⟨fun pins s σ H D I ⟨cf, k0, q⟩ => (h cf k0).run pins s σ H D I q⟩
def lawWd (P : Program) (w : World) (K : PySem.W.Frag) (mg : Str → Option Value) (base : Heap) (p : Addr) (cs : List Int) (tb : List (Addr × Str)) : Wd := ⟨P, w, K, mg, base, p, cs, tb⟩
def lawN : DN := { nx := fun _ => False, rt := fun d _ => d = .bl true, bk := fun _ => False, ct := fun _ => False, ex := fun _ _ => False }
def z0 : Z := ⟨1000000, fun _ => none⟩
/-- the frame behind the pen's making -/
theorem rel_law {P : Program} {w : World} {K : PySem.W.Frag} {mg : Str → Option Value} {base : Heap} {H : Hp} {p q : Addr} {ns : List Int} {n : Nat} {v0 : V} {tb : List (Addr × Str)} (hl : ns.length ≤ 63) (hpq : p ≠ q) (h1 : H q = some (.lst (ns.map V.int))) (h2 : H p = some (.lst [.ref q, .int 0, .int 0]))
    (ht : ∀ x ∈ tb, H x.1 = some (.tbl #[])) :
    Rel (frOf (lawWd P w K mg base p ns tb) (upd (fun _ => none) q (.lst (ns.map V.int))) H z0 [p]) (upd (fun _ => none) q (.lst (ns.map V.int))) H (some v0 :: some (.ref p) :: List.replicate n none) ⟨.un :: .d .pen :: List.replicate n .un, z0⟩ := by
  have gz : ∀ a o, upd (fun _ => (none : Option HO)) q (.lst (ns.map V.int)) a = some o → a = q ∧ o = .lst (ns.map V.int) := fun a o e => by
    by_cases z : a = q
    · subst z; rw [upd_same] at e; cases e; exact ⟨rfl, rfl⟩
    · rw [upd_ne z] at e; cases e
  have sl : ∀ (i : Nat) (s : Sl), (Sl.un :: Sl.d .pen :: List.replicate n Sl.un)[i]? = some s → s = .un ∨ (i = 1 ∧ s = .d .pen) := fun i s h => by
    match i, h with
    | 0, h => cases h; exact .inl rfl
    | 1, h => cases h; exact .inr ⟨rfl, rfl⟩
    | i + 2, h =>
      have e : (List.replicate n Sl.un)[i]? = some s := h
      rw [List.getElem?_replicate] at e
      split at e
      · cases e; exact .inl rfl
      · cases e
  have no : ∀ (i : Nat) (s : Sl), (Sl.un :: Sl.d .pen :: List.replicate n Sl.un)[i]? = some s → isOwn s = false := fun i s h => by
    rcases sl i s h with rfl | ⟨_, rfl⟩ <;> rfl
  refine ⟨⟨fun a o e => ?_, ⟨q, 0, 0, ns, h2, ⟨.inl upd_same, rfl⟩, by simp [z0], hl⟩, fun x hx => LamX.TabS.nil (ht x hx), fun a h => ?_, (fun a cl h => by cases h), fun a ps e => by obtain ⟨_, e2⟩ := gz a _ e; cases e2⟩,
    ⟨Le.refl _, fun _ _ h _ => h, fun _ o h => ⟨o, h⟩, fun _ _ h => .inl h, fun a h => .inl (.inl (h.elim id fun ⟨i, s, k1, k2, _⟩ => by rw [no i s k1] at k2; cases k2))⟩, by simp, fun i s h => ?_, fun i j a s t _ h1 _ o1 _ _ _ => by rw [no i s h1] at o1; cases o1⟩
  · obtain ⟨rfl, rfl⟩ := gz a o e; exact h1
  · refine upd_ne fun e => ?_
    subst e
    rcases h with h | h | h
    · exact hpq h.symm
    · exact h rfl
    · obtain ⟨x, hx, e⟩ := List.mem_map.mp h
      have := ht x hx
      rw [e, h1] at this; cases this
  · rcases sl i s h with rfl | ⟨rfl, rfl⟩
    · trivial
    · exact ⟨.ref p, rfl, .pen⟩
end
end DL

/-! ELS: the law as a whole. -/
namespace DL
open PySem L2 PySem.Spec PyProof.Rows PySem.SeqAt
section
variable {X : Cx} {W : WX} {N : List Str} {sc : Scope} {k j : Nat} {e a b : Expr} {es : List Expr} {pos p : Pos} {x : Str}
/-- a def is called that keeps a raw promise and lets nothing out -/
theorem pe_callG {c : Wd} {f : Addr} {fd : FuncData} {ps : List Str} {sp : Sp} {t : TA} {gD : List D → List D → List D} (h1 : X.prog = c.P) (h2 : X.w = c.w) (h3 : X.K = c.K) (h4 : X.mg = c.mg) (h5 : X.base = c.base) (hg0 : X.A.guards = some []) (hr : Room j X.A)
    (F : FnG c j f fd ps sp) (kp : PySem.W.keepIn c.K (.ref f) = true) {n : Nat} (kb : KBn c.K fd ps n [] (fun us _ => us) (fun vs _ => vs)) (hm : c.mg x = some (.ref f)) (hg : Gl X x) (ha : PA X (e :: es) t) (hn : ps.length = n)
    (hdb : (x == ("__debug__" : Str)) = false := by decide) (he : starEach (e :: es) X.env = (false, eval e X.env) :: starEach es X.env := by rfl) (hpl : (backTo pos (starEach es X.env)).any (·.1) = false := by rfl) :
    PE X (.Call (.Name x p) (e :: es) [] pos) (fun σ H Q => t σ H fun vs H1 => sp vs H1 Q (fun _ _ _ => False)) := by
  refine ⟨fun pins st σ H Q I h => ?_⟩
  refine wpAny_Call_Name_kw (ld_glob I hg (by rw [h4]; exact hm) ?_ hdb)
  refine PySem.W.callWith_K (h₀ := X.base) I.ok.mod.kin (by rw [h3]; exact kp) (thn (ha.run pos pins st σ H (fun vs H1 => sp vs H1 Q (fun _ _ _ => False)) I h) fun us s1 ⟨vs, H1, I1, rv, q⟩ => ⟨I1.kIn, ?_⟩) he hpl
  have E0 : Env0 c.P c.w c.K c.mg c.base X.A X.stack s1 H1 := by rw [← h1, ← h2, ← h3, ← h4, ← h5]; exact I1.env0
  have hl := F.len _ _ _ _ q
  have hu : us.length = n := by rw [← rv.length, hl, hn]
  rw [h1, h2]
  refine wpAny_call (codeAny_mono (F.run X.A X.stack s1 H1 ⟨us, []⟩ us vs Q _ hr hg0 E0 (kb.to s1 us [] (by rw [← h3]; exact I1.kIn) hu rfl) rv q) fun res s' hq => ?_)
  cases res with
  | error ee =>
    obtain ⟨_, _, _, _, _, _, _, _, _, _, _, _, z⟩ := hq
    exact z.elim
  | ok fl => rw [← h1, ← h2] at hq; cases fl <;> first | exact I1.after hq | exact hq.elim
end
/-- law's promise -/
def spLaw (K : PySem.W.Frag) (tb : List (Addr × Str)) : Sp := fun vs H Q _ => ∃ (a : Addr) (ns : List Int), vs = [.ref a] ∧ SqL K H a (ns.map V.int) ∧ ns.length ≤ 63 ∧ (∀ x ∈ tb, H x.1 = some (.tbl #[])) ∧ ∀ H', Q (.bl true) H'
def isLaw (P : Program) (w : World) (K : PySem.W.Frag) (mg : Str → Option Value) (base : Heap) (tb : List (Addr × Str)) (c : Wd) : Prop := ∃ p cs, c = lawWd P w K mg base p cs tb
theorem law_ok {P : Program} {w : World} {K : PySem.W.Frag} {mg : Str → Option Value} {base : Heap} {name qual : Str} {params : Arguments} {rest : List Stmt} {scope : Scope} {dvs : List V} {kws : List (Str × V)} {f fP : Addr} {fd fdP : FuncData} {N : List Str} {k kp n : Nat} {tb : List (Addr × Str)} {t : Wd → DTS} {y : Str} {pos pos' p1 p2 p3 : Pos}
    (F : FunD K name qual params (.Assign [.Name y pos'] (.Call (.Name "_law_pen" p1) [.Name "_law_script" p2] [] p3) pos :: rest) scope dvs kws f fd) (S : FnScope N ["_law_script"] scope) (hN : N.length = n + 2) (h0 : N[0]? = some ("_law_script" : Str)) (h1 : N[1]? = some y)
    (v0 : Vis scope ("_law_script" : Str)) (v1 : Loc scope y) (g0 : scope.names.lookup ("_law_pen" : Str) = some .globalImplicit)
    (FP : FnG (lawWd P w K mg base 0 [] tb) kp fP fdP ["_law_script"] (spPen K)) (kpn : PySem.W.keepIn K (.ref fP) = true) (hm : mg "_law_pen" = some (.ref fP)) (kb : KBn K fdP ["_law_script"] 1 [] (fun us _ => us) (fun vs _ => vs)) (hk : kp ≤ k)
    (hsw : ∀ env : Env, env.scope = scope → swapsWith (.Call (.Name "_law_pen" p1) [.Name "_law_script" p2] [] p3) (some (.Name y pos')) pos.line env = pure false)
    (hb : ∀ (X : Cx) (cf : Fr) (W : WX), isLaw P w K mg base tb cf.toWd → XB X cf W N scope k false → AtF K f qual X.env → DSs X cf W rest (t cf.toWd))
    (hl : ∀ (p : Addr) (ns : List Int), ns.length ≤ 63 → t (lawWd P w K mg base p ns tb) lawN ⟨.un :: .d .pen :: List.replicate n .un, z0⟩) : FnG (lawWd P w K mg base 0 [] tb) (k + 1) f fd ["_law_script"] (spLaw K tb) := by
  refine fnG_of (c := lawWd P w K mg base 0 [] tb) F S (fun vs H Q E h => ?_) fun cdv A outer s H vs Q E room gd hat h => ?_
  · obtain ⟨a, ns, rfl, _⟩ := h; rfl
  · obtain ⟨a, ns, rfl, hS, hlen, htb, q⟩ := h
    have tk := takes_of (X := cxOf (L2.CX P w) P w K mg base N qual scope f cdv A outer s H E) (E := E) rfl rfl rfl rfl
    have nd : (cxOf (L2.CX P w) P w K mg base N qual scope f cdv A outer s H E).N.Nodup := S.nd
    refine ⟨_, pss_cons (ps_set (i := 1) nd h1 v1 (pe_callG (c := lawWd P w K mg base 0 [] tb) (gD := fun d _ => d) rfl rfl rfl rfl rfl gd (room.mono hk) FP kpn kb hm g0 (pa_cons (pe_var (i := 0) h0 v0) pa_nil) rfl) (hsw _ rfl) (.inl rfl))
      (pss_any (K0 := isLaw P w K mg base tb) fun cf k0 => hb _ cf (fun cls dd _ H' => E cls dd H') k0 (by
        obtain ⟨p, cs, e⟩ := k0
        exact ⟨by rw [e]; rfl, by rw [e]; rfl, by rw [e]; rfl, by rw [e]; rfl, by rw [e]; rfl, rfl, S.nd, rfl, rfl, room, gd, tk, passes_of rfl, fun _ _ => rfl, fun _ => rfl, fun _ => ⟨rfl, rfl⟩⟩) hat), ?_⟩
    have hst : L2.start N [V.ref a] = some (.ref a) :: List.replicate (n + 1) none := by
      unfold L2.start
      rw [hN]
      rfl
    rw [hst]
    refine ⟨_, rfl, a, ns, rfl, hS, hlen, fun p qq H' ext hp hq hpq e1 e2 => ?_⟩
    have hset : (some (V.ref a) :: List.replicate (n + 1) none).set 1 (some (V.ref p)) = some (.ref a) :: some (.ref p) :: List.replicate n none := by
      rw [List.replicate_succ]; rfl
    show liftAny _ _ _ _ _ _
    rw [hset]
    refine ⟨_, ⟨p, ns, rfl⟩, _, _, lawN, rel_law (n := n) hlen hpq e1 e2 (fun x hx => ext _ _ (htb x hx)), hl p ns hlen, ⟨fun _ _ _ _ z => z.elim, fun d δ' v G' H2 σ' ed L R' rr => ?_, fun _ _ _ _ z => z.elim, fun _ _ _ _ z => z.elim, fun _ _ _ _ _ _ _ z => z.elim⟩⟩
    subst ed
    cases rr
    exact q H2
end DL

/-! ELT: from law's promise to the row; the tables of the defs that hold lambdas. -/
namespace DL
open PySem L2 PySem.Spec PyProof.Rows PySem.SeqAt
/-- what law's end must be -/
abbrev LawEnd (st : Shared) (r : Result) (s' : Shared) : Prop := r = .ok (.ret (.bool true)) ∧ OldK st.heap s'.heap ∧ s'.os = st.os ∧ AllBare s'.gens
/-- a def's code object, its table, the lambdas' name -/
abbrev Tb := Addr × Addr × Str
abbrev tbs (cs : List Tb) : List (Addr × Str) := cs.map fun t => (t.2.1, t.2.2)
def isTb (cs : List Tb) (b : Addr) : Prop := ∃ t ∈ cs, t.2.1 = b
/-- H tracks the script at most, and the tables -/
structure Track (K : PySem.W.Frag) (cs : List Tb) (a : Addr) (H : Hp) : Prop where
  only : ∀ b, H b = none ∨ (isTb cs b ∧ H b = some (.tbl #[])) ∨ (b = a ∧ ∃ o xs, H b = some (.frz o (.lst xs)))
  tabs : ∀ t ∈ cs, H t.2.1 = some (.tbl #[])
  off : H a ≠ none → K.lookup a = none
structure TbOk (K : PySem.W.Frag) (h : Heap) (cs : List Tb) : Prop where
  at_ : ∀ t ∈ cs, h.get? t.2.1 = some { cls := .none, data := .fields #[] }
  no : ∀ t ∈ cs, K.lookup t.2.1 = none
  hd : ∀ t ∈ cs, PySem.W.CodeHd h t.1 t.2.1
theorem lawTracked {P : Program} {w : World} {K : PySem.W.Frag} {mg mb : Str → Option Value} {k : Nat} {fa a : Addr} {fd : FuncData} {x : Str} {st : Shared} {vs : List Value} {ns : List Int} {H : Hp} {cs : List Tb} (T : Track K cs a H) (TO : TbOk K st.heap cs) (hok : HOk P w H st.heap) (hS : SqL K H a (ns.map V.int))
    (KX : K.In st.heap) (G1 : st.heap.Ns mainGlobals mg) (G2 : st.heap.Ns builtinsNs mb) (G3 : ∀ x : Str, x ≠ "__name__" → mb x = bootBuiltins x) (G4 : st.heap.NoLimit) (G5 : st.gens = #[])
    (G6 : ∃ (bm : Addr) (ob : Obj), mg "__builtins__" = some (.ref bm) ∧ bm ≠ builtinsNs ∧ st.heap.get? bm = some ob ∧ ob.cls = .type "module" ∧ ob.dict = some builtinsNs ∧ ob.data = .plain)
    (hobj : st.heap.get? a = some { cls := .type "list", data := .seq vs.toArray })
    (hr : Room k callerA) (hl : ns.length ≤ 63) (F : ∀ base : Heap, K.In base → base.Ns mainGlobals mg → (∀ t ∈ cs, LamX.TabB base mg t.1 t.2.1) → FnG (lawWd P w K mg base 0 [] (tbs cs)) k fa fd [x] (spLaw K (tbs cs))) (bnd : ∀ (s : Shared) (u : Value), BindsTo s fd ⟨[u], []⟩ [(x, u)]) :
    codeAny (model P w) callerA (.call (.ref fa) ⟨[.ref a], []⟩) (LawEnd st) st := by
  let hh := hidT st.heap H
  -- what is neither the script nor a table stands in the base
  have free : ∀ {b : Addr} {o : Obj}, st.heap.get? b = some o → (∀ xs n, o.data ≠ .seq xs n) → o.data ≠ .fields #[] → H b = none := fun {b o} e d1 d2 => by
    rcases T.only b with q | ⟨⟨t, ht, rfl⟩, _⟩ | ⟨rfl, _⟩
    · exact q
    · have e2 := e.symm.trans (TO.at_ t ht)
      cases e2
      exact absurd rfl d2
    · have e2 := e.symm.trans hobj
      cases e2
      exact absurd rfl (d1 _ _)
  have low : ∀ {b : Addr} {o : Obj}, st.heap.get? b = some o → H b = none → hh.get? b = some o := fun e n => hidT_get e n
  have dic : ∀ {b : Addr} {o : Obj} {es : Array DictEntry} {ep : Nat}, st.heap.get? b = some o → o.data = .dict es ep → H b = none := fun {b o es ep} e d => free e (fun _ _ z => by rw [d] at z; cases z) fun z => by rw [d] at z; cases z
  have nss : ∀ {b : Addr} {m : Str → Option Value}, st.heap.Ns b m → hh.Ns b m := fun {b m} h => by
    obtain ⟨o, es, ep, e, d, r⟩ := h
    exact ⟨o, es, ep, low e (dic e d), d, r⟩
  have kin : K.In hh := fun b o e => hidT_get (KX b o e) (by
    rcases T.only b with q | ⟨⟨t, ht, rfl⟩, _⟩ | ⟨rfl, o2, xs, q⟩
    · exact q
    · rw [TO.no t ht] at e; cases e
    · rw [T.off (by rw [q]; simp)] at e; cases e)
  have md : Mod K mg hh := by
    obtain ⟨mc, l1, l2⟩ := G4
    exact ⟨kin, nss G1, ⟨mb, nss G2, G3⟩, ⟨mc, nss l1, l2⟩⟩
  have env : Env0 P w K mg hh callerA [] st H := by
    refine ⟨rfl, md, fun b o e => of_hidT e, Nat.le_of_eq (hidT_size _ _), trivial, fun b hb => ?_, hok, .of_eq G5⟩
    cases hb
  have tb : ∀ t ∈ cs, LamX.TabB hh mg t.1 t.2.1 := fun t ht => by
    have at_ := TO.at_ t ht
    obtain ⟨o, us, file, tf, flags, tg, inF, text, tt, e1, r1, r2, r3, r4, r5, r6, r7, r8, hne⟩ := TO.hd t ht
    obtain ⟨bm, ob, b1, b2, b3, b4, b5, b6⟩ := G6
    obtain ⟨og, eg, pg, g1, g2, _⟩ := G1
    have nG : bm ≠ mainGlobals := fun q => by
      rw [q, g1] at b3; cases b3; rw [g2] at b6; cases b6
    have nP : bm ≠ t.2.1 := fun q => by
      rw [q, at_] at b3; cases b3; cases b6
    refine ⟨⟨o, us, file, tf, flags, tg, inF, text, tt, low e1 (free e1 (fun _ _ z => ?_) fun z => ?_), r1, r2, r3, r4, r5, r6, r7, r8, hne⟩, ⟨bm, ob, b1, b2, nG, nP, low b3 (free b3 (fun _ _ z => ?_) fun z => ?_), b4, b5, b6⟩, fun z => ?_⟩
    · rw [r2] at z; cases z
    · rw [r2] at z; cases z; simp at r3
    · rw [b6] at z; cases z
    · rw [b6] at z; cases z
    · rw [z, at_] at g1; cases g1; cases g2
  refine codeAny_mono ((F hh kin (nss G1) tb).run callerA [] st H ⟨[.ref a], []⟩ [.ref a] [.ref a] (fun v _ => v = .bl true) (fun _ _ _ => False) hr rfl env (bnd st (.ref a)) (.cons rfl .nil) ⟨a, ns, rfl, hS, hl, fun x hx => ?_, fun _ => rfl⟩) fun r s' h => ?_
  · obtain ⟨t, ht, rfl⟩ := List.mem_map.mp hx
    exact T.tabs t ht
  match r, h with
  | .error e, h =>
    obtain ⟨_, _, _, _, _, _, _, _, _, _, _, _, z⟩ := h
    exact z.elim
  | .ok (.ret u), h =>
    obtain ⟨v, H', os, bare, un, hok', rv, ev⟩ := h
    subst ev
    cases (show u = Value.bool true from rv)
    have same : ∀ b o, ¬ isTb cs b → st.heap.get? b = some o → s'.heap.get? b = some o := fun b o nb e => by
      rcases T.only b with z | ⟨z, _⟩ | ⟨_, ob, xs, z⟩
      · exact un.keep b o e z (fun w => by cases w) (by simp)
      · exact absurd z nb
      · have k1 := (hok b _ z).1
        have k2 := (hok' b _ (un.frzs b ob _ z)).1
        have e3 := e.symm.trans k1
        cases e3
        exact k2
    have grown : ∀ t ∈ cs, ∃ more : Array Value, s'.heap.get? t.2.1 = some { cls := .none, data := .fields more } := fun t ht => by
      obtain ⟨more, z⟩ := un.tbls t.2.1 #[] (T.tabs t ht)
      exact ⟨_, hok' t.2.1 _ z⟩
    refine ⟨rfl, ⟨fun b o e => ?_, fun b o e => ?_⟩, os, bare⟩
    · by_cases q : isTb cs b
      · obtain ⟨t, ht, rfl⟩ := q
        obtain ⟨more, hm⟩ := grown t ht
        have at_ := TO.at_ t ht
        rw [at_] at e
        cases e
        exact .inr (.inl ⟨((TO.hd t ht).tab at_).isCodeTable, rfl, #[], more, rfl, by rw [Array.empty_append]; exact hm⟩)
      · exact .inl (same b o q e)
    · by_cases q : isTb cs b
      · obtain ⟨t, ht, rfl⟩ := q
        obtain ⟨more, hm⟩ := grown t ht
        exact ⟨_, hm⟩
      · exact ⟨o, same b o q e⟩
  | .ok .next, h => exact h.elim
  | .ok .brk, h => exact h.elim
  | .ok .cont, h => exact h.elim
theorem lawCalled {P : Program} {w : World} {K : PySem.W.Frag} {mg mb : Str → Option Value} {k : Nat} {fa a : Addr} {fd : FuncData} {x : Str} {st : Shared} {vs : List Value} {ns : List Int} {cs : List Tb} (TO : TbOk K st.heap cs)
    (KX : K.In st.heap) (G1 : st.heap.Ns mainGlobals mg) (G2 : st.heap.Ns builtinsNs mb) (G3 : ∀ x : Str, x ≠ "__name__" → mb x = bootBuiltins x) (G4 : st.heap.NoLimit) (G5 : st.gens = #[])
    (G6 : ∃ (bm : Addr) (ob : Obj), mg "__builtins__" = some (.ref bm) ∧ bm ≠ builtinsNs ∧ st.heap.get? bm = some ob ∧ ob.cls = .type "module" ∧ ob.dict = some builtinsNs ∧ ob.data = .plain)
    (hobj : st.heap.get? a = some { cls := .type "list", data := .seq vs.toArray }) (hi : IntsAre vs ns)
    (hr : Room k callerA) (hl : ns.length ≤ 63) (F : ∀ base : Heap, K.In base → base.Ns mainGlobals mg → (∀ t ∈ cs, LamX.TabB base mg t.1 t.2.1) → FnG (lawWd P w K mg base 0 [] (tbs cs)) k fa fd [x] (spLaw K (tbs cs))) (bnd : ∀ (s : Shared) (u : Value), BindsTo s fd ⟨[u], []⟩ [(x, u)]) :
    codeAny (model P w) callerA (.call (.ref fa) ⟨[.ref a], []⟩) (LawEnd st) st := by
  have rv := vals_ints hi
  have sz : ns.length ≤ sizeLine := Nat.le_trans hl (by decide)
  have na : ¬ isTb cs a := fun ⟨t, ht, e⟩ => by
    have e2 := TO.at_ t ht
    rw [e, hobj] at e2
    have e3 : Data.seq vs.toArray _ = Data.fields #[] := congrArg Obj.data (Option.some.inj e2)
    cases e3
  let H0 : Hp := fun b => @ite _ (isTb cs b) (Classical.propDecidable _) (some (.tbl #[])) none
  have yes : ∀ {b}, isTb cs b → H0 b = some (.tbl #[]) := fun h => if_pos h
  have nope : ∀ {b}, ¬ isTb cs b → H0 b = none := fun h => if_neg h
  have ok0 : ∀ {b u}, H0 b = some u → isTb cs b ∧ u = .tbl #[] := fun {b u} z => by
    by_cases q : isTb cs b
    · rw [yes q] at z; cases z; exact ⟨q, rfl⟩
    · rw [nope q] at z; cases z
  have obj0 : ∀ {b}, isTb cs b → st.heap.get? b = some { cls := .none, data := .fields #[] } := fun ⟨t, ht, e⟩ => e ▸ TO.at_ t ht
  cases hk : K.lookup a with
  | some o =>
    have e := hobj.symm.trans (KX a o hk)
    cases e
    refine lawTracked (H := H0) ⟨fun b => ?_, fun t ht => yes ⟨t, ht, rfl⟩, fun z => absurd (nope na) z⟩ TO (fun b u z => ?_) (.inr ⟨_, vs.toArray, _, hk, rfl, rfl, rfl, by rw [List.size_toArray, hi.length]; exact sz, by simpa using rv⟩) KX G1 G2 G3 G4 G5 G6 hobj hr hl F bnd
    · by_cases q : isTb cs b
      · exact .inr (.inl ⟨q, yes q⟩)
      · exact .inl (nope q)
    · obtain ⟨q, rfl⟩ := ok0 z
      exact obj0 q
  | none =>
    let one : HO := .frz { cls := .type "list", data := .seq vs.toArray } (.lst (ns.map V.int))
    refine lawTracked (H := upd H0 a one) ⟨fun b => ?_, fun t ht => ?_, fun _ => hk⟩ TO (fun b u z => ?_) (.inl (.inr ⟨_, upd_same⟩)) KX G1 G2 G3 G4 G5 G6 hobj hr hl F bnd
    · by_cases q : b = a
      · subst q; exact .inr (.inr ⟨rfl, _, _, upd_same⟩)
      · rw [upd_ne q]
        by_cases q2 : isTb cs b
        · exact .inr (.inl ⟨q2, yes q2⟩)
        · exact .inl (nope q2)
    · rw [upd_ne (show t.2.1 ≠ a from fun e => na ⟨t, ht, e⟩)]
      exact yes ⟨t, ht, rfl⟩
    · by_cases q : b = a
      · subst q
        rw [upd_same] at z
        cases z
        exact ⟨hobj, by rw [List.length_map]; exact sz, vs, _, rv, hobj⟩
      · rw [upd_ne q] at z
        obtain ⟨q2, rfl⟩ := ok0 z
        exact obj0 q2
/-- what k_head leaves, from law's promise -/
theorem lawWalk {l : PySem.W.OpenLaw} {k : Nat} {q : Program} {loose : List Str} {XP : (Str → Option Value) → Heap → Prop} {YP : World → Heap → Prop} {d : DefRec} {K : Params → PySem.W.Frag} {x : Str}
    (hn : l.most = some 63) (hdf : d.params.defaults = []) (hr : Room k callerA) (hY : ∀ (w : World) (h : Heap), YP w h → (K w.params).In h)
    (F : ∀ (w : World) (mg mb : Str → Option Value) (mean : ExcName → Option Value) (fa : Addr) (h : Heap), YP w h → (K w.params).In h → Top q (PySem.W.looseW q loose) mean mg mb h → mg d.name = some (.ref fa) →
      ∃ (cs : List Tb) (fd : FuncData), TbOk (K w.params) h cs ∧ (∀ (s : Shared) (u : Value), BindsTo s fd ⟨[u], []⟩ [(x, u)]) ∧ ∀ base : Heap, (K w.params).In base → base.Ns mainGlobals mg → (∀ t ∈ cs, LamX.TabB base mg t.1 t.2.1) → FnG (lawWd l.prog w (K w.params) mg base 0 [] (tbs cs)) k fa fd [x] (spLaw (K w.params) (tbs cs))) :
    PySem.W.WalkO q loose XP YP l.row.toRowW d [] (fun f vs => PySem.call f vs) :=
  Att.attach_call hn hdf fun w _ s₁ mg mb fa _ _ _ _ a vs ns G Y _ _ _ hmg hobj hints hlen hg => by
    have KX := hY w _ Y
    obtain ⟨cs, fd, TO, hb, hF⟩ := F w mg mb _ fa _ Y KX G.T hmg
    exact lawCalled TO KX G.T.g G.T.b G.T.builtins G.T.nolimit hg G.T.bmain hobj hints hr hlen hF hb
end DL

/-! ELU: the def that makes the pen. -/
namespace DL
open PySem L2 PySem.Spec PyProof.Rows PySem.SeqAt
theorem cut63 (xs : List V) (h : xs.length ≤ 63) : cutV xs none (some 63) = xs := by
  have e1 : HT.sIx xs.length 0 none = 0 := rfl
  have e2 : HT.sIx xs.length xs.length (some 63) = xs.length := by
    show HT.sIx xs.length xs.length (some (63 : Int)) = xs.length
    unfold HT.sIx
    simp
    omega
  unfold cutV
  rw [e1, e2]
  simp
theorem pen_ok {c : Wd} {name qual : Str} {params : Arguments} {scope : Scope} {f : Addr} {fd : FuncData} {q1 q2 q3 q4 q5 q6 q7 q8 q9 q10 : Pos} {j1 j2 j3 : Nat}
    (F : FunD c.K name qual params [.Return (some (.List [.Call (.Name "list" q1) [.Subscript (.Name "_law_script" q2) (.Slice none (some (.Constant (.int 63) j1 q3)) none q4) q5] [] q6, .Constant (.int 0) j2 q7, .Constant (.int 0) j3 q8] q9)) q10] scope [] [] f fd)
    (S : FnScope ["_law_script"] ["_law_script"] scope) (v0 : Vis scope ("_law_script" : Str)) (g0 : scope.names.lookup ("list" : Str) = some .globalImplicit) (hl : c.mg ("list" : Str) = none) : FnG c 1 f fd ["_law_script"] (spPen c.K) := by
  refine fnG_of F S (fun vs H Q E h => ?_) fun cdv A outer s H vs Q E room gd _ h => ?_
  · obtain ⟨a, ns, rfl, _⟩ := h; rfl
  · obtain ⟨a, ns, rfl, hS, hlen, q⟩ := h
    refine ⟨_, pss_one (ps_ret (pe_lst (pa_cons (pe_callTy (T := "list") call_list_of g0 hl (by decide +kernel) (pa_cons (pe_slice sl_list (pe_var (i := 0) rfl v0) po_none (po_some pe_int)) pa_nil)) (pa_cons pe_int (pa_cons pe_int pa_nil))))), ?_⟩
    have hz : (ns.map V.int).length ≤ 63 := by simpa using hlen
    refine ⟨_, rfl, 63, rfl, a, ns.map V.int, rfl, hS, fun l0 h0 => ?_⟩
    rw [cut63 _ hz]
    refine ⟨l0, ns.map V.int, rfl, .inl (.inl (.inl upd_same)), fun l1 h1 => ?_⟩
    refine ⟨by show 3 ≤ sizeLine; decide, fun p hp => ?_⟩
    have n10 : l1 ≠ l0 := fun z => by rw [z, upd_same] at h1; cases h1
    have npl1 : p ≠ l1 := fun z => by rw [z, upd_same] at hp; cases hp
    have npl0 : p ≠ l0 := fun z => by rw [z, upd_ne (Ne.symm n10), upd_same] at hp; cases hp
    refine q p l1 _ (fun b o e => ?_) (by rw [upd_ne npl1, upd_ne npl0] at hp; exact hp) (by rw [upd_ne n10] at h1; exact h1) npl1 (by rw [upd_ne (Ne.symm npl1), upd_same]) upd_same
    have x0 := ne_of_none e h0
    have x1 : b ≠ l1 := fun z => by subst z; rw [upd_ne n10] at h1; rw [h1] at e; cases e
    have x2 : b ≠ p := fun z => by subst z; rw [upd_ne npl1, upd_ne npl0] at hp; rw [hp] at e; cases e
    rw [upd_ne x2, upd_ne x1, upd_ne x0]
    exact e
end DL

/-! ELV: plain facts that draws need. -/
namespace DL
open PySem L2
theorem noDicL_ints : ∀ (cs : List Int) (n : Nat), noDicL (cs.map D.int) n = true
  | [], _ => rfl
  | _ :: r, n => by simp only [List.map_cons, noDicL, noDic, noDicL_ints r n, Bool.and_true]
theorem noDic_ints (cs : List Int) : noDic (.lst (cs.map D.int)) 40 = true := by simp only [noDic]; exact noDicL_ints cs 39
theorem noDic_nil : noDic (.lst []) 40 = true := rfl
theorem eqD_ints_nil (cs : List Int) : eqD (.lst (cs.map D.int)) (.lst []) = cs.isEmpty := by cases cs <;> rfl
theorem putD_lt {f : Str} {v : D} : ∀ {l : List (Str × D)} {n : Nat}, l.length < n → (putD f v l).length < n + 1
  | [], n, h => by simp only [putD, List.length_cons, List.length_nil] at h ⊢; omega
  | (g, w) :: r, n, h => by
    simp only [List.length_cons] at h
    have ih := putD_lt (f := f) (v := v) (l := r) (n := n - 1) (by omega)
    unfold putD
    split
    · simp only [List.length_cons]; omega
    · simp only [List.length_cons]; omega
/-- the cell that is begun -/
theorem atI_cell {cs : List Int} (h : cs ≠ []) (b : Nat) : ∃ i : Int, atI (cs.map D.int) ((b : Int) % ((cs.map D.int).length : Int)) = some (.int i) := by
  have hl : 0 < cs.length := List.length_pos_iff.mpr h
  have hb : b % cs.length < cs.length := Nat.mod_lt _ hl
  have e : ((b : Int) % ((cs.map D.int).length : Int)) = ((b % cs.length : Nat) : Int) := by simp
  refine ⟨cs[b % cs.length], ?_⟩
  rw [e]
  exact atI_nat (by simp [hb])
theorem len_pos {cs : List Int} (h : cs ≠ []) : (0 : Int) < ((cs.map D.int).length : Int) := by
  have hl : 0 < cs.length := List.length_pos_iff.mpr h
  simp
  omega
theorem mulb {x y X Y : Int} (h1 : 0 ≤ x) (h2 : x ≤ X) (h3 : 0 ≤ y) (h4 : y ≤ Y) : 0 ≤ x * y ∧ x * y ≤ X * Y :=
  ⟨Int.mul_nonneg h1 h3, Int.mul_le_mul h2 h4 h3 (Int.le_trans h1 h2)⟩
theorem cpow_of {x : Int} {k : Int} (h1 : 0 ≤ x) (h2 : x < 2 ^ 64) (k1 : 0 ≤ k) (k2 : k ≤ 1000000) : CPow x k := ⟨k1, k2, by omega⟩
theorem cdw_of {x m : Int} (h0 : 0 < m) (h1 : m < 1073741824) : CDivW x m := wide_div (b := 30) h0 (by omega) (by decide) (by decide)
theorem cmul_l {x y : Int} (h1 : 0 ≤ x) (h2 : x < 2 ^ 64) : CMul x y := .inl ⟨by omega, h2⟩
theorem cmul_r {x y : Int} (h1 : 0 ≤ y) (h2 : y < 2 ^ 64) : CMul x y := .inr ⟨by omega, h2⟩
theorem emb (x : Int) {p : Int} (h : 0 < p) : 0 ≤ x % p ∧ x % p < p := ⟨Int.emod_nonneg _ (by omega), Int.emod_lt_of_pos _ h⟩
end DL

/-! ELW: methods, by the object's class; what is not reached. -/
namespace DL
open PySem L2 PySem.Spec PyProof.Rows PySem.SeqAt
/-- what stands for a class in a table -/
def dpt {α : Type} : List (Addr × α) → Addr → (α → Prop) → Prop
  | [], _, _ => False
  | p :: r, C, k => if C = p.1 then k p.2 else dpt r C k
def AllT {α : Type} (Q : Addr → α → Prop) : List (Addr × α) → Prop
  | [] => True
  | p :: r => Q p.1 p.2 ∧ AllT Q r
theorem AllT.get {α : Type} {Q : Addr → α → Prop} {k : α → Prop} : ∀ {t : List (Addr × α)} {C : Addr}, AllT Q t → dpt t C k → ∃ s, Q C s ∧ k s
  | [], _, _, h => h.elim
  | p :: r, C, q, h => by
    unfold dpt at h
    by_cases e : C = p.1
    · rw [if_pos e] at h; exact ⟨p.2, e ▸ q.1, h⟩
    · rw [if_neg e] at h; exact AllT.get q.2 h
section
variable {X : Cx} {c : Fr} {W : WX} {N : List Str} {sc : Scope} {k j : Nat} {bb : Bool} {e a b o : Expr} {es : List Expr} {pos p p2 apos : Pos} {r ra rb : DTE} {rs rk : DTA} {x : Str} {st : Stmt} {s : DSp2} {kws : List Keyword} {ks : List Str} {tbl : List (Addr × DSp2)}
/-! ### not reached -/
def dNoE : DTE := fun _ _ _ => False
def dNoS : DTS := fun _ _ => False
theorem de_no : DE X c W e dNoE := ⟨fun _ _ _ _ _ _ ⟨_, _, _, _, _, h, _⟩ => h.elim⟩
theorem dt_no : DT X c W e (fun _ _ _ => False) := ⟨fun _ _ _ _ _ _ ⟨_, _, _, _, _, h, _⟩ => h.elim⟩
theorem ds_no : DS X c W st dNoS := ⟨fun _ _ _ _ _ _ ⟨_, _, _, _, h, _⟩ => h.elim⟩
/-! ### methods -/
structure MethD (c : Wd) (m : Str) (ks : List Str) (k : Nat) (C : Addr) (s : DSp2) : Prop where
  cl : Cls c.K C
  ex : ∃ f : Addr, Meth c.K C m f ∧ Callee c (.ref f) ks k s
/-- o.m(e, .., k = v): the object, the values, the keywords' values -/
def dMeth (m : Str) (tbl : List (Addr × DSp2)) (ra : DTE) (rs rk : DTA) : DTE := fun δ P E => ra δ (fun d δ0 => match d with
  | .ins C fs => fs.lookup m = none ∧ dpt tbl C fun s => rs δ0 (fun ds δ1 => rk δ1 (fun zs δ2 => s (.ins C fs :: ds) zs δ2.z (fun d n => P d { δ2 with z := n }) (fun er n => E er { δ2 with z := n })) E) E
  | _ => False) E
theorem selfRep {G H : Hp} {v : V} {C : Addr} {fs : List (Str × D)} (h : Rep c.K c.p0 G v (.ins C fs)) : ∃ xa dx vs, v = .ref xa ∧ G xa = some (.ins C dx vs) ∧ RepF c.K c.p0 G vs fs := by
  cases h with
  | ins h1 r1 => exact ⟨_, _, _, rfl, h1, r1⟩
/-- the object is there, the rest is to be evaluated -/
def MAt (c : Fr) (W : WX) (m : Str) (ks : List Str) (j : Nat) (rs rk : DTA) (σ : L2.St) (Q : VK) (v : V) (H : Hp) : Prop := ∃ (xa : Addr) (G : Hp) (δ : S) (dx : Addr) (vs : List (Str × V)) (C : Addr) (fs : List (Str × D)) (P : D → S → Prop) (E : Er → S → Prop) (s : DSp2), v = .ref xa ∧ Rel c G H σ δ ∧ G xa = some (.ins C dx vs) ∧ RepF c.K c.p0 G vs fs ∧ fs.lookup m = none ∧ MethD c.toWd m ks j C s ∧
  rs δ (fun ds δ1 => rk δ1 (fun zs δ2 => s (.ins C fs :: ds) zs δ2.z (fun d n => P d { δ2 with z := n }) (fun er n => E er { δ2 with z := n })) E) E ∧
  (∀ d δ' v G' H', P d δ' → Gof c δ δ' σ G H G' H' → Rel c G' H' σ δ' → Rep c.K c.p0 G' v d → Q v H') ∧ ExOk c W G σ E
theorem mAt_in {m : Str} (hT : AllT (MethD c.toWd m ks j) tbl) (ho : DE X c W o ra) {pins : List (Addr × Obj)} {σ : L2.St} {H : Hp} {Q : VK} {st : Shared} (I : Inv X pins σ H st) (h : liftE c W (dMeth m tbl ra rs rk) σ H Q) : wpAny (model X.prog X.w) X.A (eval o X.env) (EP X pins σ (MAt c W m ks j rs rk σ Q)) X.xe st := by
  obtain ⟨G, δ, P, E, R, h, kk, xx⟩ := h
  refine ho.run pins st σ H _ I ⟨G, δ, _, E, R, h, fun d δ0 v G0 H0 p0 L0 R0 r0 => ?_, xx⟩
  cases d with
  | ins C fs =>
    obtain ⟨lk, p1⟩ := p0
    obtain ⟨s, hs, p1⟩ := AllT.get hT p1
    obtain ⟨xa, dx, vs, ev, hG, rf⟩ := selfRep (H := H0) r0
    exact ⟨xa, G0, δ0, dx, vs, C, fs, P, E, s, ev, R0, hG, rf, lk, hs, p1, fun d δ' v G' H' q L R' rr => kk d δ' v G' H' q (L0.trans L) R' rr, xx.mono L0.g⟩
  | _ => exact p0.elim
theorem de_meth {m : Str} {pl : Sem Bool} (B : XB X c W N sc k bb) (hT : AllT (MethD c.toWd m [] j) tbl) (hj : j ≤ k) (ho : DE X c W o ra) (ha : DA X c W (e :: es) rs)
    (hst : starEach (e :: es) X.env = (false, eval e X.env) :: starEach es X.env := by rfl) (hpl : (backTo pos (starEach es X.env)).any (·.1) = false := by rfl)
    (ht : eval (.Call (.Attribute o m apos) (e :: es) [] pos) X.env = (do
      let ov ← eval o X.env
      standAt apos.atName
      let (f, first) ← holding [ov] (getMethod ov m pl)
      callWith pos f first (backTo pos (starEach (e :: es) X.env)) (backToKw pos (keywordEach [] X.env))) := by rfl) :
    DE X c W (.Call (.Attribute o m apos) (e :: es) [] pos) (dMeth m tbl ra rs dNil) := by
  refine ⟨fun pins st σ H Q I h => ?_⟩
  refine PySem.W.methodCall_KW (pl := pl) (thn (mAt_in hT ho I h) fun u s0 ⟨v, H0, I0, rv, xa, G0, δ0, dx, vs, C, fs, P, E, s, ev, R0, hG, rf, lk, hs, p1, kk, xx⟩ => ?_) ht
  subst ev
  obtain ⟨f, hm, hc⟩ := hs.ex
  cases (show u = Value.ref xa from rv)
  refine getmeth_ok I0 (R0.le _ _ hG) (by rw [B.hK]; exact hs.cl) (by rw [B.hK]; exact hm) (rf.look_none lk) ?_
  refine PySem.W.callWith_K (first := [.ref xa]) (h₀ := X.base) I0.ok.mod.kin (by rw [B.hK]; exact hm.kp) (thn (ha.run pos pins s0 σ H0 (fun vs H1 => liftSp2 c.toWd s (.ref xa :: vs) [] H1 Q fun cls d H' => W cls d σ H') I0 ⟨G0, δ0, _, E, R0, p1, fun ds δ1 ws G1 H1 p1 L1 R1 r1 => ?_, xx⟩) fun us s1 ⟨ws, H1, I1, rw', q⟩ => ⟨I1.kIn, ?_⟩) hst hpl
  · exact ⟨G1, .ins C fs :: ds, [], δ1.z, _, _, R1.st, .cons ((Rep.ins hG rf).mono L1.g) r1, .nil, p1, fun d n' v G' H' q po rr => kk d _ v G' H' q (L1.trans (po.spf R1)) (R1.post po) rr, fun er n' cls dd G' H' q po rr => xx er _ cls dd G' H' q (L1.g.trans po.go.g) (R1.post po) rr⟩
  · exact runC B hc hj (us := .ref xa :: us) (vs := .ref xa :: ws) I1 (.cons rfl rw') .nil rfl q
theorem de_meth0 {m : Str} {pl : Sem Bool} (B : XB X c W N sc k bb) (hT : AllT (MethD c.toWd m [] j) tbl) (hj : j ≤ k) (ho : DE X c W o ra)
    (ht : eval (.Call (.Attribute o m apos) [] [] pos) X.env = (do
      let ov ← eval o X.env
      standAt apos.atName
      let (f, first) ← holding [ov] (getMethod ov m pl)
      callWith pos f first (backTo pos (starEach [] X.env)) (backToKw pos (keywordEach [] X.env))) := by rfl) :
    DE X c W (.Call (.Attribute o m apos) [] [] pos) (dMeth m tbl ra dNil dNil) := by
  refine ⟨fun pins st σ H Q I h => ?_⟩
  refine PySem.W.methodCall_KW (pl := pl) (thn (mAt_in hT ho I h) fun u s0 ⟨v, H0, I0, rv, xa, G0, δ0, dx, vs, C, fs, P, E, s, ev, R0, hG, rf, lk, hs, p1, kk, xx⟩ => ?_) ht
  subst ev
  obtain ⟨f, hm, hc⟩ := hs.ex
  cases (show u = Value.ref xa from rv)
  refine getmeth_ok I0 (R0.le _ _ hG) (by rw [B.hK]; exact hs.cl) (by rw [B.hK]; exact hm) (rf.look_none lk) ?_
  refine PySem.W.callWith_K0 (first := [.ref xa]) I0.kIn (by rw [B.hK]; exact hm.kp) (runC B hc hj (us := [.ref xa]) (vs := [.ref xa]) (ws := []) (zs := []) I0 (.cons rfl .nil) .nil rfl ?_)
  exact ⟨G0, [.ins C fs], [], δ0.z, _, _, R0.st, .cons (.ins hG rf) .nil, .nil, p1, fun d n' v G' H' q po rr => kk d _ v G' H' q (po.spf R0) (R0.post po) rr, fun er n' cls dd G' H' q po rr => xx er _ cls dd G' H' q po.go.g (R0.post po) rr⟩
end
end DL

/-! ELX: an own exception's __init__ that says super().__init__(..). -/
namespace DL
open PySem L2 PySem.Spec PyProof.Rows PySem.SeqAt
open NdefX (NF envF ncx NScope CellsAt startF inv_startN)
open PySem.W (ks_loadName_global kxs_getMethod kxs_callWith kxs_mw KxsAt)
abbrev veI : String := "ValueError.__init__"
/-- the bound ValueError.__init__, called -/
theorem call_mw {X : Cx} {pins : List (Addr × Obj)} {σ : L2.St} {H : Hp} {s : Shared} {a C u : Addr} {us : List Value} {A : Around} {Q : Value → Shared → Prop} {E : Value → Shared → Prop} (T : OexC X.K C) (I : Inv X pins σ H s) (e : H a = some (exo a C none)) (hu : s.heap.get? u = some (kxs_mw veI a)) (hl : us.length ≤ sizeLine)
    (h : ∀ s', Inv X pins σ H s' → Q .none s') : wpAny (model X.prog X.w) A (call (.ref u) us) Q E s := by
  obtain ⟨nm, q, N, bs, bm, sn, sub, ab, col, dd, k0, k1, k2, k3, k5, hC, hbm⟩ := T.cls
  obtain ⟨t1, ho⟩ := exo_at I.hok e
  have hC' := I.kIn _ _ hC
  obtain ⟨hp, g, d, t, os⟩ := s
  refine wpAny_call (codeAny_of_tree ?_)
  show wpAny _ A.in1 (callAny (.ref u) ⟨us, []⟩) _ _ _
  simp only [callAny]
  refine wpAny_bind (wpAny_load hu ?_)
  simp only [kxs_mw, show (Value.type "method-wrapper" == Value.type "method" || Value.type "method-wrapper" == Value.type "builtin_function_or_method" || Value.type "method-wrapper" == Value.type "method-wrapper") = true by decide, if_true]
  refine PySem.W.KFB.if_so (by decide) ?_
  refine wpAny_bind (PySem.W.check_bound_init F.excBase_ValueError.toExcCallFacts hC' ho rfl ?_)
  refine wpAny_bind (wpAny_pure (wpAny_pure ?_))
  refine ⟨plainId_quiet F.excBase_ValueError.init.plain _, codeAny_builtin F.excBase_ValueError.initEntry ?_⟩
  refine PySem.W.exc_init_tree (cls := .ref C) (t0 := t1) (dv := none) (c2 := .none) (c3 := .none) (b4 := .bool false) ho hl fun h' k hx _ => ?_
  have J := I.write (t' := t) (x := a) (e := a) (o := exo a C none) (by rw [e]; exact True.intro) (.inl rfl) k ⟨_, hx⟩ (exo_ok hx)
  have eu : upd H a (exo a C none) = H := by
    funext b
    by_cases hb : b = a
    · rw [hb, upd_same, e]
    · rw [upd_ne hb]
  rw [eu] at J
  exact h _ J
/-- what the written part says of an own __init__ that names its class by a cell -/
structure SupF (P : Program) (K : PySem.W.Frag) (mg : Str → Option Value) (D : Addr) (F : NF) (cc f : Addr) (fd : FuncData) : Prop where
  cl : F.cl = [(("__class__" : Str), cc)]
  ex : ∃ oc od dV kV doc pm an ct osl, fd = PySem.W.fnX F.name F.qual F.params F.body F.scope F.cl dV kV doc pm an (.ref F.c) ct ∧ K.lookup f = some ⟨oc, od, .func fd, osl⟩
  cd : PySem.W.codeIn K (.ref F.c) F.qual = true
  file : ∃ ccl cdd vs ccs file tf, K.lookup F.c = some ⟨ccl, cdd, .fields vs, ccs⟩ ∧ vs[2]? = some (.str file tf) ∧ ((P.main.file : Str) == file) = true
  cell : ∃ cl cld csl, K.lookup cc = some ⟨cl, cld, .cell (some (.ref D)), csl⟩
  top : (P.main.scope.names.lookup ("super" : Str)).isSome = false
  no : mg ("super" : Str) = none
  st : PySem.W.nsIn K cStatics "thirdparty.any" = some none
  sup : PySem.W.ks_superIn K D D "__init__" = some (some (.builtin veI))
  sb : PySem.W.subIn K (.ref D) (.type "ValueError") = some true
  me : PySem.W.mroIn K D (.ref D) = some true
  hks : F.scope.names.lookup ("super" : Str) = some .globalImplicit
  hkc : F.scope.names.lookup ("__class__" : Str) = some .free
  self : ∃ ar : Arg, (F.params.posonlyargs ++ F.params.args).head? = some ar ∧ ar.arg = ("self" : Str)
section
variable {X : Cx} {σ : L2.St} {H : Hp} {s : Shared} {D a cc f L : Addr} {F : NF} {fd : FuncData} {body rest : List Stmt} {e : Expr} {es : List Expr} {p0 p1 apos pos pos' : Pos} {t : TA} {u : TS} {E : Ends}
theorem super0 (S : SupF X.prog X.K X.mg D F cc f fd) (T : OexC X.K D) (henv : X.env = envF F f L) (I : Inv X [] σ H s) (h0 : X.N[0]? = some ("self" : Str)) (hs : F.scope.names.lookup ("self" : Str) = some .local) (hσ : σ[0]? = some (some (.ref a))) (ha : H a = some (exo a D none))
    (hp : PA X (e :: es) t) (h : t σ H (fun vs H1 => vs.length ≤ 1000 ∧ H1 a = some (exo a D none) ∧ u E σ H1))
    {pl : Sem Bool} (ht : eval (.Call (.Attribute (.Call (.Name "super" p0) [] [] p1) "__init__" apos) (e :: es) [] pos) X.env = (do
      let ov ← attributeBase (.Call (.Name "super" p0) [] [] p1) "__init__" X.env (eval (.Call (.Name "super" p0) [] [] p1) X.env)
      standAt apos.atName
      let (f, first) ← holding [ov] (getMethod ov "__init__" pl)
      callWith pos f first (backTo pos (starEach (e :: es) X.env)) (backToKw pos (keywordEach [] X.env))) := by rfl) (hk0 : backToKw pos (keywordEach [] X.env) = [] := by rfl)
    (hsw : swapsWith (.Call (.Attribute (.Call (.Name "super" p0) [] [] p1) "__init__" apos) (e :: es) [] pos) none pos'.line X.env = pure false := by rfl)
    (he : starEach (e :: es) X.env = (false, eval e X.env) :: starEach es X.env := by rfl) (hpl : (backTo pos (starEach es X.env)).any (·.1) = false := by rfl) :
    PySem.wpAt (model X.prog X.w) X.A (.func body X.env) (exec (.Expr (.Call (.Attribute (.Call (.Name "super" p0) [] [] p1) "__init__" apos) (e :: es) [] pos) pos') X.env) (fun fl s' => fl = .next ∧ ∃ H', Inv X [] σ H' s' ∧ u E σ H') X.xe s := by
  obtain ⟨nm, q, N, bs, bm, sn, sub, ab, col, dd, k0, k1, k2, k3, k5, hC, hbm⟩ := T.cls
  have hcl : PySem.W.clsIn X.K D = some { name := nm, bases := bs, mro := .ref D :: bm, ns := N, qualname := q, hasDict := true, slotNames := sn, subclasses := sub, abstract := ab, collection := col, hasDel := false } := by unfold PySem.W.clsIn; rw [hC] <;> rfl
  obtain ⟨oc, od, dV, kV, doc, pm, an, ct, osl, efd, hf⟩ := S.ex
  obtain ⟨ccl, cdd, vsc, ccs, file, tf, hcode, hvs, hfile⟩ := S.file
  obtain ⟨cl, cld, csl, hcell⟩ := S.cell
  obtain ⟨ar, har, hself⟩ := S.self
  have kin := I.kIn
  obtain ⟨t1, hx⟩ := exo_at I.hok ha
  have hk : X.env.scope.kind = .function := I.ok.kind
  have eks : X.env.kindOf "super" = some .globalImplicit := by rw [henv]; exact S.hks
  have ekc : X.env.kindOf "__class__" = some .free := by rw [henv]; exact S.hkc
  have efu : X.env.func = some f := by rw [henv]
  have eco : X.env.code = .ref F.c := by rw [henv]
  have ecl : X.env.cells.lookup ("__class__" : Str) = some cc := by rw [henv]; show F.cl.lookup _ = _; rw [S.cl]; rfl
  refine ks_wpAt_Expr_any ?_ I.quiet hsw
  rw [ht, hk0]
  refine PySem.wpAt_bind (ks_wpAt_mono (Q := fun ov s₁ => wpAny (model X.prog X.w) X.A (getMethod ov "__init__" pl) (fun fx s₂ => wpAny (model X.prog X.w) X.A (callWith pos fx.1 fx.2 (backTo pos (starEach (e :: es) X.env)) []) (fun _ s' => Flow.next = Flow.next ∧ ∃ H', Inv X [] σ H' s' ∧ u E σ H') X.xe s₂) X.xe s₁) ?_ (fun ov s₁ h₁ => PySem.wpAt_of_wpAny (wpAny_bind (wpAny_standAt (wpAny_bind (wpAny_holding (wpAny_mono h₁ (fun fx s₂ h₂ => h₂) fun _ _ x => x)))))) fun _ _ x => x)
  refine ks_wpAt_super_base (env := X.env) (ar := ar) (fd := fd) eks ekc (by decide) efu (kin _ _ hf) rfl (by rw [efd]; exact har) eco (kin _ _ hcode) rfl hvs hfile S.top ?_
  obtain ⟨mb, b1, b2⟩ := I.mod.blt
  refine ks_loadName_global hk eks (Calls.loadGlobal_builtin (by rw [I.ok.glob]; exact I.mod.glob.keeps I.bk) S.no (by rw [I.ok.blt]; exact b1.keeps I.bk) ((b2 "super" (by decide)).trans PyProof.Rows.Boot.«super») ⟨rfl, ?_⟩)
  refine wpAny_loadName_free hk ekc ecl ⟨_, kin _ _ hcell, rfl⟩ ?_
  obtain ⟨m, hns, hl⟩ := id I.loc
  obtain ⟨uv, rv, lk⟩ := hl 0 _ _ h0 hσ (by rw [henv]; exact .inl hs)
  obtain rfl : uv = Value.ref a := rv
  have hm : m ar.arg = some (.ref a) := by
    rw [hself]
    rcases lk with ⟨_, z⟩ | ⟨z | z, _⟩
    · exact z
    · rw [henv] at z; rw [show (envF F f L).kindOf "self" = some .local from hs] at z; cases z
    · rw [henv] at z; rw [show (envF F f L).kindOf "self" = some .local from hs] at z; cases z
  refine wpAny_loadName_local hk (by rw [hself, henv]; exact hs) hns hm ?_
  obtain ⟨hh, g, d, tk, os⟩ := s
  refine ks_wpAny_isType_cls (kin _ _ hC) rfl ⟨rfl, ?_⟩
  refine ks_wpAny_call_super (kin _ _ hC) rfl hx rfl (fun c z => by cases z) (PySem.W.looks_mroIn kin S.me) fun h1 e1 k1 => ?_
  have I1 : Inv X [] σ H ⟨h1, g, d, tk, os⟩ := I.kept (t' := tk) k1
  have kin1 := I1.kIn
  have hsup := S.sup
  unfold PySem.W.ks_superIn at hsup
  rw [hcl, Option.bind_some] at hsup
  have hIn : PySem.W.Looks (model X.prog X.w) h1 (isInstance (.ref a) (.type "ValueError")) true := (show PySem.W.Looks (model X.prog X.w) h1 (typeOf (.ref a)) (.ref D) from fun A Q E s k q => wpAny_typeOf_ref (k _ _ (k1 _ _ hx)) q).andThen (PySem.W.looks_subIn kin1 S.sb)
  have hne : a ≠ D := fun z => by
    have y := kin _ _ hC
    rw [← z] at y
    rw [hx] at y
    cases y
  refine kxs_getMethod PySem.W.kxs_ValueError e1 (PySem.W.looks_opaque kin1 S.st) (fun A Q E s k q => wpAny_bind ((PySem.W.looks_clsIn kin1 hcl) A _ E s k (wpAny_pure q))) rfl kin1 hsup hIn hne (by decide) ?_
  have I2 : Inv X [] σ H ⟨h1.push (kxs_mw veI a), g, d, tk + 1, os⟩ := I1.kept (t' := tk + 1) fun b o z => Heap.get?_push_of_some _ z
  have hu2 : (h1.push (kxs_mw veI a)).get? h1.objs.size = some (kxs_mw veI a) := Heap.get?_push_size _ rfl
  have J2 : Inv X [(h1.objs.size, kxs_mw veI a)] σ H ⟨h1.push (kxs_mw veI a), g, d, tk + 1, os⟩ := I2.pins_of fun p hp => by
    rw [List.mem_singleton] at hp
    subst hp
    exact ⟨hu2, I1.hok.fresh (Nat.le_refl _), Nat.ne_of_gt I1.lt, I1.nofs (Nat.le_refl _), fun v z => by cases z⟩
  rw [he]
  refine kxs_callWith (i := veI) (x := a) (by show (false || (backTo pos (starEach es X.env)).any (·.1)) = false; rw [hpl]; rfl) (Calls.evalArgs_plain ?_)
  have hrun := hp.run pos [(h1.objs.size, kxs_mw veI a)] _ σ H _ J2 h
  rw [he] at hrun
  refine thn hrun fun us s3 ⟨vs, H3, I3, r3, hz, ha3, q3⟩ => ⟨(I3.pin _ (List.mem_append_right _ (List.mem_singleton.mpr rfl))).1, ?_⟩
  refine call_mw T (I3.pins_of (pins' := []) fun p hp => absurd hp (by simp)) ha3 (I3.pin _ (List.mem_append_right _ (List.mem_singleton.mpr rfl))).1 (by show us.length ≤ _; rw [← r3.length, sizeLine_eq]; omega) fun s4 I4 => ⟨rfl, H3, I4, q3⟩
end
/-- such an __init__'s promise: its values stand in the fields fl, in this order -/
def spX (C : Addr) (fl : List Str) : Sp := fun vs H Q _ => ∃ (a : Addr) (ws : List V), vs = .ref a :: ws ∧ ws.length = fl.length ∧ H a = some (exo a C none) ∧
  ∀ d H', H d = none → d ≠ a → H' a = some (exo a C (some d)) → H' d = some (exd d (fl.zip ws).reverse) → (∀ b, b ≠ a → b ≠ d → H' b = H b) → Q .non H'
section
variable {c : Wd} {D cc f : Addr} {F : NF} {fd : FuncData} {k : Nat} {N ps : List Str} {sp : Sp}
/-- THE RULE for it -/
theorem sup_fn {rest : List Stmt} {e : Expr} {es : List Expr} {p0 p1 apos pos pos' : Pos} (S : SupF c.P c.K c.mg D F cc f fd) (T : OexC c.K D) (NS : NScope N ps ["__class__"] F.scope) (len : ∀ vs H Q E, sp vs H Q E → vs.length = ps.length) (h0 : N[0]? = some ("self" : Str)) (hs : F.scope.names.lookup ("self" : Str) = some .local)
    (hb0 : F.body = .Expr (.Call (.Attribute (.Call (.Name "super" p0) [] [] p1) "__init__" apos) (e :: es) [] pos) pos' :: rest)
    (hbody : ∀ (X : Cx) (L : Addr), X.prog = c.P → X.w = c.w → X.K = c.K → X.mg = c.mg → X.N = N → X.env = envF F f L → ∃ (t : TA) (u : TS), PA X (e :: es) t ∧ PSs X rest u ∧
      ∀ vs H Q E, sp vs H Q E → ∃ a, vs.head? = some (.ref a) ∧ H a = some (exo a D none) ∧ t (startF N vs [none]) H (fun ws H1 => ws.length ≤ 1000 ∧ H1 a = some (exo a D none) ∧ u { nx := fun _ H' => Q .non H', rt := Q } (startF N vs [none]) H1))
    {pl : Env → Sem Bool} (hev : ∀ env : Env, eval (.Call (.Attribute (.Call (.Name "super" p0) [] [] p1) "__init__" apos) (e :: es) [] pos) env = (do
      let ov ← attributeBase (.Call (.Name "super" p0) [] [] p1) "__init__" env (eval (.Call (.Name "super" p0) [] [] p1) env)
      standAt apos.atName
      let (f, first) ← holding [ov] (getMethod ov "__init__" (pl env))
      callWith pos f first (backTo pos (starEach (e :: es) env)) (backToKw pos (keywordEach [] env))) := by intro _; rfl) (hkw : ∀ env : Env, backToKw pos (keywordEach [] env) = [] := by intro _; rfl)
    (hsw : ∀ env : Env, swapsWith (.Call (.Attribute (.Call (.Name "super" p0) [] [] p1) "__init__" apos) (e :: es) [] pos) none pos'.line env = pure false := by intro _; rfl)
    (hst : starEach (e :: es) = fun env => (false, eval e env) :: starEach es env := by rfl) (hpl : ∀ env : Env, (backTo pos (starEach es env)).any (·.1) = false := by intro _; rfl) : FnG c (k + 1) f fd ps sp := by
  obtain ⟨oc, od, dV, kV, doc, pm, an, ct, osl, rfl, lk⟩ := S.ex
  refine ⟨len, fun A outer s H args us vs Q E room gd e0 bnd rv hsp => ?_⟩
  have kin : c.K.In s.heap := e0.mod.kin.keeps fun q o z => (e0.bs q o z).1
  have nolim : s.heap.NoLimit := e0.mod.nolimit.keeps fun q o z => (e0.bs q o z).1
  have hl := len _ _ _ _ hsp
  obtain ⟨cl, cld, csl, hcell⟩ := S.cell
  have hcc : H cc = none := (e0.bs _ _ (e0.mod.kin _ _ hcell)).2
  have CA : CellsAt F.cl ["__class__"] [none] s.heap H := by
    have only : ∀ y d, F.cl.lookup y = some d → y = "__class__" ∧ d = cc := fun y d z => by
      rw [S.cl] at z
      have z2 := PySem.mem_of_lookup z
      rw [List.mem_singleton] at z2
      cases z2
      exact ⟨rfl, rfl⟩
    refine ⟨rfl, fun y d z => ?_, fun x y d z1 z2 => (only _ _ z1).1.trans (only _ _ z2).1.symm, fun i y z => ?_⟩
    · obtain ⟨_, rfl⟩ := only _ _ z
      exact ⟨hcc, _, _, kin _ _ hcell, rfl⟩
    · match i, z with
      | 0, z =>
        cases z
        exact ⟨cc, by rw [S.cl]; rfl, fun v z => by cases z⟩
  refine ks_codeAny_call_defAt (binds := ps.zip us) room.depth (kin _ _ lk) rfl nolim (PySem.W.codeRec_of kin S.cd) rfl bnd NS.nocell (fun y hy => NS.par _ (List.of_mem_zip hy).1) (fun h1 hns hk1 => ?_) NS.co NS.gen NS.kind
  have I : Inv (ncx (L2.CX c.P c.w) c.P c.w c.K c.mg c.base N F f A outer s H E) [] (startF N vs [none]) H { s with heap := h1, toks := s.toks + (ps.zip us).length } := inv_startN NS room.hd e0 hl rv CA hns hk1
  obtain ⟨t, u, ht, hu, hq⟩ := hbody (ncx (L2.CX c.P c.w) c.P c.w c.K c.mg c.base N F f A outer s H E) s.heap.objs.size rfl rfl rfl rfl rfl rfl
  obtain ⟨a, ha0, ha, hr⟩ := hq vs H Q E hsp
  have hσ : (startF N vs [none])[0]? = some (some (.ref a)) := by
    cases vs with
    | nil => cases ha0
    | cons v vs => cases ha0; rfl
  have key : PySem.wpAt (model c.P c.w) (A.deeper (envF F f s.heap.objs.size)) (.func F.body (envF F f s.heap.objs.size)) (execs (.Expr (.Call (.Attribute (.Call (.Name "super" p0) [] [] p1) "__init__" apos) (e :: es) [] pos) pos' :: rest) (envF F f s.heap.objs.size))
      (fun f s' => CR (L2.CX c.P c.w) outer c.P c.w H s Q E (.ok (.ret (match f with | .ret v => v | _ => .none))) s') (ncx (L2.CX c.P c.w) c.P c.w c.K c.mg c.base N F f A outer s H E).xe { s with heap := h1, toks := s.toks + (ps.zip us).length } := by
    refine ks_wpAt_execs_cons (ks_wpAt_mono (super0 (X := ncx (L2.CX c.P c.w) c.P c.w c.K c.mg c.base N F f A outer s H E) (E := { nx := fun _ H' => Q .non H', rt := Q }) S T rfl I h0 hs hσ ha ht hr (hev _) (hkw _) (hsw _) (congrFun hst _) (hpl _)) (fun fl s1 ⟨efl, H1, I1, q1⟩ => ?_) fun _ _ z => z)
    subst efl
    refine PySem.wpAt_of_wpAny (wpAny_mono (hu.run [] s1 _ H1 _ I1 q1) (fun fl s' z => ?_) fun _ _ z => z)
    cases fl with
    | brk => exact z.elim fun _ z => z.elim fun _ z => z.2.elim
    | cont => exact z.elim fun _ z => z.elim fun _ z => z.2.elim
    | next => obtain ⟨σ', H', J', q⟩ := z; exact ⟨.non, H', J'.os, J'.bare, J'.base, J'.hok, rfl, q⟩
    | ret u => obtain ⟨v, σ', H', J', r', q⟩ := z; exact ⟨v, H', J'.os, J'.bare, J'.base, J'.hok, r', q⟩
  rw [← hb0] at key
  exact key
end
end DL

/-! ELY: own exceptions made: with one field, with two, with none. -/
namespace DL
open PySem L2 PySem.Spec PyProof.Rows PySem.SeqAt
open NdefX (NF envF ncx NScope CellsAt startF inv_startN)
section
variable {c : Wd} {D cc f : Addr} {F : NF} {fd : FuncData} {k : Nat} {x y : Str} {p0 p1 apos p2 p2' p3 p4 p5 p6 p7 p8 pos pos' pos2 pos3 : Pos}
theorem spX_len {fl : List Str} : ∀ vs H Q E, spX D fl vs H Q E → vs.length = fl.length + 1 := fun vs H Q E ⟨a, ws, e, h, _⟩ => by rw [e, List.length_cons, h]
theorem sup1 (S : SupF c.P c.K c.mg D F cc f fd) (T : OexC c.K D) (NS : NScope ["self", x, "__class__"] ["self", x] ["__class__"] F.scope) (hx : PySem.W.findIn c.K (.ref D) x = some none)
    (hb0 : F.body = [.Expr (.Call (.Attribute (.Call (.Name "super" p0) [] [] p1) "__init__" apos) [.Name x p2] [] pos) pos', .Assign [.Attribute (.Name "self" p3) x p4] (.Name x p5) pos2])
    {pl : Env → Sem Bool} (hev : ∀ env : Env, eval (.Call (.Attribute (.Call (.Name "super" p0) [] [] p1) "__init__" apos) [.Name x p2] [] pos) env = (do
      let ov ← attributeBase (.Call (.Name "super" p0) [] [] p1) "__init__" env (eval (.Call (.Name "super" p0) [] [] p1) env)
      standAt apos.atName
      let (f, first) ← holding [ov] (getMethod ov "__init__" (pl env))
      callWith pos f first (backTo pos (starEach [.Name x p2] env)) (backToKw pos (keywordEach [] env))) := by intro _; rfl) (hkw : ∀ env : Env, backToKw pos (keywordEach [] env) = [] := by intro _; rfl)
    (hsw : ∀ env : Env, swapsWith (.Call (.Attribute (.Call (.Name "super" p0) [] [] p1) "__init__" apos) [.Name x p2] [] pos) none pos'.line env = pure false := by intro _; rfl)
    (hd : (x == ("__debug__" : Str)) = false := by decide) (hcd : (x == ("__classdict__" : Str)) = false := by decide) : FnG c (k + 1) f fd ["self", x] (spX D [x]) := by
  have h0 : F.scope.names.lookup ("self" : Str) = some .local := NS.par _ (List.mem_cons_self ..)
  have h1 : F.scope.names.lookup x = some .local := NS.par _ (List.mem_cons_of_mem _ (List.mem_cons_self ..))
  refine sup_fn S T NS spX_len rfl h0 hb0 (fun X L e1 e2 e3 e4 e5 e6 => ?_) hev hkw hsw
  have vx : PE X (.Name x p2) _ := pe_var (i := 1) (by rw [e5]; rfl) (by rw [e6]; exact .inl h1) hd hcd
  have vx5 : PE X (.Name x p5) _ := pe_var (i := 1) (by rw [e5]; rfl) (by rw [e6]; exact .inl h1) hd hcd
  have v0 : PE X (.Name "self" p3) _ := pe_var (i := 0) (by rw [e5]; rfl) (by rw [e6]; exact .inl h0)
  refine ⟨_, _, pa_cons vx pa_nil rfl, pss_one (ps_ost v0 vx5), fun vs H Q E hsp => ?_⟩
  obtain ⟨a, ws, rfl, hl, ha, hq⟩ := hsp
  match ws, hl with
  | [w], _ =>
    refine ⟨a, rfl, ha, w, rfl, ?_⟩
    refine ⟨by simp, ha, w, rfl, .ref a, rfl, a, D, rfl, by rw [e3]; exact T, by rw [e3]; exact hx, .inl ⟨ha, fun d hn ne => ?_⟩⟩
    exact hq d _ hn ne upd_same (by rw [upd_ne ne, upd_same]; rfl) fun b b1 b2 => by rw [upd_ne b1, upd_ne b2]
theorem sup2 (S : SupF c.P c.K c.mg D F cc f fd) (T : OexC c.K D) (NS : NScope ["self", x, y, "__class__"] ["self", x, y] ["__class__"] F.scope) (hx : PySem.W.findIn c.K (.ref D) x = some none) (hy : PySem.W.findIn c.K (.ref D) y = some none)
    (hb0 : F.body = [.Expr (.Call (.Attribute (.Call (.Name "super" p0) [] [] p1) "__init__" apos) [.Name x p2, .Name y p2'] [] pos) pos', .Assign [.Attribute (.Name "self" p3) x p4] (.Name x p5) pos2, .Assign [.Attribute (.Name "self" p6) y p7] (.Name y p8) pos3])
    {pl : Env → Sem Bool} (hev : ∀ env : Env, eval (.Call (.Attribute (.Call (.Name "super" p0) [] [] p1) "__init__" apos) [.Name x p2, .Name y p2'] [] pos) env = (do
      let ov ← attributeBase (.Call (.Name "super" p0) [] [] p1) "__init__" env (eval (.Call (.Name "super" p0) [] [] p1) env)
      standAt apos.atName
      let (f, first) ← holding [ov] (getMethod ov "__init__" (pl env))
      callWith pos f first (backTo pos (starEach [.Name x p2, .Name y p2'] env)) (backToKw pos (keywordEach [] env))) := by intro _; rfl) (hkw : ∀ env : Env, backToKw pos (keywordEach [] env) = [] := by intro _; rfl)
    (hsw : ∀ env : Env, swapsWith (.Call (.Attribute (.Call (.Name "super" p0) [] [] p1) "__init__" apos) [.Name x p2, .Name y p2'] [] pos) none pos'.line env = pure false := by intro _; rfl)
    (hd : (x == ("__debug__" : Str)) = false := by decide) (hcd : (x == ("__classdict__" : Str)) = false := by decide) (hd' : (y == ("__debug__" : Str)) = false := by decide) (hcd' : (y == ("__classdict__" : Str)) = false := by decide) : FnG c (k + 1) f fd ["self", x, y] (spX D [x, y]) := by
  have h0 : F.scope.names.lookup ("self" : Str) = some .local := NS.par _ (List.mem_cons_self ..)
  have h1 : F.scope.names.lookup x = some .local := NS.par _ (List.mem_cons_of_mem _ (List.mem_cons_self ..))
  have h2 : F.scope.names.lookup y = some .local := NS.par _ (List.mem_cons_of_mem _ (List.mem_cons_of_mem _ (List.mem_cons_self ..)))
  refine sup_fn S T NS spX_len rfl h0 hb0 (fun X L e1 e2 e3 e4 e5 e6 => ?_) hev hkw hsw
  have vx : PE X (.Name x p2) _ := pe_var (i := 1) (by rw [e5]; rfl) (by rw [e6]; exact .inl h1) hd hcd
  have vy : PE X (.Name y p2') _ := pe_var (i := 2) (by rw [e5]; rfl) (by rw [e6]; exact .inl h2) hd' hcd'
  have vx5 : PE X (.Name x p5) _ := pe_var (i := 1) (by rw [e5]; rfl) (by rw [e6]; exact .inl h1) hd hcd
  have vy5 : PE X (.Name y p8) _ := pe_var (i := 2) (by rw [e5]; rfl) (by rw [e6]; exact .inl h2) hd' hcd'
  have v0 : PE X (.Name "self" p3) _ := pe_var (i := 0) (by rw [e5]; rfl) (by rw [e6]; exact .inl h0)
  have v0' : PE X (.Name "self" p6) _ := pe_var (i := 0) (by rw [e5]; rfl) (by rw [e6]; exact .inl h0)
  refine ⟨_, _, pa_cons vx (pa_cons vy pa_nil rfl) rfl, pss_cons (ps_ost v0 vx5) (pss_one (ps_ost v0' vy5)), fun vs H Q E hsp => ?_⟩
  obtain ⟨a, ws, rfl, hl, ha, hq⟩ := hsp
  match ws, hl with
  | [w, v], _ =>
    refine ⟨a, rfl, ha, w, rfl, v, rfl, ?_⟩
    refine ⟨by simp, ha, w, rfl, .ref a, rfl, a, D, rfl, by rw [e3]; exact T, by rw [e3]; exact hx, .inl ⟨ha, fun d hn ne => ?_⟩⟩
    refine ⟨v, rfl, .ref a, rfl, a, D, rfl, by rw [e3]; exact T, by rw [e3]; exact hy, .inr ⟨d, _, upd_same, by rw [upd_ne ne, upd_same], by simp, ?_⟩⟩
    exact hq d _ hn ne (by rw [upd_ne (Ne.symm ne), upd_same]) upd_same fun b b1 b2 => by rw [upd_ne b2, upd_ne b1, upd_ne b2]
end
end DL

/-! EM0: own exceptions are raised. -/
namespace DL
open PySem L2 PySem.Spec PyProof.Rows PySem.SeqAt
section
variable {K : PySem.W.Frag} {p0 : Addr} {G : Hp}
theorem RepF.app : ∀ {vs ws : List (Str × V)} {ds es : List (Str × D)}, RepF K p0 G vs ds → RepF K p0 G ws es → RepF K p0 G (vs ++ ws) (ds ++ es)
  | _, _, _, _, .nil, h => h
  | _, _, _, _, .cons a b, h => .cons a (RepF.app b h)
theorem RepF.rev : ∀ {vs : List (Str × V)} {ds : List (Str × D)}, RepF K p0 G vs ds → RepF K p0 G vs.reverse ds.reverse
  | _, _, .nil => .nil
  | _, _, .cons a b => by
    rw [List.reverse_cons, List.reverse_cons]
    exact RepF.app (RepF.rev b) (.cons a .nil)
theorem RepF.zip : ∀ {fl : List Str} {vs : List V} {ds : List D}, RepL K p0 G vs ds → RepF K p0 G (fl.zip vs) (fl.zip ds)
  | [], _, _, _ => by simp only [List.zip_nil_left]; exact .nil
  | _ :: _, _, _, .nil => by simp only [List.zip_nil_right]; exact .nil
  | _ :: _, _, _, .cons a b => by simp only [List.zip_cons_cons]; exact .cons a (RepF.zip b)
end
/-- a class of errors, its fields -/
structure ExcD (c : Wd) (C : Addr) (fl : List Str) (k : Nat) : Prop where
  T : OexC c.K C
  ini : ∃ (fI : Addr) (fd : FuncData), PySem.W.findIn c.K (.ref C) "__init__" = some (some (.ref fI)) ∧ PySem.W.typeIn c.K (.ref fI) = some (.type "function") ∧ FnG c k fI fd ("self" :: fl) (spX C fl) ∧ KBn c.K fd ("self" :: fl) (fl.length + 1) [] (fun us _ => us) (fun vs _ => vs)
theorem ExcD.mono {c : Wd} {C : Addr} {fl : List Str} {j k : Nat} (h : ExcD c C fl j) (l : j ≤ k) : ExcD c C fl k := by
  obtain ⟨fI, fd, h1, h2, F, h3⟩ := h.ini
  exact ⟨h.T, fI, fd, h1, h2, ⟨F.len, fun A o s H args us vs Q E r => F.run A o s H args us vs Q E (r.mono l)⟩, h3⟩
section
variable {X : Cx} {c : Fr} {W : WX} {N : List Str} {sc : Scope} {k j : Nat} {bb : Bool} {e a b o : Expr} {es : List Expr} {pos p p2 apos : Pos} {r ra rb : DTE} {rs rk : DTA} {x : Str} {st : Stmt}
theorem pmkG {C : Addr} {fl : List Str} {ta : TA} (B : XB X c W N sc k bb) (hx : ExcD c.toWd C fl j) (hj : j + 1 ≤ k) (hm : c.mg x = some (.ref C)) (hg : sc.names.lookup x = some .globalImplicit) (ha : PA X (e :: es) ta)
    (hdb : (x == ("__debug__" : Str)) = false := by decide) (he : starEach (e :: es) X.env = (false, eval e X.env) :: starEach es X.env := by rfl) (hpl : (backTo pos (starEach es X.env)).any (·.1) = false := by rfl) :
    PMk X (.Call (.Name x p) (e :: es) [] pos) (tMkO C (spX C fl) [] ta) := by
  intro pins st σ H Q I h
  have T := hx.T
  obtain ⟨fI, fd, iC, tI, F1, kb⟩ := hx.ini
  rw [← B.hK] at T iC tI
  obtain ⟨nm, q, NN, bs, bm, sn, sub, ab, col, dd, k0, k1, k2, k3, k5, hC, hbm⟩ := T.cls
  refine wpAny_Call_Name_kw (ld_glob I (glX B hg) (by rw [B.hm]; exact hm) ?_ hdb)
  refine PySem.W.callWith_K (h₀ := X.base) I.ok.mod.kin T.kC (thn (ha.run pos pins st σ H _ I h) fun us s1 ⟨vs, H1, I1, r1, hz, q1⟩ => ⟨I1.kIn, ?_⟩) he hpl
  obtain ⟨hp, g, dr, tk, os⟩ := s1
  let xa := hp.objs.size + 1
  let h2 := (hp.push (PySem.W.kdv_tup us)).push (PySem.HandSPX.excO C hp.objs.size)
  have ge : hp.objs.size ≤ xa := Nat.le_succ _
  have fresh : H1 xa = none := I1.hok.fresh ge
  have hq := q1 xa fresh
  have old : ∀ b o, hp.get? b = some o → h2.get? b = some o := fun b o z => Heap.get?_push_of_some _ (Heap.get?_push_of_some _ z)
  have here : Heap.get? ((hp.push (PySem.W.kdv_tup us)).push (PySem.HandSPX.excO C hp.objs.size)) (hp.objs.size + 1) = some (PySem.HandSPX.excO C hp.objs.size) := by heap_get
  have I2 : Inv X pins σ (upd H1 xa (exo xa C none)) ⟨h2, g, dr, tk, os⟩ := I1.laid (a := xa) (o := exo xa C none) (t' := tk) old ge (exo_ok here)
  have rv : Vals (V.ref xa :: (vs ++ [])) (Value.ref xa :: us) := by rw [List.append_nil]; exact .cons rfl r1
  have hlen : (V.ref xa :: (vs ++ [])).length = fl.length + 1 := F1.len _ _ _ _ hq
  have hul : (Value.ref xa :: us).length = fl.length + 1 := by rw [← rv.length]; exact hlen
  have small : us.length ≤ sizeLine := by rw [← r1.length, sizeLine_eq]; omega
  have E0 := I2.env0.make C us []
  rw [B.hP, B.hw, B.hK, B.hm, B.hb] at E0
  have room : Room (j + 1) X.A := B.room.mono hj
  have run := F1.run (X.A.under (.builtin "type.__call__" ⟨.ref C :: us, []⟩)) X.stack _ _ ⟨Value.ref xa :: us, []⟩ (Value.ref xa :: us) _ _ (fun _ _ _ => False) (room.make C us []) (make_guards B.gd) E0 (kb.to _ (Value.ref xa :: us) [] (by rw [← B.hK]; exact I2.kIn) hul rfl) rv hq
  rw [← B.hP, ← B.hw] at run
  refine wpAny_call (PySem.HandSPX.call_own F.excBase_ValueError (fun Y => PySem.HandSPX.refsVE_contains Y bm hbm) (I1.kIn _ _ hC) (PySem.W.looks_findIn I1.kIn iC) (fun self => PySem.W.bind_fn I1.kIn self tI) small (codeAny_mono run fun res s' hr => ?_))
  cases res with
  | error ee =>
    obtain ⟨_, _, _, _, _, _, _, _, _, _, _, _, z⟩ := hr
    exact z.elim
  | ok fl2 =>
    cases fl2 with
    | ret u =>
      obtain ⟨v, H2, os2, bare2, un2, hok2, rvv, ev, d, fs, ea, ed, hd1, q2⟩ := hr
      subst ev
      obtain ⟨h3, g3, d3, t3, os'⟩ := s'
      exact ⟨rvv, mk_end (raises_own T.exC T.tyC) I1 ge old un2 hok2 os2 bare2 ea ed hd1 q2⟩
    | next => exact hr.elim
    | brk => exact hr.elim
    | cont => exact hr.elim
/-- raise C(e, ..) -/
def dRaise (C : Addr) (fl : List Str) (rs : DTA) : DTS := fun N δ => rs δ (fun ds δ' => (ds.length = fl.length ∧ fl.length ≤ 900) ∧ N.ex ⟨.ref C, (fl.zip ds).reverse⟩ δ') N.ex
theorem ds_raise {C : Addr} {fl : List Str} (B : XB X c W N sc k bb) (hx : ExcD c.toWd C fl j) (hj : j + 1 ≤ k) (hm : c.mg x = some (.ref C)) (hg : sc.names.lookup x = some .globalImplicit) (ha : DA X c W (e :: es) rs)
    (hdb : (x == ("__debug__" : Str)) = false := by decide) (he : starEach (e :: es) X.env = (false, eval e X.env) :: starEach es X.env := by rfl) (hpl : (backTo pos (starEach es X.env)).any (·.1) = false := by rfl) :
    DS X c W (.Raise (some (.Call (.Name x p) (e :: es) [] pos)) none p2) (dRaise C fl rs) :=
  psI (ps_raise B.calm B.tk (pmkG B hx hj hm hg ha hdb he hpl)) fun D σ H ⟨G, δ, N, R, h, n⟩ => ⟨G, δ, _, N.ex, R, h, fun ds δ1 vs G1 H1 ⟨⟨l1, l2⟩, p1⟩ L R1 r1 => by
    have lv : vs.length = fl.length := by rw [r1.len, l1]
    refine ⟨by omega, fun a0 na => ⟨a0, vs ++ [], rfl, by rw [List.append_nil]; exact lv, upd_same, fun d H' hd hda e1 e2 same => ⟨rfl, d, _, e1, e2, by rwa [upd_ne hda] at hd, ?_⟩⟩⟩
    have hd1 : H1 d = none := by rwa [upd_ne hda] at hd
    rw [List.append_nil]
    have ext : upd (del H' a0) d (.xd (fl.zip vs).reverse) = upd H1 d (.xd (fl.zip vs).reverse) := by
      funext b
      by_cases q : b = d
      · subst q; rw [upd_same, upd_same]
      · rw [upd_ne q, upd_ne q]
        by_cases q2 : b = a0
        · subst q2; rw [del_same, na]
        · rw [del_ne q2, same b q2 q, upd_ne q2]
    rw [ext]
    exact n.ex _ δ1 _ _ _ _ σ p1 (L.g.trans (R1.laid hd1).go.g) (R1.laid' hd1) ⟨rfl, .inr ⟨d, _, rfl, upd_same, (RepF.zip (r1.mono (R1.laid hd1).go.g)).rev⟩⟩, exOf n⟩
end
end DL

/-! EM1: try: .. except C as e: x = e - the error is data from then on. -/
namespace DL
open PySem L2 PySem.Spec PyProof.Rows PySem.SeqAt
section
variable {X : Cx} {pins : List (Addr × Obj)} {σ : L2.St} {H : Hp} {s : Shared}
/-- an object that nothing tracked is tracked from now on -/
theorem adopt {a : Addr} {o : HO} {oe : Obj} (I : Inv X pins σ H s) (na : H a = none) (h0 : X.s_0.heap.get? a = none) (ha : s.heap.get? a = some oe) (nl : a ≠ X.env.locals) (nc : ∀ v, oe.data ≠ .cell v) (np : ∀ p ∈ X.pn ++ pins, p.1 ≠ a) (new : ObjOk X.prog X.w (upd H a o) s.heap a o) :
    Inv X pins σ (upd H a o) s := by
  have u := I.base
  have o1 : ∀ {b w}, H b = some w → upd H a o b = some w := fun {b w} e => by rw [upd_ne (show b ≠ a from fun q => by rw [q, na] at e; cases e)]; exact e
  have o2 : ∀ {b}, b ≠ a → H b = none → upd H a o b = none := fun {b} q e => by rw [upd_ne q]; exact e
  have n0 : ∀ {b w}, X.s_0.heap.get? b = some w → b ≠ a := fun {b w} e q => by rw [q, h0] at e; cases e
  refine ⟨I.ok, I.os, I.bare, ⟨u.keep, u.slot, fun b w e1 e2 e3 => o2 (n0 e1) (u.free b w e1 e2 e3), u.there, fun b xs e => o1 (u.tups b xs e), fun b w xs e => o1 (u.frzs b w xs e), fun b ps e => ?_⟩, I.loc, I.cell, o2 (Ne.symm nl) I.free, fun x c e => o2 (fun q => ?_) (I.freeC x c e), fun p hp => ?_, fun b w e => ?_, I.len⟩
  · obtain ⟨more, q⟩ := u.tbls b ps e
    exact ⟨more, o1 q⟩
  · obtain ⟨v, hv⟩ := I.cell x c e
    rw [q] at hv
    obtain ⟨o', h1, h2⟩ := hv
    rw [ha] at h1
    cases h1
    exact nc _ h2
  · obtain ⟨k1, k2, k3⟩ := I.pin p hp
    exact ⟨k1, o2 (np p hp) k2, k3⟩
  · by_cases q : b = a
    · subst q
      rw [upd_same] at e
      cases e
      exact new
    · rw [upd_ne q] at e
      exact (I.hok b w e).stay (fun _ _ _ z => z) (fun _ z => o1 z) fun _ _ z => o1 z
theorem exV_ok {P : Program} {w : World} {h : Heap} {a : Addr} {cls : Value} {d : Option Addr} {oe : Obj} {vs : Array Value} (he : h.get? a = some oe) (hz : Zc cls d oe) (hd : oe.data = .fields vs) : ObjOk P w H h a (ExV cls d a) :=
  ⟨⟨oe, vs, he, hz, hd⟩, ⟨_, he⟩, fun h1 h2 ⟨oe', vs', k1, k2, k3⟩ k => ⟨oe', vs', k _ k1, k2, k3⟩⟩
end
section
variable {X : Cx} {c : Fr} {W : WX} {N : List Str} {sc : Scope} {k j : Nat} {bb : Bool} {body : List Stmt} {tb : WX → TS} {x n y : Str} {cv : Value} {i jj : Nat} {np p1 p2 p3 pos' pos : Pos}
/-- what the error may do: caught, it is at a from then on -/
def wKeep (K : PySem.W.Frag) (cv : Value) (i jj : Nat) (Wout : WX) (D : Ends) : WX := fun cls d σ H =>
  ∃ b, PySem.W.exmOne K cls cv = some b ∧ (b = true → ∀ a, H a = none → D.nx ((σ.set jj (some (.ref a))).set i none) (upd H a (ExV cls d a))) ∧ (b = false → Wout cls d σ H)
theorem ps_tryKeep (hs : X.stack = X.env :: X.outer) (hf : X.env.frame = some X.env.locals) (hex : X.ex = []) (hN : X.N.Nodup) (hi : X.N[i]? = some n) (hj : X.N[jj]? = some y) (hij : jj ≠ i) (hln : X.env.kindOf n = some .local) (hly : Loc X.env.scope y) (hfy : X.fn y = true) (hc : Names X x cv) (tk : Takes X W)
    (hdn : (n == ("__debug__" : Str)) = false) (hcn : (n == ("__classdict__" : Str)) = false) (hsw : swapsWith (.Name n p2) (some (.Name y p1)) p3.line X.env = pure false)
    (hb : ∀ (W' : WX) (pn : List (Addr × Obj)) (xe : Value → Shared → Prop), Takes (X.tr pn xe) W' → PassesOwn (model X.prog X.w) X.A X.env xe → PSs (X.tr pn xe) body (tb W')) :
    PS X (.Try body [.ExceptHandler (some (.Name x np)) (some n) [.Assign [.Name y p1] (.Name n p2) p3] pos'] [] [] pos) (fun D σ H => tb (wKeep X.K cv i jj W D) D σ H) := by
  refine ⟨fun pins st σ H D I h => ?_⟩
  have ok := I.ok
  have frames : X.A.frames = some (X.env :: X.outer) := by rw [ok.frames, hs]
  have locn : Loc X.env.scope n := .inl hln
  refine wpAny_Try_except ?_
  let hnd : ExceptHandler := .ExceptHandler (some (.Name x np)) (some n) [.Assign [.Name y p1] (.Name n p2) p3] pos'
  refine wpAny_mono ((hb (wKeep X.K cv i jj W D) (X.pn ++ pins) (fun e s₁ => wpAny (model X.prog X.w) X.A (noteFrame e X.env) (fun _ s₂ => wpAny (model X.prog X.w) X.A (setFlight e none) (fun _ s₃ => wpAny (model X.prog X.w) X.A (handleBy e X.env [hnd]) (SP X pins D) X.xe s₃) X.xe s₂) X.xe s₁)
    (fun u s' xx => ?_) PassesOwn.looking).run [] st σ H D (I.toTry _) h) (fun f s1 hsp => ?_) (fun e s1 he => he)
  · obtain ⟨a, Bs, sI, pins', σ', H', cls, d, rfl, J', nb, up, sky, na, os, ag, b, hb1, hyes, hno⟩ := xx
    have J : Inv X pins σ' H' sI := J'.ofTry ok
    rw [hs] at sky
    show wpAny (model X.prog X.w) X.A (noteFrame (.ref a) X.env) _ _ _
    refine Sky.land Zc.steady frames hf sky fun h3 fl3 up3 => ?_
    have J3 : Inv X pins σ' H' { s' with heap := h3 } := J.landed nb fl3.1 (up.trans up3) os ag
    obtain ⟨oe3, vs3, he3, hz3, hd3⟩ := fl3.there
    have ba : Bs.get? a = none := fl3.2.1
    have out : a ∉ frs (X.env :: X.outer) := fun hm => by
      obtain ⟨_, o', e', z⟩ := fl3.2.2.1.mem hm
      rw [he3] at e'; cases e'
      exact z _ hd3
    have nL : a ≠ X.env.locals := fun z => out (List.mem_filterMap.mpr ⟨X.env, List.mem_cons_self, by rw [hf, z]⟩)
    have nF : a ∉ X.fs := fun hm => by
      obtain ⟨e, he, q⟩ := List.mem_filterMap.mp hm
      exact out (List.mem_filterMap.mpr ⟨e, List.mem_cons_of_mem _ he, q⟩)
    have nI : ∀ o, sI.heap.get? a ≠ some o := fun o e => by
      have z := nb a o e (by rw [hs]; exact out)
      rw [ba] at z; cases z
    have n0 : X.s_0.heap.get? a = none := by
      cases e : X.s_0.heap.get? a with
      | none => rfl
      | some o =>
        obtain ⟨o', e'⟩ := J.base.there a o e (by rw [hex]; simp)
        exact absurd e' (nI o')
    have nP : ∀ p ∈ X.pn ++ pins, p.1 ≠ a := fun p hp q => by
      have z := (J.pin p hp).1
      rw [q] at z
      exact nI _ z
    refine wpAny_handleBy_cons (codeAny_handlers_test ?_) (by intro q; cases q)
    have LT : PySem.W.Looks (model X.prog X.w) h3 (typeOf (.ref a)) cls := fun A Q E s k q => wpAny_typeOf_ref (k _ _ he3) (by rw [hz3.1]; exact q)
    have LM := PySem.W.exm_one (M := model X.prog X.w) (J3.kIn) LT hb1
    have S3 := J3.suite he3 hd3 na nL nF
    have test : ∀ {Q : Value → Shared → Prop} {E : Value → Shared → Prop}, Q cv { s' with heap := h3 } → wpAny (model X.prog X.w) (X.A.mark (some (.ref a))) (eval (.Name x np) X.env) Q E { s' with heap := h3 } := fun {Q E} q => by
      obtain ⟨hg, hdbg, hm | ⟨hm, hv, hnn⟩⟩ := hc
      · exact ld_glob (X := X.suite a ((a, oe3) :: (X.pn ++ pins))) S3 hg hm q hdbg
      · exact ld_blt (X := X.suite a ((a, oe3) :: (X.pn ++ pins))) S3 hg hm hv q hnn hdbg
    refine test (LM.here ?_)
    cases b with
    | true =>
      refine codeAny_handlers_suite_as ?_
      refine HandSPX.lands_againZ fl3 fun h4 fl4 up4 => ?_
      have J4 : Inv X pins σ' H' { s' with heap := h4 } := J.landed nb fl4.1 ((up.trans up3).trans up4) os ag
      obtain ⟨oe4, vs4, he4, hz4, hd4⟩ := fl4.there
      have S4 := J4.suite he4 hd4 na nL nF
      let X4 := X.suite a ((a, oe4) :: (X.pn ++ pins))
      have il : i < σ'.length := by rw [J.len]; exact (List.getElem?_eq_some_iff.mp hi).1
      refine store_ok (X := X4) (v := .ref a) S4 hN hi locn rfl (fun s5 S5 => ?_) (.inr hln)
      have asg : PSs X4 [.Assign [.Name y p1] (.Name n p2) p3] (tAsg (tVar i) (gName jj)) := pss_one (ps_set (X := X4) (i := jj) hN hj hly (pe_var (X := X4) (i := i) hi (.inl hln) hdn hcn) hsw (.inl hfy))
      refine wpAny_mono (asg.run [] s5 _ H' { nx := fun σ6 H6 => σ6 = ((σ'.set i (some (.ref a))).set jj (some (.ref a))) ∧ H6 = H', rt := fun _ _ => False } S5 ⟨.ref a, List.getElem?_set_self il, rfl, rfl⟩) (fun f s6 hsp => ?_) (fun _ _ z => False.elim z)
      cases f with
      | next =>
        obtain ⟨σ6, H6, S6, rfl, rfl⟩ := hsp
        have hob : s6.heap.get? a = some oe4 := (S6.pin (a, oe4) (List.mem_append_left _ (List.mem_cons_self))).1
        have A6 := adopt (o := ExV cls d a) (S6.unsuite ok) na n0 hob nL (fun v z => by rw [hd4] at z; cases z) nP (exV_ok hob hz4 hd4)
        refine gone_ok A6 hN hi hln fun s7 J7 => ⟨_, _, J7, ?_⟩
        have q := hyes rfl a na
        have e : ((List.set σ' i (some (V.ref a))).set jj (some (V.ref a))).set i none = (List.set σ' jj (some (V.ref a))).set i none := by
          rw [List.set_comm _ _ (Ne.symm hij), List.set_set]
        rw [e]
        exact q
      | brk => exact (by obtain ⟨_, _, _, z⟩ := hsp; exact z.elim)
      | cont => exact (by obtain ⟨_, _, _, z⟩ := hsp; exact z.elim)
      | ret u => exact (by obtain ⟨_, _, _, _, _, z⟩ := hsp; exact z.elim)
    | false =>
      show wpAny _ X.A (handleBy (.ref a) X.env []) _ _ _
      refine wpAny_handleBy_nil ?_
      obtain ⟨k1, k2, k3, oe, vs, T, oT, ts', he, hz, hd, h1, hr⟩ := id fl3
      unfold PySem.passOn
      refine wpAny_bind (wpAny_field he hd h1 ?_)
      rw [if_neg (show ¬ ((Value.ref T == Value.none) = true) from by simp)]
      have fin : wpAny (model X.prog X.w) X.A (setFlight (.ref a) X.env.frame) (fun _ s4 => wpAny (model X.prog X.w) X.A (throw (.ref a) : Sem Flow) (SP X pins D) X.xe s4) X.xe { s' with heap := h3 } := by
        rw [hf]
        exact HandSPX.setFlight_upZ fl3 fun h4 hh4 up4 => wpAny_throw (tk _ _ ⟨a, Bs, sI, pins, σ', H', cls, d, rfl, J, nb, (up.trans up3).trans up4, .inr (.inr (by rw [hs]; exact hh4)), na, os, ag, hno rfl⟩)
      first
        | exact wpAny_bind (wpAny_pure (wpAny_bind fin))
        | exact wpAny_bind fin
  · cases f with
    | next => obtain ⟨σ6, H6, I6, q6⟩ := hsp; exact wpAny_execs_nil ⟨σ6, H6, I6.ofTry ok, q6⟩
    | brk => obtain ⟨σ6, H6, I6, q6⟩ := hsp; exact ⟨σ6, H6, I6.ofTry ok, q6⟩
    | cont => obtain ⟨σ6, H6, I6, q6⟩ := hsp; exact ⟨σ6, H6, I6.ofTry ok, q6⟩
    | ret u => obtain ⟨v6, σ6, H6, I6, r6, q6⟩ := hsp; exact ⟨v6, σ6, H6, I6.ofTry ok, r6, q6⟩
/-- a slot is emptied -/
theorem Rel.unset {c : Fr} {G H : Hp} {σ : L2.St} {δ : S} (R : Rel c G H σ δ) (i : Nat) : Rel c G H (σ.set i none) { δ with sl := δ.sl.set i .un } := by
  have g : ∀ {j s a}, (δ.sl.set i .un)[j]? = some s → isOwn s = true → at_ (σ.set i none) j = some (.ref a) → δ.sl[j]? = some s ∧ at_ σ j = some (.ref a) := fun {j s a} h o h2 => by
    by_cases e : j = i
    · subst e
      by_cases hi : j < δ.sl.length
      · rw [List.getElem?_set_self hi] at h; cases h; cases o
      · rw [List.getElem?_eq_none (by simpa using hi)] at h; cases h
    · rw [List.getElem?_set_ne (Ne.symm e)] at h
      refine ⟨h, ?_⟩
      unfold at_ at h2 ⊢
      rwa [List.getElem?_set_ne (Ne.symm e)] at h2
  refine ⟨R.st, R.go.imp (fun _ s => s) fun a s => .inl (s.imp id fun ⟨j, s, h1, o, h2⟩ => ⟨j, s, (g h1 o h2).1, o, (g h1 o h2).2⟩), by simp [R.len], fun j s h => ?_, fun j k a s t ne h1 h2 o1 o2 a1 a2 => R.uq j k a s t ne (g h1 o1 a1).1 (g h2 o2 a2).1 o1 o2 (g h1 o1 a1).2 (g h2 o2 a2).2⟩
  by_cases e : j = i
  · subst e
    by_cases hi : j < δ.sl.length
    · rw [List.getElem?_set_self hi] at h; cases h; trivial
    · rw [List.getElem?_eq_none (by simpa using hi)] at h; cases h
  · rw [List.getElem?_set_ne (Ne.symm e)] at h
    have q := R.sl j s h
    unfold at_ at q ⊢
    rwa [List.getElem?_set_ne (Ne.symm e)]
theorem ErRep.rep {c : Wd} {G : Hp} {cls : Value} {dd : Option Addr} {er : Er} {a : Addr} (h : ErRep c G cls dd er) (ha : G a = some (ExV cls dd a)) : Rep c.K c.p0 G (.ref a) (.exc er.cls er.fs) := by
  obtain ⟨rfl, ⟨h, rfl⟩ | ⟨d, vs, rfl, h1, h2⟩⟩ := h
  · rw [h]; exact .exc0 ha
  · exact .exc ha h1 h2
theorem ErRep.mono {c : Wd} {G G' : Hp} {cls : Value} {dd : Option Addr} {er : Er} (h : ErRep c G cls dd er) (e : Le G G') : ErRep c G' cls dd er :=
  ⟨h.1, h.2.imp id fun ⟨d, vs, h0, h1, h2⟩ => ⟨d, vs, h0, e _ _ h1, h2.mono e⟩⟩
/-- try: t; except C as n: y = n -/
def dTryKeep (w : Wd) (cv : Value) (i jj : Nat) (t : DTS) : DTS := fun N δ => t { N with ex := fun er δ' => ∃ b, PySem.W.exmOne w.K er.cls cv = some b ∧ (if b = true then N.nx { δ' with sl := (δ'.sl.set jj (.d (.exc er.cls er.fs))).set i .un } else N.ex er δ') } δ
theorem ds_tryKeep {t : DTS} (B : XB X c W N sc k false) (hi : N[i]? = some n) (hj : N[jj]? = some y) (hln : sc.names.lookup n = some .local) (hly : Loc sc y) (hg : sc.names.lookup x = some .globalImplicit) (hm : c.mg x = some cv)
    (hb : ∀ (pn : List (Addr × Obj)) (xe : Value → Shared → Prop) (W' : WX), XB (X.tr pn xe) c W' N sc k false → DSs (X.tr pn xe) c W' body t) (hij : jj ≠ i := by decide) (hdb : (x == ("__debug__" : Str)) = false := by decide) (hdn : (n == ("__debug__" : Str)) = false := by decide) (hcn : (n == ("__classdict__" : Str)) = false := by decide)
    (hsw : swapsWith (.Name n p2) (some (.Name y p1)) p3.line X.env = pure false := by rfl) :
    DS X c W (.Try body [.ExceptHandler (some (.Name x np)) (some n) [.Assign [.Name y p1] (.Name n p2) p3] pos'] [] [] pos) (dTryKeep c.toWd cv i jj t) :=
  psI (ps_tryKeep (tb := fun W' => liftS c W' t) (B.stk rfl).1 (B.stk rfl).2 (B.ex rfl) (by rw [B.hN]; exact B.nd) (by rw [B.hN]; exact hi) (by rw [B.hN]; exact hj) hij (by show X.env.scope.names.lookup n = _; rw [B.hs]; exact hln) (by rw [B.hs]; exact hly) (B.fn rfl y) ⟨glX B hg, hdb, .inl (by rw [B.hm]; exact hm)⟩ B.tk hdn hcn hsw
    fun W' pn xe tk pw => hb pn xe W' ⟨B.hP, B.hw, B.hK, B.hm, B.hb, B.hN, B.nd, B.hs, B.calm, B.room, B.gd, tk, pw, B.fn, B.ex, B.stk⟩) fun D σ H ⟨G, δ, N, R, h, n⟩ =>
  ⟨G, δ, _, R, h, n.nx, n.rt, n.bk, n.ct, fun er δ' cls dd G' H' σ' ⟨b, hb1, hp⟩ L R' hE => by
    obtain rfl := hE.1
    refine ⟨b, by rw [B.hK]; exact hb1, fun e a na => ?_, fun e => ?_⟩
    · subst e
      simp only [if_true] at hp
      have po := R'.laid (o := ExV er.cls dd a) na
      have R2 := R'.laid' (o := ExV er.cls dd a) na
      exact n.nx _ _ _ _ hp (L.trans po.go.g) ((R2.set' (i := jj) ((hE.mono po.go.g).rep upd_same)).unset i)
    · subst e
      simp only [Bool.false_eq_true, if_false] at hp
      exact n.ex er δ' _ dd G' H' σ' hp L R' hE⟩
end
end DL

/-! EM2: attributes: fields, properties, an error's fields; isinstance of errors. -/
namespace PySem.W
section
variable {prog : Program} {w : World} {A : Around} {E : Value → Shared → Prop} {s : Shared} {K : Frag} {x D : Addr} {ox : Obj} {od : Option Obj}
/-- a data descriptor of the class goes ahead of the object's own dict -/
theorem findObj_dataX {C : Addr} {name : Str} {a g : Value} (hc : (clsIn K C).isSome = true) (ha : findIn K (.ref C) name = some (some a)) (hg : specialIn K a "__get__" = some (some g)) (ht : takesIn K a = some true) : findObj K C od name = some (.bind g a) := by
  cases e : clsIn K C with
  | none => rw [e] at hc; cases hc
  | some cd => simp only [findObj, e, ha, hg, ht, Option.bind_some]
/-- what an own error's class must say -/
structure XcC (K : Frag) (D : Addr) : Prop where
  ga : findIn K (.ref D) "__getattribute__" = some (some (.builtin "BaseException.__getattribute__"))
  gg : findIn K (.ref D) "__getattr__" = some none
  sb : subIn K (.ref D) (.type "BaseException") = some true
  hd : hasDictIn K D = true
  cc : findIn K (.ref D) "__class__" = some (some (.builtin "object.__class__"))
  cg : specialIn K (.builtin "object.__class__") "__get__" = some (some (.builtin "getset_descriptor.__get__"))
  ct : takesIn K (.builtin "object.__class__") = some true
  ob : mroIn K D (.type "object") = some true
theorem XcC.isCls (c : XcC K D) : (clsIn K D).isSome = true := by
  obtain ⟨cd, h, _⟩ := any_some c.hd
  rw [h]; rfl
theorem xc_class (c : XcC K D) {Q : Option Value → Shared → Prop} (X : K.In s.heap) (I : InstAt s.heap x ox D od) (h : Q (some (.ref D)) { s with toks := s.toks + 1 }) : wpAny (model prog w) A (getAttr? (.ref x) "__class__") Q E s := by
  have hf : findObj K D od "__class__" = some (.bind (.builtin "getset_descriptor.__get__") (.builtin "object.__class__")) := findObj_dataX c.isCls c.cc c.cg c.ct
  obtain ⟨hp, g, d, t, os⟩ := s
  have T0 := I.type (M := model prog w)
  have T1 := looks_findIn (M := model prog w) X c.ga
  have T2 := looks_findIn (M := model prog w) X c.gg
  have T3 := looks_find (M := model prog w) X I hf
  have sub : Looks (model prog w) hp (isInstance (.ref x) (.type "BaseException")) true := T0.andThen (looks_subIn X c.sb)
  have y2 : (Value.builtin "BaseException.__getattribute__" == Value.builtin "object.__getattribute__") = false := by decide +kernel
  unfold getAttr? getAttrBy? getAttrBy
  refine wpAny_bind (wpAny_mkText (wpAny_bind (wpAny_attempt (wpAny_holding (wpAny_bind (T0.at (wpAny_bind (T1.at ?_))))))))
  show wpAny _ _ (if (onTheHeap (Value.ref D) && Value.builtin "BaseException.__getattribute__" == Value.builtin "object.__getattribute__") = true then _ else _) _ _ _
  rw [y2, Bool.and_false, if_neg Bool.false_ne_true]
  unfold getAttrByItsOwn hookBefore
  refine wpAny_bind ?_
  rw [if_pos (show onTheHeap (Value.ref D) = true from rfl)]
  refine T2.at (wpAny_bind (wpAny_attempt (wpAny_holding ?_)))
  unfold callGetattribute
  rw [show (false && onTheHeap (Value.builtin "BaseException.__getattribute__")) = false from rfl, if_neg Bool.false_ne_true]
  unfold boundAndCalled
  rw [PySem.F.excAttr_ValueError.ga.bind (.ref x)]
  refine wpAny_bind (wpAny_pure ?_)
  show wpAny _ _ (call (.builtin "BaseException.__getattribute__") [.ref x, .str "__class__" t]) _ _ _
  refine wpAny_call (codeAny_call_builtin PySem.F.excAttr_ValueError.ga.plain PySem.F.entry_bexc_ga ?_)
  refine @check_slot (model prog w) _ _ ⟨hp, g, d, t + 1, os⟩ "BaseException.__getattribute__" "BaseException" "__getattribute__" (.ref x) [.str "__class__" t] [] _ (by decide +kernel) (by decide +kernel) sub (PySem.F.args_bexc_ga (.ref x) (.str "__class__" t)) ?_
  unfold Builtin.«object.__getattribute__»
  refine wpAny_bind (wpAny_of_eq (a := ((Value.ref x : Value), [Value.str "__class__" t])) (by first | rfl | (simp only [slotArgs]; rfl)) (wpAny_bind (wpAny_pure (wpAny_bind (T0.at (wpAny_bind (T3.at ?_)))))))
  show wpAny _ _ (holding [Value.builtin "object.__class__"] (call (.builtin "getset_descriptor.__get__") [.builtin "object.__class__", .ref x, .ref D]) >>= ret) _ _ _
  refine wpAny_bind (wpAny_holding (wpAny_call (class_get (s := ⟨hp, g, d, t + 1, os⟩) (ox := ox) (od := od) X I c.ob (wpAny_pure ?_))))
  show wpAny _ _ (handedOut (.ref D)) _ _ _
  rw [handedOut_of (v := .ref D) rfl]
  first
    | exact wpAny_pure (wpAny_pure h)
    | exact wpAny_pure h
    | exact wpAny_pure (wpAny_bind (wpAny_pure (wpAny_pure h)))
theorem xc_noTup (c : XcC K D) {h : Heap} {tp : Addr} {dd : Option Addr} {its : List Value} {n : Nat} {sl : Array (Option Value)} (X : K.In h) (htp : h.get? tp = some ⟨.type "tuple", dd, .seq its.toArray n, sl⟩) : (Value.ref D == .ref tp) = false := by
  refine Bool.eq_false_iff.mpr fun q => ?_
  cases Value.ref.inj (beq_iff_eq.mp q)
  have z := c.isCls
  unfold clsIn at z
  split at z
  · rename_i ho
    rw [X _ _ ho] at htp; cases htp
  · cases z
theorem kitx_exc (c : XcC K D) : KitX K (.ref x) (.ref D) (fun h => ∃ od, InstAt h x ox D od) where
  ty := fun _ _ _ ⟨_, I⟩ => I.type
  it := fun _ _ X _ => by
    have z := c.isCls
    unfold clsIn at z
    split at z
    · rename_i ho
      intro A' Q' E' s' k q
      unfold isType loadHead
      exact wpAny_bind (wpAny_loadPart (k _ _ (X _ _ ho)) (wpAny_pure q))
    · cases z
  ne := fun h tp dd its n sl X htp => xc_noTup c X htp
  ca := fun X ⟨_, I⟩ k => xc_class c X I k
end
end PySem.W
namespace DL
open PySem L2 PySem.Spec PyProof.Rows PySem.SeqAt
section
variable {X : Cx} {c : Fr} {W : WX} {N : List Str} {sc : Scope} {k j : Nat} {bb : Bool} {e a b o : Expr} {es : List Expr} {pos p p2 apos : Pos} {r ra rb : DTE} {rs rk : DTA} {x : Str} {st : Stmt} {s : DSp2}
/-- an error's object, its dict -/
theorem excAt {pins : List (Addr × Obj)} {σ : L2.St} {H G : Hp} {s : Shared} {K : PySem.W.Frag} {p0 : Addr} {v : V} {C : Addr} {fs : List (Str × D)} (I : Inv X pins σ H s) (le : Le G H) (h : Rep K p0 G v (.exc (.ref C) fs)) :
    ∃ xa ox od, v = .ref xa ∧ PySem.W.InstAt s.heap xa ox C od ∧ ∀ f y, fs.lookup f = some y → ∃ (dd : Addr) (ws : List (Str × V)), H dd = some (.xd ws) ∧ RepF K p0 G ws fs ∧ ox.dict = some dd := by
  have mk : ∀ {xa : Addr} {d : Option Addr}, G xa = some (ExV (.ref C) d xa) → ∃ oe, s.heap.get? xa = some oe ∧ oe.cls = .ref C ∧ oe.dict = d ∧ PySem.W.notCls oe = true := fun {xa d} hg => by
    obtain ⟨⟨oe, vs, q1, q2, q3⟩, _⟩ := (show ObjOk X.prog X.w H s.heap xa (ExV (.ref C) d xa) from I.hok xa _ (le _ _ hg))
    exact ⟨oe, q1, q2.1, q2.2, by unfold PySem.W.notCls; rw [q3] <;> rfl⟩
  cases h with
  | @exc0 xa _ hg =>
    obtain ⟨oe, q1, q2, q3, q4⟩ := mk hg
    exact ⟨xa, oe, none, rfl, ⟨q1, q2, q4, by rw [q3]; trivial⟩, fun f y z => by cases z⟩
  | @exc xa d _ vs _ hg hd rf =>
    obtain ⟨oe, q1, q2, q3, q4⟩ := mk hg
    obtain ⟨mA, hns, _⟩ := (show ObjOk X.prog X.w H s.heap d (.xd vs) from I.hok d _ (le _ _ hd))
    obtain ⟨od, ho, _⟩ := lookIn_ns hns
    exact ⟨xa, oe, some od, rfl, ⟨q1, q2, q4, by rw [q3]; exact ho⟩, fun f y z => ⟨d, vs, le _ _ hd, rf, q3⟩⟩
/-- what a value is, by its type; errors, too -/
def tyX (w : Wd) (d : D) (P : Value → Prop) : Prop := match d with
  | .exc (.ref C) _ => PySem.W.XcC w.K C ∧ P (.ref C)
  | d => tyD w d P
/-- a call of a built-in that the state bears on -/
def CalE (X : Cx) (c : Fr) (W : WX) (f : Value) (o : DSp) : Prop :=
  ∀ (pins : List (Addr × Obj)) (st : Shared) (σ : L2.St) (H : Hp) (vs : List V) (us : List Value) (ds : List D) (G : Hp) (δ : S) (P : D → Z → Prop) (E : Er → Z → Prop) (Q : VK),
    Inv X pins σ H st → Vals vs us → Rel c G H σ δ → RepL c.K c.p0 G vs ds → o ds δ.z P E → KP c G H σ δ P Q → KE c W G σ δ E →
    wpAny (model X.prog X.w) X.A (call f us) (EP X pins σ Q) X.xe st
theorem CalE.or {f : Value} {o o' : DSp} (h : CalE X c W f o) (h' : CalE X c W f o') : CalE X c W f (fun ds z P E => o ds z P E ∨ o' ds z P E) :=
  fun pins st σ H vs us ds G δ P E Q I r R rl q kp ke => q.elim (fun q => h pins st σ H vs us ds G δ P E Q I r R rl q kp ke) (fun q => h' pins st σ H vs us ds G δ P E Q I r R rl q kp ke)
theorem CalE.imp {f : Value} {o o' : DSp} (h : CalE X c W f o) (l : ∀ ds z P E, o' ds z P E → o ds z P E) : CalE X c W f o' :=
  fun pins st σ H vs us ds G δ P E Q I r R rl q kp ke => h pins st σ H vs us ds G δ P E Q I r R rl (l _ _ _ _ q) kp ke
theorem calE_of {f : Value} {o : DBu} (h : BuD X c f o) : CalE X c W f (fun ds z P _ => o ds (fun d => P d z)) := by
  obtain ⟨r, h1, h2⟩ := h.ex
  exact fun pins st σ H vs us ds G δ P E Q I rv R rl q kp ke => h1 pins st σ H vs us Q I rv (h2 G H σ δ vs ds (fun d => P d δ.z) Q R rl q fun d w G' H' p L R' rr => kp d δ.z w G' H' p L R' rr)
def dCalE (o : DSp) (rs : DTA) : DTE := fun δ P E => rs δ (fun ds δ1 => o ds δ1.z (fun d z => P d { δ1 with z := z }) (fun er z => E er { δ1 with z := z })) E
theorem dcalE_in {o : DSp} {σ : L2.St} {H : Hp} {Q : VK} : liftE c W (dCalE o rs) σ H Q → liftA c W rs σ H fun vs H1 => ∃ G δ ds P E, Rel c G H1 σ δ ∧ RepL c.K c.p0 G vs ds ∧ o ds δ.z P E ∧ KP c G H1 σ δ P Q ∧ KE c W G σ δ E := fun ⟨G, δ, P, E, R, h, kk, xx⟩ =>
  ⟨G, δ, _, E, R, h, fun ds δ1 vs G1 H1 p1 L1 R1 r1 => ⟨G1, δ1, ds, _, _, R1, r1, p1, fun d z' w G' H' p L R' rr => kk d _ w G' H' p (L1.trans L) R' rr, fun er z' cls dd G' H' p L R' q => xx er _ cls dd G' H' p (L1.g.trans L) R' q⟩, xx⟩
theorem de_calB {id : String} {o : DSp} (B : XB X c W N sc k bb) (hm : c.mg x = none) (hv : bootBuiltins x = some (.builtin id)) (ho : CalE X c W (.builtin id) o) (hg : sc.names.lookup x = some .globalImplicit) (ha : DA X c W (e :: es) rs) (hn : x ≠ "__name__" := by decide) (hdb : (x == ("__debug__" : Str)) = false := by decide)
    (he : starEach (e :: es) X.env = (false, eval e X.env) :: starEach es X.env := by rfl) (hpl : (backTo pos (starEach es X.env)).any (·.1) = false := by rfl) : DE X c W (.Call (.Name x p) (e :: es) [] pos) (dCalE o rs) := by
  refine ⟨fun pins s σ H Q I h => ?_⟩
  refine wpAny_Call_Name_kw (ld_blt I (glX B hg) (by rw [B.hm]; exact hm) hv ?_ hn hdb)
  exact PyProof.Rows.callWith_builtin1 (thn (ha.run pos pins s σ H _ I (dcalE_in h)) fun us s1 ⟨vs, H1, I1, r1, G, δ, ds, P, E, R, rl, q, kp, ke⟩ => ho pins s1 σ H1 vs us ds G δ P E Q I1 r1 R rl q kp ke) he hpl
theorem de_calT {T : String} {o : DSp} (B : XB X c W N sc k bb) (hm : c.mg x = none) (hv : bootBuiltins x = some (.type T)) (ho : CalE X c W (.type T) o) (hg : sc.names.lookup x = some .globalImplicit) (ha : DA X c W (e :: es) rs) (hn : x ≠ "__name__" := by decide) (hdb : (x == ("__debug__" : Str)) = false := by decide)
    (he : starEach (e :: es) X.env = (false, eval e X.env) :: starEach es X.env := by rfl) (hpl : (backTo pos (starEach es X.env)).any (·.1) = false := by rfl) : DE X c W (.Call (.Name x p) (e :: es) [] pos) (dCalE o rs) := by
  refine ⟨fun pins s σ H Q I h => ?_⟩
  refine wpAny_Call_Name_kw (ld_blt I (glX B hg) (by rw [B.hm]; exact hm) hv ?_ hn hdb)
  exact PyProof.Rows.callWith_type1 (thn (ha.run pos pins s σ H _ I (dcalE_in h)) fun us s1 ⟨vs, H1, I1, r1, G, δ, ds, P, E, R, rl, q, kp, ke⟩ => ho pins s1 σ H1 vs us ds G δ P E Q I1 r1 R rl q kp ke) he hpl
/-- isinstance(x, C) -/
def oIsA (w : Wd) : DSp := fun ds z P _ => match ds with
  | [d, k] => (match clD k with
    | some u => tyX w d (fun t => ∃ b, PySem.W.kitOne w.K t u = some b ∧ P (.bl b) z)
    | none => False)
  | _ => False
theorem clD_rep {K : PySem.W.Frag} {p0 : Addr} {G : Hp} {v : V} {d : D} {u : Value} (h : Rep K p0 G v d) (e : clD d = some u) : ClsV v u := by
  cases h <;> first | (cases e; done) | (simp only [clD, Option.some.injEq] at e; subst e; first | exact .ty _ | exact .own _)
theorem c_isa (B : XB X c W N sc k bb) : CalE X c W (.builtin "isinstance") (oIsA c.toWd) := by
  intro pins st σ H vs us ds G δ P E Q I rv R rl q kp ke
  match ds, rl, q with
  | [d, kd], rl, q =>
    have q0 := q
    unfold oIsA at q
    simp only at q
    cases e : clD kd with
    | none => rw [e] at q; exact q.elim
    | some u =>
      rw [e] at q
      by_cases hx : ∃ C fs, d = .exc (.ref C) fs
      · obtain ⟨C, fs, rfl⟩ := hx
        obtain ⟨hc, b, hb, hp⟩ := (show PySem.W.XcC c.K C ∧ ∃ b, PySem.W.kitOne c.K (.ref C) u = some b ∧ P (.bl b) δ.z from q)
        cases rl with
        | cons r1 rr =>
          cases rr with
          | cons r2 rr =>
            cases rr
            cases rv with
            | cons v1 vr =>
              cases vr with
              | cons v2 vr =>
                cases vr
                obtain ⟨xa, ox, od, rfl, J, _⟩ := excAt I R.le r1
                cases v1
                have e2 := (clD_rep r2 e).eq v2
                subst e2
                rw [← B.hK] at hc hb
                exact PySem.W.kia_one (PySem.W.kitx_exc hc) I.kIn ⟨od, J⟩ hb (fun z => nomatch z) fun tk => ⟨.bl b, H, I.tok tk, rfl, kp _ δ.z _ G H hp Go.refl R (.bl b)⟩
      · have q' : oIsi c.toWd [d, kd] (fun y => P y δ.z) := by
          unfold oIsi
          simp only [e]
          cases d with
          | exc cv fs =>
            cases cv with
            | ref C => exact absurd ⟨C, fs, rfl⟩ hx
            | _ => exact q.elim
          | _ => exact q
        exact calE_of (W := W) (b_isi B) pins st σ H vs us [d, kd] G δ P E Q I rv R rl q' kp ke
  | [], _, q => exact q.elim
  | [_], _, q => exact q.elim
  | _ :: _ :: _ :: _, _, q => exact q.elim
/-! ### attributes -/
theorem codeN {fv : Value} {ks : List Str} {A : Around} (B : XB X c W N sc k bb) (hc : Callee c.toWd fv ks j s) (hr : Room j A) (hg : A.guards = some []) (hf : A.frames = X.A.frames) {pins : List (Addr × Obj)} {st : Shared} {σ : L2.St} {H G : Hp} {δ : S} {us ws : List Value} {vs zs : List V} {ds es : List D} {P : D → Z → Prop} {Q : VK}
    (I : Inv X pins σ H st) (rv : Vals vs us) (rz : Vals zs ws) (hl : zs.length = ks.length) (R : Rel c G H σ δ) (rd : RepL c.K c.p0 G vs ds) (re : RepL c.K c.p0 G zs es) (h : s ds es δ.z P (fun _ _ => False)) (kp : KP c G H σ δ P Q) :
    codeAny (model X.prog X.w) A (.call fv ⟨us, ks.zip ws⟩) (fun r s' => ∃ v, r = .ok (.ret v) ∧ EP X pins σ Q v s') st := by
  have ok := I.ok
  let X' : Cx := { X with A := A, xe := fun _ _ => False }
  have I' : Inv X' pins σ H st := ⟨⟨ok.mod, ok.kind, ok.glob, ok.blt, ok.above, ok.inj, ok.has, ok.cab, fun _ => hr.hd, hf.trans ok.frames, ok.stk, ok.exf, ok.bs, ok.bsz, ok.noex, ok.exfs, ok.funs, ok.frf⟩, I.os, I.bare, I.base, I.loc, I.cell, I.free, I.freeC, I.pin, I.hok, I.len⟩
  refine codeAny_mono (hc.code X' never pins st σ H us ws vs zs Q B.hP B.hw B.hK B.hm B.hb hr hg (fun u s' ⟨_, _, _, _, _, _, _, _, _, _, _, _, _, _, _, _, z⟩ => z.elim) I' rv rz hl ⟨G, ds, es, δ.z, P, _, R.st, rd, re, h, fun d z' v G' H' p po rr => kp d z' v G' H' p (po.spf R) (R.post po) rr, fun _ _ _ _ _ _ p => p.elim⟩) fun r s' hq => ?_
  cases r with
  | error e => exact hq.elim
  | ok fl =>
    cases fl with
    | ret v =>
      obtain ⟨w, H', J, r', q⟩ := hq
      exact ⟨v, rfl, w, H', ⟨ok, J.os, J.bare, J.base, J.loc, J.cell, J.free, J.freeC, J.pin, J.hok, J.len⟩, r', q⟩
    | next => exact hq.elim
    | brk => exact hq.elim
    | cont => exact hq.elim
theorem runN {fv : Value} {ks : List Str} {A : Around} (B : XB X c W N sc k bb) (hc : Callee c.toWd fv ks j s) (hr : Room j A) (hg : A.guards = some []) (hf : A.frames = X.A.frames) {pins : List (Addr × Obj)} {st : Shared} {σ : L2.St} {H G : Hp} {δ : S} {us ws : List Value} {vs zs : List V} {ds es : List D} {P : D → Z → Prop} {Q : VK} {E' : Value → Shared → Prop}
    (I : Inv X pins σ H st) (rv : Vals vs us) (rz : Vals zs ws) (hl : zs.length = ks.length) (R : Rel c G H σ δ) (rd : RepL c.K c.p0 G vs ds) (re : RepL c.K c.p0 G zs es) (h : s ds es δ.z P (fun _ _ => False)) (kp : KP c G H σ δ P Q) :
    wpAny (model X.prog X.w) A (call fv us (ks.zip ws)) (EP X pins σ Q) E' st :=
  wpAny_call (codeAny_mono (codeN B hc hr hg hf I rv rz hl R rd re h kp) fun r s' ⟨v, e, q⟩ => by subst e; exact q)
/-- an error's attribute f stands in its own dict -/
structure XA (c : Wd) (C : Addr) (f : Str) : Prop where
  xc : PySem.W.XcC c.K C
  no : PySem.W.findIn c.K (.ref C) f = some none
structure PropD (c : Wd) (f : Str) (k : Nat) (C : Addr) (s : DSp2) : Prop where
  cl : Cls c.K C
  ex : ∃ p g : Addr, PropOf c.K C f p g ∧ Callee c (.ref g) [] k s
/-- o.f: a field, a property (C's stand in the table), an error's field -/
def dAt (w : Wd) (f : Str) (tbl : List (Addr × DSp2)) (r : DTE) : DTE := fun δ P E => r δ (fun d δ1 => match d with
  | .ins C fs => (match fs.lookup f with
    | some x => CA w C f ∧ P x δ1
    | none => dpt tbl C fun s => s [.ins C fs] [] δ1.z (fun y n => P y { δ1 with z := n }) (fun _ _ => False))
  | .exc (.ref C) fs => XA w C f ∧ (match fs.lookup f with
    | some x => P x δ1
    | none => False)
  | _ => False) E
theorem de_at {f : Str} {tbl : List (Addr × DSp2)} (B : XB X c W N sc (k + 1) bb) (hT : AllT (PropD c.toWd f j) tbl) (hj : j ≤ k) (he : DE X c W e r) (hb : attributeBase e f X.env (eval e X.env) = eval e X.env := by rfl) : DE X c W (.Attribute e f pos) (dAt c.toWd f tbl r) := by
  refine ⟨fun pins st σ H Q I ⟨G, δ, P, E, R, h, kk, xx⟩ => ?_⟩
  refine attr_of hb (thn (he.run pins st σ H (fun v H1 => ∃ G1 δ1 d, Rel c G1 H1 σ δ1 ∧ Rep c.K c.p0 G1 v d ∧ (∀ d δ' v G' H', P d δ' → Gof c δ1 δ' σ G1 H1 G' H' → Rel c G' H' σ δ' → Rep c.K c.p0 G' v d → Q v H') ∧ (match d with
    | .ins C fs => (match fs.lookup f with
      | some x => CA c.toWd C f ∧ P x δ1
      | none => dpt tbl C fun s => s [.ins C fs] [] δ1.z (fun y n => P y { δ1 with z := n }) (fun _ _ => False))
    | .exc (.ref C) fs => XA c.toWd C f ∧ (match fs.lookup f with
      | some x => P x δ1
      | none => False)
    | _ => False)) I ⟨G, δ, _, E, R, h, fun d δ1 v G1 H1 p L R1 rr => ⟨G1, δ1, d, R1, rr, fun d' δ' v' G' H' q L' R' r' => kk d' δ' v' G' H' q (L.trans L') R' r', p⟩, xx⟩) fun u s1 ⟨v, H1, I1, rx, G1, δ1, d, R1, rr, k1, p⟩ => ?_)
  cases d with
  | ins C fs =>
    simp only at p
    obtain ⟨xa, dx, vs, rfl, hG, rf⟩ := selfRep (H := H1) rr
    cases (show u = Value.ref xa from rx)
    cases hl : fs.lookup f with
    | some y =>
      rw [hl] at p
      obtain ⟨ca, p⟩ := p
      obtain ⟨w, hw, rw'⟩ := rf.look hl
      exact getattr_ok I1 (R1.le _ _ hG) (by rw [B.hK]; exact ca.cl) (by rw [B.hK]; exact ca.na) hw fun u' s2 I2 ru => ⟨w, H1, I2, ru, k1 y δ1 w G1 H1 p Go.refl R1 rw'⟩
    | none =>
      rw [hl] at p
      obtain ⟨s, hs, p⟩ := AllT.get hT p
      obtain ⟨pp, g, hp, hc⟩ := hs.ex
      have cl := hs.cl
      rw [← B.hK] at cl hp
      obtain ⟨mA, O, _, _, _, _⟩ := ins_get I1.hok (R1.le _ _ hG)
      obtain ⟨od, J, _⟩ := O.look
      obtain ⟨rest, hrec⟩ := hp.rec_
      have hC : (PySem.W.clsIn X.K C).isSome = true := by
        obtain ⟨cd, hc, _⟩ := PySem.W.any_some cl.hd
        rw [hc]; rfl
      refine PySem.W.get_bind I1.kIn J (PySem.W.plainGet_of (cl.get f)).1 (PySem.W.findObj_data hC hp.at_ hp.get hp.tak) (PySem.W.plainGet_of (cl.get f)).2 (wpAny_call (PySem.W.prop_get (s := { s1 with toks := s1.toks + 1 }) I1.kIn hrec ?_))
      refine codeAny_mono (codeN (A := X.A.in1) (ks := []) (ws := []) (zs := []) (es := []) (vs := [.ref xa]) (us := [.ref xa]) (Q := Q) B hc (B.room.in1.mono hj) B.gd rfl (I1.tok (s1.toks + 1)) (.cons rfl .nil) .nil rfl R1 (.cons rr .nil) .nil p (fun d z' w G' H' q L' R' r' => k1 d _ w G' H' q L' R' r')) fun r s' ⟨v, e, w, H', I3, rv, q3⟩ => ?_
      subst e
      show wpAny _ _ (handedOut v) _ _ _
      rw [PySem.W.handedOut_of (handed_of rv)]
      exact wpAny_pure ⟨w, H', I3, rv, q3⟩
  | exc cv fs =>
    cases cv with
    | ref C =>
      simp only at p
      obtain ⟨xa, p⟩ := p
      cases hl : fs.lookup f with
      | none => rw [hl] at p; exact p.elim
      | some y =>
        rw [hl] at p
        obtain ⟨a0, ox, od, rfl, J, hd⟩ := excAt I1 R1.le rr
        cases (show u = Value.ref a0 from rx)
        obtain ⟨dd, ws, h1, rf, hx⟩ := hd f y hl
        obtain ⟨w, hw, rw'⟩ := rf.look hl
        obtain ⟨mA, hns, hr⟩ := (show ObjOk X.prog X.w H1 s1.heap dd (.xd ws) from I1.hok dd _ h1)
        obtain ⟨od', ho, hlk⟩ := lookIn_ns hns
        obtain ⟨u', hu, ru⟩ := RelO.some_of (v := w) (o := mA f) (by rw [← hw]; exact hr f)
        have J' : PySem.W.InstAt s1.heap a0 ox C (some od') := ⟨J.at_, J.cls, J.no, by rw [hx]; exact ho⟩
        have xc := xa.xc
        have no := xa.no
        rw [← B.hK] at xc no
        exact HandSPX.exc_get I1.kIn J' xc.ga xc.gg xc.sb (PySem.W.findObj_own xc.hd no rfl (by rw [hlk, hu])) (handed_of ru) ⟨w, H1, I1.tok _, ru, k1 y δ1 w G1 H1 p Go.refl R1 rw'⟩
    | _ => exact p.elim
  | _ => exact p.elim
end
end DL

/-! EM3: g(lambda: body): a def that is handed something to do. -/
namespace DL
open PySem L2 PySem.Spec PyProof.Rows PySem.SeqAt
open LamX (CodeO Tabs ExtN LamS lamEnv lamCx TabB)
abbrev DAct := Z → (D → Z → Prop) → (Er → Z → Prop) → Prop
/-- from an exit's state on, as from any state that follows -/
def liftAct (c : Wd) (z0 : Z) (G0 H0 : Hp) (act : DAct) (HZ : Hp) (Q : VK) (E : XK) : Prop := ∃ (G : Hp) (z : Z) (P : D → Z → Prop) (R : Er → Z → Prop), Post c z0 G0 H0 G HZ z ∧ act z P R ∧
  (∀ d z' v G' H', P d z' → Post c z G HZ G' H' z' → Rep c.K c.p0 G' v d → Q v H') ∧
  (∀ er z' cls dd G' H', R er z' → Post c z G HZ G' H' z' → ErRep c G' cls dd er → E cls dd H')
/-- what stands at f may be called from any later frame: it keeps act -/
structure ActF (c : Wd) (fs : List Addr) (s0 : Shared) (z0 : Z) (G0 H0 : Hp) (f : Addr) (k : Nat) (act : DAct) : Prop where
  fn : ∃ o nm q ps b sc cl pm c' ctv, s0.heap.get? f = some (PySem.W.kla_obj nm q ps b sc cl pm c' ctv) ∧ o = f
  off : H0 f = none ∧ f ∉ fs
  run : ∀ (A : Around) (outer : List Env) (s1 : Shared) (HZ : Hp) (Q : VK) (E : XK), Env0 c.P c.w c.K c.mg c.base A outer s1 HZ → Room k A → A.guards = some [] → Un fs [] H0 HZ s0.heap s1.heap → liftAct c z0 G0 H0 act HZ Q E →
    codeAny (model c.P c.w) A (.call (.ref f) ⟨[], []⟩) (CR (L2.CX c.P c.w) outer c.P c.w HZ s1 Q E) s1
section
variable {X : Cx} {c : Fr} {W : WX} {N : List Str} {sc : Scope} {k j : Nat} {bb : Bool} {e a b o : Expr} {es : List Expr} {pos p p2 apos : Pos} {r ra rb : DTE} {rs rk : DTA} {x : Str} {st : Stmt} {s : DSp2}
/-- a(): slot i holds f -/
def dAct (f : Addr) (act : DAct) (i : Nat) : DTE := fun δ P E => δ.sl[i]? = some (.d (.ref f)) ∧ act δ.z (fun d z => P d { δ with z := z }) (fun er z => E er { δ with z := z })
theorem de_act {f : Addr} {act : DAct} {i : Nat} {n : Str} {s0 : Shared} {z0 : Z} {G0 H0 : Hp} (B : XB X c W N sc k false) (hA : ActF c.toWd X.fs s0 z0 G0 H0 f j act) (hj : j ≤ k) (h0 : X.s_0 = s0) (hH : X.H_0 = H0) (hc : c = frOf c.toWd G0 H0 z0 []) (hN : N[i]? = some n) (hv : Vis sc n)
    (hd : (n == ("__debug__" : Str)) = false := by decide) (hcd : (n == ("__classdict__" : Str)) = false := by decide) : DE X c W (.Call (.Name n p) [] [] pos) (dAct f act i) := by
  subst h0 hH
  refine ⟨fun pins st σ H Q I ⟨G, δ, P, E, R, ⟨hs, h⟩, kk, xx⟩ => ?_⟩
  refine wpAny_Call_Name_kw (thn ((pe_var (X := X) (pos := p) (i := i) (by rw [B.hN]; exact hN) (by rw [B.hs]; exact hv) hd hcd).run pins st σ H (fun v H1 => v = .ref f ∧ H1 = H) I ?_) fun u s1 ⟨v, H1, I1, r1, e1, e2⟩ => ?_)
  · obtain ⟨v, h1, h2⟩ := R.sl i _ hs
    cases h2
    exact ⟨_, at_some h1, rfl, rfl⟩
  subst e1
  subst e2
  cases (show u = Value.ref f from r1)
  obtain ⟨_, nm, q, ps, b, sc', cl, pm, c', ctv, hf, _⟩ := hA.fn
  have un : Un X.fs [] X.H_0 H1 X.s_0.heap s1.heap := by
    have u := I1.base
    rw [B.ex rfl] at u
    exact u
  have of1 := un.keep f _ hf hA.off.1 hA.off.2 (by simp)
  refine PySem.W.callWith_F0 ⟨_, _, _, _, of1⟩ ?_
  have po : Post c.toWd z0 G0 X.H_0 G H1 δ.z := by
    have g := R.go
    rw [hc] at g
    exact ⟨R.st, g.imp (fun a h => h.elim id fun m => absurd m (by simp)) fun a h => .inl (.inl h)⟩
  have E0 : Env0 c.P c.w c.K c.mg c.base X.A X.stack s1 H1 := by rw [← B.hP, ← B.hw, ← B.hK, ← B.hm, ← B.hb]; exact I1.env0
  have rc := hA.run X.A X.stack s1 H1 Q (fun cls dd H' => W cls dd σ H') E0 (B.room.mono hj) B.gd un ⟨G, δ.z, _, _, po, h, fun d z' v G' H' p1 po1 rr => kk d _ v G' H' p1 (po1.spf R) (R.post po1) rr, fun er z' cls dd G' H' p1 po1 hE => xx er _ cls dd G' H' p1 po1.go.g (R.post po1) hE⟩
  rw [← B.hP, ← B.hw] at rc
  refine wpAny_call (codeAny_mono rc fun res s' hq => ?_)
  cases res with
  | error ee => exact passAtW B.tk σ pins H1 s1 ee s' I1 hq
  | ok fl => cases fl <;> first | exact I1.after hq | exact hq.elim
/-! ### the slots that a lambda sees -/
/-- own lists and dicts are data from now on -/
def frzSl : List Sl → List Sl
  | [] => []
  | .own xs :: r => .d (.lst xs) :: frzSl r
  | .ownK xs :: r => .d (.dct xs) :: frzSl r
  | s :: r => s :: frzSl r
def frz1 : Sl → Sl
  | .own xs => .d (.lst xs)
  | .ownK xs => .d (.dct xs)
  | s => s
theorem frzSl_map : ∀ l : List Sl, frzSl l = l.map frz1
  | [] => rfl
  | s :: r => by cases s <;> simp only [frzSl, frz1, List.map_cons, frzSl_map r]
theorem frz_get {l : List Sl} {i : Nat} {s : Sl} (h : (frzSl l)[i]? = some s) : ∃ s0, l[i]? = some s0 ∧ s = frz1 s0 := by
  rw [frzSl_map, List.getElem?_map] at h
  cases e : l[i]? with
  | none => rw [e] at h; cases h
  | some s0 => rw [e] at h; exact ⟨s0, rfl, (Option.some.inj h).symm⟩
/-- a slot that is frozen now holds a -/
def OwnF (δ : S) (σ : L2.St) (a : Addr) : Prop := ∃ i s, δ.sl[i]? = some s ∧ isOwn s = true ∧ isOwn (frz1 s) = false ∧ at_ σ i = some (.ref a)
theorem Rel.frz {G H : Hp} {σ : L2.St} {δ : S} (R : Rel c G H σ δ) : ∃ G2, Le G G2 ∧ Rel c G2 H σ { δ with sl := frzSl δ.sl } ∧ Gof c δ { δ with sl := frzSl δ.sl } σ G H G2 H := by
  let G2 : Hp := fun a => @ite _ (OwnF δ σ a) (Classical.propDecidable _) (H a) (G a)
  have yes : ∀ {a}, OwnF δ σ a → G2 a = H a := fun h => if_pos h
  have no : ∀ {a}, ¬ OwnF δ σ a → G2 a = G a := fun h => if_neg h
  have info : ∀ {a}, OwnF δ σ a → ∃ u, H a = some u ∧ G a = none ∧ ¬ Spc c.toWd δ.z a ∧ ∀ ps, u ≠ .tbl ps := fun {a} ⟨i, s, h1, h2, h3, h4⟩ => by
    have q := R.sl i s h1
    rw [h4] at q
    cases s with
    | own xs => obtain ⟨_, vs, e, k1, k2, k3, _⟩ := q; cases e; exact ⟨_, k1, k2, k3, fun ps z => by cases z⟩
    | ownK xs => obtain ⟨_, vs, e, k1, k2, k3, _⟩ := q; cases e; exact ⟨_, k1, k2, k3, fun ps z => by cases z⟩
    | self C fs => cases h3
    | un => cases h2
    | d x => cases h2
  have L : Le G G2 := fun a o e => by
    rw [no fun h => by obtain ⟨_, _, z, _⟩ := info h; rw [z] at e; cases e]; exact e
  have st : StOk c.toWd G2 H δ.z := by
    refine ⟨fun a o e => ?_, R.st.pn.mono L rfl, R.st.tb, fun a m => ?_, fun a cl m => (R.st.ms a cl m).imp (fun k => k.mono L rfl) id, fun a ps e => ?_⟩
    · by_cases q : OwnF δ σ a
      · rw [yes q] at e; exact e
      · rw [no q] at e; exact R.le a o e
    · rw [no fun q => (info q).elim fun _ z => z.2.2.1 m]; exact R.st.sg a m
    · by_cases q : OwnF δ σ a
      · obtain ⟨u, h1, _, _, h4⟩ := info q
        rw [yes q, h1] at e; exact h4 ps (Option.some.inj e)
      · rw [no q] at e; exact R.st.nt a ps e
  have own : ∀ a, Own { δ with sl := frzSl δ.sl } σ a → Own δ σ a ∧ ¬ OwnF δ σ a := fun a ⟨i, s, h1, h2, h3⟩ => by
    obtain ⟨s0, e0, rfl⟩ := frz_get h1
    have o0 : isOwn s0 = true := by cases s0 <;> first | rfl | (cases h2; done)
    refine ⟨⟨i, s0, e0, o0, h3⟩, fun ⟨k, t, k1, k2, k3, k4⟩ => ?_⟩
    by_cases q : i = k
    · subst q; rw [e0] at k1; cases k1; rw [h2] at k3; cases k3
    · exact R.uq i k a s0 t q e0 k1 o0 k2 h3 k4
  have g : Gof c δ { δ with sl := frzSl δ.sl } σ G H G2 H := by
    refine ⟨L, fun _ _ h _ => h, fun _ u h => ⟨u, h⟩, fun a o e => ?_, fun a h => .inl (h.imp id fun z => (own a z).1)⟩
    by_cases q : OwnF δ σ a
    · obtain ⟨i, s, h1, h2, _, h4⟩ := q
      exact .inr (.inr (.inr ⟨i, s, h1, h2, h4⟩))
    · rw [no q] at e; exact .inl e
  refine ⟨G2, L, ⟨st, R.go.trans g, by rw [R.len]; simp [frzSl_map], fun i s h => ?_, fun i j a s t ne h1 h2 o1 o2 a1 a2 => ?_⟩, g⟩
  · obtain ⟨s0, e0, rfl⟩ := frz_get h
    have q := R.sl i s0 e0
    cases s0 with
    | un => trivial
    | d x => obtain ⟨v, k1, k2⟩ := q; exact ⟨v, k1, k2.mono L⟩
    | own xs =>
      obtain ⟨a, vs, k1, k2, k3, k4, k5⟩ := q
      exact ⟨.ref a, k1, .lst (.inl ((yes ⟨i, _, e0, rfl, rfl, k1⟩).trans k2)) (k5.mono L)⟩
    | ownK xs =>
      obtain ⟨a, vs, k1, k2, k3, k4, k5⟩ := q
      exact ⟨.ref a, k1, .dct (.inl ((yes ⟨i, _, e0, rfl, rfl, k1⟩).trans k2)) (k5.mono L)⟩
    | self C fs =>
      obtain ⟨a, dx, vs, k1, k2, k3, k4, k5, k6⟩ := q
      refine ⟨a, dx, vs, k1, k2, ?_, k4, k5, k6.mono L⟩
      rw [no ((own a ⟨i, _, h, rfl, k1⟩).2)]; exact k3
  · obtain ⟨s0, e0, rfl⟩ := frz_get h1
    obtain ⟨t0, f0, rfl⟩ := frz_get h2
    exact R.uq i j a s0 t0 ne e0 f0 (by cases s0 <;> first | rfl | (cases o1; done)) (by cases t0 <;> first | rfl | (cases o2; done)) a1 a2
/-! ### a lambda is made -/
theorem lamMk {pins : List (Addr × Obj)} {σ : L2.St} {H : Hp} {s : Shared} {cc P : Addr} {qn : Str} {params : Arguments} {body : Expr} {scope : Scope} {E : Value → Shared → Prop} {Q : Value → Shared → Prop} (I : Inv X pins σ H s) (TB : TabB X.base X.mg cc P) (code : X.env.code = .ref cc) (eq : qn = X.env.qual ++ "<lambda>") (tab : LamX.TabS H P qn)
    (df : defaultsOf params X.env = ([], [])) (fr : ∀ y ∈ scope.names, y.2 = .free → ∃ c, X.env.cells.lookup y.1 = some c)
    (h : ∀ (f c' : Addr) (pm ctv : Value) (H1 : Hp) (s' : Shared), Inv X pins σ H1 s' → (H1 = H ∨ ∃ ps, H c' = none ∧ H1 = upd (upd H P (.tbl ps)) c' (CodeO c' qn)) → LamX.TabS H1 P qn →
      s'.heap.get? f = some (PySem.W.kla_obj "<lambda>" qn params body scope (cloFrom X.env.cells scope.names []) pm c' ctv) → H1 f = none → f ∉ frs X.stack → H1 c' = some (CodeO c' qn) → Q (.ref f) s') :
    wpAny (model X.prog X.w) X.A (eval (.Lambda params body scope pos) X.env) Q E s := by
  subst eq
  obtain ⟨ps, eP, tr, am⟩ := tab
  refine PySem.W.kla_eval df ?_
  have objP : s.heap.get? P = some { cls := .none, data := .fields ps } := I.hok P _ eP
  have out : ∀ f, s.heap.objs.size ≤ f → f ∉ frs X.stack := fun f hf z => by
    rcases List.mem_cons.mp (I.stkSub _ z) with e | e
    · exact absurd (show f < s.heap.objs.size by rw [e]; exact I.lt) (Nat.not_lt.mpr hf)
    · exact I.nofs hf e
  cases hc : codeAmong pos ps.toList with
  | none =>
    refine PySem.W.kla_makeFunction (mg := X.mg) (c := cc) (P := P) (ps := ps) (closure_ok fr) I.ok.glob (I.mod.glob.keeps I.bk) code (TB.code.keeps I.bk) objP tr hc TB.gP (TB.bm.keeps I.bk) fun c' ctv h' tk hx ge lt rec tb => ?_
    obtain ⟨_, oc, vs, t, e2, hoc, hd, hv⟩ := rec
    cases e2
    have sz : s.heap.objs.size ≤ h'.objs.size := Nat.le_trans ge (Nat.le_of_lt lt)
    have nC : H c' = none := I.hok.fresh ge
    let fo := PySem.W.kla_obj "<lambda>" (X.env.qual ++ "<lambda>") params body scope (cloFrom X.env.cells scope.names []) ((X.mg "__name__").getD .none) c' ctv
    let ps' := ps ++ #[rawInt pos.line, rawInt pos.col, .ref c']
    have I1 : Inv X pins σ (upd (upd H P (.tbl ps')) c' (CodeO c' (X.env.qual ++ "<lambda>"))) { s with heap := h'.push fo, toks := tk } :=
      LamX.inv_table (more := #[rawInt pos.line, rawInt pos.col, .ref c']) I eP (fun b o hb e => Heap.get?_push_of_some _ (hx b o hb e)) (Heap.get?_push_of_some _ tb) ge ⟨oc, vs, t, Heap.get?_push_of_some _ hoc, hd, hv⟩
    have nPC : P ≠ c' := ne_of_none eP nC
    have lst : ps'.toList = ps.toList ++ [rawInt pos.line, rawInt pos.col, .ref c'] := by simp [ps']
    refine h h'.objs.size c' _ ctv _ _ I1 (.inr ⟨ps', nC, rfl⟩) ⟨ps', by rw [upd_ne nPC, upd_same], by rw [lst]; exact PySem.TriplesOk_snoc _ _ _ _ tr, fun p' cv hcv => ?_⟩ (Heap.get?_push_size _ rfl) ?_ (out _ sz) upd_same
    · rw [lst] at hcv
      rcases LamX.among_app _ tr hcv with z | z
      · obtain ⟨c0, e1, e2⟩ := am p' cv z
        refine ⟨c0, e1, ?_⟩
        by_cases q : c0 = c'
        · rw [q]; exact upd_same
        · rw [upd_ne q, upd_ne (fun w => by rw [w, eP] at e2; exact LamX.codeO_ne ps (Option.some.inj e2).symm)]; exact e2
      · exact ⟨c', z, upd_same⟩
    · have q1 : h'.objs.size ≠ c' := Nat.ne_of_gt lt
      have q2 : h'.objs.size ≠ P := Nat.ne_of_gt (Nat.lt_of_lt_of_le (Heap.lt_size objP) sz)
      rw [upd_ne q1, upd_ne q2]
      exact I.hok.fresh sz
  | some cv =>
    obtain ⟨c', e, hco⟩ := am pos cv hc
    subst e
    refine PySem.W.kla_makeFunctionHit (mg := X.mg) (c := cc) (P := P) (ps := ps) (closure_ok fr) I.ok.glob (I.mod.glob.keeps I.bk) code (TB.code.keeps I.bk) objP tr hc (TB.bm.keeps I.bk) fun ctv h' tk hx sz => ?_
    exact h h'.objs.size c' _ ctv H _ (I.kept fun b o e => Heap.get?_push_of_some _ (hx b o e)) (.inl rfl) ⟨ps, eP, tr, am⟩ (Heap.get?_push_size _ rfl) (I.hok.fresh sz) (out _ sz) hco
end
end DL

/-! EM4: g(lambda: body): the call; a def that holds lambdas. -/
namespace DL
open PySem L2 PySem.Spec PyProof.Rows PySem.SeqAt
open LamX (CodeO Tabs ExtN LamS lamEnv lamCx TabB)
/-- what a lambda's body does, over the slots sl -/
def lamAct (rb : DTE) (sl : List Sl) : DAct := fun z P R => rb ⟨cleanSl [] 0 sl, z⟩ (fun d δ' => P d δ'.z) (fun er δ' => R er δ'.z)
abbrev DSpA := Addr → DAct → Z → (D → Z → Prop) → Prop
/-- g is handed something to do; it lets nothing out -/
structure GAct (c : Wd) (g : Addr) (k ja : Nat) (sg : DSpA) : Prop where
  keeper : PySem.W.keepIn c.K (.ref g) = true
  run : ∀ (A : Around) (outer : List Env) (s : Shared) (H G : Hp) (f : Addr) (act : DAct) (z : Z) (P : D → Z → Prop) (Q : VK), Env0 c.P c.w c.K c.mg c.base A outer s H → Room k A → A.guards = some [] → StOk c G H z → ActF c (frs outer) s z G H f ja act → sg f act z P →
    (∀ d z' v G' H', P d z' → Post c z G H G' H' z' → Rep c.K c.p0 G' v d → Q v H') → codeAny (model c.P c.w) A (.call (.ref g) ⟨[.ref f], []⟩) (CR (L2.CX c.P c.w) outer c.P c.w H s Q (fun _ _ _ => False)) s
theorem GAct.mono {c : Wd} {g : Addr} {k k' ja : Nat} {sg : DSpA} (h : GAct c g k ja sg) (l : k ≤ k') : GAct c g k' ja sg :=
  ⟨h.keeper, fun A o s H G f act z P Q e r => h.run A o s H G f act z P Q e (r.mono l)⟩
/-- the maker's frame: its code object, its table -/
structure LamH (X : Cx) (c : Wd) (cc Pt : Addr) (qn : Str) : Prop where
  code : X.env.code = .ref cc
  qual : qn = X.env.qual ++ "<lambda>"
  tb : TabB c.base c.mg cc Pt
  mem : (Pt, qn) ∈ c.tb
  uniq : ∀ p ∈ c.tb, p.1 = Pt → p.2 = qn
section
variable {X : Cx} {c : Fr} {W : WX} {N : List Str} {sc : Scope} {k j : Nat} {bb : Bool} {e a b o : Expr} {es : List Expr} {pos p p2 apos lpos : Pos} {r ra rb : DTE} {rs rk : DTA} {x : Str} {st : Stmt} {s : DSp2}
/-- the table has grown, at most -/
theorem StOk.tbl {w : Wd} {G H H1 : Hp} {z : Z} {Pt c' : Addr} {qn : Str} (s : StOk w G H z) (hm : (Pt, qn) ∈ w.tb) (hu : ∀ p ∈ w.tb, p.1 = Pt → p.2 = qn) (h1 : H1 = H ∨ ∃ ps, H c' = none ∧ H1 = upd (upd H Pt (.tbl ps)) c' (CodeO c' qn)) (t1 : LamX.TabS H1 Pt qn) : Post w z G H G H1 z := by
  rcases h1 with rfl | ⟨ps, nc, e⟩
  · exact Post.refl s
  · obtain ⟨ps0, hp, _, _⟩ := s.tb _ hm
    have spt : Spc w z Pt := .inr (.inr (List.mem_map_of_mem hm))
    have keep : ∀ {a o}, H a = some o → a ≠ Pt → H1 a = some o := fun {a o} q n => by rw [e, upd_ne (ne_of_none q nc), upd_ne n]; exact q
    have npt : ∀ {a o}, H a = some o → (∀ ps, o ≠ .tbl ps) → a ≠ Pt := fun {a o} q n w => by rw [w, hp] at q; exact n _ (Option.some.inj q).symm
    obtain ⟨q0, b0, r0, cs0, hp0, _⟩ := s.pn
    refine ⟨⟨fun a o q => keep (s.le a o q) (fun w => s.nt a ps0 (by rw [w]; have := s.le a o q; rw [w, hp] at this; rw [← w, q, ← Option.some.inj this])), s.pn.mono (Le.refl _) ((keep hp0 (npt hp0 fun ps w => by cases w)).trans hp0.symm), fun p m => ?_, s.sg, fun a cl m => ?_, s.nt⟩, Le.refl _, fun a o q n => keep q (fun w => n (w ▸ spt)), fun a o q => ?_, fun _ _ q => .inl q, fun _ q => .inl q⟩
    · by_cases w : p.1 = Pt
      · have := hu p m w
        rw [w, this]; exact t1
      · obtain ⟨ps1, k1, k2, k3⟩ := s.tb p m
        refine ⟨ps1, keep k1 w, k2, fun pos cv hc => ?_⟩
        obtain ⟨cx, e1, e2⟩ := k3 pos cv hc
        exact ⟨cx, e1, keep e2 (npt e2 fun ps => LamX.codeO_ne ps)⟩
    · obtain ⟨k1, k2, k3⟩ := s.ms a cl m
      obtain ⟨u, q⟩ := k1.at
      have hne : a ≠ Pt := fun w => k3 (w ▸ List.mem_map_of_mem hm)
      exact ⟨k1.mono (Le.refl _) ((keep q hne).trans q.symm), k2, k3⟩
    · by_cases w : a = Pt
      · rw [w, e]
        exact ⟨.tbl ps, by rw [upd_ne (ne_of_none hp nc), upd_same]⟩
      · exact ⟨o, keep q w⟩
/-- a code object may not change -/
theorem StOk.code {w : Wd} {G H : Hp} {z : Z} {a : Addr} {q : Str} (s : StOk w G H z) (h : H a = some (CodeO a q)) : ¬ Spc w z a := fun m => by
  rcases m with m | m | m
  · obtain ⟨_, _, _, _, y, _⟩ := s.pn
    rw [m, y] at h; exact lst_code _ _ (Option.some.inj h)
  · cases y : z.ms a with
    | none => exact m y
    | some cl =>
      have ok := (s.ms a cl y).1
      cases cl with
      | lst xs => obtain ⟨vs, k, _⟩ := ok; rw [k] at h; unfold CodeO at h; cases h
      | dct xs => obtain ⟨vs, k, _⟩ := ok; rw [k] at h; unfold CodeO at h; cases h
      | ins C fs => obtain ⟨dx, vs, k, _⟩ := ok; rw [k] at h; unfold CodeO at h; cases h
  · obtain ⟨p, hp, e⟩ := List.mem_map.mp m
    obtain ⟨ps, y, _⟩ := s.tb p hp
    rw [e, h] at y; exact LamX.codeO_ne ps (Option.some.inj y)
/-- fr: what the frame owns is data from now on -/
def fz (fr : Bool) (l : List Sl) : List Sl := if fr = true then frzSl l else l
theorem Rel.fz {G H : Hp} {σ : L2.St} {δ : S} (R : Rel c G H σ δ) (fr : Bool) : ∃ G2, Le G G2 ∧ Rel c G2 H σ { δ with sl := DL.fz fr δ.sl } ∧ Gof c δ { δ with sl := DL.fz fr δ.sl } σ G H G2 H := by
  cases fr with
  | true => exact R.frz
  | false => exact ⟨G, Le.refl _, R, Go.refl⟩
/-- g(lambda: body) -/
def dLam (fr : Bool) (sg : DSpA) (rb : DTE) : DTE := fun δ P _ => ∀ f : Addr, sg f (lamAct rb (fz fr δ.sl)) δ.z (fun d z => P d ⟨fz fr δ.sl, z⟩)
theorem rel_lam {G H Gz HZ : Hp} {σ : L2.St} {δ : S} {zz : Z} (R : Rel c G H σ δ) (L : Le G Gz) (st : StOk c.toWd Gz HZ zz) : Rel (frOf c.toWd Gz HZ zz []) Gz HZ σ ⟨cleanSl [] 0 δ.sl, zz⟩ := by
  refine ⟨st, (Go.refl (S := Spc c.toWd zz)).imp (fun _ h => .inl h) (fun a h => .inl (spf_clean (fun i s h => clean_own h) h)), by rw [R.len]; exact (clean_len [] 0 δ.sl).symm, fun i s h => ?_, fun i j a s t _ h1 _ o1 _ _ _ => by rw [clean_own h1] at o1; cases o1⟩
  rcases clean_get h with rfl | ⟨_, x, rfl, hl⟩
  · trivial
  · obtain ⟨v, h1, h2⟩ := R.sl i _ hl
    exact ⟨v, h1, h2.mono L⟩
theorem de_lam {fr : Bool} {sg : DSpA} {g cc Pt : Addr} {qn : Str} {ja : Nat} {params : Arguments} {body : Expr} {scope : Scope} (B : XB X c W N sc k false) (LH : LamH X c.toWd cc Pt qn) (hm : c.mg x = some (.ref g)) (hG : GAct c.toWd g j (ja + 1) sg) (hj : j ≤ k) (hg : sc.names.lookup x = some .globalImplicit) (Ls : LamS sc scope)
    (hb : ∀ (X' : Cx) (cf : Fr) (W' : WX), cf.toWd = c.toWd → XB X' cf W' N scope ja true → DE X' cf W' body rb)
    (df : defaultsOf params X.env = ([], []) := by rfl) (bd : ∀ (q : Str) (cl : List (Str × Addr)) (pm cv ctv : Value), bindArgs (PySem.W.kla_fn "<lambda>" q params body scope cl pm cv ctv) ⟨[], []⟩ = pure [] := by intros; rfl) (hdb : (x == ("__debug__" : Str)) = false := by decide) :
    DE X c W (.Call (.Name x p) [.Lambda params body scope lpos] [] pos) (dLam fr sg rb) := by
  refine ⟨fun pins st σ H Q I ⟨G, δ, P, E, R, h, kk, xx⟩ => ?_⟩
  refine wpAny_Call_Name_kw (ld_glob I (glX B hg) (by rw [B.hm]; exact hm) ?_ hdb)
  refine PySem.W.callWith_K (h₀ := X.base) I.ok.mod.kin (by rw [B.hK]; exact hG.keeper) ?_ (by rfl) (by rfl)
  show wpAny _ _ (spliced ((false, eval (.Lambda params body scope lpos) X.env) :: backTo pos (starEach [] X.env))) _ _ st
  obtain ⟨G2, L2', R2, g2⟩ := R.fz fr
  have Ls' : LamS X.env.scope scope := by rw [B.hs]; exact Ls
  have TB : TabB X.base X.mg cc Pt := by rw [B.hb, B.hm]; exact LH.tb
  refine Calls.spliced_cons (lamMk I TB LH.code LH.qual (R.st.tb _ LH.mem) df (Ls'.has I.ok) fun f c' pm ctv H1 s' I1 eH t1 hf hfn hfr hco => ?_)
  refine Calls.spliced_nil ⟨I1.kIn, ?_⟩
  have po := R2.st.tbl LH.mem LH.uniq eH t1
  have R3 : Rel c G2 H1 σ { δ with sl := DL.fz fr δ.sl } := R2.post po
  have AF : ActF c.toWd (frs X.stack) s' δ.z G2 H1 f (ja + 1) (lamAct rb (DL.fz fr δ.sl)) := by
    refine ⟨⟨f, _, _, _, _, _, _, _, _, _, hf, rfl⟩, ⟨hfn, hfr⟩, fun A outer s1 HZ Q' E' E0 room gd un ⟨Gz, zz, P', R', pz, hact, kP, kR⟩ => ?_⟩
    have of1 := un.keep f _ hf hfn hfr (by simp)
    have hcz : HZ c' = some (CodeO c' qn) := pz.go.h _ _ hco (po.st.code hco)
    obtain ⟨⟨oc, vs, t, hoc, hdc, hvc⟩, _, _⟩ := E0.hok c' _ hcz
    rw [← B.hP, ← B.hw]
    have E0' : Env0 X.prog X.w X.K X.mg X.base A outer s1 HZ := by rw [B.hP, B.hw, B.hK, B.hm, B.hb]; exact E0
    have lim : s1.heap.NoLimit := E0'.mod.nolimit.keeps fun q o e => (E0'.bs q o e).1
    have hq := LH.qual
    refine PySem.W.kla_callFunE room.depth of1 rfl Ls.co Ls.gen rfl ⟨c', oc, vs, t, rfl, hoc, hdc, hvc⟩ ?_
    rw [bd]
    refine wpAny_pure (wpAny_newFunctionEnv (fun y hy => (Ls.own y hy).2) (fun y hy => absurd hy (by simp)) (fun h₁ hns hsb => ⟨lim.fresh _ hsb, ?_⟩) Ls.kind)
    subst hq
    show codeAny _ _ (.expr body (lamEnv X scope s1.heap.objs.size f c')) _ _
    have kp : ∀ b o, s1.heap.get? b = some o → h₁.get? b = some o := fun b o e => hsb.extBut b o (Nat.ne_of_lt (Heap.lt_size e)) (Heap.get?_push_of_some _ e)
    have un' : Un (frs X.stack) [] H1 HZ s'.heap s1.heap := un
    have J : L2.Inv (lamCx X A outer s1 HZ E' scope f c') [] σ HZ { s1 with heap := h₁, toks := s1.toks + ([] : List (Str × Value)).length } := LamX.lam_start2 I1 Ls' E0' room.hd un' hns kp
    let cl : Fr := frOf c.toWd Gz HZ zz []
    have tk : Takes (lamCx X A outer s1 HZ E' scope f c') (fun cls d _ H => E' cls d H) := takes_of (X := lamCx X A outer s1 HZ E' scope f c') (E := E') rfl rfl rfl rfl
    have rm : Room ja (A.deeper (lamEnv X scope s1.heap.objs.size f c')) := room.deeper _
    have XL : XB (lamCx X A outer s1 HZ E' scope f c') cl (fun cls d _ H => E' cls d H) N scope ja true :=
      ⟨B.hP, B.hw, B.hK, B.hm, B.hb, B.hN, B.nd, rfl, rfl, rm, gd, tk, passes_of rfl, (fun z => by cases z), (fun z => by cases z), fun z => by cases z⟩
    have po3 : ∀ {G' H' σ' δ'}, Rel cl G' H' σ' δ' → Post c.toWd zz Gz HZ G' H' δ'.z := fun {G' H' σ' δ'} Rx => ⟨Rx.st, Rx.go.imp (fun a h => h.elim id fun m => absurd m (by simp [cl])) fun a h => .inl (.inl h)⟩
    refine PySem.W.kla_codeExpr (wpAny_mono ((hb _ cl _ rfl XL).run [] _ _ HZ Q' J ⟨Gz, _, _, _, rel_lam R3 pz.go.g pz.st, hact, fun d δ' v G' H' p1 L1 R1 rr => kP d δ'.z v G' H' p1 (po3 R1) rr, fun er δ' cls dd G' H' p1 L1 R1 hE => kR er δ'.z cls dd G' H' p1 (po3 R1) hE⟩) (fun v s'' hq => ?_) fun e s'' hq => hq)
    obtain ⟨w', H', J', rv, q⟩ := hq
    exact ⟨w', H', J'.os, J'.bare, J'.base, J'.hok, rv, q⟩
  have E1 : Env0 c.P c.w c.K c.mg c.base X.A X.stack s' H1 := by rw [← B.hP, ← B.hw, ← B.hK, ← B.hm, ← B.hb]; exact I1.env0
  have rc := hG.run X.A X.stack s' H1 G2 f _ δ.z _ Q E1 (B.room.mono hj) B.gd R3.st AF (h f) (fun d z' v G' H' p1 po1 rr => kk d _ v G' H' p1 ((g2.trans (po.spf R2)).trans (po1.spf R3)) (R3.post po1) rr)
  rw [← B.hP, ← B.hw] at rc
  refine wpAny_call (codeAny_mono rc fun res s2 hq => ?_)
  cases res with
  | error ee =>
    obtain ⟨_, _, _, _, _, _, _, _, _, _, _, _, z⟩ := hq
    exact z.elim
  | ok fl => cases fl <;> first | exact I1.after hq | exact hq.elim
/-! ### the def that is handed the lambda -/
theorem g_act {w : Wd} {x qual : Str} {params : Arguments} {body : List Stmt} {scope : Scope} {dvs : List V} {kws : List (Str × V)} {g : Addr} {fd : FuncData} {N : List Str} {a : Str} {k ja : Nat} {t : Addr → DAct → DTS} (F : FunD w.K x qual params body scope dvs kws g fd) (S : FnScope N [a] scope) (bnd : ∀ (s : Shared) (u : Value), BindsTo s fd ⟨[u], []⟩ [(a, u)])
    (hb : ∀ (X : Cx) (cf : Fr) (W : WX) (f : Addr) (act : DAct), cf.toWd = w → XB X cf W N scope k false → (∀ pn xe W' (p pos : Pos), XB (X.tr pn xe) cf W' N scope k false → DE (X.tr pn xe) cf W' (.Call (.Name a p) [] [] pos) (dAct f act 0)) → DSs X cf W body (t f act))
    (hv : Vis scope a) (h0 : N[0]? = some a) (hk : ja ≤ k) (hd : (a == ("__debug__" : Str)) = false := by decide) (hcd : (a == ("__classdict__" : Str)) = false := by decide) :
    GAct w g (k + 1) ja (fun f act z P => t f act (fnN P (fun _ _ => False)) (startS N [.ref f] z)) := by
  refine ⟨F.kp, fun A outer s H G f act z P Q e0 room gd st AF h kP => ?_⟩
  obtain ⟨oc, od, dV, kV, doc, pm, an, cdv, ct, osl, rfl, lk, hcd', _, _⟩ := F.ex
  have kin : w.K.In s.heap := e0.mod.kin.keeps fun q o e => (e0.bs q o e).1
  have nolim : s.heap.NoLimit := e0.mod.nolimit.keeps fun q o e => (e0.bs q o e).1
  have kinds : ∀ y ∈ [(a, Value.ref f)], scope.names.lookup y.1 = some .local ∨ (scope.names.lookup y.1 = some .cell ∧ ((cellsFrom (s.heap.objs.size + 1) scope.names []).lookup y.1).isSome = true) := fun y hy => by
    have e : y = (a, Value.ref f) := by simpa using hy
    subst e
    rcases S.par a (by simp) with q | q
    · exact .inl q
    · exact .inr ⟨q, PySem.W.cellsFrom_some _ _ _ (.inl q)⟩
  refine codeAny_call_function room.depth (kin _ _ lk) rfl S.co S.gen rfl (PySem.W.codeRec_of kin hcd') (bnd s (.ref f) _ _ _ _ (wpAny_newFunctionEnv_cells S.kind kinds fun env he s1 x => ?_))
  subst he
  let E0 : XK := fun _ _ _ => False
  let X := cxOf (L2.CX w.P w.w) w.P w.w w.K w.mg w.base N qual scope g cdv A outer s H E0
  let cf : Fr := frOf w G H z []
  have tk : Takes X (fun cls d _ H => E0 cls d H) := takes_of (X := X) (E := E0) rfl rfl rfl rfl
  have XBt : XB X cf (fun cls d _ H => E0 cls d H) N scope k false := ⟨rfl, rfl, rfl, rfl, rfl, rfl, S.nd, rfl, rfl, room.deeper _, gd, tk, passes_of rfl, fun _ _ => rfl, fun _ => rfl, fun _ => ⟨rfl, rfl⟩⟩
  have body_ := hb X cf _ f act rfl XBt (fun pn xe W' p pos B' => de_act (X := X.tr pn xe) (c := cf) (s0 := s) (z0 := z) (G0 := G) (H0 := H) B' AF hk rfl rfl rfl h0 hv hd hcd)
  have J : L2.Inv X [] (L2.start N [.ref f]) H s1 := inv_start S room.hd e0 rfl (.cons rfl .nil) x
  have po : ∀ {δ' G' H' σ'}, Rel cf G' H' σ' δ' → Post w z G H G' H' δ'.z := fun {δ' G' H' σ'} R' => ⟨R'.st, R'.go.imp (fun a h => h.elim id fun m => absurd m (by simp [cf])) fun a h => .inl (.inl h)⟩
  have R0 : Rel cf G H (L2.start N [.ref f]) (startS N [.ref f] z) := rel_start st (.cons (.ref f) .nil)
  refine ⟨nolim.keeps x.toInCall.keep, codeAny_func (wpAny_mono (body_.run [] s1 _ H { nx := fun _ H' => Q .non H', rt := Q } J ⟨G, _, _, R0, h, fun δ' G' H' σ' p1 L R' => kP .non _ _ _ _ p1 (po R') .non, fun d δ' v G' H' σ' p1 L R' rr => kP d _ v _ _ p1 (po R') rr, fun _ _ _ _ p1 => p1.elim, fun _ _ _ _ p1 => p1.elim, fun er δ' cls dd G' H' σ' p1 => p1.elim⟩) (fun fl s' q => ?_) fun _ _ q => q)⟩
  cases fl with
  | brk => exact q.elim fun _ q => q.elim fun _ q => q.2.elim
  | cont => exact q.elim fun _ q => q.elim fun _ q => q.2.elim
  | next => obtain ⟨σ', H', J', q⟩ := q; exact ⟨.non, H', J'.os, J'.bare, J'.base, J'.hok, rfl, q⟩
  | ret u => obtain ⟨v, σ', H', J', r', q⟩ := q; exact ⟨v, H', J'.os, J'.bare, J'.base, J'.hok, r', q⟩
end
end DL

/-! EM5: -x, abs, bool, str, gcd; f-strings. -/
namespace PySem.W
section
variable {prog : Program} {w : World} {A : Around} {E : Value → Shared → Prop} {s : Shared} {K : Frag} {x C f : Addr} {ox : Obj} {od : Option Obj}
theorem own_abs {Q : Value → Shared → Prop} (X : K.In s.heap) (I : InstAt s.heap x ox C od) (hs : findIn K (.ref C) "__abs__" = some (some (.ref f))) (hf : isFn K (.ref f) = true) (h : wpAny (model prog w) A.in1 (call (.ref f) [.ref x]) Q E s) : wpAny (model prog w) A (call (.builtin "abs") [.ref x]) Q E s := by
  refine Calls.call_function_entry PyProof.Rows.kind_abs PyProof.Rows.plain_abs PyProof.Rows.entry_abs (PyProof.Rows.args_abs _) ?_
  unfold Builtin.«abs»
  refine wpAny_bind (m := oneArg "abs" _) (wpAny_pure ?_)
  refine wpAny_bind (m := callSpecial? (.ref x) (Str.ofString "__abs__")) (special_fn X I hs (beq_iff_eq.mp hf) (wpAny_mono h (fun r s' hr => wpAny_pure ⟨_, rfl, hr⟩) fun _ _ y => y))
theorem own_truthy {M : Model} {Q : Bool → Shared → Prop} (X : K.In s.heap) (I : InstAt s.heap x ox C od) (hs : findIn K (.ref C) "__bool__" = some (some (.ref f))) (hf : isFn K (.ref f) = true) (h : wpAny M A (call (.ref f) [.ref x]) (BoolBack Q) E s) : wpAny M A (truthy (.ref x)) Q E s := by
  unfold truthy
  refine wpAny_bind (m := callSpecial? (.ref x) (Str.ofString "__bool__")) (special_fn X I hs (beq_iff_eq.mp hf) (wpAny_mono h (fun v s' hv => ?_) fun _ _ y => y))
  cases v <;> first | exact hv.elim | exact wpAny_pure hv
theorem own_bool {Q : Value → Shared → Prop} (X : K.In s.heap) (I : InstAt s.heap x ox C od) (hs : findIn K (.ref C) "__bool__" = some (some (.ref f))) (hf : isFn K (.ref f) = true)
    (h : wpAny (model prog w) A.in1.in1 (call (.ref f) [.ref x]) (BoolBack fun b => Q (.bool b)) E s) : wpAny (model prog w) A (call (.type "bool") [.ref x]) Q E s := by
  refine callType_codes (T := "bool") (Bi := Builtin.«object.__init__») (Q₁ := fun r s₁ => ∃ b, r = .bool b ∧ Q r s₁) PySem.F.called_bool (PySem.F.typeCall_bool_1 _) PySem.F.entry_object_init ?_ ?_
  · refine codeAny_of_tree ?_
    show wpAny _ A.in1.in1 (do checkBuiltinCall "bool.__new__" ⟨[.type "bool", .ref x], []⟩; again (.builtin "bool.__new__" ⟨[.type "bool", .ref x], []⟩)) _ _ s
    refine wpAny_bind (wpAny_of_eq (PySem.F.newCall_bool_1 _) (wpAny_pure ⟨plainId_quiet (by decide +kernel) _, codeAny_builtin PySem.F.entry_bool_new ?_⟩))
    rw [Around.under_plainId (by decide +kernel) _]
    unfold Builtin.«bool.__new__»
    refine wpAny_bind (wpAny_pure ?_)
    refine wpAny_bind (wpAny_of_eq F.conv_sub_bool ?_)
    refine wpAny_bind (m := someArgs "bool" 0 1 _) (wpAny_pure ?_)
    refine wpAny_bind (own_truthy X I hs hf (wpAny_mono h (fun v s' hv => ?_) fun _ _ z => z))
    cases v <;> first | exact hv.elim | exact wpAny_pure ⟨_, rfl, hv⟩
  · rintro obj s₁ ⟨b, rfl, hq⟩
    exact ⟨rfl, PySem.F.args_object_init_2 _ _, object_init_meets PySem.F.called_bool.init.lookup PySem.F.called_bool.made (by decide) prog w A.in1 _ s₁ ⟨rfl, rfl, hq⟩⟩
theorem own_minus {M : Model} {Q : Value → Shared → Prop} (X : K.In s.heap) (I : InstAt s.heap x ox C od) (hs : findIn K (.ref C) "__neg__" = some (some (.ref f))) (hf : isFn K (.ref f) = true) (h : wpAny M A (call (.ref f) [.ref x]) Q E s) : wpAny M A (unaryOp .USub (.ref x)) Q E s := by
  unfold unaryOp
  exact wpAny_holding (wpAny_bind (special_fn X I hs (beq_iff_eq.mp hf) (wpAny_mono h (fun v s' hv => wpAny_pure hv) fun e s' he => he)))
end
end PySem.W
namespace DL
open PySem L2 PySem.Spec PyProof.Rows
section
variable {X : Cx} {c : Fr} {W : WX} {N : List Str} {sc : Scope} {k j : Nat} {bb : Bool} {e a b o : Expr} {es : List Expr} {pos p p2 apos : Pos} {r ra rb : DTE} {rs rk : DTA} {x : Str} {st : Stmt} {s : DSp2} {tbl : List (Addr × DSp2)}
/-- an own def of one operand -/
def oOwn1 (tbl : List (Addr × DSp2)) : DUnE := fun x z P E => match x with
  | .ins C fs => dpt tbl C fun s => s [.ins C fs] [] z P E
  | _ => False
/-- what an own def of one operand is run at -/
theorem own1 {nm : Str} {A : Around} {Q : VK} (B : XB X c W N sc k bb) (hT : AllT (fun C s => OwnD c.toWd C nm j s) tbl) (hr : Room j A) (hg : A.guards = some []) (hf : A.frames = X.A.frames) {pins : List (Addr × Obj)} {st : Shared} {σ : L2.St} {H G : Hp} {δ : S} {u : V} {x : Value} {dx : D} {P : D → Z → Prop} {E : Er → Z → Prop}
    (I : Inv X pins σ H st) (r1 : RelV u x) (R : Rel c G H σ δ) (p1 : Rep c.K c.p0 G u dx) (q : oOwn1 tbl dx δ.z P E) (kp : KP c G H σ δ P Q) (ke : KE c W G σ δ E) :
    ∃ (xa C f : Addr) (ox : Obj) (od : Option Obj), x = .ref xa ∧ PySem.W.InstAt st.heap xa ox C od ∧ PySem.W.findIn X.K (.ref C) nm = some (some (.ref f)) ∧ PySem.W.isFn X.K (.ref f) = true ∧ wpAny (model X.prog X.w) A (call (.ref f) [x]) (EP X pins σ Q) X.xe st := by
  cases dx with
  | ins C fs =>
    obtain ⟨s, hs, hq⟩ := hT.get q
    obtain ⟨xa, dd, vs, rfl, hG⟩ := rep_ins p1
    cases (show x = Value.ref xa from r1)
    obtain ⟨od, J⟩ := insAt I (R.le _ _ hG)
    obtain ⟨f, F, h1, h2⟩ := hs.ex
    exact ⟨xa, C, f, _, _, rfl, J, by rw [B.hK]; exact h1, by rw [B.hK]; exact h2, runD (ks := []) (ws := []) (zs := []) (vs := [.ref xa]) (us := [.ref xa]) B F hr hg hf I (.cons rfl .nil) .nil rfl R (.cons p1 .nil) .nil hq kp ke⟩
  | _ => exact q.elim
theorem un_own (B : XB X c W N sc k bb) (hT : AllT (fun C s => OwnD c.toWd C "__neg__" j s) tbl) (hj : j ≤ k) : UnE X c W (unaryOp .USub) (oOwn1 tbl) := by
  intro pins st σ H u x dx G δ P E Q I r1 R p1 q kp ke
  obtain ⟨xa, C, f, ox, od, rfl, J, h1, h2, h⟩ := own1 B hT (B.room.mono hj) B.gd rfl I r1 R p1 q kp ke
  exact PySem.W.own_minus I.kIn J h1 h2 h
theorem un_int : UnE X c W (unaryOp .USub) (fun x z P _ => match x with | .int i => P (.int (-i)) z | _ => False) := by
  intro pins st σ H u x dx G δ P E Q I r1 R p1 q kp ke
  cases p1 with
  | int i => exact un_neg pins st σ H (.int i) x Q I r1 ⟨i, rfl, kp _ δ.z _ G H q Go.refl R (.int _)⟩
  | _ => exact q.elim
def oNegA (tbl : List (Addr × DSp2)) : DUnE := fun x z P E => match x with
  | .int i => P (.int (-i)) z
  | .ins C fs => dpt tbl C fun s => s [.ins C fs] [] z P E
  | _ => False
theorem u_neg (B : XB X c W N sc k bb) (hT : AllT (fun C s => OwnD c.toWd C "__neg__" j s) tbl) (hj : j ≤ k) : UnE X c W (unaryOp .USub) (oNegA tbl) :=
  (un_int.or (un_own B hT hj)).imp fun x z P E h => by
    cases x with
    | int i => exact .inl h
    | ins C fs => exact .inr h
    | _ => exact h.elim
/-- a built-in called with one instance that has an own def for it -/
def oCal1 (tbl : List (Addr × DSp2)) : DSp := fun ds z P E => match ds with
  | [x] => oOwn1 tbl x z P E
  | _ => False
theorem cal1 {T : Value} (h : ∀ (pins : List (Addr × Obj)) (st : Shared) (σ : L2.St) (H : Hp) (u : V) (x : Value) (dx : D) (G : Hp) (δ : S) (P : D → Z → Prop) (E : Er → Z → Prop) (Q : VK), Inv X pins σ H st → RelV u x → Rel c G H σ δ → Rep c.K c.p0 G u dx → oOwn1 tbl dx δ.z P E → KP c G H σ δ P Q → KE c W G σ δ E → wpAny (model X.prog X.w) X.A (call T [x]) (EP X pins σ Q) X.xe st) : CalE X c W T (oCal1 tbl) := by
  intro pins st σ H vs us ds G δ P E Q I rv R rl q kp ke
  match ds, rl, q with
  | [d], .cons r1 .nil, q =>
    cases rv with
    | cons v1 vr =>
      cases vr
      exact h pins st σ H _ _ d G δ P E Q I v1 R r1 q kp ke
  | [], _, q => exact q.elim
  | _ :: _ :: _, _, q => exact q.elim
theorem room2 {A : Around} (h : Room (k + 2) A) : Room k A.in1.in1 := (h.in1).in1
def oAbsA (tbl : List (Addr × DSp2)) : DSp := fun ds z P E => match ds with
  | [.int i] => P (.int (if i < 0 then -i else i)) z
  | [.ins C fs] => dpt tbl C fun s => s [.ins C fs] [] z P E
  | _ => False
theorem c_abs (B : XB X c W N sc (k + 1) bb) (hT : AllT (fun C s => OwnD c.toWd C "__abs__" j s) tbl) (hj : j ≤ k) : CalE X c W (.builtin "abs") (oAbsA tbl) :=
  ((calE_of b_abs).or (cal1 (tbl := tbl) fun pins st σ H u x dx G δ P E Q I r1 R p1 q kp ke => by
    obtain ⟨xa, C, f, ox, od, rfl, J, h1, h2, h⟩ := own1 B hT (A := X.A.in1) (B.room.in1.mono hj) B.gd rfl I r1 R p1 q kp ke
    exact PySem.W.own_abs I.kIn J h1 h2 h)).imp fun ds z P E h => by
    match ds, h with
    | [.int i], h => exact .inl h
    | [.ins C fs], h => exact .inr h
def oBoolA (tbl : List (Addr × DSp2)) : DSp := fun ds z P E => match ds with
  | [.int i] => P (.bl (i != 0)) z
  | [.bl b] => P (.bl b) z
  | [.ins C fs] => dpt tbl C fun s => s [.ins C fs] [] z (fun d z' => ∃ b, d = .bl b ∧ P (.bl b) z') E
  | _ => False
def oBool : DBu := fun ds P => match ds with
  | [.int i] => P (.bl (i != 0))
  | [.bl b] => P (.bl b)
  | _ => False
theorem b_bool : BuD X c (.type "bool") oBool := by
  refine ⟨_, call_bool1, fun G H σ δ vs ds P Q R rr o kk => ?_⟩
  match ds, rr, o with
  | [.int i], .cons (.int _) .nil, o => exact .inl ⟨_, rfl, kk _ _ G H o Go.refl R (.bl _)⟩
  | [.bl b], .cons (.bl _) .nil, o => exact .inr ⟨_, rfl, kk _ _ G H o Go.refl R (.bl _)⟩
theorem c_bool (B : XB X c W N sc (k + 2) bb) (hT : AllT (fun C s => OwnD c.toWd C "__bool__" j s) tbl) (hj : j ≤ k) : CalE X c W (.type "bool") (oBoolA tbl) := by
  refine ((calE_of b_bool).or (o' := fun ds z P E => oCal1 tbl ds z (fun d z' => ∃ b, d = .bl b ∧ P (.bl b) z') E) ?_).imp fun ds z P E h => ?_
  · intro pins st σ H vs us ds G δ P E Q I rv R rl q kp ke
    match ds, rl, q with
    | [d], .cons r1 .nil, q =>
      cases rv with
      | cons v1 vr =>
        cases vr
        obtain ⟨xa, C, f, ox, od, rfl, J, h1, h2, h⟩ := own1 (Q := fun w H' => ∃ b, w = .bl b ∧ Q (.bl b) H') B hT (room2 (B.room)|>.mono hj) B.gd rfl I v1 R r1 q (fun d z' w G' H' ⟨b, e, hp⟩ L R' rr => by
          subst e
          cases rr
          exact ⟨b, rfl, kp _ z' _ G' H' hp L R' (.bl _)⟩) ke
        exact PySem.W.own_bool I.kIn J h1 h2 (wpAny_mono h (fun w s' ⟨wv, H', I', rw', b, e, hq⟩ => by
          subst e
          cases (show w = Value.bool b from rw')
          exact ⟨.bl b, H', I', rfl, hq⟩) fun _ _ z => z)
    | [], _, q => exact q.elim
    | _ :: _ :: _, _, q => exact q.elim
  · match ds, h with
    | [.int i], h => exact .inl h
    | [.bl b], h => exact .inl h
    | [.ins C fs], h => exact .inr h
def intS (i : Int) : Prop := i.natAbs.log2 < 1920
def oStrA (tbl : List (Addr × DSp2)) : DSp := fun ds z P E => match ds with
  | [.int i] => intS i ∧ P (.str (toString i)) z
  | [.str s] => P (.str s) z
  | [.ins C fs] => dpt tbl C fun s => s [.ins C fs] [] z (fun d z' => ∃ b, d = .str b ∧ P (.str b) z') E
  | _ => False
def oStrI : DBu := fun ds P => match ds with
  | [.int i] => intS i ∧ P (.str (toString i))
  | _ => False
def oStrS : DBu := fun ds P => match ds with
  | [.str s] => P (.str s)
  | _ => False
theorem b_strI : BuD X c (.type "str") oStrI := by
  refine ⟨_, call_str_int, fun G H σ δ vs ds P Q R rr o kk => ?_⟩
  match ds, rr, o with
  | [.int i], .cons (.int _) .nil, o => exact ⟨_, rfl, o.1, kk _ _ G H o.2 Go.refl R (.str _)⟩
theorem b_strS : BuD X c (.type "str") oStrS := by
  refine ⟨_, SkE.call_str_str, fun G H σ δ vs ds P Q R rr o kk => ?_⟩
  match ds, rr, o with
  | [.str i], .cons (.str _) .nil, o => exact ⟨_, rfl, kk _ _ G H o Go.refl R (.str _)⟩
theorem c_str (B : XB X c W N sc (k + 2) bb) (hT : AllT (fun C s => OwnD c.toWd C "__str__" j s) tbl) (hj : j ≤ k) : CalE X c W (.type "str") (oStrA tbl) := by
  refine (((calE_of b_strI).or (calE_of b_strS)).or (o' := fun ds z P E => oCal1 tbl ds z (fun d z' => ∃ b, d = .str b ∧ P (.str b) z') E) ?_).imp fun ds z P E h => ?_
  · intro pins st σ H vs us ds G δ P E Q I rv R rl q kp ke
    match ds, rl, q with
    | [d], .cons r1 .nil, q =>
      cases rv with
      | cons v1 vr =>
        cases vr
        obtain ⟨xa, C, f, ox, od, rfl, J, h1, h2, h⟩ := own1 (Q := fun w H' => ∃ b, w = .str b ∧ Q (.str b) H') B hT (room2 (B.room)|>.mono hj) B.gd rfl I v1 R r1 q (fun d z' w G' H' ⟨b, e, hp⟩ L R' rr => by
          subst e
          cases rr
          exact ⟨b, rfl, kp _ z' _ G' H' hp L R' (.str _)⟩) ke
        exact PySem.W.kso_call (by have := (room2 B.room).un; omega) I.kIn J h1 h2 (wpAny_mono h (fun w s' ⟨wv, H', I', rw', b, e, hq⟩ => by
          subst e
          obtain ⟨t, rfl⟩ := (show ∃ t, w = Value.str b t from rw')
          exact ⟨.str b, H', I', ⟨t, rfl⟩, hq⟩) fun _ _ z => z)
    | [], _, q => exact q.elim
    | _ :: _ :: _, _, q => exact q.elim
  · match ds, h with
    | [.int i], h => exact .inl (.inl h)
    | [.str i], h => exact .inl (.inr h)
    | [.ins C fs], h => exact .inr h
end
end DL


/-! EM6: gcd; f-strings; comparisons and truth of any value. -/
namespace DL
open PySem L2 PySem.Spec PyProof.Rows
section
variable {X : Cx} {c : Fr} {W : WX} {N : List Str} {sc : Scope} {k j : Nat} {bb : Bool} {e a b o : Expr} {es : List Expr} {pos p p2 apos : Pos} {r ra rb : DTE} {rs rk : DTA} {x : Str} {st : Stmt} {s : DSp2} {tbl : List (Addr × DSp2)}
/-! ### gcd -/
def oGcd : DBu := fun ds P => match ds with
  | [.int i, .int j] => P (.int ((Nat.gcd i.natAbs j.natAbs : Nat) : Int))
  | _ => False
theorem b_gcd : BuD X c (.builtin "math.gcd") oGcd := by
  refine ⟨_, cr_gcd, fun G H σ δ vs ds P Q R rr o kk => ?_⟩
  match ds, rr, o with
  | [.int i, .int j], .cons (.int _) (.cons (.int _) .nil), o => exact ⟨_, _, rfl, kk _ _ G H o Go.refl R (.int _)⟩
/-- a module's name for a built-in -/
theorem de_buM {id : String} {o : DBu} (B : XB X c W N sc k bb) (hm : c.mg x = some (.builtin id)) (ho : BuD X c (.builtin id) o) (hg : sc.names.lookup x = some .globalImplicit) (ha : DA X c W (e :: es) rs) (hdb : (x == ("__debug__" : Str)) = false := by decide)
    (he : starEach (e :: es) X.env = (false, eval e X.env) :: starEach es X.env := by rfl) (hpl : (backTo pos (starEach es X.env)).any (·.1) = false := by rfl) : DE X c W (.Call (.Name x p) (e :: es) [] pos) (dBu o rs) := by
  obtain ⟨r, h1, h2⟩ := ho.ex
  exact peI (pe_callBfun h1 (gX B hg) (by rw [B.hm]; exact hm) ha hdb he hpl) fun σ H Q => dbu_ok h2
/-! ### f-strings -/
def dFmt (r : DTE) : DTE := fun δ P E => r δ (fun d δ1 => match d with
  | .str y => y.length ≤ 1000000 ∧ P (.str y) δ1
  | .int i => intS i ∧ P (.str (toString i)) δ1
  | _ => False) E
theorem de_fmt (h : DE X c W e r) : DE X c W (.FormattedValue e (-1) none pos) (dFmt r) :=
  peI (pe_fmt h) fun σ H Q ⟨G, δ, P, E, R, h, kk, x⟩ => ⟨G, δ, _, E, R, h, fun d δ1 v G1 H1 p L R1 r1 => by
    cases r1 with
    | str y => exact .inl ⟨_, rfl, sz6 p.1, kk _ _ _ G1 H1 p.2 L R1 (.str _)⟩
    | int i => exact .inr ⟨_, rfl, p.1, kk _ _ _ G1 H1 p.2 L R1 (.str _)⟩
    | _ => exact p.elim, x⟩
/-- the parts, behind a text -/
def dJs (rs : List DTE) (acc : Str) : DTE := match rs with
  | [] => fun δ P _ => P (.str acc) δ
  | r :: rs => fun δ P E => r δ (fun d δ1 => match d with
    | .str y => (acc ++ y).length ≤ 1000000 ∧ dJs rs (acc ++ y) δ1 P E
    | _ => False) E
inductive DJ (X : Cx) (c : Fr) (W : WX) : List Expr → List DTE → Prop where
  | nil : DJ X c W [] []
  | cons {e : Expr} {t : DTE} {es : List Expr} {ts : List DTE} (h : DE X c W e t) (r : DJ X c W es ts) : DJ X c W (e :: es) (t :: ts)
theorem DJ.pj {es : List Expr} {ts : List DTE} (h : DJ X c W es ts) : PJ X es (ts.map (liftE c W)) := by
  induction h with
  | nil => exact .nil
  | cons h r ih => exact .cons h ih
theorem djs_in : ∀ (ts : List DTE) (acc : Str) {σ : L2.St} {H : Hp} {Q : VK}, liftE c W (dJs ts acc) σ H Q → tJs (ts.map (liftE c W)) acc σ H (fun out H1 => Q (.str out) H1)
  | [], acc, σ, H, Q, ⟨G, δ, P, E, R, h, kk, x⟩ => kk _ _ _ G H h Go.refl R (.str _)
  | t :: ts, acc, σ, H, Q, ⟨G, δ, P, E, R, h, kk, x⟩ => ⟨G, δ, _, E, R, h, fun d δ1 v G1 H1 p L R1 r1 => by
    cases r1 with
    | str y => exact ⟨y, rfl, sz6 p.1, djs_in ts (acc ++ y) ⟨G1, δ1, P, E, R1, p.2, fun d δ' v G' H' p' L' R' => kk d δ' v G' H' p' (L.trans L') R', x.mono L.g⟩⟩
    | _ => exact p.elim, x⟩
theorem de_joined {v1 v2 : Expr} {rest : List Expr} {ts : List DTE} (h : DJ X c W (v1 :: v2 :: rest) ts) : DE X c W (.JoinedStr (v1 :: v2 :: rest) pos) (dJs ts Str.empty) :=
  peI (pe_joined h.pj) fun σ H Q h => djs_in ts _ h
theorem de_joined1 (h : DE X c W e r) : DE X c W (.JoinedStr [e] pos) r := pe_joined1 h
/-! ### == of any values, by own defs -/
structure EqD (c : Wd) (j : Nat) (C : Addr) (s : DSp2) : Prop where
  eq : OwnD c C "__eq__" j s
  ne : NeC c C
  bt : BtC c C
def oEqA (w : Wd) (tbl : List (Addr × DSp2)) : DOpE := fun x y z P E => match x with
  | .ins C fs => notF w C y ∧ dpt tbl C fun s => s [.ins C fs, y] [] z P E
  | x => match y with
    | .ins C fs => plain x 40 = true ∧ dpt tbl C fun s => s [.ins C fs, x] [] z P E
    | y => (plain x 40 = true ∧ plain y 40 = true) ∧ P (.bl (eqD x y)) z
theorem op_eqA (B : XB X c W N sc k bb) (hT : AllT (fun C s => EqD c.toWd j C s) tbl) (hj : j ≤ k) : OpE X c W (compareOp .Eq) (oEqA c.toWd tbl) := by
  intro pins st σ H u v x y dx dy G δ P E Q I r1 r2 R p1 p2 q kp ke
  by_cases h1 : ∃ C fs, dx = .ins C fs
  · obtain ⟨C, fs, rfl⟩ := h1
    obtain ⟨s, hs, hq⟩ := hT.get q.2
    exact eq_left B hs.eq hj pins st σ H u v x y _ dy G δ P E Q I r1 r2 R p1 p2 ⟨rfl, q.1, hq⟩ kp ke
  · by_cases h2 : ∃ C fs, dy = .ins C fs
    · obtain ⟨C, fs, rfl⟩ := h2
      have q' : plain dx 40 = true ∧ dpt tbl C fun s => s [.ins C fs, dx] [] δ.z P E := by
        cases dx <;> first | exact q | exact absurd ⟨_, _, rfl⟩ h1
      obtain ⟨s, hs, hq⟩ := hT.get q'.2
      exact eq_right B hs.eq hs.bt hj pins st σ H u v x y dx _ G δ P E Q I r1 r2 R p1 p2 ⟨rfl, q'.1, hq⟩ kp ke
    · have q' : (plain dx 40 = true ∧ plain dy 40 = true) ∧ P (.bl (eqD dx dy)) δ.z := by
        cases dx <;> first | exact absurd ⟨_, _, rfl⟩ h1 | (cases dy <;> first | exact absurd ⟨_, _, rfl⟩ h2 | exact q)
      exact opE_of (o_eq B) pins st σ H u v x y dx dy G δ P E Q I r1 r2 R p1 p2 q' kp ke
def oNeA (w : Wd) (tbl : List (Addr × DSp2)) : DOpE := fun x y z P E => match x with
  | .ins C fs => notF w C y ∧ dpt tbl C fun s => s [.ins C fs, y] [] z (fun d z' => ∃ b, d = .bl b ∧ P (.bl (!b)) z') E
  | x => oNe x y fun d => P d z
theorem op_neA (B : XB X c W N sc (k + 1) bb) (hT : AllT (fun C s => EqD c.toWd j C s) tbl) (hj : j ≤ k) : OpE X c W (compareOp .NotEq) (oNeA c.toWd tbl) := by
  intro pins st σ H u v x y dx dy G δ P E Q I r1 r2 R p1 p2 q kp ke
  by_cases h1 : ∃ C fs, dx = .ins C fs
  · obtain ⟨C, fs, rfl⟩ := h1
    obtain ⟨s, hs, hq⟩ := hT.get q.2
    exact ne_left B hs.eq hs.ne hj pins st σ H u v x y _ dy G δ P E Q I r1 r2 R p1 p2 ⟨rfl, q.1, hq⟩ kp ke
  · have q' : oNe dx dy fun d => P d δ.z := by
      cases dx <;> first | exact q | exact absurd ⟨_, _, rfl⟩ h1
    exact opE_of (o_ne B) pins st σ H u v x y dx dy G δ P E Q I r1 r2 R p1 p2 q' kp ke
end
end DL

/-! EM7: own lists. -/
namespace DL
open PySem L2 PySem.Spec PyProof.Rows
section
variable {X : Cx} {c : Fr} {W : WX} {N : List Str} {sc : Scope} {k j : Nat} {bb : Bool} {e a b o : Expr} {es : List Expr} {pos p p2 apos : Pos} {r ra rb : DTE} {rs rk : DTA} {x : Str} {st : Stmt} {s : DSp2}
/-- a slot gets a list that was just made -/
theorem Rel.newO {G H : Hp} {σ : L2.St} {δ : S} {q : Addr} {o : HO} {s' : Sl} {i : Nat} (R : Rel c G H σ δ) (hq : H q = none) (hi : i < δ.sl.length) (ok : SlOk c.toWd c.mu G (upd H q o) δ.z (some (.ref q)) s') (ow : isOwn s' = true) :
    Rel c G (upd H q o) (σ.set i (some (.ref q))) { δ with sl := δ.sl.set i s' } := by
  have po := R.laidH (o := o) hq
  have R1 := R.post po
  have hs : i < σ.length := by rw [R.len]; exact hi
  have back : ∀ {j t}, j ≠ i → (δ.sl.set i s')[j]? = some t → δ.sl[j]? = some t := fun {j t} n h => by rw [List.getElem?_set_ne (Ne.symm n)] at h; exact h
  have at2 : ∀ {j t b}, j ≠ i → δ.sl[j]? = some t → isOwn t = true → at_ (σ.set i (some (.ref q))) j = some (.ref b) → at_ σ j = some (.ref b) ∧ b ≠ q := fun {j t b} n h o e => by
    rw [at_set hs, if_neg n] at e
    refine ⟨e, fun z => ?_⟩
    obtain ⟨b', u, e1, e2, _⟩ := (R.sl j t h).own_at o
    rw [e] at e1; cases e1
    rw [z, hq] at e2; cases e2
  refine ⟨R1.st, R.go.trans (S1 := Spf c.toWd δ σ) ⟨Le.refl _, fun b u h _ => by rw [upd_ne (ne_of_none h hq)]; exact h, fun b u h => ⟨u, by rw [upd_ne (ne_of_none h hq)]; exact h⟩, fun b u h => .inl h, fun b h => ?_⟩, by simp [R.len], fun j t h => ?_, fun j k' b t1 t2 ne h1 h2 o1 o2 a1 a2 => ?_⟩
  · rcases h with h | ⟨j, t, h1, o1, h2⟩
    · exact .inl (.inl h)
    · by_cases n : j = i
      · subst n
        rw [at_set hs, if_pos rfl] at h2
        cases h2
        exact .inr hq
      · exact .inl (.inr ⟨j, t, back n h1, o1, (at2 n (back n h1) o1 h2).1⟩)
  · by_cases n : j = i
    · subst n
      rw [List.getElem?_set_self hi] at h; cases h
      rw [at_set hs, if_pos rfl]; exact ok
    · rw [at_set hs, if_neg n]
      exact R1.sl j t (back n h)
  · by_cases n : j = i
    · subst n
      have m : k' ≠ j := fun z => ne z.symm
      rw [at_set hs, if_pos rfl] at a1; cases a1
      exact (at2 m (back m h2) o2 a2).2 rfl
    · by_cases m : k' = i
      · subst m
        rw [at_set hs, if_pos rfl] at a2; cases a2
        exact (at2 n (back n h1) o1 a1).2 rfl
      · exact R.uq j k' b t1 t2 ne (back n h1) (back m h2) o1 o2 (at2 n (back n h1) o1 a1).1 (at2 m (back m h2) o2 a2).1
theorem XB.xnd (B : XB X c W N sc k bb) : X.N.Nodup := by rw [B.hN]; exact B.nd
/-- x = [..], the list is the frame's own -/
def dOwn (i : Nat) (rs : DTA) : DTS := fun N δ => rs δ (fun ds δ1 => (ds.length ≤ 100000 ∧ i < δ1.sl.length) ∧ N.nx { δ1 with sl := δ1.sl.set i (.own ds) }) N.ex
theorem ds_own {i : Nat} {lp pos' : Pos} (B : XB X c W N sc k false) (hi : N[i]? = some x) (hx : Loc sc x) (ha : DA X c W es rs) (hs : swapsWith (.List es lp) (some (.Name x pos')) pos.line X.env = pure false := by rfl) : DS X c W (.Assign [.Name x pos'] (.List es lp) pos) (dOwn i rs) :=
  psI (ps_set B.xnd (i := i) (by rw [B.hN]; exact hi) (by rw [B.hs]; exact hx) (pe_lst ha) hs (.inl (B.fn rfl x))) fun D σ H ⟨G, δ, N', R, h, n⟩ => ⟨G, δ, _, _, R, h, fun ds δ1 vs G1 H1 p L R1 r1 =>
    ⟨by rw [r1.len]; exact sz5 p.1.1, fun q hq => n.nx _ G1 _ _ p.2 L.g (R1.newO hq p.1.2 ⟨q, vs, rfl, upd_same, R1.gnone hq, R1.st.pne hq, r1⟩ rfl)⟩, exOf n⟩
/-- x.append(e), x an own list -/
def dApp (i : Nat) (r : DTE) : DTS := fun N δ => (∃ ys, δ.sl[i]? = some (.own ys)) ∧ r δ (fun d δ1 => match δ1.sl[i]? with
  | some (.own xs) => xs.length < 100000 ∧ N.nx { δ1 with sl := δ1.sl.set i (.own (xs ++ [d])) }
  | _ => False) N.ex
theorem ds_app {i : Nat} {np : Pos} (B : XB X c W N sc k bb) (hi : N[i]? = some x) (hv : Vis sc x) (he : DE X c W e r) (hd : (x == ("__debug__" : Str)) = false := by decide) (hcd : (x == ("__classdict__" : Str)) = false := by decide)
    (hbase : attributeBase (.Name x np) "append" X.env (eval (.Name x np) X.env) = eval (.Name x np) X.env := by rfl)
    (hfew : ((backTo p (starEach [e] X.env)).all (fun x => !x.1) && (backToKw p (keywordEach [] X.env)).all (fun x => x.1.isSome) && decide ([e].length + ([] : List Keyword).length + (if ([] : List Keyword).isEmpty then 0 else 1) < 30)) = true := by rfl)
    (hline : (apos.endLine == p.line) = true := by rfl) (hst : starEach [e] X.env = (false, eval e X.env) :: starEach [] X.env := by rfl) (hplain : (backTo p (starEach [] X.env)).any (·.1) = false := by rfl)
    (hs : swapsWith (.Call (.Attribute (.Name x np) "append" apos) [e] [] p) none pos.line X.env = pure false := by rfl) : DS X c W (.Expr (.Call (.Attribute (.Name x np) "append" apos) [e] [] p) pos) (dApp i r) :=
  psI (ps_expr (pe_bm F.plainAttrs_list F.slot_list_append F.type_list_append mt_append (pe_var (i := i) (by rw [B.hN]; exact hi) (by rw [B.hs]; exact hv) hd hcd) (da_cons he da_nil hst) hbase hfew hline hst hplain) hs) fun Dn σ H ⟨G, δ, N', R, ⟨⟨ys, hy⟩, h⟩, n⟩ => by
    obtain ⟨a, vs, h1, h2, h3, h4, h5⟩ := R.sl i _ hy
    refine ⟨.ref a, at_some h1, .inl ⟨rfl, vs, .inl (.inl h2)⟩, G, δ, (fun ds δ' => ∃ d, ds = [d] ∧ (match δ'.sl[i]? with
      | some (.own xs) => xs.length < 100000 ∧ N'.nx { δ' with sl := δ'.sl.set i (.own (xs ++ [d])) }
      | _ => False)), _, R, ?_, fun ds δ1 us G1 H1 ⟨d, e, p⟩ L R1 r1 => ?_, exOf n⟩
    · unfold dCons dNil
      have : (fun (x : DL.D) (δ1 : S) => ∃ d, [x] = [d] ∧ (match δ1.sl[i]? with
        | some (.own xs) => xs.length < 100000 ∧ N'.nx { δ1 with sl := δ1.sl.set i (.own (xs ++ [d])) }
        | _ => False)) = fun (d : DL.D) (δ1 : S) => (match δ1.sl[i]? with
        | some (.own xs) => xs.length < 100000 ∧ N'.nx { δ1 with sl := δ1.sl.set i (.own (xs ++ [d])) }
        | _ => False) := by
        funext d δ1
        refine propext ⟨fun ⟨d', e, q⟩ => ?_, fun q => ⟨d, rfl, q⟩⟩
        cases e
        exact q
      rw [this]
      exact h
    · subst e
      cases r1 with
      | cons rd rr =>
        cases rr
        cases es : δ1.sl[i]? with
        | none => rw [es] at p; exact p.elim
        | some t =>
          rw [es] at p
          cases t with
          | own xs =>
            obtain ⟨a', ws, k1, k2, k3, k4, k5⟩ := R1.sl i _ es
            rw [h1] at k1; cases k1
            refine ⟨a, ws, _, rfl, rfl, k2, by rw [k5.len]; exact sl5 p.1, n.nx _ G1 _ _ p.2 L.g (R1.own (s' := .own (xs ++ [d])) es h1 rfl k3 k4 rfl ⟨a, _, rfl, upd_same, k3, k4, k5.app (.cons rd .nil)⟩)⟩
          | _ => exact p.elim
/-- x[e] = f, x an own list -/
def ixD (n : Nat) (i : Int) : Option Nat := ixN n i
def dOwnIx (i : Nat) (ri r : DTE) : DTS := fun N δ => r δ (fun d δ1 => (∃ ys, δ1.sl[i]? = some (.own ys)) ∧ ri δ1 (fun ix δ2 => match δ2.sl[i]?, ix with
  | some (.own xs), .int z => ∃ m, ixD xs.length z = some m ∧ N.nx { δ2 with sl := δ2.sl.set i (.own (xs.set m d)) }
  | _, _ => False) N.ex) N.ex
end
end DL

/-! EM8: what the generated texts lean on. -/
namespace DL
open PySem L2 PySem.Spec PyProof.Rows
open NdefX (NF envF ncx NScope CellsAt startF inv_startN)
open LamX (TabB)
section
variable {w : Wd} {x qual : Str} {st : Stmt} {params : Arguments} {body : List Stmt} {scope : Scope} {dvs : List V} {f : Addr} {fd : FuncData} {ps ks : List Str} {n : Nat}
theorem EqD.mono {C : Addr} {s : DSp2} {j k : Nat} (h : EqD w j C s) (l : j ≤ k) : EqD w k C s := ⟨h.eq.mono l, h.ne, h.bt⟩
theorem MethD.mono {C : Addr} {m : Str} {s : DSp2} {j k : Nat} (h : MethD w m ks j C s) (l : j ≤ k) : MethD w m ks k C s := by
  obtain ⟨f, h1, h2⟩ := h.ex
  exact ⟨h.cl, f, h1, h2.mono l⟩
theorem PropD.mono {C : Addr} {m : Str} {s : DSp2} {j k : Nat} (h : PropD w m j C s) (l : j ≤ k) : PropD w m k C s := by
  obtain ⟨p, g, h1, h2⟩ := h.ex
  exact ⟨h.cl, p, g, h1, h2.mono l⟩
/-- a def by what the written part says: without defaults -/
theorem fund0 {K : PySem.W.Frag} {oc : Value} {od an : Option Addr} {osl : Array (Option Value)} {kV doc pm cdv ct : Value} (l : K.lookup f = some ⟨oc, od, .func (PySem.W.fnOf x qual params body scope .none kV doc pm an cdv ct), osl⟩)
    (c : PySem.W.codeIn K cdv qual = true) (k : PySem.W.keepIn K (.ref f) = true) : FunD K x qual params body scope [] [] f (PySem.W.fnOf x qual params body scope .none kV doc pm an cdv ct) :=
  ⟨⟨oc, od, .none, kV, doc, pm, an, cdv, ct, osl, rfl, l, c, .inl ⟨rfl, rfl⟩, .inl rfl⟩, k⟩
/-- with defaults -/
theorem fundD {K : PySem.W.Frag} {oc oc2 : Value} {od an od2 : Option Addr} {osl osl2 : Array (Option Value)} {kV doc pm cdv ct : Value} {T : Addr} {its : Array Value} {m : Nat} (l : K.lookup f = some ⟨oc, od, .func (PySem.W.fnOf x qual params body scope (.ref T) kV doc pm an cdv ct), osl⟩)
    (c : PySem.W.codeIn K cdv qual = true) (k : PySem.W.keepIn K (.ref f) = true) (lT : K.lookup T = some ⟨oc2, od2, .seq its m, osl2⟩) (v : Vals dvs its.toList) (hd : dvs ≠ []) : FunD K x qual params body scope dvs [] f (PySem.W.fnOf x qual params body scope (.ref T) kV doc pm an cdv ct) :=
  ⟨⟨oc, od, .ref T, kV, doc, pm, an, cdv, ct, osl, rfl, l, c, .inr ⟨hd, T, _, its.toList, m, rfl, lT, by simp, v⟩, .inl rfl⟩, k⟩
/-- how the values of a call fall to the parameters -/
theorem shape_n (F : FunD w.K x qual params body scope [] [] f fd) (ix : List Nat)
    (h : ∀ (kV doc pm : Value) (an : Option Addr) (cdv ct : Value) (us ws : List Value), us.length = n → ws.length = ks.length → bindArgs (PySem.W.fnOf x qual params body scope .none kV doc pm an cdv ct) ⟨us, ks.zip ws⟩ = pure (ps.zip (pick ix (us ++ ws)))) :
    Shape w fd ps n ks (fun ds es => pick ix (ds ++ es)) := by
  obtain ⟨oc, od, dV, kV, doc, pm, an, cdv, ct, osl, rfl, lk, hcd, hdv, _⟩ := F.ex
  rcases hdv with ⟨_, rfl⟩ | ⟨h0, _⟩
  · exact ⟨_, _, ⟨fun s us ws _ h1 h2 => .of_eq (h kV doc pm an cdv ct us ws h1 h2), fun r1 r2 => Vals.pick (Vals.app r1 r2) ix⟩, fun G vs zs ds es r1 r2 => RepL.pick (r1.app r2) ix⟩
  · exact absurd rfl h0
theorem shape_n0 (F : FunD w.K x qual params body scope [] [] f fd) (h : ∀ (kV doc pm : Value) (an : Option Addr) (cdv ct : Value) (us : List Value), us.length = n → bindArgs (PySem.W.fnOf x qual params body scope .none kV doc pm an cdv ct) ⟨us, []⟩ = pure (ps.zip us)) :
    Shape w fd ps n [] (fun ds _ => ds) := by
  obtain ⟨oc, od, dV, kV, doc, pm, an, cdv, ct, osl, rfl, lk, hcd, hdv, _⟩ := F.ex
  rcases hdv with ⟨_, rfl⟩ | ⟨h0, _⟩
  · exact ⟨fun us _ => us, fun vs _ => vs, ⟨fun s us ws _ h1 h2 => by
      have e : ws = [] := List.length_eq_zero_iff.mp h2
      subst e
      exact .of_eq (h kV doc pm an cdv ct us h1), fun r1 _ => r1⟩, fun G vs zs ds es r1 _ => r1⟩
  · exact absurd rfl h0
theorem shape_d (F : FunD w.K x qual params body scope dvs [] f fd) (hd : dvs ≠ []) (dds : List D) (hD : ∀ G, RepL w.K w.p0 G dvs dds) (ix : List Nat)
    (h : ∀ (T : Addr) (kV doc pm : Value) (an : Option Addr) (cdv ct : Value) (us its ws : List Value), us.length = n → its.length = dvs.length → ws.length = ks.length →
      ∃ k, bindArgs (PySem.W.fnOf x qual params body scope (.ref T) kV doc pm an cdv ct) ⟨us, ks.zip ws⟩ = seqItems? (.ref T) >>= k ∧ k (some its.toArray) = pure (ps.zip (pick ix (us ++ its ++ ws)))) :
    Shape w fd ps n ks (fun ds es => pick ix (ds ++ dds ++ es)) := by
  obtain ⟨its, hb⟩ := F.kbindsD n ks (fun us its ws => pick ix (us ++ its ++ ws)) hd (fun r1 r2 r3 => Vals.pick (Vals.app (Vals.app r1 r2) r3) ix) h
  exact ⟨_, _, hb, fun G vs zs ds es r1 r2 => RepL.pick ((r1.app (hD G)).app r2) ix⟩
/-! ### lambdas -/
/-- a def that makes lambdas, its table -/
structure LamF (c : Wd) (f cc pt : Addr) (qual : Str) : Prop where
  code : ∃ oc od fd osl, c.K.lookup f = some ⟨oc, od, .func fd, osl⟩ ∧ fd.code = .ref cc
  tb : TabB c.base c.mg cc pt
  mem : (pt, qual ++ ".<locals>." ++ "<lambda>") ∈ c.tb
  uniq : ∀ p ∈ c.tb, p.1 = pt → p.2 = qual ++ ".<locals>." ++ "<lambda>"
theorem LamF.h {X : Cx} {c : Wd} {cc pt : Addr} (L : LamF c f cc pt qual) (a : AtF c.K f qual X.env) : LamH X c cc pt (qual ++ ".<locals>." ++ "<lambda>") := by
  obtain ⟨oc, od, fd, osl, h1, h2⟩ := L.code
  obtain ⟨oc', od', fd', osl', k1, k2⟩ := a.code
  rw [h1] at k1
  cases k1
  exact ⟨k2.symm.trans h2, by rw [a.qual], L.tb, L.mem, L.uniq⟩
theorem lam_mk {P : Program} {w : World} {K : PySem.W.Frag} {mg : Str → Option Value} {base : Heap} {p : Addr} {cs : List Int} {ts : List Tb} {cc pt : Addr} (HT : ∀ t ∈ ts, TabB base mg t.1 t.2.1) (nd : (ts.map fun t => t.2.1).Nodup) {oc : Value} {od : Option Addr} {fd : FuncData} {osl : Array (Option Value)}
    (h1 : K.lookup f = some ⟨oc, od, .func fd, osl⟩) (h2 : fd.code = .ref cc) (hm : (cc, pt, qual ++ ".<locals>." ++ "<lambda>") ∈ ts) : LamF (lawWd P w K mg base p cs (tbs ts)) f cc pt qual := by
  refine ⟨⟨oc, od, fd, osl, h1, h2⟩, HT _ hm, List.mem_map.mpr ⟨_, hm, rfl⟩, fun q hq e => ?_⟩
  obtain ⟨t, ht, rfl⟩ := List.mem_map.mp hq
  have inj : ∀ (l : List Tb), (l.map fun t => t.2.1).Nodup → ∀ a ∈ l, ∀ b ∈ l, a.2.1 = b.2.1 → a = b := by
    intro l
    induction l with
    | nil => intro _ a ha; cases ha
    | cons u r ih =>
      intro n a ha b hb e
      rw [List.map_cons, List.nodup_cons] at n
      rcases List.mem_cons.mp ha with h1 | h1
      · rcases List.mem_cons.mp hb with h2 | h2
        · rw [h1, h2]
        · exact absurd (List.mem_map.mpr ⟨b, h2, by rw [← e, h1]⟩) n.1
      · rcases List.mem_cons.mp hb with h2 | h2
        · exact absurd (List.mem_map.mpr ⟨a, h1, by rw [e, h2]⟩) n.1
        · exact ih n.2 a h1 b h2 e
  have := inj ts nd t ht _ hm e
  rw [this]
theorem tbOk_nil {K : PySem.W.Frag} {h : Heap} : TbOk K h [] := ⟨fun _ h => (by cases h), fun _ h => (by cases h), fun _ h => (by cases h)⟩
theorem tbOk_cons {K : PySem.W.Frag} {h : Heap} {ts : List Tb} {q : Program} {loose : List Str} {mean : ExcName → Option Value} {mg mb : Str → Option Value} {d : DefRec} {x : Str} {cc pt : Addr} {qn : Str} (T : Top q loose mean mg mb h) (X : K.In h) (hr : (recsOf q).find? (fun e => e.name == x) = some d) (ht : PySem.W.tabIn K x = some (cc, pt)) (hn : K.lookup pt = none)
    (r : TbOk K h ts) : TbOk K h ((cc, pt, qn) :: ts) := by
  obtain ⟨h1, h2⟩ := PySem.W.tab_of T X hr ht
  exact ⟨fun t m => (List.mem_cons.mp m).elim (fun e => by subst e; exact h2) (r.at_ t), fun t m => (List.mem_cons.mp m).elim (fun e => by subst e; exact hn) (r.no t), fun t m => (List.mem_cons.mp m).elim (fun e => by subst e; exact h1) (r.hd t)⟩
/-! ### own exceptions -/
/-- an own __init__ that names its class by a cell, as it is written -/
structure IniX (c : Wd) (D f : Addr) (qual : Str) (st : Stmt) (ps : List Str) : Prop where
  ex : ∃ (cc cf : Addr) (fd : FuncData), SupF c.P c.K c.mg D ⟨"__init__", qual, defArgs st, defBody st, defScope st, [(("__class__" : Str), cc)], cf⟩ cc f fd ∧ KBn c.K fd ps ps.length [] (fun us _ => us) (fun vs _ => vs)
  fi : PySem.W.findIn c.K (.ref D) "__init__" = some (some (.ref f))
  ty : PySem.W.typeIn c.K (.ref f) = some (.type "function")
  T : OexC c.K D
theorem IniX.one {c : Wd} {D f : Addr} {qual : Str} {st : Stmt} {x : Str} {k : Nat} (I : IniX c D f qual st ["self", x]) (h : ∀ (cc cf : Addr) (fd : FuncData), SupF c.P c.K c.mg D ⟨"__init__", qual, defArgs st, defBody st, defScope st, [(("__class__" : Str), cc)], cf⟩ cc f fd → FnG c k f fd ["self", x] (spX D [x])) : ExcD c D [x] k := by
  obtain ⟨cc, cf, fd, S, b⟩ := I.ex
  exact ⟨I.T, f, fd, I.fi, I.ty, h cc cf fd S, b⟩
theorem IniX.two {c : Wd} {D f : Addr} {qual : Str} {st : Stmt} {x y : Str} {k : Nat} (I : IniX c D f qual st ["self", x, y]) (h : ∀ (cc cf : Addr) (fd : FuncData), SupF c.P c.K c.mg D ⟨"__init__", qual, defArgs st, defBody st, defScope st, [(("__class__" : Str), cc)], cf⟩ cc f fd → FnG c k f fd ["self", x, y] (spX D [x, y])) : ExcD c D [x, y] k := by
  obtain ⟨cc, cf, fd, S, b⟩ := I.ex
  exact ⟨I.T, f, fd, I.fi, I.ty, h cc cf fd S, b⟩
theorem exm_of {K : PySem.W.Frag} {a b : Value} {r : Bool} (h1 : PySem.W.subIn K b (.type "BaseException") = some true) (h2 : PySem.W.kitCls K a b = some r) : PySem.W.exmOne K a b = some r := by
  unfold PySem.W.exmOne
  rw [h1]
  exact h2
theorem kbn_x {K : PySem.W.Frag} {x qual : Str} {params : Arguments} {body : List Stmt} {scope : Scope} {cl : List (Str × Addr)} {dV kV doc pm cdv ct : Value} {an : Option Addr} {ps : List Str}
    (h : ∀ us : List Value, us.length = ps.length → bindArgs (PySem.W.fnX x qual params body scope cl dV kV doc pm an cdv ct) ⟨us, []⟩ = pure (ps.zip us)) : KBn K (PySem.W.fnX x qual params body scope cl dV kV doc pm an cdv ct) ps ps.length [] (fun us _ => us) (fun vs _ => vs) :=
  ⟨fun s us ws _ h1 h2 => by
    have e : ws = [] := List.length_eq_zero_iff.mp h2
    subst e
    exact .of_eq (h us h1), fun r1 _ => r1⟩
end
end DL

/-! EM9: small rules for the generated texts. -/
namespace DL
open PySem L2 PySem.Spec PyProof.Rows
section
variable {X : Cx} {c : Fr} {W : WX} {N : List Str} {sc : Scope} {k j : Nat} {bb : Bool} {e a b o : Expr} {es : List Expr} {pos p p2 apos : Pos} {r ra rb : DTE} {rs rk : DTA} {x : Str} {st : Stmt}
theorem dcpE {op : CmpOp} {o : DOpE} (ho : OpE X c W (compareOp op) o) (ha : DE X c W a ra) (hb : DE X c W b rb) (hm : behindInMarks op b = false := by first | exact nobehind _ (by decide) (by decide) | rfl) : DE X c W (.Compare a [op] [b] pos) (dBinE o ra rb) := de_cmpE ho ha hb hm
theorem dtcE {op : CmpOp} {o : DOpE} (ho : OpE X c W (compareOp op) o) (ha : DE X c W a ra) (hb : DE X c W b rb) (hm : behindInMarks op b = false := by first | exact nobehind _ (by decide) (by decide) | rfl) : DT X c W (.Compare a [op] [b] pos) (dTB (dBinE o ra rb)) := dt_cmpE ho ha hb hm
theorem dapp {i : Nat} {np : Pos} (B : XB X c W N sc k bb) (he : DE X c W e r) (hi : N[i]? = some x := by rfl) (hv : Vis sc x := by first | exact Or.inl rfl | exact Or.inr (Or.inl rfl) | exact Or.inr (Or.inr rfl)) (hd : (x == ("__debug__" : Str)) = false := by decide) (hcd : (x == ("__classdict__" : Str)) = false := by decide)
    (hbase : attributeBase (.Name x np) "append" X.env (eval (.Name x np) X.env) = eval (.Name x np) X.env := by rfl)
    (hfew : ((backTo p (starEach [e] X.env)).all (fun x => !x.1) && (backToKw p (keywordEach [] X.env)).all (fun x => x.1.isSome) && decide ([e].length + ([] : List Keyword).length + (if ([] : List Keyword).isEmpty then 0 else 1) < 30)) = true := by rfl)
    (hline : (apos.endLine == p.line) = true := by rfl) (hst : starEach [e] X.env = (false, eval e X.env) :: starEach [] X.env := by rfl) (hplain : (backTo p (starEach [] X.env)).any (·.1) = false := by rfl)
    (hs : swapsWith (.Call (.Attribute (.Name x np) "append" apos) [e] [] p) none pos.line X.env = pure false := by rfl) : DS X c W (.Expr (.Call (.Attribute (.Name x np) "append" apos) [e] [] p) pos) (dApp i r) := ds_app B hi hv he hd hcd hbase hfew hline hst hplain hs
theorem down {i : Nat} {lp pos' : Pos} (B : XB X c W N sc k false) (ha : DA X c W es rs) (hi : N[i]? = some x := by rfl) (hx : Loc sc x := by first | exact Or.inl rfl | exact Or.inr rfl) (hs : swapsWith (.List es lp) (some (.Name x pos')) pos.line X.env = pure false := by rfl) : DS X c W (.Assign [.Name x pos'] (.List es lp) pos) (dOwn i rs) := ds_own B hi hx ha hs
end
section
variable {K : PySem.W.Frag} {x qual : Str} {params : Arguments} {body : List Stmt} {scope : Scope} {dvs : List V} {f : Addr} {fd : FuncData} {ps : List Str} {n : Nat} {w : Wd} {d kd : D} {u : Value} {T : String} {b : Bool} {z : Z} {P : D → Z → Prop} {E : Er → Z → Prop} {C : Addr} {fs : List (Str × D)}
theorem FunD.fd_eq {oc : Value} {od : Option Addr} {fd' : FuncData} {sl : Array (Option Value)} (F : FunD K x qual params body scope dvs [] f fd) (h : K.lookup f = some ⟨oc, od, .func fd', sl⟩) : fd = fd' := by
  obtain ⟨_, _, _, _, _, _, _, _, _, _, _, h2, _⟩ := F.ex
  rw [h] at h2
  cases h2
  rfl
theorem bnd1 {y : Str} (F : FunD K x qual params body scope [] [] f fd) (h : ∀ (kV doc pm : Value) (an : Option Addr) (cdv ct : Value) (u : Value), bindArgs (PySem.W.fnOf x qual params body scope .none kV doc pm an cdv ct) ⟨[u], []⟩ = pure [(y, u)]) (s : Shared) (u : Value) : BindsTo s fd ⟨[u], []⟩ [(y, u)] := by
  obtain ⟨oc, od, dV, kV, doc, pm, an, cdv, ct, osl, rfl, lk, hcd, hdv, _⟩ := F.ex
  rcases hdv with ⟨_, rfl⟩ | ⟨h0, _⟩
  · exact .of_eq (h kV doc pm an cdv ct u)
  · exact absurd rfl h0
theorem kbn_f (F : FunD K x qual params body scope [] [] f fd) (h : ∀ (kV doc pm : Value) (an : Option Addr) (cdv ct : Value) (us : List Value), us.length = n → bindArgs (PySem.W.fnOf x qual params body scope .none kV doc pm an cdv ct) ⟨us, []⟩ = pure (ps.zip us)) : KBn K fd ps n [] (fun us _ => us) (fun vs _ => vs) := by
  obtain ⟨oc, od, dV, kV, doc, pm, an, cdv, ct, osl, rfl, lk, hcd, hdv, _⟩ := F.ex
  rcases hdv with ⟨_, rfl⟩ | ⟨h0, _⟩
  · exact ⟨fun s us ws _ h1 h2 => by
      have e : ws = [] := List.length_eq_zero_iff.mp h2
      subst e
      exact .of_eq (h kV doc pm an cdv ct us h1), fun r1 _ => r1⟩
  · exact absurd rfl h0
theorem isa_bt (h : PySem.W.kitOne w.K (.type T) u = some b) (hu : clD kd = some u := by rfl) (ht : ∀ Q : Value → Prop, tyX w d Q = Q (.type T) := by intros; rfl) : oIsA w [d, kd] z P E ↔ P (.bl b) z := by
  show (match clD kd with | some u => tyX w d (fun t => ∃ b, PySem.W.kitOne w.K t u = some b ∧ P (.bl b) z) | none => False) ↔ _
  rw [hu]
  simp only
  rw [ht, h]
  exact ⟨fun ⟨b', e, hp⟩ => by cases e; exact hp, fun hp => ⟨b, rfl, hp⟩⟩
theorem isa_in (hc : CI w C) (h : PySem.W.kitOne w.K (.ref C) u = some b) (hu : clD kd = some u := by rfl) : oIsA w [.ins C fs, kd] z P E ↔ P (.bl b) z := by
  show (match clD kd with | some u => CI w C ∧ ∃ b, PySem.W.kitOne w.K (.ref C) u = some b ∧ P (.bl b) z | none => False) ↔ _
  rw [hu]
  simp only
  rw [h]
  exact ⟨fun ⟨_, b', e, hp⟩ => by cases e; exact hp, fun hp => ⟨hc, b, rfl, hp⟩⟩
theorem isa_ex (hc : PySem.W.XcC w.K C) (h : PySem.W.kitOne w.K (.ref C) u = some b) (hu : clD kd = some u := by rfl) : oIsA w [.exc (.ref C) fs, kd] z P E ↔ P (.bl b) z := by
  show (match clD kd with | some u => PySem.W.XcC w.K C ∧ ∃ b, PySem.W.kitOne w.K (.ref C) u = some b ∧ P (.bl b) z | none => False) ↔ _
  rw [hu]
  simp only
  rw [h]
  exact ⟨fun ⟨_, b', e, hp⟩ => by cases e; exact hp, fun hp => ⟨hc, b, rfl, hp⟩⟩
end
end DL

/-! EMA: sizes of numbers; // by any divisor. -/
namespace DL
open PySem L2 PySem.Spec PyProof.Rows
section
variable {X : Cx} {c : Fr}
theorem ib_lt {i : Int} {a : Nat} (h : i.natAbs < 2 ^ a) : Builtin.Int.intBits i ≤ a + 1 := by
  unfold Builtin.Int.intBits
  split
  · omega
  · rename_i h0
    have : i.natAbs.log2 < a := (Nat.log2_lt (by intro e; simp_all)).mpr h
    omega
/-- a small factor, or sizes that are known -/
def CMulE (i j : Int) : Prop := CMul i j ∨ CMulX i j
theorem o_mulE : OpD X c (binaryOp .Mult) (oI CMulE fun i j => .int (i * j)) := (o_mul.or o_mulX).imp fun x y P h => by
  cases x with
  | int i => cases y with
    | int j => exact h.1.imp (fun q => ⟨q, h.2⟩) fun q => ⟨q, h.2⟩
    | _ => exact h.elim
  | _ => exact h.elim
theorem mx_of' {i j : Int} (a b : Nat) (h1 : i.natAbs < 2 ^ a) (h2 : j.natAbs < 2 ^ b) (h : a + b ≤ 100000000 := by decide) : CMulX i j := by
  have := ib_lt h1
  have := ib_lt h2
  unfold CMulX
  omega
theorem mx_of {i j : Int} (a b : Nat) (h1 : i.natAbs < 2 ^ a) (h2 : j.natAbs < 2 ^ b) (h : a + b ≤ 100000000 := by decide) : CMulE i j := .inr (mx_of' a b h1 h2 h)
theorem me_l {x y : Int} (h1 : x.natAbs < 2 ^ 64) : CMulE x y := .inl (.inl ⟨by omega, by omega⟩)
theorem me_r {x y : Int} (h1 : y.natAbs < 2 ^ 64) : CMulE x y := .inl (.inr ⟨by omega, by omega⟩)
/-- any divisor below 2 ^ 9000 -/
def CDivG (j : Int) : Prop := j ≠ 0 ∧ j.natAbs.log2 < 9000
theorem o_fdivG : OpD X c (binaryOp .FloorDiv) (oI (fun _ j => CDivG j) fun i j => .int (i.fdiv j)) := oI_of (C := fun _ j => CDivG j) (g := fun i j => .int (i.fdiv j)) (opI fun i j _ _ _ _ _ hc q => floordiv_int hc.1 q (.inl (PyProof.noPylong_of_log2 hc.2))) fun G i j => .int _
theorem cdg_of {j : Int} (b : Nat) (h0 : j ≠ 0) (h1 : j.natAbs < 2 ^ b) (hb : 0 < b := by decide) (h9 : b ≤ 9000 := by decide) : CDivG j := ⟨h0, Nat.lt_of_lt_of_le (PySem.Flt.log2_lt_of hb h1) h9⟩
theorem cdw {i j : Int} (b : Nat) (h0 : 0 < j) (h1 : j.natAbs < 2 ^ b) (hb : 0 < b := by decide) (h9 : b ≤ 9000 := by decide) : CDivW i j := wide_div h0 h1 hb h9
theorem pow_lt {i : Int} {a : Nat} {n : Nat} (h : i.natAbs < 2 ^ a) (hn : 0 < n) : (i ^ n).natAbs < 2 ^ (a * n) := by
  rw [Int.natAbs_pow, Nat.pow_mul]
  exact Nat.pow_lt_pow_left h (by omega)
end
end DL

/-! EMB: a draw; plain lemmas. -/
namespace DL
open PySem L2 PySem.Spec PyProof.Rows
def drawA_8 (c : Wd) (k1 k2 k3 k4 k5 p1 p2 p3 : Int) : DTS := dRet (dBin (oI (fun _ j => 0 < j) fun i j => .int (i % j)) (dBu oInt (dCons (dBin (oI CDivW fun i j => .int (i / j)) (dBin (oI (fun _ j => 0 < j) fun i j => .int (i % j)) (dBu oInt (dCons (dBin (oI CPow fun i j => .int (i ^ j.toNat)) (dVar 6) (dC (.int 3))) (dNil))) (dC (.int p3))) (dC (.int 64))) (dNil))) (dVar 1))
def drawA_7 (c : Wd) (k1 k2 k3 k4 k5 p1 p2 p3 : Int) : DTS := dSeq (dSet 6 (dBin oAdd (dBin oAdd (dBin (oI CMulE fun i j => .int (i * j)) (dVar 6) (dBin oAdd (dBin (oI CMulE fun i j => .int (i * j)) (dC (.int 2)) (dVar 3)) (dC (.int k4)))) (dBin (oI CMulE fun i j => .int (i * j)) (dBin (oI CMulE fun i j => .int (i * j)) (dC (.int k1)) (dVar 3)) (dVar 3))) (dC (.int k5)))) (drawA_8 c k1 k2 k3 k4 k5 p1 p2 p3)
def drawA_6 (c : Wd) (k1 k2 k3 k4 k5 p1 p2 p3 : Int) : DTS := dSeq (dSet 6 (dBin (oI (fun _ j => 0 < j) fun i j => .int (i % j)) (dBu oInt (dCons (dBin (oI CPow fun i j => .int (i ^ j.toNat)) (dBin oAdd (dBin oAdd (dBin (oI (fun _ j => 0 < j) fun i j => .int (i % j)) (dBu oInt (dCons (dVar 4) (dNil))) (dC (.int p1))) (dBin (oI CMulE fun i j => .int (i * j)) (dC (.int k3)) (dVar 3))) (dC (.int k2))) (dC (.int 5))) (dNil))) (dC (.int p2)))) (drawA_7 c k1 k2 k3 k4 k5 p1 p2 p3)
def drawA_5 (c : Wd) (k1 k2 k3 k4 k5 p1 p2 p3 : Int) : DTS := dSeq (dIte (dAnd (dTB (dBin (oI (fun _ _ => True) fun i j => .bl (decide (i < j))) (dVar 3) (dBu oLen (dCons (dPen c 0 0) (dNil))))) (dTB (dBin (oI (fun _ _ => True) fun i j => .bl (decide (j ≤ i))) (dBu oAbs (dCons (dVar 4) (dNil))) (dBin (oI CPow fun i j => .int (i ^ j.toNat)) (dC (.int 10)) (dC (.int 18)))))) (dSeq (dSet 5 (dBin oAdd (dBin (oI CMulE fun i j => .int (i * j)) (dC (.int 2)) (dBin (oI (fun _ _ => True) fun i j => .int (i - j)) (dBu oAbs (dCons (dVar 4) (dNil))) (dBin (oI CPow fun i j => .int (i ^ j.toNat)) (dC (.int 10)) (dC (.int 18))))) (dBu oInt (dCons (dBin (oI (fun _ _ => True) fun i j => .bl (decide (i < j))) (dVar 4) (dC (.int 0))) (dNil))))) (dSeq (dAsg (dBin (oI CDivW fun i j => .int (i / j)) (dBu oInt (dCons (dVar 5) (dNil))) (dVar 1)) (gPen 0 2)) (dRet (dBin (oI (fun _ j => 0 < j) fun i j => .int (i % j)) (dBu oInt (dCons (dVar 5) (dNil))) (dVar 1))))) (dNext)) (drawA_6 c k1 k2 k3 k4 k5 p1 p2 p3)
def drawA_4 (c : Wd) (k1 k2 k3 k4 k5 p1 p2 p3 : Int) : DTS := dSeq (dIte (dTB (dBin oNe (dPen c 0 0) (dLst (dNil)))) (dSet 4 (dIx (dPen c 0 0) (dBin (oI (fun _ j => 0 < j) fun i j => .int (i % j)) (dBu oInt (dCons (dVar 3) (dNil))) (dBu oLen (dCons (dPen c 0 0) (dNil)))))) (dNext)) (drawA_5 c k1 k2 k3 k4 k5 p1 p2 p3)
def drawA_3 (c : Wd) (k1 k2 k3 k4 k5 p1 p2 p3 : Int) : DTS := dSeq (dSet 4 (dBin oAdd (dBin (oI CMulE fun i j => .int (i * j)) (dC (.int k1)) (dVar 3)) (dC (.int k2)))) (drawA_4 c k1 k2 k3 k4 k5 p1 p2 p3)
def drawA_2 (c : Wd) (k1 k2 k3 k4 k5 p1 p2 p3 : Int) : DTS := dSeq (dAsg (dBin oAdd (dVar 3) (dC (.int 1))) (gPen 0 1)) (drawA_3 c k1 k2 k3 k4 k5 p1 p2 p3)
def drawA_1 (c : Wd) (k1 k2 k3 k4 k5 p1 p2 p3 : Int) : DTS := dSeq (dSet 3 (dPen c 0 1)) (drawA_2 c k1 k2 k3 k4 k5 p1 p2 p3)
def drawA_0 (c : Wd) (k1 k2 k3 k4 k5 p1 p2 p3 : Int) : DTS := dSeq (dIte (dTB (dBin (oI (fun _ _ => True) fun i j => .bl (decide (j < i))) (dPen c 0 2) (dC (.int 0)))) (dSeq (dSet 2 (dBin (oI (fun _ j => 0 < j) fun i j => .int (i % j)) (dBu oInt (dCons (dPen c 0 2) (dNil))) (dVar 1))) (dSeq (dAsg (dBin (oI CDivW fun i j => .int (i / j)) (dBu oInt (dCons (dPen c 0 2) (dNil))) (dVar 1)) (gPen 0 2)) (dRet (dVar 2)))) (dNext)) (drawA_1 c k1 k2 k3 k4 k5 p1 p2 p3)
theorem pw18 : (10 : Int) ^ (18 : Int).toNat = 1000000000000000000 := rfl
theorem drawA_tail {c : Wd} {k1 k2 k3 k4 k5 p1 p2 p3 : Int} (hk : (0 ≤ k1 ∧ k1 < 1048576) ∧ (0 ≤ k2 ∧ k2 < 1048576) ∧ (0 ≤ k3 ∧ k3 < 1048576) ∧ (0 ≤ k4 ∧ k4 < 1048576) ∧ (0 ≤ k5 ∧ k5 < 1048576) ∧ (0 < p1 ∧ p1 < 4294967296) ∧ (0 < p2 ∧ p2 < 4294967296) ∧ (0 < p3 ∧ p3 < 4294967296))
    {fu : Nat} {ms : Addr → Option Cell} {b : Nat} {m : Int} {P : D → Z → Prop} {R : Er → Z → Prop} (h0 : 0 < m) (h1 : m < 2 ^ 200) (hb : b ≤ 1000000) (hp : ∀ (z : Int), 0 ≤ z → z < m → P (.int z) ⟨fu, ms⟩) (i : Int) :
    drawA_5 c k1 k2 k3 k4 k5 p1 p2 p3 (fnN P R) ⟨[.d .pen, .d (.int m), .un, .d (.int b), .d (.int i), .un, .un], ⟨fu, ms⟩⟩ := by
  obtain ⟨⟨a1, a2⟩, ⟨b1, b2⟩, ⟨c1, c2⟩, ⟨d1, d2⟩, ⟨e1, e2⟩, ⟨f1, f2⟩, ⟨g1, g2⟩, ⟨i1, i2⟩⟩ := hk
  have hm : (b : Int) ≤ 1000000 := by omega
  have hm0 : (0 : Int) ≤ b := by omega
  have hmm : m.natAbs < 2 ^ 200 := by omega
  have fin : ∀ x : Int, P (.int (x % m)) ⟨fu, ms⟩ := fun x => hp _ (emb x h0).1 (emb x h0).2
  have last : drawA_6 c k1 k2 k3 k4 k5 p1 p2 p3 (fnN P R) ⟨[.d .pen, .d (.int m), .un, .d (.int b), .d (.int i), .un, .un], ⟨fu, ms⟩⟩ := by
    unfold drawA_6
    rw [dSeq]
    simp only [dIte, dTB, dBin, dPen, isPen, dC, dVar, dNil, dCons, dSet, dAsg, dRet, dNext, dAnd, dOr, dNot, dAndV, dOrV, dNotV, dBu, oLen, oInt, oAbs, oI, oAdd, oIx, dIx, gPen, gN, gC, gT, gZ, dLst, dTup, dPar, dSl, dNone, dPart, oSl, dCall, dIf, dDrop, fnN, List.getElem?_cons_zero, List.getElem?_cons_succ, List.set_cons_zero, List.set_cons_succ, true_and, if_true, if_false, Bool.false_eq_true, List.length_cons, List.length_nil, Option.some.injEq, Int.reduceEq, ↓reduceIte, Nat.reduceAdd, Nat.reduceLeDiff, and_true, Nat.zero_le]
    have q1 := emb i f1
    have q2 := mulb c1 (Int.le_of_lt c2) hm0 hm
    refine ⟨f1, mx_of 40 20 (by omega) (by omega), cpow_of (by omega) (by omega) (by decide) (by decide), g1, ?_⟩
    have q3 := emb ((i % p1 + k3 * (b : Int) + k2) ^ Int.toNat 5) g1
    generalize (i % p1 + k3 * (b : Int) + k2) ^ Int.toNat 5 % p2 = x at q3 ⊢
    unfold drawA_7
    rw [dSeq]
    simp only [dIte, dTB, dBin, dPen, isPen, dC, dVar, dNil, dCons, dSet, dAsg, dRet, dNext, dAnd, dOr, dNot, dAndV, dOrV, dNotV, dBu, oLen, oInt, oAbs, oI, oAdd, oIx, dIx, gPen, gN, gC, gT, gZ, dLst, dTup, dPar, dSl, dNone, dPart, oSl, dCall, dIf, dDrop, fnN, List.getElem?_cons_zero, List.getElem?_cons_succ, List.set_cons_zero, List.set_cons_succ, true_and, if_true, if_false, Bool.false_eq_true, List.length_cons, List.length_nil, Option.some.injEq, Int.reduceEq, ↓reduceIte, Nat.reduceAdd, Nat.reduceLeDiff, and_true, Nat.zero_le]
    have q4 := mulb q3.1 (Int.le_of_lt q3.2) (y := 2 * (b : Int) + k4) (Y := 3048576) (by omega) (by omega)
    have q5 := mulb a1 (Int.le_of_lt a2) hm0 hm
    have q6 := mulb q5.1 q5.2 hm0 hm
    have q6' : k1 * (b : Int) * (b : Int) ≤ 1048576000000000000 := Int.le_trans q6.2 (by omega)
    refine ⟨mx_of 2 20 (by decide) (by omega), mx_of 33 41 (by omega) (by omega), mx_of 41 20 (by omega) (by omega), mx_of 61 20 (by omega) (by omega), ?_⟩
    have w : x * (2 * (b : Int) + k4) + k1 * (b : Int) * (b : Int) + k5 < 2 ^ 62 := by omega
    have w0 : 0 ≤ x * (2 * (b : Int) + k4) + k1 * (b : Int) * (b : Int) + k5 := by omega
    generalize x * (2 * (b : Int) + k4) + k1 * (b : Int) * (b : Int) + k5 = y at w w0 ⊢
    unfold drawA_8
    simp only [dIte, dTB, dBin, dPen, isPen, dC, dVar, dNil, dCons, dSet, dAsg, dRet, dNext, dAnd, dOr, dNot, dAndV, dOrV, dNotV, dBu, oLen, oInt, oAbs, oI, oAdd, oIx, dIx, gPen, gN, gC, gT, gZ, dLst, dTup, dPar, dSl, dNone, dPart, oSl, dCall, dIf, dDrop, fnN, List.getElem?_cons_zero, List.getElem?_cons_succ, List.set_cons_zero, List.set_cons_succ, true_and, if_true, if_false, Bool.false_eq_true, List.length_cons, List.length_nil, Option.some.injEq, Int.reduceEq, ↓reduceIte, Nat.reduceAdd, Nat.reduceLeDiff, and_true, Nat.zero_le]
    refine ⟨cpow_of w0 (by omega) (by decide) (by decide), i1, cdw 7 (by decide) (by decide), h0, fin _⟩
  unfold drawA_5
  rw [dSeq]
  simp only [dIte, dTB, dBin, dPen, isPen, dC, dVar, dNil, dCons, dSet, dAsg, dRet, dNext, dAnd, dOr, dNot, dAndV, dOrV, dNotV, dBu, oLen, oInt, oAbs, oI, oAdd, oIx, dIx, gPen, gN, gC, gT, gZ, dLst, dTup, dPar, dSl, dNone, dPart, oSl, dCall, dIf, dDrop, fnN, List.getElem?_cons_zero, List.getElem?_cons_succ, List.set_cons_zero, List.set_cons_succ, true_and, if_true, if_false, Bool.false_eq_true, List.length_cons, List.length_nil, Option.some.injEq, Int.reduceEq, ↓reduceIte, Nat.reduceAdd, Nat.reduceLeDiff, and_true, Nat.zero_le]
  intro hcs
  generalize (if i < 0 then -i else i) = ab
  have pc : CPow 10 18 := cpow_of (by decide) (by decide) (by decide) (by decide)
  split
  · refine ⟨pc, ?_⟩
    split
    · simp only [dSeq, dIte, dTB, dBin, dPen, isPen, dC, dVar, dNil, dCons, dSet, dAsg, dRet, dNext, dAnd, dOr, dNot, dAndV, dOrV, dNotV, dBu, oLen, oInt, oAbs, oI, oAdd, oIx, dIx, gPen, gN, gC, gT, gZ, dLst, dTup, dPar, dSl, dNone, dPart, oSl, dCall, dIf, dDrop, fnN, List.getElem?_cons_zero, List.getElem?_cons_succ, List.set_cons_zero, List.set_cons_succ, true_and, if_true, if_false, Bool.false_eq_true, List.length_cons, List.length_nil, Option.some.injEq, Int.reduceEq, ↓reduceIte, Nat.reduceAdd, Nat.reduceLeDiff, and_true, Nat.zero_le]
      generalize (if i < 0 then -i else i) = ab
      refine ⟨pc, me_l (by decide), ?_⟩
      exact ⟨cdw 200 h0 hmm, fu, Nat.le_refl _, h0, fin _⟩
    · exact last
  · exact last
theorem drawA_ok {c : Wd} {k1 k2 k3 k4 k5 p1 p2 p3 : Int} (hk : (0 ≤ k1 ∧ k1 < 1048576) ∧ (0 ≤ k2 ∧ k2 < 1048576) ∧ (0 ≤ k3 ∧ k3 < 1048576) ∧ (0 ≤ k4 ∧ k4 < 1048576) ∧ (0 ≤ k5 ∧ k5 < 1048576) ∧ (0 < p1 ∧ p1 < 4294967296) ∧ (0 < p2 ∧ p2 < 4294967296) ∧ (0 < p3 ∧ p3 < 4294967296))
    {z : Z} {m : Int} {P : D → Z → Prop} {R : Er → Z → Prop} (h0 : 0 < m) (h1 : m < 2 ^ 200) (hn : 0 < z.fu) (hp : ∀ (v : Int), 0 ≤ v → v < m → P (.int v) { z with fu := z.fu - 1 }) :
    drawA_0 c k1 k2 k3 k4 k5 p1 p2 p3 (fnN P R) ⟨[.d .pen, .d (.int m), .un, .un, .un, .un, .un], z⟩ := by
  obtain ⟨fu, ms⟩ := z
  replace hn : 0 < fu := hn
  have hmm : m.natAbs < 2 ^ 200 := by omega
  unfold drawA_0
  rw [dSeq]
  simp only [dIte, dTB, dBin, dPen, isPen, dC, dVar, dNil, dCons, dSet, dAsg, dRet, dNext, dAnd, dOr, dNot, dAndV, dOrV, dNotV, dBu, oLen, oInt, oAbs, oI, oAdd, oIx, dIx, gPen, gN, gC, gT, gZ, dLst, dTup, dPar, dSl, dNone, dPart, oSl, dCall, dIf, dDrop, fnN, List.getElem?_cons_zero, List.getElem?_cons_succ, List.set_cons_zero, List.set_cons_succ, true_and, if_true, if_false, Bool.false_eq_true, List.length_cons, List.length_nil, Option.some.injEq, Int.reduceEq, ↓reduceIte, Nat.reduceAdd, Nat.reduceLeDiff, and_true, Nat.zero_le]
  intro z
  by_cases hz : 0 < z
  · simp only [hz, decide_true, if_true, dSeq, dIte, dTB, dBin, dPen, isPen, dC, dVar, dNil, dCons, dSet, dAsg, dRet, dNext, dAnd, dOr, dNot, dAndV, dOrV, dNotV, dBu, oLen, oInt, oAbs, oI, oAdd, oIx, dIx, gPen, gN, gC, gT, gZ, dLst, dTup, dPar, dSl, dNone, dPart, oSl, dCall, dIf, dDrop, fnN, List.getElem?_cons_zero, List.getElem?_cons_succ, List.set_cons_zero, List.set_cons_succ, true_and, if_true, if_false, Bool.false_eq_true, List.length_cons, List.length_nil, Option.some.injEq, Int.reduceEq, ↓reduceIte, Nat.reduceAdd, Nat.reduceLeDiff, and_true, Nat.zero_le]
    intro z1
    exact ⟨h0, fun z2 => ⟨cdw 200 h0 hmm, fu - 1, by omega, hp _ (emb _ h0).1 (emb _ h0).2⟩⟩
  · simp only [hz, decide_false, if_false, Bool.false_eq_true]
    unfold drawA_1
    rw [dSeq]
    simp only [dIte, dTB, dBin, dPen, isPen, dC, dVar, dNil, dCons, dSet, dAsg, dRet, dNext, dAnd, dOr, dNot, dAndV, dOrV, dNotV, dBu, oLen, oInt, oAbs, oI, oAdd, oIx, dIx, gPen, gN, gC, gT, gZ, dLst, dTup, dPar, dSl, dNone, dPart, oSl, dCall, dIf, dDrop, fnN, List.getElem?_cons_zero, List.getElem?_cons_succ, List.set_cons_zero, List.set_cons_succ, true_and, if_true, if_false, Bool.false_eq_true, List.length_cons, List.length_nil, Option.some.injEq, Int.reduceEq, ↓reduceIte, Nat.reduceAdd, Nat.reduceLeDiff, and_true, Nat.zero_le]
    intro b hb
    unfold drawA_2
    rw [dSeq]
    simp only [dIte, dTB, dBin, dPen, isPen, dC, dVar, dNil, dCons, dSet, dAsg, dRet, dNext, dAnd, dOr, dNot, dAndV, dOrV, dNotV, dBu, oLen, oInt, oAbs, oI, oAdd, oIx, dIx, gPen, gN, gC, gT, gZ, dLst, dTup, dPar, dSl, dNone, dPart, oSl, dCall, dIf, dDrop, fnN, List.getElem?_cons_zero, List.getElem?_cons_succ, List.set_cons_zero, List.set_cons_succ, true_and, if_true, if_false, Bool.false_eq_true, List.length_cons, List.length_nil, Option.some.injEq, Int.reduceEq, ↓reduceIte, Nat.reduceAdd, Nat.reduceLeDiff, and_true, Nat.zero_le]
    refine ⟨b + 1, fu - 1, by simp, by omega, ?_⟩
    have hb2 : b ≤ 1000000 := by omega
    unfold drawA_3
    rw [dSeq]
    simp only [dIte, dTB, dBin, dPen, isPen, dC, dVar, dNil, dCons, dSet, dAsg, dRet, dNext, dAnd, dOr, dNot, dAndV, dOrV, dNotV, dBu, oLen, oInt, oAbs, oI, oAdd, oIx, dIx, gPen, gN, gC, gT, gZ, dLst, dTup, dPar, dSl, dNone, dPart, oSl, dCall, dIf, dDrop, fnN, List.getElem?_cons_zero, List.getElem?_cons_succ, List.set_cons_zero, List.set_cons_succ, true_and, if_true, if_false, Bool.false_eq_true, List.length_cons, List.length_nil, Option.some.injEq, Int.reduceEq, ↓reduceIte, Nat.reduceAdd, Nat.reduceLeDiff, and_true, Nat.zero_le]
    refine ⟨me_r (by omega), ?_⟩
    unfold drawA_4
    rw [dSeq]
    simp only [dIte, dTB, dBin, dPen, isPen, dC, dVar, dNil, dCons, dSet, dAsg, dRet, dNext, dAnd, dOr, dNot, dAndV, dOrV, dNotV, dBu, oLen, oInt, oAbs, oI, oAdd, oIx, dIx, gPen, gN, gC, gT, gZ, dLst, dTup, dPar, dSl, dNone, dPart, oSl, dCall, dIf, dDrop, fnN, List.getElem?_cons_zero, List.getElem?_cons_succ, List.set_cons_zero, List.set_cons_succ, true_and, if_true, if_false, Bool.false_eq_true, List.length_cons, List.length_nil, Option.some.injEq, Int.reduceEq, ↓reduceIte, Nat.reduceAdd, Nat.reduceLeDiff, and_true, Nat.zero_le]
    intro hcs
    unfold oNe
    simp only [eqD_ints_nil]
    refine ⟨⟨noDic_ints _, noDic_nil⟩, ?_⟩
    by_cases hc : c.cs = []
    · rw [hc]
      simp only [List.isEmpty_nil, Bool.not_true, Bool.false_eq_true, if_false]
      exact drawA_tail hk h0 h1 hb2 hp (k1 * b + k2)
    · have hi : c.cs.isEmpty = false := by cases q : c.cs with | nil => exact absurd q hc | cons _ _ => rfl
      rw [hi]
      simp only [Bool.not_false, if_true]
      intro _ _
      obtain ⟨i, e⟩ := atI_cell hc b
      exact ⟨len_pos hc, .int i, e, drawA_tail hk h0 h1 hb2 hp i⟩
theorem sDraw_len : ∀ ds n P R, sDraw ds n P R → ds.length = 2 := by
  rintro ds n P R ⟨m, rfl, _⟩; rfl
end DL

/-! EMC: plain lemmas: what readings say of data by sight. -/
namespace DL
open PySem L2 PySem.Spec PyProof.Rows
/-- at most n draws between -/
def Zd (n : Nat) (z z' : Z) : Prop := z'.ms = z.ms ∧ z.fu ≤ z'.fu + n
theorem Zd.refl (z : Z) : Zd 0 z z := ⟨rfl, Nat.le_refl _⟩
theorem Zd.trans {n m : Nat} {z z1 z2 : Z} (a : Zd n z z1) (b : Zd m z1 z2) : Zd (n + m) z z2 := ⟨b.1.trans a.1, by have := a.2; have := b.2; omega⟩
theorem Zd.le {n m : Nat} {z z' : Z} (a : Zd n z z') (h : n ≤ m) : Zd m z z' := ⟨a.1, by have := a.2; omega⟩
theorem sDraw_ok {m : Int} {z : Z} {P : D → Z → Prop} {R : Er → Z → Prop} (h0 : 0 < m) (h1 : m < 2 ^ 200) (hz : 0 < z.fu) (h : ∀ v z', 0 ≤ v → v < m → Zd 1 z z' → P (.int v) z') : sDraw [.pen, .int m] z P R :=
  ⟨m, rfl, h0, h1, hz, fun v a b => h v _ a b ⟨rfl, by show z.fu ≤ z.fu - 1 + 1; omega⟩⟩
theorem atI_in {xs : List D} {v : Int} (h0 : 0 ≤ v) (h1 : v < (xs.length : Int)) : ∃ d, atI xs v = some d ∧ d ∈ xs := by
  have hl : v.toNat < xs.length := by omega
  refine ⟨xs[v.toNat], ?_, List.getElem_mem hl⟩
  have : ¬ v < 0 := by omega
  simp only [atI, ixN]
  first
    | (rw [if_neg this]; simp [hl, this]; done)
    | (simp [hl, this, h0, h1]; done)
    | (simp [hl, this, h0, h1]; omega)
section
variable {i j : Int} {a b : Bool} {s t : Str} {P : D → Prop} {PZ : D → Z → Prop} {E : Er → Z → Prop} {z : Z} {w : Wd} {tbl : List (Addr × DSp2)} {x y : D} {C : Addr} {fs : List (Str × D)} {xs ys : List D}
theorem oEq_ii : oEq (.int i) (.int j) P ↔ P (.bl (decide (i = j))) := by
  have e : eqD (.int i) (.int j) = decide (i = j) := by rw [eqD]; exact Bool.eq_iff_iff.mpr (by simp)
  unfold oEq; rw [e]; exact ⟨fun h => h.2, fun h => ⟨⟨rfl, rfl⟩, h⟩⟩
theorem oEq_bb : oEq (.bl a) (.bl b) P ↔ P (.bl (a == b)) := by
  have e : eqD (.bl a) (.bl b) = (a == b) := by rw [eqD]
  unfold oEq; rw [e]; exact ⟨fun h => h.2, fun h => ⟨⟨rfl, rfl⟩, h⟩⟩
theorem oEq_ss : oEq (.str s) (.str t) P ↔ P (.bl (s == t)) := by
  have e : eqD (.str s) (.str t) = (s == t) := by rw [eqD]
  unfold oEq; rw [e]; exact ⟨fun h => h.2, fun h => ⟨⟨rfl, rfl⟩, h⟩⟩
theorem oNe_ii : oNe (.int i) (.int j) P ↔ P (.bl (!decide (i = j))) := by
  have e : eqD (.int i) (.int j) = decide (i = j) := by rw [eqD]; exact Bool.eq_iff_iff.mpr (by simp)
  unfold oNe; rw [e]; exact ⟨fun h => h.2, fun h => ⟨⟨rfl, rfl⟩, h⟩⟩
theorem oNe_ss : oNe (.str s) (.str t) P ↔ P (.bl (!(s == t))) := by
  have e : eqD (.str s) (.str t) = (s == t) := by rw [eqD]
  unfold oNe; rw [e]; exact ⟨fun h => h.2, fun h => ⟨trivial, h⟩⟩
theorem oEqA_ii : oEqA w tbl (.int i) (.int j) z PZ E ↔ PZ (.bl (decide (i = j))) z := oEq_ii (P := fun d => PZ d z)
theorem oEqA_bb : oEqA w tbl (.bl a) (.bl b) z PZ E ↔ PZ (.bl (a == b)) z := oEq_bb (P := fun d => PZ d z)
theorem oEqA_ss : oEqA w tbl (.str s) (.str t) z PZ E ↔ PZ (.bl (s == t)) z := oEq_ss (P := fun d => PZ d z)
theorem oEqA_in : oEqA w tbl (.ins C fs) y z PZ E ↔ notF w C y ∧ dpt tbl C fun s => s [.ins C fs, y] [] z PZ E := Iff.rfl
theorem oEqA_ri : oEqA w tbl (.int i) (.ins C fs) z PZ E ↔ dpt tbl C fun s => s [.ins C fs, .int i] [] z PZ E := ⟨fun h => h.2, fun h => ⟨rfl, h⟩⟩
theorem oEqA_ll : oEqA w tbl (.lst xs) (.lst ys) z PZ E ↔ (plain (.lst xs) 40 = true ∧ plain (.lst ys) 40 = true) ∧ PZ (.bl (eqD (.lst xs) (.lst ys))) z := Iff.rfl
theorem oNeA_ii : oNeA w tbl (.int i) (.int j) z PZ E ↔ PZ (.bl (!decide (i = j))) z := oNe_ii (P := fun d => PZ d z)
theorem oNeA_ss : oNeA w tbl (.str s) (.str t) z PZ E ↔ PZ (.bl (!(s == t))) z := oNe_ss (P := fun d => PZ d z)
theorem oNeA_in : oNeA w tbl (.ins C fs) y z PZ E ↔ notF w C y ∧ dpt tbl C fun s => s [.ins C fs, y] [] z (fun d z' => ∃ b, d = .bl b ∧ PZ (.bl (!b)) z') E := Iff.rfl
theorem dpt_one {α : Type} {C : Addr} {s : α} {r : List (Addr × α)} {k : α → Prop} : dpt ((C, s) :: r) C k ↔ k s := by unfold dpt; rw [if_pos rfl]
end
end DL

/-! EMD: < <= > >= of a plain value and an instance, by the instance's own def. -/
namespace PySem.SeqAt
open MeetsSeq
theorem none_lt_own (x C dx : Addr) : Meets (Builtin.«NoneType.__lt__» ⟨[.none, .ref x], []⟩) (fun _ R s => s.heap.get? x = some (PySem.W.instObj C dx) ∧ R (.ok (.ret .notImplemented)) s) :=
  .of_wp fun prog w A R s h => by obtain ⟨hp, g, d, tk, os⟩ := s; obtain ⟨hl, h⟩ := h; wp_walk using AutoSeq1.wpAny_loadPart' hl, wpAny_load hl; exact ⟨_, rfl, h⟩
theorem int_lt_own (x C dx : Addr) (b : Int) (u : Tok) : Meets (Builtin.«int.__lt__» ⟨[.int b u, .ref x], []⟩) (fun _ R s => s.heap.get? x = some (PySem.W.instObj C dx) ∧ R (.ok (.ret .notImplemented)) s) :=
  .of_wp fun prog w A R s h => by obtain ⟨hp, g, d, tk, os⟩ := s; obtain ⟨hl, h⟩ := h; wp_walk using AutoSeq1.wpAny_loadPart' hl, wpAny_load hl; exact ⟨_, rfl, h⟩
theorem bool_lt_own (x C dx : Addr) (b : Bool) : Meets (Builtin.«int.__lt__» ⟨[.bool b, .ref x], []⟩) (fun _ R s => s.heap.get? x = some (PySem.W.instObj C dx) ∧ R (.ok (.ret .notImplemented)) s) :=
  .of_wp fun prog w A R s h => by obtain ⟨hp, g, d, tk, os⟩ := s; obtain ⟨hl, h⟩ := h; wp_walk using AutoSeq1.wpAny_loadPart' hl, wpAny_load hl; exact ⟨_, rfl, h⟩
theorem str_lt_own (x C dx : Addr) (b : Str) (u : Tok) : Meets (Builtin.«str.__lt__» ⟨[.str b u, .ref x], []⟩) (fun _ R s => s.heap.get? x = some (PySem.W.instObj C dx) ∧ R (.ok (.ret .notImplemented)) s) :=
  .of_wp fun prog w A R s h => by obtain ⟨hp, g, d, tk, os⟩ := s; obtain ⟨hl, h⟩ := h; wp_walk using AutoSeq1.wpAny_loadPart' hl, wpAny_load hl; exact ⟨_, rfl, h⟩
theorem list_lt_own {K : PySem.W.Frag} {P : Program} {w : World} (x C dx l : Addr) (hs : PySem.W.mroIn K C (.type "list") = some false) :
    MeetsIn P w (Builtin.«list.__lt__» ⟨[.ref l, .ref x], []⟩) (fun _ R s => K.In s.heap ∧ s.heap.get? x = some (PySem.W.instObj C dx) ∧ R (.ok (.ret .notImplemented)) s) := by
  intro A R s h
  obtain ⟨X, hl, h⟩ := h
  have hx := PySem.W.looks_mroIn (M := model P w) X hs
  obtain ⟨hp, g, d, tk, os⟩ := s
  wp_walk using AutoSeq1.wpAny_loadPart' hl, wpAny_load hl
  refine hx.here ?_
  wp_walk
  exact h
theorem tuple_lt_own {K : PySem.W.Frag} {P : Program} {w : World} (x C dx l : Addr) (hs : PySem.W.mroIn K C (.type "tuple") = some false) :
    MeetsIn P w (Builtin.«tuple.__lt__» ⟨[.ref l, .ref x], []⟩) (fun _ R s => K.In s.heap ∧ s.heap.get? x = some (PySem.W.instObj C dx) ∧ R (.ok (.ret .notImplemented)) s) := by
  intro A R s h
  obtain ⟨X, hl, h⟩ := h
  have hx := PySem.W.looks_mroIn (M := model P w) X hs
  obtain ⟨hp, g, d, tk, os⟩ := s
  wp_walk using AutoSeq1.wpAny_loadPart' hl, wpAny_load hl
  refine hx.here ?_
  wp_walk
  exact h
theorem dict_lt_own (x C dx a : Addr) (es : Array DictEntry) (ep : Nat) (dd : Option Addr) (sl : Array (Option Value)) :
    Meets (Builtin.«dict.__lt__» ⟨[.ref a, .ref x], []⟩) (fun _ R s => s.heap.get? x = some (PySem.W.instObj C dx) ∧ s.heap.get? a = some { cls := .type "dict", dict := dd, data := .dict es ep, slots := sl } ∧ R (.ok (.ret .notImplemented)) s) :=
  .of_wp fun prog w A R s h => by obtain ⟨hp, g, d, tk, os⟩ := s; obtain ⟨hl, ha, h⟩ := h; wp_walk using AutoSeq1.wpAny_loadPart' hl, wpAny_load hl, AutoSeq1.wpAny_loadPart' ha, wpAny_load ha; exact ⟨_, rfl, h⟩
theorem none_le_own (x C dx : Addr) : Meets (Builtin.«NoneType.__le__» ⟨[.none, .ref x], []⟩) (fun _ R s => s.heap.get? x = some (PySem.W.instObj C dx) ∧ R (.ok (.ret .notImplemented)) s) :=
  .of_wp fun prog w A R s h => by obtain ⟨hp, g, d, tk, os⟩ := s; obtain ⟨hl, h⟩ := h; wp_walk using AutoSeq1.wpAny_loadPart' hl, wpAny_load hl; exact ⟨_, rfl, h⟩
theorem int_le_own (x C dx : Addr) (b : Int) (u : Tok) : Meets (Builtin.«int.__le__» ⟨[.int b u, .ref x], []⟩) (fun _ R s => s.heap.get? x = some (PySem.W.instObj C dx) ∧ R (.ok (.ret .notImplemented)) s) :=
  .of_wp fun prog w A R s h => by obtain ⟨hp, g, d, tk, os⟩ := s; obtain ⟨hl, h⟩ := h; wp_walk using AutoSeq1.wpAny_loadPart' hl, wpAny_load hl; exact ⟨_, rfl, h⟩
theorem bool_le_own (x C dx : Addr) (b : Bool) : Meets (Builtin.«int.__le__» ⟨[.bool b, .ref x], []⟩) (fun _ R s => s.heap.get? x = some (PySem.W.instObj C dx) ∧ R (.ok (.ret .notImplemented)) s) :=
  .of_wp fun prog w A R s h => by obtain ⟨hp, g, d, tk, os⟩ := s; obtain ⟨hl, h⟩ := h; wp_walk using AutoSeq1.wpAny_loadPart' hl, wpAny_load hl; exact ⟨_, rfl, h⟩
theorem str_le_own (x C dx : Addr) (b : Str) (u : Tok) : Meets (Builtin.«str.__le__» ⟨[.str b u, .ref x], []⟩) (fun _ R s => s.heap.get? x = some (PySem.W.instObj C dx) ∧ R (.ok (.ret .notImplemented)) s) :=
  .of_wp fun prog w A R s h => by obtain ⟨hp, g, d, tk, os⟩ := s; obtain ⟨hl, h⟩ := h; wp_walk using AutoSeq1.wpAny_loadPart' hl, wpAny_load hl; exact ⟨_, rfl, h⟩
theorem list_le_own {K : PySem.W.Frag} {P : Program} {w : World} (x C dx l : Addr) (hs : PySem.W.mroIn K C (.type "list") = some false) :
    MeetsIn P w (Builtin.«list.__le__» ⟨[.ref l, .ref x], []⟩) (fun _ R s => K.In s.heap ∧ s.heap.get? x = some (PySem.W.instObj C dx) ∧ R (.ok (.ret .notImplemented)) s) := by
  intro A R s h
  obtain ⟨X, hl, h⟩ := h
  have hx := PySem.W.looks_mroIn (M := model P w) X hs
  obtain ⟨hp, g, d, tk, os⟩ := s
  wp_walk using AutoSeq1.wpAny_loadPart' hl, wpAny_load hl
  refine hx.here ?_
  wp_walk
  exact h
theorem tuple_le_own {K : PySem.W.Frag} {P : Program} {w : World} (x C dx l : Addr) (hs : PySem.W.mroIn K C (.type "tuple") = some false) :
    MeetsIn P w (Builtin.«tuple.__le__» ⟨[.ref l, .ref x], []⟩) (fun _ R s => K.In s.heap ∧ s.heap.get? x = some (PySem.W.instObj C dx) ∧ R (.ok (.ret .notImplemented)) s) := by
  intro A R s h
  obtain ⟨X, hl, h⟩ := h
  have hx := PySem.W.looks_mroIn (M := model P w) X hs
  obtain ⟨hp, g, d, tk, os⟩ := s
  wp_walk using AutoSeq1.wpAny_loadPart' hl, wpAny_load hl
  refine hx.here ?_
  wp_walk
  exact h
theorem dict_le_own (x C dx a : Addr) (es : Array DictEntry) (ep : Nat) (dd : Option Addr) (sl : Array (Option Value)) :
    Meets (Builtin.«dict.__le__» ⟨[.ref a, .ref x], []⟩) (fun _ R s => s.heap.get? x = some (PySem.W.instObj C dx) ∧ s.heap.get? a = some { cls := .type "dict", dict := dd, data := .dict es ep, slots := sl } ∧ R (.ok (.ret .notImplemented)) s) :=
  .of_wp fun prog w A R s h => by obtain ⟨hp, g, d, tk, os⟩ := s; obtain ⟨hl, ha, h⟩ := h; wp_walk using AutoSeq1.wpAny_loadPart' hl, wpAny_load hl, AutoSeq1.wpAny_loadPart' ha, wpAny_load ha; exact ⟨_, rfl, h⟩
theorem none_gt_own (x C dx : Addr) : Meets (Builtin.«NoneType.__gt__» ⟨[.none, .ref x], []⟩) (fun _ R s => s.heap.get? x = some (PySem.W.instObj C dx) ∧ R (.ok (.ret .notImplemented)) s) :=
  .of_wp fun prog w A R s h => by obtain ⟨hp, g, d, tk, os⟩ := s; obtain ⟨hl, h⟩ := h; wp_walk using AutoSeq1.wpAny_loadPart' hl, wpAny_load hl; exact ⟨_, rfl, h⟩
theorem int_gt_own (x C dx : Addr) (b : Int) (u : Tok) : Meets (Builtin.«int.__gt__» ⟨[.int b u, .ref x], []⟩) (fun _ R s => s.heap.get? x = some (PySem.W.instObj C dx) ∧ R (.ok (.ret .notImplemented)) s) :=
  .of_wp fun prog w A R s h => by obtain ⟨hp, g, d, tk, os⟩ := s; obtain ⟨hl, h⟩ := h; wp_walk using AutoSeq1.wpAny_loadPart' hl, wpAny_load hl; exact ⟨_, rfl, h⟩
theorem bool_gt_own (x C dx : Addr) (b : Bool) : Meets (Builtin.«int.__gt__» ⟨[.bool b, .ref x], []⟩) (fun _ R s => s.heap.get? x = some (PySem.W.instObj C dx) ∧ R (.ok (.ret .notImplemented)) s) :=
  .of_wp fun prog w A R s h => by obtain ⟨hp, g, d, tk, os⟩ := s; obtain ⟨hl, h⟩ := h; wp_walk using AutoSeq1.wpAny_loadPart' hl, wpAny_load hl; exact ⟨_, rfl, h⟩
theorem str_gt_own (x C dx : Addr) (b : Str) (u : Tok) : Meets (Builtin.«str.__gt__» ⟨[.str b u, .ref x], []⟩) (fun _ R s => s.heap.get? x = some (PySem.W.instObj C dx) ∧ R (.ok (.ret .notImplemented)) s) :=
  .of_wp fun prog w A R s h => by obtain ⟨hp, g, d, tk, os⟩ := s; obtain ⟨hl, h⟩ := h; wp_walk using AutoSeq1.wpAny_loadPart' hl, wpAny_load hl; exact ⟨_, rfl, h⟩
theorem list_gt_own {K : PySem.W.Frag} {P : Program} {w : World} (x C dx l : Addr) (hs : PySem.W.mroIn K C (.type "list") = some false) :
    MeetsIn P w (Builtin.«list.__gt__» ⟨[.ref l, .ref x], []⟩) (fun _ R s => K.In s.heap ∧ s.heap.get? x = some (PySem.W.instObj C dx) ∧ R (.ok (.ret .notImplemented)) s) := by
  intro A R s h
  obtain ⟨X, hl, h⟩ := h
  have hx := PySem.W.looks_mroIn (M := model P w) X hs
  obtain ⟨hp, g, d, tk, os⟩ := s
  wp_walk using AutoSeq1.wpAny_loadPart' hl, wpAny_load hl
  refine hx.here ?_
  wp_walk
  exact h
theorem tuple_gt_own {K : PySem.W.Frag} {P : Program} {w : World} (x C dx l : Addr) (hs : PySem.W.mroIn K C (.type "tuple") = some false) :
    MeetsIn P w (Builtin.«tuple.__gt__» ⟨[.ref l, .ref x], []⟩) (fun _ R s => K.In s.heap ∧ s.heap.get? x = some (PySem.W.instObj C dx) ∧ R (.ok (.ret .notImplemented)) s) := by
  intro A R s h
  obtain ⟨X, hl, h⟩ := h
  have hx := PySem.W.looks_mroIn (M := model P w) X hs
  obtain ⟨hp, g, d, tk, os⟩ := s
  wp_walk using AutoSeq1.wpAny_loadPart' hl, wpAny_load hl
  refine hx.here ?_
  wp_walk
  exact h
theorem dict_gt_own (x C dx a : Addr) (es : Array DictEntry) (ep : Nat) (dd : Option Addr) (sl : Array (Option Value)) :
    Meets (Builtin.«dict.__gt__» ⟨[.ref a, .ref x], []⟩) (fun _ R s => s.heap.get? x = some (PySem.W.instObj C dx) ∧ s.heap.get? a = some { cls := .type "dict", dict := dd, data := .dict es ep, slots := sl } ∧ R (.ok (.ret .notImplemented)) s) :=
  .of_wp fun prog w A R s h => by obtain ⟨hp, g, d, tk, os⟩ := s; obtain ⟨hl, ha, h⟩ := h; wp_walk using AutoSeq1.wpAny_loadPart' hl, wpAny_load hl, AutoSeq1.wpAny_loadPart' ha, wpAny_load ha; exact ⟨_, rfl, h⟩
theorem none_ge_own (x C dx : Addr) : Meets (Builtin.«NoneType.__ge__» ⟨[.none, .ref x], []⟩) (fun _ R s => s.heap.get? x = some (PySem.W.instObj C dx) ∧ R (.ok (.ret .notImplemented)) s) :=
  .of_wp fun prog w A R s h => by obtain ⟨hp, g, d, tk, os⟩ := s; obtain ⟨hl, h⟩ := h; wp_walk using AutoSeq1.wpAny_loadPart' hl, wpAny_load hl; exact ⟨_, rfl, h⟩
theorem int_ge_own (x C dx : Addr) (b : Int) (u : Tok) : Meets (Builtin.«int.__ge__» ⟨[.int b u, .ref x], []⟩) (fun _ R s => s.heap.get? x = some (PySem.W.instObj C dx) ∧ R (.ok (.ret .notImplemented)) s) :=
  .of_wp fun prog w A R s h => by obtain ⟨hp, g, d, tk, os⟩ := s; obtain ⟨hl, h⟩ := h; wp_walk using AutoSeq1.wpAny_loadPart' hl, wpAny_load hl; exact ⟨_, rfl, h⟩
theorem bool_ge_own (x C dx : Addr) (b : Bool) : Meets (Builtin.«int.__ge__» ⟨[.bool b, .ref x], []⟩) (fun _ R s => s.heap.get? x = some (PySem.W.instObj C dx) ∧ R (.ok (.ret .notImplemented)) s) :=
  .of_wp fun prog w A R s h => by obtain ⟨hp, g, d, tk, os⟩ := s; obtain ⟨hl, h⟩ := h; wp_walk using AutoSeq1.wpAny_loadPart' hl, wpAny_load hl; exact ⟨_, rfl, h⟩
theorem str_ge_own (x C dx : Addr) (b : Str) (u : Tok) : Meets (Builtin.«str.__ge__» ⟨[.str b u, .ref x], []⟩) (fun _ R s => s.heap.get? x = some (PySem.W.instObj C dx) ∧ R (.ok (.ret .notImplemented)) s) :=
  .of_wp fun prog w A R s h => by obtain ⟨hp, g, d, tk, os⟩ := s; obtain ⟨hl, h⟩ := h; wp_walk using AutoSeq1.wpAny_loadPart' hl, wpAny_load hl; exact ⟨_, rfl, h⟩
theorem list_ge_own {K : PySem.W.Frag} {P : Program} {w : World} (x C dx l : Addr) (hs : PySem.W.mroIn K C (.type "list") = some false) :
    MeetsIn P w (Builtin.«list.__ge__» ⟨[.ref l, .ref x], []⟩) (fun _ R s => K.In s.heap ∧ s.heap.get? x = some (PySem.W.instObj C dx) ∧ R (.ok (.ret .notImplemented)) s) := by
  intro A R s h
  obtain ⟨X, hl, h⟩ := h
  have hx := PySem.W.looks_mroIn (M := model P w) X hs
  obtain ⟨hp, g, d, tk, os⟩ := s
  wp_walk using AutoSeq1.wpAny_loadPart' hl, wpAny_load hl
  refine hx.here ?_
  wp_walk
  exact h
theorem tuple_ge_own {K : PySem.W.Frag} {P : Program} {w : World} (x C dx l : Addr) (hs : PySem.W.mroIn K C (.type "tuple") = some false) :
    MeetsIn P w (Builtin.«tuple.__ge__» ⟨[.ref l, .ref x], []⟩) (fun _ R s => K.In s.heap ∧ s.heap.get? x = some (PySem.W.instObj C dx) ∧ R (.ok (.ret .notImplemented)) s) := by
  intro A R s h
  obtain ⟨X, hl, h⟩ := h
  have hx := PySem.W.looks_mroIn (M := model P w) X hs
  obtain ⟨hp, g, d, tk, os⟩ := s
  wp_walk using AutoSeq1.wpAny_loadPart' hl, wpAny_load hl
  refine hx.here ?_
  wp_walk
  exact h
theorem dict_ge_own (x C dx a : Addr) (es : Array DictEntry) (ep : Nat) (dd : Option Addr) (sl : Array (Option Value)) :
    Meets (Builtin.«dict.__ge__» ⟨[.ref a, .ref x], []⟩) (fun _ R s => s.heap.get? x = some (PySem.W.instObj C dx) ∧ s.heap.get? a = some { cls := .type "dict", dict := dd, data := .dict es ep, slots := sl } ∧ R (.ok (.ret .notImplemented)) s) :=
  .of_wp fun prog w A R s h => by obtain ⟨hp, g, d, tk, os⟩ := s; obtain ⟨hl, ha, h⟩ := h; wp_walk using AutoSeq1.wpAny_loadPart' hl, wpAny_load hl, AutoSeq1.wpAny_loadPart' ha, wpAny_load ha; exact ⟨_, rfl, h⟩
end PySem.SeqAt

/-! EME: x < y, y an instance, x plain; orders by tables. -/
namespace DL
open PySem L2 PySem.Spec PyProof.Rows PySem.SeqAt
theorem rc_rightO {M : Model} {A : Around} {E : Value → Shared → Prop} {st : Shared} {K : PySem.W.Frag} {x C : Addr} {ox : Obj} {od : Option Obj} {a : Value} {T : String} {op : CmpOp} {Q : Value → Shared → Prop} (hu : A.units < cLine) (X : K.In st.heap) (I : PySem.W.InstAt st.heap x ox C od)
    (ha : PySem.W.Looks M st.heap (typeOf a) (.type T)) (hn : PySem.W.mroIn K C (.type T) = some false) (h1 : oneThing? op a (.ref x) = none)
    (one : wpAny M A (tryCompare a (cmpInfo op).2.1 (.ref x)) (fun r s' => r = none ∧ s' = st) E st) (two : wpAny M A (tryCompare (.ref x) (cmpInfo op).2.2 a) (fun r s' => ∃ v, r = some v ∧ Q v s') E st) : wpAny M A (richCompare op a (.ref x)) Q E st := by
  rcases hc : cmpInfo op with ⟨sym, f, r⟩
  rw [hc] at one two
  dsimp only at one two
  simp only [richCompare, hc, h1]
  refine wpAny_holding (wpAny_bind (wpAny_cRoomFor hu ?_))
  refine wpAny_bind (ha.here (wpAny_bind (I.type.here ?_)))
  split
  · refine wpAny_bind ((PySem.W.looks_mroIn X hn).here ?_)
    simp only [Bool.false_eq_true, if_false, Bool.not_false, if_true]
    refine wpAny_bind (m := tryCompare a _ (.ref x)) (wpAny_mono one (fun r s1 z => ?_) fun _ _ e => e)
    obtain ⟨z1, z2⟩ := z
    subst z1
    subst z2
    refine wpAny_bind (m := tryCompare (.ref x) _ a) (wpAny_mono two (fun r s2 z => ?_) fun _ _ e => e)
    obtain ⟨v, rfl, hq⟩ := z
    exact wpAny_pure hq
  · rename_i q
    exact absurd (by simp) q
section
variable {X : Cx} {c : Fr} {W : WX} {N : List Str} {sc : Scope} {k j : Nat} {bb : Bool} {e a b : Expr} {es : List Expr} {pos p p2 : Pos} {r ra rb : DTE} {rs : DTA} {x : Str} {C : Addr} {s : DSp2} {tbl tb2 : List (Addr × DSp2)}

theorem declines_lt (B : XB X c W N sc k bb) (hE : BtC c.toWd C) {A : Around} (hu : A.units < cLine) {pins : List (Addr × Obj)} {st : Shared} {σ : L2.St} {G H : Hp} (I : Inv X pins σ H st) (le : Le G H) {y : V} {v : Value} {dy : D} (py : plain dy 40 = true) (ry : Rep c.K c.p0 G y dy) (rv : RelV y v) {xa dx : Addr} {vs : List (Str × V)} (hx : H xa = some (.ins C dx vs)) :
    v ≠ .ref xa ∧ ∃ T, PySem.W.mroIn c.K C (.type T) = some false ∧ PySem.W.Looks (model X.prog X.w) st.heap (typeOf v) (.type T) ∧ oneThing? .Lt v (.ref xa) = none ∧ ∀ E, wpAny (model X.prog X.w) A (tryCompare v (cmpInfo .Lt).2.1 (.ref xa)) (fun r s' => r = none ∧ s' = st) E st := by
  obtain ⟨od, J⟩ := insAt I hx
  have hob := J.at_
  have one : ∀ {z : Value}, (∀ f t, z ≠ .float f t) → True := fun _ => trivial
  have lk : ∀ {z : Value} {T : String}, st.TypeIs z T → PySem.W.Looks (model X.prog X.w) st.heap (typeOf z) (.type T) := fun {z T} h => by
    intro A Q E s' kk q
    refine wpAny_typeOf ?_ q
    cases z with
    | ref a => obtain ⟨o, h1, h2⟩ := h; exact ⟨o, kk _ _ h1, h2⟩
    | _ => exact h
  cases ry with
  | non =>
    cases (show v = Value.none from rv)
    exact ⟨by simp, "NoneType", hE.bt _ (by simp), lk rfl, rfl, fun E => wpAny_tryCompare_declines (show st.TypeIs .none "NoneType" from rfl) F.slot_NoneType_lt (call_meets F.slot_NoneType_lt rfl F.entry_NoneType_lt (F.args_NoneType_lt_2 _ _) (none_lt_own xa C dx) ⟨hob, rfl, rfl, rfl⟩)⟩
  | bl b =>
    cases (show v = Value.bool b from rv)
    exact ⟨by simp, "bool", hE.bt _ (by simp), lk rfl, rfl, fun E => wpAny_tryCompare_declines (show st.TypeIs (.bool b) "bool" from rfl) F.slot_bool_lt (call_meets F.slot_bool_lt rfl F.entry_int_lt (F.args_int_lt_2 _ _) (bool_lt_own xa C dx b) ⟨hob, rfl, rfl, rfl⟩)⟩
  | int i =>
    obtain ⟨t, rfl⟩ := (show ∃ t, v = Value.int i t from rv)
    exact ⟨by simp, "int", hE.bt _ (by simp), lk (typeIs_int st i t), rfl, fun E => wpAny_tryCompare_declines (typeIs_int st i t) F.slot_int_lt (call_meets F.slot_int_lt (typeIs_int st i t) F.entry_int_lt (F.args_int_lt_2 _ _) (int_lt_own xa C dx i t) ⟨hob, rfl, rfl, rfl⟩)⟩
  | str y =>
    obtain ⟨t, rfl⟩ := (show ∃ t, v = Value.str y t from rv)
    exact ⟨by simp, "str", hE.bt _ (by simp), lk (typeIs_str st y t), rfl, fun E => wpAny_tryCompare_declines (typeIs_str st y t) F.slot_str_lt (call_meets F.slot_str_lt (typeIs_str st y t) F.entry_str_lt (F.args_str_lt_2 _ _) (str_lt_own xa C dx y t) ⟨hob, rfl, rfl, rfl⟩)⟩
  | @lst l ws zs h1 r1 =>
    cases (show v = Value.ref l from rv)
    obtain ⟨us, v1, p1, _⟩ := I.list (le_l le (.inl h1))
    have hT : st.TypeIs (.ref l) "list" := p1.isList.typeIs
    refine ⟨fun z => ?_, "list", hE.bt _ (by simp), lk hT, oneThing_ref .., fun E => wpAny_tryCompare_declines hT F.slot_list_lt (call_meetsIn F.slot_list_lt hT F.entry_list_lt (F.args_list_lt_2 _ _) (list_lt_own (K := c.K) xa C dx l (hE.bt _ (by simp))) ⟨by rw [← B.hK]; exact I.kIn, hob, rfl, rfl, rfl⟩)⟩
    obtain ⟨o, h1, h2⟩ := hT
    cases z
    rw [hob] at h1; cases h1; cases h2
  | @tup l ws zs h1 r1 =>
    cases (show v = Value.ref l from rv)
    obtain ⟨us, v1, p1, _⟩ := I.tuple (le_t le (by rw [B.hK]; exact h1))
    have hT : st.TypeIs (.ref l) "tuple" := p1.typeIs
    refine ⟨fun z => ?_, "tuple", hE.bt _ (by simp), lk hT, oneThing_ref .., fun E => wpAny_tryCompare_declines hT F.slot_tuple_lt (call_meetsIn F.slot_tuple_lt hT F.entry_tuple_lt (F.args_tuple_lt_2 _ _) (tuple_lt_own (K := c.K) xa C dx l (hE.bt _ (by simp))) ⟨by rw [← B.hK]; exact I.kIn, hob, rfl, rfl, rfl⟩)⟩
    obtain ⟨o, h1, h2⟩ := hT
    cases z
    rw [hob] at h1; cases h1; cases h2
  | @dct l ws zs h1 r1 =>
    cases (show v = Value.ref l from rv)
    obtain ⟨es, ep, dd, sl, ho⟩ := (dic_of I le h1).2.2
    have hT : st.TypeIs (.ref l) "dict" := ⟨_, ho, rfl⟩
    refine ⟨fun z => ?_, "dict", hE.bt _ (by simp), lk hT, oneThing_ref .., fun E => wpAny_tryCompare_declines hT F.slot_dict_lt (call_meets F.slot_dict_lt hT F.entry_dict_lt (F.args_dict_lt_2 _ _) (dict_lt_own xa C dx l es ep dd sl) ⟨hob, ho, rfl, rfl, rfl⟩)⟩
    cases z
    rw [hob] at ho; cases ho
  | ref _ => simp [plain] at py
  | ty _ => simp [plain] at py
  | pen => simp [plain] at py
  | ins _ _ => simp [plain] at py
  | obj _ => simp [plain] at py
  | exc0 _ => simp [plain] at py
  | exc _ _ _ => simp [plain] at py



theorem declines_le (B : XB X c W N sc k bb) (hE : BtC c.toWd C) {A : Around} (hu : A.units < cLine) {pins : List (Addr × Obj)} {st : Shared} {σ : L2.St} {G H : Hp} (I : Inv X pins σ H st) (le : Le G H) {y : V} {v : Value} {dy : D} (py : plain dy 40 = true) (ry : Rep c.K c.p0 G y dy) (rv : RelV y v) {xa dx : Addr} {vs : List (Str × V)} (hx : H xa = some (.ins C dx vs)) :
    v ≠ .ref xa ∧ ∃ T, PySem.W.mroIn c.K C (.type T) = some false ∧ PySem.W.Looks (model X.prog X.w) st.heap (typeOf v) (.type T) ∧ oneThing? .LtE v (.ref xa) = none ∧ ∀ E, wpAny (model X.prog X.w) A (tryCompare v (cmpInfo .LtE).2.1 (.ref xa)) (fun r s' => r = none ∧ s' = st) E st := by
  obtain ⟨od, J⟩ := insAt I hx
  have hob := J.at_
  have one : ∀ {z : Value}, (∀ f t, z ≠ .float f t) → True := fun _ => trivial
  have lk : ∀ {z : Value} {T : String}, st.TypeIs z T → PySem.W.Looks (model X.prog X.w) st.heap (typeOf z) (.type T) := fun {z T} h => by
    intro A Q E s' kk q
    refine wpAny_typeOf ?_ q
    cases z with
    | ref a => obtain ⟨o, h1, h2⟩ := h; exact ⟨o, kk _ _ h1, h2⟩
    | _ => exact h
  cases ry with
  | non =>
    cases (show v = Value.none from rv)
    exact ⟨by simp, "NoneType", hE.bt _ (by simp), lk rfl, rfl, fun E => wpAny_tryCompare_declines (show st.TypeIs .none "NoneType" from rfl) F.slot_NoneType_le (call_meets F.slot_NoneType_le rfl F.entry_NoneType_le (F.args_NoneType_le_2 _ _) (none_le_own xa C dx) ⟨hob, rfl, rfl, rfl⟩)⟩
  | bl b =>
    cases (show v = Value.bool b from rv)
    exact ⟨by simp, "bool", hE.bt _ (by simp), lk rfl, rfl, fun E => wpAny_tryCompare_declines (show st.TypeIs (.bool b) "bool" from rfl) F.slot_bool_le (call_meets F.slot_bool_le rfl F.entry_int_le (F.args_int_le_2 _ _) (bool_le_own xa C dx b) ⟨hob, rfl, rfl, rfl⟩)⟩
  | int i =>
    obtain ⟨t, rfl⟩ := (show ∃ t, v = Value.int i t from rv)
    exact ⟨by simp, "int", hE.bt _ (by simp), lk (typeIs_int st i t), rfl, fun E => wpAny_tryCompare_declines (typeIs_int st i t) F.slot_int_le (call_meets F.slot_int_le (typeIs_int st i t) F.entry_int_le (F.args_int_le_2 _ _) (int_le_own xa C dx i t) ⟨hob, rfl, rfl, rfl⟩)⟩
  | str y =>
    obtain ⟨t, rfl⟩ := (show ∃ t, v = Value.str y t from rv)
    exact ⟨by simp, "str", hE.bt _ (by simp), lk (typeIs_str st y t), rfl, fun E => wpAny_tryCompare_declines (typeIs_str st y t) F.slot_str_le (call_meets F.slot_str_le (typeIs_str st y t) F.entry_str_le (F.args_str_le_2 _ _) (str_le_own xa C dx y t) ⟨hob, rfl, rfl, rfl⟩)⟩
  | @lst l ws zs h1 r1 =>
    cases (show v = Value.ref l from rv)
    obtain ⟨us, v1, p1, _⟩ := I.list (le_l le (.inl h1))
    have hT : st.TypeIs (.ref l) "list" := p1.isList.typeIs
    refine ⟨fun z => ?_, "list", hE.bt _ (by simp), lk hT, oneThing_ref .., fun E => wpAny_tryCompare_declines hT F.slot_list_le (call_meetsIn F.slot_list_le hT F.entry_list_le (F.args_list_le_2 _ _) (list_le_own (K := c.K) xa C dx l (hE.bt _ (by simp))) ⟨by rw [← B.hK]; exact I.kIn, hob, rfl, rfl, rfl⟩)⟩
    obtain ⟨o, h1, h2⟩ := hT
    cases z
    rw [hob] at h1; cases h1; cases h2
  | @tup l ws zs h1 r1 =>
    cases (show v = Value.ref l from rv)
    obtain ⟨us, v1, p1, _⟩ := I.tuple (le_t le (by rw [B.hK]; exact h1))
    have hT : st.TypeIs (.ref l) "tuple" := p1.typeIs
    refine ⟨fun z => ?_, "tuple", hE.bt _ (by simp), lk hT, oneThing_ref .., fun E => wpAny_tryCompare_declines hT F.slot_tuple_le (call_meetsIn F.slot_tuple_le hT F.entry_tuple_le (F.args_tuple_le_2 _ _) (tuple_le_own (K := c.K) xa C dx l (hE.bt _ (by simp))) ⟨by rw [← B.hK]; exact I.kIn, hob, rfl, rfl, rfl⟩)⟩
    obtain ⟨o, h1, h2⟩ := hT
    cases z
    rw [hob] at h1; cases h1; cases h2
  | @dct l ws zs h1 r1 =>
    cases (show v = Value.ref l from rv)
    obtain ⟨es, ep, dd, sl, ho⟩ := (dic_of I le h1).2.2
    have hT : st.TypeIs (.ref l) "dict" := ⟨_, ho, rfl⟩
    refine ⟨fun z => ?_, "dict", hE.bt _ (by simp), lk hT, oneThing_ref .., fun E => wpAny_tryCompare_declines hT F.slot_dict_le (call_meets F.slot_dict_le hT F.entry_dict_le (F.args_dict_le_2 _ _) (dict_le_own xa C dx l es ep dd sl) ⟨hob, ho, rfl, rfl, rfl⟩)⟩
    cases z
    rw [hob] at ho; cases ho
  | ref _ => simp [plain] at py
  | ty _ => simp [plain] at py
  | pen => simp [plain] at py
  | ins _ _ => simp [plain] at py
  | obj _ => simp [plain] at py
  | exc0 _ => simp [plain] at py
  | exc _ _ _ => simp [plain] at py



theorem declines_gt (B : XB X c W N sc k bb) (hE : BtC c.toWd C) {A : Around} (hu : A.units < cLine) {pins : List (Addr × Obj)} {st : Shared} {σ : L2.St} {G H : Hp} (I : Inv X pins σ H st) (le : Le G H) {y : V} {v : Value} {dy : D} (py : plain dy 40 = true) (ry : Rep c.K c.p0 G y dy) (rv : RelV y v) {xa dx : Addr} {vs : List (Str × V)} (hx : H xa = some (.ins C dx vs)) :
    v ≠ .ref xa ∧ ∃ T, PySem.W.mroIn c.K C (.type T) = some false ∧ PySem.W.Looks (model X.prog X.w) st.heap (typeOf v) (.type T) ∧ oneThing? .Gt v (.ref xa) = none ∧ ∀ E, wpAny (model X.prog X.w) A (tryCompare v (cmpInfo .Gt).2.1 (.ref xa)) (fun r s' => r = none ∧ s' = st) E st := by
  obtain ⟨od, J⟩ := insAt I hx
  have hob := J.at_
  have one : ∀ {z : Value}, (∀ f t, z ≠ .float f t) → True := fun _ => trivial
  have lk : ∀ {z : Value} {T : String}, st.TypeIs z T → PySem.W.Looks (model X.prog X.w) st.heap (typeOf z) (.type T) := fun {z T} h => by
    intro A Q E s' kk q
    refine wpAny_typeOf ?_ q
    cases z with
    | ref a => obtain ⟨o, h1, h2⟩ := h; exact ⟨o, kk _ _ h1, h2⟩
    | _ => exact h
  cases ry with
  | non =>
    cases (show v = Value.none from rv)
    exact ⟨by simp, "NoneType", hE.bt _ (by simp), lk rfl, rfl, fun E => wpAny_tryCompare_declines (show st.TypeIs .none "NoneType" from rfl) F.slot_NoneType_gt (call_meets F.slot_NoneType_gt rfl F.entry_NoneType_gt (F.args_NoneType_gt_2 _ _) (none_gt_own xa C dx) ⟨hob, rfl, rfl, rfl⟩)⟩
  | bl b =>
    cases (show v = Value.bool b from rv)
    exact ⟨by simp, "bool", hE.bt _ (by simp), lk rfl, rfl, fun E => wpAny_tryCompare_declines (show st.TypeIs (.bool b) "bool" from rfl) F.slot_bool_gt (call_meets F.slot_bool_gt rfl F.entry_int_gt (F.args_int_gt_2 _ _) (bool_gt_own xa C dx b) ⟨hob, rfl, rfl, rfl⟩)⟩
  | int i =>
    obtain ⟨t, rfl⟩ := (show ∃ t, v = Value.int i t from rv)
    exact ⟨by simp, "int", hE.bt _ (by simp), lk (typeIs_int st i t), rfl, fun E => wpAny_tryCompare_declines (typeIs_int st i t) F.slot_int_gt (call_meets F.slot_int_gt (typeIs_int st i t) F.entry_int_gt (F.args_int_gt_2 _ _) (int_gt_own xa C dx i t) ⟨hob, rfl, rfl, rfl⟩)⟩
  | str y =>
    obtain ⟨t, rfl⟩ := (show ∃ t, v = Value.str y t from rv)
    exact ⟨by simp, "str", hE.bt _ (by simp), lk (typeIs_str st y t), rfl, fun E => wpAny_tryCompare_declines (typeIs_str st y t) F.slot_str_gt (call_meets F.slot_str_gt (typeIs_str st y t) F.entry_str_gt (F.args_str_gt_2 _ _) (str_gt_own xa C dx y t) ⟨hob, rfl, rfl, rfl⟩)⟩
  | @lst l ws zs h1 r1 =>
    cases (show v = Value.ref l from rv)
    obtain ⟨us, v1, p1, _⟩ := I.list (le_l le (.inl h1))
    have hT : st.TypeIs (.ref l) "list" := p1.isList.typeIs
    refine ⟨fun z => ?_, "list", hE.bt _ (by simp), lk hT, oneThing_ref .., fun E => wpAny_tryCompare_declines hT F.slot_list_gt (call_meetsIn F.slot_list_gt hT F.entry_list_gt (F.args_list_gt_2 _ _) (list_gt_own (K := c.K) xa C dx l (hE.bt _ (by simp))) ⟨by rw [← B.hK]; exact I.kIn, hob, rfl, rfl, rfl⟩)⟩
    obtain ⟨o, h1, h2⟩ := hT
    cases z
    rw [hob] at h1; cases h1; cases h2
  | @tup l ws zs h1 r1 =>
    cases (show v = Value.ref l from rv)
    obtain ⟨us, v1, p1, _⟩ := I.tuple (le_t le (by rw [B.hK]; exact h1))
    have hT : st.TypeIs (.ref l) "tuple" := p1.typeIs
    refine ⟨fun z => ?_, "tuple", hE.bt _ (by simp), lk hT, oneThing_ref .., fun E => wpAny_tryCompare_declines hT F.slot_tuple_gt (call_meetsIn F.slot_tuple_gt hT F.entry_tuple_gt (F.args_tuple_gt_2 _ _) (tuple_gt_own (K := c.K) xa C dx l (hE.bt _ (by simp))) ⟨by rw [← B.hK]; exact I.kIn, hob, rfl, rfl, rfl⟩)⟩
    obtain ⟨o, h1, h2⟩ := hT
    cases z
    rw [hob] at h1; cases h1; cases h2
  | @dct l ws zs h1 r1 =>
    cases (show v = Value.ref l from rv)
    obtain ⟨es, ep, dd, sl, ho⟩ := (dic_of I le h1).2.2
    have hT : st.TypeIs (.ref l) "dict" := ⟨_, ho, rfl⟩
    refine ⟨fun z => ?_, "dict", hE.bt _ (by simp), lk hT, oneThing_ref .., fun E => wpAny_tryCompare_declines hT F.slot_dict_gt (call_meets F.slot_dict_gt hT F.entry_dict_gt (F.args_dict_gt_2 _ _) (dict_gt_own xa C dx l es ep dd sl) ⟨hob, ho, rfl, rfl, rfl⟩)⟩
    cases z
    rw [hob] at ho; cases ho
  | ref _ => simp [plain] at py
  | ty _ => simp [plain] at py
  | pen => simp [plain] at py
  | ins _ _ => simp [plain] at py
  | obj _ => simp [plain] at py
  | exc0 _ => simp [plain] at py
  | exc _ _ _ => simp [plain] at py



theorem declines_ge (B : XB X c W N sc k bb) (hE : BtC c.toWd C) {A : Around} (hu : A.units < cLine) {pins : List (Addr × Obj)} {st : Shared} {σ : L2.St} {G H : Hp} (I : Inv X pins σ H st) (le : Le G H) {y : V} {v : Value} {dy : D} (py : plain dy 40 = true) (ry : Rep c.K c.p0 G y dy) (rv : RelV y v) {xa dx : Addr} {vs : List (Str × V)} (hx : H xa = some (.ins C dx vs)) :
    v ≠ .ref xa ∧ ∃ T, PySem.W.mroIn c.K C (.type T) = some false ∧ PySem.W.Looks (model X.prog X.w) st.heap (typeOf v) (.type T) ∧ oneThing? .GtE v (.ref xa) = none ∧ ∀ E, wpAny (model X.prog X.w) A (tryCompare v (cmpInfo .GtE).2.1 (.ref xa)) (fun r s' => r = none ∧ s' = st) E st := by
  obtain ⟨od, J⟩ := insAt I hx
  have hob := J.at_
  have one : ∀ {z : Value}, (∀ f t, z ≠ .float f t) → True := fun _ => trivial
  have lk : ∀ {z : Value} {T : String}, st.TypeIs z T → PySem.W.Looks (model X.prog X.w) st.heap (typeOf z) (.type T) := fun {z T} h => by
    intro A Q E s' kk q
    refine wpAny_typeOf ?_ q
    cases z with
    | ref a => obtain ⟨o, h1, h2⟩ := h; exact ⟨o, kk _ _ h1, h2⟩
    | _ => exact h
  cases ry with
  | non =>
    cases (show v = Value.none from rv)
    exact ⟨by simp, "NoneType", hE.bt _ (by simp), lk rfl, rfl, fun E => wpAny_tryCompare_declines (show st.TypeIs .none "NoneType" from rfl) F.slot_NoneType_ge (call_meets F.slot_NoneType_ge rfl F.entry_NoneType_ge (F.args_NoneType_ge_2 _ _) (none_ge_own xa C dx) ⟨hob, rfl, rfl, rfl⟩)⟩
  | bl b =>
    cases (show v = Value.bool b from rv)
    exact ⟨by simp, "bool", hE.bt _ (by simp), lk rfl, rfl, fun E => wpAny_tryCompare_declines (show st.TypeIs (.bool b) "bool" from rfl) F.slot_bool_ge (call_meets F.slot_bool_ge rfl F.entry_int_ge (F.args_int_ge_2 _ _) (bool_ge_own xa C dx b) ⟨hob, rfl, rfl, rfl⟩)⟩
  | int i =>
    obtain ⟨t, rfl⟩ := (show ∃ t, v = Value.int i t from rv)
    exact ⟨by simp, "int", hE.bt _ (by simp), lk (typeIs_int st i t), rfl, fun E => wpAny_tryCompare_declines (typeIs_int st i t) F.slot_int_ge (call_meets F.slot_int_ge (typeIs_int st i t) F.entry_int_ge (F.args_int_ge_2 _ _) (int_ge_own xa C dx i t) ⟨hob, rfl, rfl, rfl⟩)⟩
  | str y =>
    obtain ⟨t, rfl⟩ := (show ∃ t, v = Value.str y t from rv)
    exact ⟨by simp, "str", hE.bt _ (by simp), lk (typeIs_str st y t), rfl, fun E => wpAny_tryCompare_declines (typeIs_str st y t) F.slot_str_ge (call_meets F.slot_str_ge (typeIs_str st y t) F.entry_str_ge (F.args_str_ge_2 _ _) (str_ge_own xa C dx y t) ⟨hob, rfl, rfl, rfl⟩)⟩
  | @lst l ws zs h1 r1 =>
    cases (show v = Value.ref l from rv)
    obtain ⟨us, v1, p1, _⟩ := I.list (le_l le (.inl h1))
    have hT : st.TypeIs (.ref l) "list" := p1.isList.typeIs
    refine ⟨fun z => ?_, "list", hE.bt _ (by simp), lk hT, oneThing_ref .., fun E => wpAny_tryCompare_declines hT F.slot_list_ge (call_meetsIn F.slot_list_ge hT F.entry_list_ge (F.args_list_ge_2 _ _) (list_ge_own (K := c.K) xa C dx l (hE.bt _ (by simp))) ⟨by rw [← B.hK]; exact I.kIn, hob, rfl, rfl, rfl⟩)⟩
    obtain ⟨o, h1, h2⟩ := hT
    cases z
    rw [hob] at h1; cases h1; cases h2
  | @tup l ws zs h1 r1 =>
    cases (show v = Value.ref l from rv)
    obtain ⟨us, v1, p1, _⟩ := I.tuple (le_t le (by rw [B.hK]; exact h1))
    have hT : st.TypeIs (.ref l) "tuple" := p1.typeIs
    refine ⟨fun z => ?_, "tuple", hE.bt _ (by simp), lk hT, oneThing_ref .., fun E => wpAny_tryCompare_declines hT F.slot_tuple_ge (call_meetsIn F.slot_tuple_ge hT F.entry_tuple_ge (F.args_tuple_ge_2 _ _) (tuple_ge_own (K := c.K) xa C dx l (hE.bt _ (by simp))) ⟨by rw [← B.hK]; exact I.kIn, hob, rfl, rfl, rfl⟩)⟩
    obtain ⟨o, h1, h2⟩ := hT
    cases z
    rw [hob] at h1; cases h1; cases h2
  | @dct l ws zs h1 r1 =>
    cases (show v = Value.ref l from rv)
    obtain ⟨es, ep, dd, sl, ho⟩ := (dic_of I le h1).2.2
    have hT : st.TypeIs (.ref l) "dict" := ⟨_, ho, rfl⟩
    refine ⟨fun z => ?_, "dict", hE.bt _ (by simp), lk hT, oneThing_ref .., fun E => wpAny_tryCompare_declines hT F.slot_dict_ge (call_meets F.slot_dict_ge hT F.entry_dict_ge (F.args_dict_ge_2 _ _) (dict_ge_own xa C dx l es ep dd sl) ⟨hob, ho, rfl, rfl, rfl⟩)⟩
    cases z
    rw [hob] at ho; cases ho
  | ref _ => simp [plain] at py
  | ty _ => simp [plain] at py
  | pen => simp [plain] at py
  | ins _ _ => simp [plain] at py
  | obj _ => simp [plain] at py
  | exc0 _ => simp [plain] at py
  | exc _ _ _ => simp [plain] at py


/-- an own order, seen from the right -/
structure OrdR (c : Wd) (nm : Str) (j : Nat) (C : Addr) (s : DSp2) : Prop where
  own : OwnD c C nm j s
  bt : BtC c C
theorem OrdR.mono {c : Wd} {nm : Str} {j k : Nat} {C : Addr} {s : DSp2} (h : OrdR c nm j C s) (l : j ≤ k) : OrdR c nm k C s := ⟨h.own.mono l, h.bt⟩
def oOrdA (w : Wd) (tbl tb2 : List (Addr × DSp2)) (g : Int → Int → Bool) : DOpE := fun x y z P E => match x with
  | .ins C fs => notF w C y ∧ dpt tbl C fun s => s [.ins C fs, y] [] z P E
  | x => match y with
    | .ins C fs => plain x 40 = true ∧ dpt tb2 C fun s => s [.ins C fs, x] [] z P E
    | .int j => (match x with
      | .int i => P (.bl (g i j)) z
      | _ => False)
    | _ => False
theorem ord_right {op : CmpOp} {u : Value → Value → Sem Value} (hu : ∀ a b, u a b = richCompare op a b) (B : XB X c W N sc k bb) (hE : OrdR c.toWd (cmpInfo op).2.2 j C s) (hj : j ≤ k)
    (dec : ∀ {pins : List (Addr × Obj)} {st : Shared} {σ : L2.St} {G H : Hp} (I : Inv X pins σ H st) (le : Le G H) {y : V} {v : Value} {dy : D} (py : plain dy 40 = true) (ry : Rep c.K c.p0 G y dy) (rv : RelV y v) {xa dx : Addr} {vs : List (Str × V)} (hx : H xa = some (.ins C dx vs)),
      ∃ T, PySem.W.mroIn c.K C (.type T) = some false ∧ PySem.W.Looks (model X.prog X.w) st.heap (typeOf v) (.type T) ∧ oneThing? op v (.ref xa) = none ∧ ∀ E, wpAny (model X.prog X.w) X.A (tryCompare v (cmpInfo op).2.1 (.ref xa)) (fun r s' => r = none ∧ s' = st) E st) : OpE X c W u (oRgt C s) := by
  intro pins st σ H p q x y dx dy G δ P E Q I r1 r2 R p1 p2 h kp ke
  cases dy with
  | ins C' fs =>
    obtain ⟨rfl, px, hs⟩ := h
    obtain ⟨xa, dd, vs, rfl, hG⟩ := rep_ins p2
    cases (show y = Value.ref xa from r2)
    obtain ⟨T, hm, ht, h1t, dc⟩ := dec I R.le px p1 r1 (R.le _ _ hG)
    obtain ⟨od, J⟩ := insAt I (R.le _ _ hG)
    obtain ⟨f, F, f1, f2⟩ := hE.own.ex
    rw [hu]
    exact rc_rightO (by have := units1 B; omega) I.kIn J ht (by rw [B.hK]; exact hm) h1t (dc _) (tryOwn I.kIn J (by rw [B.hK]; exact f1) (by rw [B.hK]; exact f2)
      (wpAny_mono (runD (ks := []) (ws := []) (zs := []) (vs := [.ref xa, p]) (us := [.ref xa, x]) B F (B.room.mono hj) B.gd rfl I (.cons rfl (.cons r1 .nil)) .nil rfl R (.cons p2 (.cons p1 .nil)) .nil hs kp ke) (fun _ _ z => noNI z id) fun _ _ z => z))
  | _ => exact h.elim
theorem ord_any {u : Value → Value → Sem Value} {g : Int → Int → Bool} (hl : ∀ C s, dpt tbl C (fun s' => s' = s) → OpE X c W u (oLft c.toWd C s)) (hr : ∀ C s, dpt tb2 C (fun s' => s' = s) → OpE X c W u (oRgt C s)) (hi : OpD X c u (oI (fun _ _ => True) fun i j => .bl (g i j))) : OpE X c W u (oOrdA c.toWd tbl tb2 g) := by
  have pick : ∀ {t : List (Addr × DSp2)} {C : Addr} {k : DSp2 → Prop}, dpt t C k → ∃ s, dpt t C (fun s' => s' = s) ∧ k s := by
    intro t
    induction t with
    | nil => intro C k h; exact h.elim
    | cons p r ih =>
      intro C k h
      unfold dpt at h
      by_cases e : C = p.1
      · rw [if_pos e] at h
        exact ⟨p.2, by unfold dpt; rw [if_pos e], h⟩
      · rw [if_neg e] at h
        obtain ⟨s, h1, h2⟩ := ih h
        exact ⟨s, by unfold dpt; rw [if_neg e]; exact h1, h2⟩
  intro pins st σ H p q x y dx dy G δ P E Q I r1 r2 R p1 p2 h kp ke
  by_cases h1 : ∃ C fs, dx = .ins C fs
  · obtain ⟨C, fs, rfl⟩ := h1
    obtain ⟨s, hs, hq⟩ := pick h.2
    exact hl C s hs pins st σ H p q x y _ dy G δ P E Q I r1 r2 R p1 p2 ⟨rfl, h.1, hq⟩ kp ke
  · by_cases h2 : ∃ C fs, dy = .ins C fs
    · obtain ⟨C, fs, rfl⟩ := h2
      have h' : plain dx 40 = true ∧ dpt tb2 C fun s => s [.ins C fs, dx] [] δ.z P E := by
        cases dx <;> first | exact h | exact absurd ⟨_, _, rfl⟩ h1
      obtain ⟨s, hs, hq⟩ := pick h'.2
      exact hr C s hs pins st σ H p q x y dx _ G δ P E Q I r1 r2 R p1 p2 ⟨rfl, h'.1, hq⟩ kp ke
    · have h' : oI (fun _ _ => True) (fun i j => .bl (g i j)) dx dy fun d => P d δ.z := by
        cases dx <;> first | exact absurd ⟨_, _, rfl⟩ h1 | (cases dy <;> first | exact absurd ⟨_, _, rfl⟩ h2 | exact h.elim | exact ⟨trivial, h⟩)
      exact opE_of hi pins st σ H p q x y dx dy G δ P E Q I r1 r2 R p1 p2 h' kp ke
theorem AllT.at {Q : Addr → DSp2 → Prop} {t : List (Addr × DSp2)} {C : Addr} {s : DSp2} (h : AllT Q t) (d : dpt t C (fun s' => s' = s)) : Q C s := by
  obtain ⟨s', h1, h2⟩ := h.get d
  subst h2
  exact h1
theorem op_ltA (B : XB X c W N sc k bb) (hT : AllT (fun C s => OwnD c.toWd C "__lt__" j s) tbl) (h2 : AllT (OrdR c.toWd "__gt__" j) tb2) (hj : j ≤ k) : OpE X c W (compareOp .Lt) (oOrdA c.toWd tbl tb2 fun i j => decide (i < j)) :=
  ord_any (fun C s d => lt_left B (hT.at d) hj) (fun C s d => ord_right (op := .Lt) (fun _ _ => rfl) B (h2.at d) hj fun I le _ _ _ py ry rv _ _ _ hx => (declines_lt B (h2.at d).bt (by have := units1 B; omega) I le py ry rv hx).2) o_lt
theorem op_leA (B : XB X c W N sc k bb) (hT : AllT (fun C s => OwnD c.toWd C "__le__" j s) tbl) (h2 : AllT (OrdR c.toWd "__ge__" j) tb2) (hj : j ≤ k) : OpE X c W (compareOp .LtE) (oOrdA c.toWd tbl tb2 fun i j => decide (i ≤ j)) :=
  ord_any (fun C s d => le_left B (hT.at d) hj) (fun C s d => ord_right (op := .LtE) (fun _ _ => rfl) B (h2.at d) hj fun I le _ _ _ py ry rv _ _ _ hx => (declines_le B (h2.at d).bt (by have := units1 B; omega) I le py ry rv hx).2) o_le
theorem op_gtA (B : XB X c W N sc k bb) (hT : AllT (fun C s => OwnD c.toWd C "__gt__" j s) tbl) (h2 : AllT (OrdR c.toWd "__lt__" j) tb2) (hj : j ≤ k) : OpE X c W (compareOp .Gt) (oOrdA c.toWd tbl tb2 fun i j => decide (j < i)) :=
  ord_any (fun C s d => gt_left B (hT.at d) hj) (fun C s d => ord_right (op := .Gt) (fun _ _ => rfl) B (h2.at d) hj fun I le _ _ _ py ry rv _ _ _ hx => (declines_gt B (h2.at d).bt (by have := units1 B; omega) I le py ry rv hx).2) o_gt
theorem op_geA (B : XB X c W N sc k bb) (hT : AllT (fun C s => OwnD c.toWd C "__ge__" j s) tbl) (h2 : AllT (OrdR c.toWd "__le__" j) tb2) (hj : j ≤ k) : OpE X c W (compareOp .GtE) (oOrdA c.toWd tbl tb2 fun i j => decide (j ≤ i)) :=
  ord_any (fun C s d => ge_left B (hT.at d) hj) (fun C s d => ord_right (op := .GtE) (fun _ _ => rfl) B (h2.at d) hj fun I le _ _ _ py ry rv _ _ _ hx => (declines_ge B (h2.at d).bt (by have := units1 B; omega) I le py ry rv hx).2) o_ge
end
end DL

/-! EMF: chains of comparisons; list * int; truth of any plain value. -/
namespace DL
open PySem L2 PySem.Spec PyProof.Rows
section
variable {X : Cx} {c : Fr} {W : WX} {N : List Str} {sc : Scope} {k j : Nat} {bb : Bool} {e a b q : Expr} {es : List Expr} {pos p p2 : Pos} {r ra rb rq : DTE} {rs : DTA} {x : Str} {o o' : DOp} {op op' : CmpOp}
/-- a op b op' q -/
def dChain (o o' : DOp) (ra rb rq : DTE) : DTE := fun δ P E => ra δ (fun x δ1 => rb δ1 (fun y δ2 => o x y (fun d => match d with
  | .bl true => rq δ2 (fun w δ3 => o' y w (fun d' => (match d' with | .bl _ => True | _ => False) ∧ P d' δ3)) E
  | .bl false => P (.bl false) δ2
  | _ => False)) E) E
theorem dchain_in {r r' : R2} (h2 : DR2 c r o) (h2' : DR2 c r' o') {σ : L2.St} {H : Hp} {Q : VK} : liftE c W (dChain o o' ra rb rq) σ H Q → tChain r r' (liftE c W ra) (liftE c W rb) (liftE c W rq) σ H Q := fun ⟨G, δ, P, E, R, h, kk, x⟩ =>
  ⟨G, δ, _, E, R, h, fun dx δ1 v G1 H1 p1 L1 R1 r1 => ⟨G1, δ1, _, E, R1, p1, fun dy δ2 u G2 H2 p2 L2 R2 r2 => h2 G2 H2 σ δ2 v u dx dy _ _ R2 (r1.mono L2.g) r2 p2 fun d w G3 H3 p3 L3 R3 r3 => by
    cases r3 with
    | bl b =>
      refine ⟨b, rfl, ?_⟩
      cases b with
      | false => exact kk _ δ2 _ G3 H3 p3 ((L1.trans L2).trans L3) R3 (.bl _)
      | true => exact ⟨G3, δ2, _, E, R3, p3, fun dw δ3 w' G4 H4 p4 L4 R4 r4 => h2' G4 H4 σ δ3 u w' dy dw _ Q R4 (r2.mono (L3.g.trans L4.g)) r4 p4 fun d w G5 H5 p5 L5 R5 r5 => kk d δ3 w G5 H5 p5.2 ((((L1.trans L2).trans L3).trans L4).trans L5) R5 r5, x.mono ((L1.trans L2).trans L3).g⟩
    | _ => exact p3.elim, x.mono L1.g⟩, x⟩
theorem de_chain (ho : OpD X c (compareOp op) o) (ho' : OpD X c (compareOp op') o') (ha : DE X c W a ra) (hb : DE X c W b rb) (hq : DE X c W q rq) (hm : lastMarks [op, op'] [b, q] = false := by with_unfolding_all rfl) : DE X c W (.Compare a [op, op'] [b, q] pos) (dChain o o' ra rb rq) := by
  obtain ⟨r, h1, h2⟩ := ho.ex
  obtain ⟨r', h1', h2'⟩ := ho'.ex
  exact peI (pe_chain h1 h1' ha hb hq hm) fun σ H Q => dchain_in h2 h2'
theorem dt_chain (ho : OpD X c (compareOp op) o) (ho' : OpD X c (compareOp op') o') (ha : DE X c W a ra) (hb : DE X c W b rb) (hq : DE X c W q rq) (hm : lastMarks [op, op'] [b, q] = false := by with_unfolding_all rfl) : DT X c W (.Compare a [op, op'] [b, q] pos) (dTB (dChain o o' ra rb rq)) := by
  obtain ⟨r, h1, h2⟩ := ho.ex
  obtain ⟨r', h1', h2'⟩ := ho'.ex
  exact ptI (pt_chain h1 h1' ha hb hq hm) fun σ H Q ⟨G, δ, P, E, R, h, kk, x⟩ => dchain_in h2 h2' ⟨G, δ, _, E, R, h, fun d δ' v G' H' p L R' r => dtb_ok kk p L R' r, x⟩
/-! ### list * int -/
def rRepL : R2 := fun x y H Q => ∃ l i xs, x = .ref l ∧ y = .int i ∧ Rd H l (.lst xs) ∧ -(2 ^ 63) ≤ i ∧ i < 2 ^ 63 ∧ xs.length * i.toNat ≤ sizeLine ∧ ∀ p, H p = none → Q (.ref p) (upd H p (.lst (List.replicate i.toNat xs).flatten))
theorem op_repL : OpR X (binaryOp .Mult) rRepL := by
  intro pins s σ H x y v u Q I rx ry ⟨l, i, xs, e1, e2, hH, b1, b2, hz, q⟩
  subst e1 e2
  cases rx
  obtain ⟨t, rfl⟩ := ry
  obtain ⟨z, its, n, r, e⟩ := hH.ok I.hok
  have hl := r.length
  have len : its.toArray.size * i.toNat ≤ sizeLine := by rw [List.size_toArray, ← hl]; exact hz
  have few : ¬ its.toArray.size * i.toNat > (2 ^ 63 - 1) / 8 := by
    have : (sizeLine : Nat) ≤ (2 ^ 63 - 1) / 8 := by decide
    omega
  have fit : ¬ (!Builtin.List.listFitsIndex i) = true := by
    rw [fitsIndex_both b1 b2]; simp
  have lng : ¬ Builtin.List.listTooLong (its.toArray.size * i.toNat) = true := by
    rw [notLongL len]; simp
  have new : List.foldl (fun x1 x2 => x1 ++ x2) #[] (List.replicate (if its.toArray.isEmpty = true then 0 else i.toNat) its.toArray) = (List.replicate i.toNat its).flatten.toArray := by
    have f0 : ∀ m : Nat, List.foldl (fun x1 x2 => x1 ++ x2) #[] (List.replicate m its.toArray) = (List.replicate m its).flatten.toArray := fun m => by simpa using foldl_rep its m []
    rw [f0]
    cases its with
    | nil => simp
    | cons a rr => rw [if_neg (by simp)]
  have isl : s.TypeIs (.ref l) "list" := ⟨_, e, rfl⟩
  have hcall := call_meets (prog := X.prog) (w := X.w) (A := X.A) F.slot_list_mul isl F.entry_list_mul (F.args_list_mul_2 _ _) (AutoListH.list___mul___list_int_3 l its.toArray n i t fit few lng)
    (E := X.xe) (Q := fun v s' => EP X pins σ Q v s') ⟨e, by
      rw [new]
      exact ⟨.ref _, _, I.lnew (t' := s.toks) (r.rep i.toNat) (by rw [PyProof.Rows.lm_len_rep_flat, Nat.mul_comm]; exact hz), rfl, q _ I.fresh⟩⟩
  exact wpAny_binaryOp_repeat_ref (T := "list") (U := "int") (by decide) isl (fun s' => typeIs_int s' i t) noFill_list_mul F.fills_int_mul F.slot_int_rmul repeat_list F.slot_int_index.lookup
    (call_meets F.slot_int_rmul (typeIs_int s i t) F.entry_int_rmul (F.args_int_rmul_2 _ _) (int___rmul___int_list i t l its.toArray n) ⟨e, rfl, isl, hcall⟩)
theorem RepL.rep {K : PySem.W.Frag} {p0 : Addr} {G : Hp} {vs : List V} {ds : List D} (h : RepL K p0 G vs ds) : ∀ n : Nat, RepL K p0 G (List.replicate n vs).flatten (List.replicate n ds).flatten
  | 0 => .nil
  | n + 1 => by
    rw [List.replicate_succ, List.replicate_succ, List.flatten_cons, List.flatten_cons]
    exact h.app (RepL.rep h n)
def oRep : DOp := fun x y P => match x, y with
  | .lst xs, .int i => (0 ≤ i ∧ i < 1000000 ∧ xs.length * i.toNat ≤ 100000) ∧ P (.lst (List.replicate i.toNat xs).flatten)
  | _, _ => False
theorem o_rep : OpD X c (binaryOp .Mult) oRep := by
  refine ⟨_, op_repL, fun G H σ δ u v x y P Q R ru rv o kk => ?_⟩
  cases ru with
  | lst h1 r1 =>
    cases rv with
    | int i =>
      refine ⟨_, i, _, rfl, rfl, le_rd R.le h1, by have := o.1; omega, by have := o.1; omega, by rw [r1.len]; exact sz5 o.1.2.2, fun p hp => ?_⟩
      exact kk _ _ _ _ o.2 (R.newG hp) (R.laid' hp) (.lst (.inl upd_same) ((r1.rep i.toNat).mono (Le.new (R.gnone hp))))
    | _ => exact o.elim
  | _ => cases rv <;> exact o.elim
/-- * of ints, of a list and an int -/
def oMulA : DOp := fun x y P => match x, y with
  | .int i, .int j => CMulE i j ∧ P (.int (i * j))
  | .lst xs, .int i => (0 ≤ i ∧ i < 1000000 ∧ xs.length * i.toNat ≤ 100000) ∧ P (.lst (List.replicate i.toNat xs).flatten)
  | _, _ => False
theorem o_mulA : OpD X c (binaryOp .Mult) oMulA := (o_mulE.or o_rep).imp fun x y P h => by
  cases x with
  | int i => cases y with
    | int j => exact .inl h
    | _ => exact h.elim
  | lst xs => cases y with
    | int j => exact .inr h
    | _ => exact h.elim
  | _ => exact h.elim
theorem AllT.imp {α : Type} {Q Q' : Addr → α → Prop} (l : ∀ C s, Q C s → Q' C s) : ∀ {t : List (Addr × α)}, AllT Q t → AllT Q' t
  | [], _ => trivial
  | _ :: _, h => ⟨l _ _ h.1, AllT.imp l h.2⟩
end
section
variable {i j : Int} {b : Bool} {PZ : D → Z → Prop} {E : Er → Z → Prop} {z : Z} {w : Wd} {tbl tb2 : List (Addr × DSp2)} {x y : D} {C : Addr} {fs : List (Str × D)} {xs : List D} {ks : List (Key × D)} {t : Str} {g : Int → Int → Bool}
theorem oOrdA_ii : oOrdA w tbl tb2 g (.int i) (.int j) z PZ E ↔ PZ (.bl (g i j)) z := Iff.rfl
theorem oOrdA_in : oOrdA w tbl tb2 g (.ins C fs) y z PZ E ↔ notF w C y ∧ dpt tbl C fun s => s [.ins C fs, y] [] z PZ E := Iff.rfl
theorem oOrdA_ri : oOrdA w tbl tb2 g (.int i) (.ins C fs) z PZ E ↔ dpt tb2 C fun s => s [.ins C fs, .int i] [] z PZ E := ⟨fun h => h.2, fun h => ⟨rfl, h⟩⟩
theorem oOrdA_rn : oOrdA w tbl tb2 g .non (.ins C fs) z PZ E ↔ dpt tb2 C fun s => s [.ins C fs, .non] [] z PZ E := ⟨fun h => h.2, fun h => ⟨rfl, h⟩⟩
theorem oOrdA_rb : oOrdA w tbl tb2 g (.bl b) (.ins C fs) z PZ E ↔ dpt tb2 C fun s => s [.ins C fs, .bl b] [] z PZ E := ⟨fun h => h.2, fun h => ⟨rfl, h⟩⟩
theorem oOrdA_rs : oOrdA w tbl tb2 g (.str t) (.ins C fs) z PZ E ↔ dpt tb2 C fun s => s [.ins C fs, .str t] [] z PZ E := ⟨fun h => h.2, fun h => ⟨rfl, h⟩⟩
theorem oOrdA_rp (h : plain x 40 = true) (k : dpt tb2 C fun s => s [.ins C fs, x] [] z PZ E) : oOrdA w tbl tb2 g x (.ins C fs) z PZ E := by
  cases x <;> first | exact ⟨h, k⟩ | simp [plain] at h
end
end DL

/-! EMG: + - * // % by own defs, with plain values on the other side. -/
namespace PySem.W
open PySem PySem.Calls PyProof.Rows
section
variable {prog : Program} {w : World} {M : Model} {A : Around} {E : Value → Shared → Prop} {s : Shared} {K : Frag} {x y C f : Addr} {ox oy : Obj} {od oe : Option Obj} {nm T : String}
/-- left: an instance; right: of a built-in type -/
theorem b1L {b : Value} {fo ro rc : Option Value} {Q : Option Value → Shared → Prop} (X : K.In s.heap) (I : InstAt s.heap x ox C od) (L2 : Looks (model prog w) s.heap (typeOf b) (.type T)) (hc : selfFirst K C = true)
    (hs : findIn K (.ref C) (PySem.dunder nm) = some (some (.ref f))) (hf : isFn K (.ref f) = true) (hr : findIn K (.ref C) (dunderR nm) = some rc) (hp : rc = none ∨ ∃ g : Addr, rc = some (.ref g))
    (h1 : findIn K (.type T) (PySem.dunder nm) = some fo) (h2 : findIn K (.type T) (dunderR nm) = some ro) (hsub : subIn K (.type T) (.ref C) = some false)
    (h : wpAny (model prog w) A (call (.ref f) [.ref x, b]) (CmpBack fun v s' => Q (some v) s') E s) : wpAny (model prog w) A (binaryOp1 nm (.ref x) b) Q E s := by
  obtain ⟨cd, rest, hcd, hm⟩ := ksp_first hc
  have one := ksp_try X I hs hf h
  obtain ⟨hh, g, d, tt, os⟩ := s
  have L1 : Looks (model prog w) hh (typeOf (.ref x)) (.ref C) := I.type
  have L3 : Looks (model prog w) hh (fillsNumberSlot (.ref C) nm) true := fills_K X hcd hm hs
  have L4 : Looks (model prog w) hh (fillsNumberSlot (.type T) nm) ((fo.isSome && !isSeqSlot fo) || (ro.isSome && !isSeqSlot ro)) := ksp_fillsT X h1 h2
  have L5 : Looks (model prog w) hh (isSubtype (.type T) (.ref C)) false := looks_subIn X hsub
  have L6 : Looks (model prog w) hh (numberSlotInPython (.ref C) nm) true := ksp_inPy X hs hr hp
  have L7 : Looks (model prog w) hh (numberSlotInPython (.type T) nm) false := Looks.of_pure rfl
  have L8 : Looks (model prog w) hh (typeLookup (.type T) (dunderR nm)) ro := looks_findIn X h2
  generalize ((fo.isSome && !isSeqSlot fo) || (ro.isSome && !isSeqSlot ro)) = right at L4
  have hne : (Value.ref C == Value.type T) = false := Bool.eq_false_iff.mpr fun q => by cases beq_iff_eq.mp q
  unfold binaryOp1
  refine wpAny_bind (L1.at (wpAny_bind (L2.at (wpAny_bind (L3.at ?_)))))
  simp only [hne, Bool.false_eq_true, if_false]
  cases right with
  | false =>
    ksp_lk
    refine wpAny_mono one (fun r s' hr' => ?_) fun _ _ e => e
    obtain ⟨v, rfl, hq⟩ := hr'
    ksp_lk
    exact hq
  | true =>
    ksp_lk
    refine wpAny_mono one (fun r s' hr' => ?_) fun _ _ e => e
    obtain ⟨v, rfl, hq⟩ := hr'
    ksp_lk
    exact hq
/-- both of one class -/
theorem b1S {Q : Option Value → Shared → Prop} (X : K.In s.heap) (I : InstAt s.heap x ox C od) (J : InstAt s.heap y oy C oe) (hc : selfFirst K C = true)
    (hs : findIn K (.ref C) (PySem.dunder nm) = some (some (.ref f))) (hf : isFn K (.ref f) = true)
    (h : wpAny (model prog w) A (call (.ref f) [.ref x, .ref y]) (CmpBack fun v s' => Q (some v) s') E s) : wpAny (model prog w) A (binaryOp1 nm (.ref x) (.ref y)) Q E s := by
  obtain ⟨cd, rest, hcd, hm⟩ := ksp_first hc
  have one := ksp_try X I hs hf h
  obtain ⟨hh, g, d, tt, os⟩ := s
  have L1 : Looks (model prog w) hh (typeOf (.ref x)) (.ref C) := I.type
  have L2 : Looks (model prog w) hh (typeOf (.ref y)) (.ref C) := J.type
  have L3 : Looks (model prog w) hh (fillsNumberSlot (.ref C) nm) true := fills_K X hcd hm hs
  have he : (Value.ref C == Value.ref C) = true := beq_self_eq_true _
  unfold binaryOp1
  refine wpAny_bind (L1.at (wpAny_bind (L2.at (wpAny_bind (L3.at ?_)))))
  simp only [he, if_true]
  ksp_lk
  refine wpAny_mono one (fun r s' hr' => ?_) fun _ _ e => e
  obtain ⟨v, rfl, hq⟩ := hr'
  ksp_lk
  exact hq
/-- left: of a built-in type -/
theorem b1R {a : Value} {fo ro : Option Value} {Q : Option Value → Shared → Prop} (X : K.In s.heap) (J : InstAt s.heap y oy C oe) (L1 : Looks (model prog w) s.heap (typeOf a) (.type T)) (hc : selfFirst K C = true)
    (hs0 : findIn K (.ref C) (PySem.dunder nm) = some (some (.ref f))) {g : Addr} (hs : findIn K (.ref C) (dunderR nm) = some (some (.ref g))) (hf : isFn K (.ref g) = true)
    (h1 : findIn K (.type T) (PySem.dunder nm) = some fo) (h2 : findIn K (.type T) (dunderR nm) = some ro) (hsub : mroIn K C (.type T) = some false)
    (dec : ((fo.isSome && !isSeqSlot fo) || (ro.isSome && !isSeqSlot ro)) = true → ∀ Q' : Option Value → Shared → Prop, Q' none s → wpAny (model prog w) A (tryMethod a (PySem.dunder nm) (.ref y)) Q' E s)
    (h : wpAny (model prog w) A (call (.ref g) [.ref y, a]) (CmpBack fun v s' => Q (some v) s') E s) : wpAny (model prog w) A (binaryOp1 nm a (.ref y)) Q E s := by
  obtain ⟨cd, rest, hcd, hm⟩ := ksp_first hc
  have one := ksp_try X J hs hf h
  obtain ⟨hh, gg, d, tt, os⟩ := s
  have L2 : Looks (model prog w) hh (typeOf (.ref y)) (.ref C) := J.type
  have L3 : Looks (model prog w) hh (fillsNumberSlot (.ref C) nm) true := fills_K X hcd hm hs0
  have L4 : Looks (model prog w) hh (fillsNumberSlot (.type T) nm) ((fo.isSome && !isSeqSlot fo) || (ro.isSome && !isSeqSlot ro)) := ksp_fillsT X h1 h2
  have L5 : Looks (model prog w) hh (isSubtype (.ref C) (.type T)) false := looks_mroIn X hsub
  have L7 : Looks (model prog w) hh (numberSlotInPython (.type T) nm) false := Looks.of_pure rfl
  generalize ((fo.isSome && !isSeqSlot fo) || (ro.isSome && !isSeqSlot ro)) = left at L4 dec
  have hne : (Value.type T == Value.ref C) = false := Bool.eq_false_iff.mpr fun q => by cases beq_iff_eq.mp q
  unfold binaryOp1
  refine wpAny_bind (L1.at (wpAny_bind (L2.at (wpAny_bind (L4.at ?_)))))
  simp only [hne, Bool.false_eq_true, if_false]
  cases left with
  | false =>
    ksp_lk
    refine wpAny_mono one (fun r s' hr' => ?_) fun _ _ e => e
    obtain ⟨v, rfl, hq⟩ := hr'
    ksp_lk
    exact hq
  | true =>
    ksp_lk
    refine dec rfl _ ?_
    ksp_lk
    refine wpAny_mono one (fun r s' hr' => ?_) fun _ _ e => e
    obtain ⟨v, rfl, hq⟩ := hr'
    ksp_lk
    exact hq
theorem bin_of1 {op : Operator} {a b : Value} {Q : Value → Shared → Prop} (h : wpAny M A (binaryOp1 op.info.2 a b) (fun r s' => ∃ v, r = some v ∧ Q v s') E s) : wpAny M A (binaryOp op a b) Q E s := by
  rcases hi : op.info with ⟨sym, nm'⟩
  rw [hi] at h
  simp only [binaryOp, hi]
  refine wpAny_holding (wpAny_bind (wpAny_mono h (fun r s' hr => ?_) fun _ _ z => z))
  obtain ⟨v, rfl, hq⟩ := hr
  exact wpAny_pure hq
end
end PySem.W
namespace PySem.SeqAt
open MeetsSeq
theorem int_add_own (x C dx : Addr) (b : Int) (u : Tok) : Meets (Builtin.«int.__add__» ⟨[.int b u, .ref x], []⟩) (fun _ R s => s.heap.get? x = some (PySem.W.instObj C dx) ∧ R (.ok (.ret .notImplemented)) s) :=
  .of_wp fun prog w A R s h => by obtain ⟨hp, g, d, tk, os⟩ := s; obtain ⟨hl, h⟩ := h; wp_walk using AutoSeq1.wpAny_loadPart' hl, wpAny_load hl; exact ⟨_, rfl, h⟩
theorem bool_add_own (x C dx : Addr) (b : Bool) : Meets (Builtin.«int.__add__» ⟨[.bool b, .ref x], []⟩) (fun _ R s => s.heap.get? x = some (PySem.W.instObj C dx) ∧ R (.ok (.ret .notImplemented)) s) :=
  .of_wp fun prog w A R s h => by obtain ⟨hp, g, d, tk, os⟩ := s; obtain ⟨hl, h⟩ := h; wp_walk using AutoSeq1.wpAny_loadPart' hl, wpAny_load hl; exact ⟨_, rfl, h⟩
theorem int_sub_own (x C dx : Addr) (b : Int) (u : Tok) : Meets (Builtin.«int.__sub__» ⟨[.int b u, .ref x], []⟩) (fun _ R s => s.heap.get? x = some (PySem.W.instObj C dx) ∧ R (.ok (.ret .notImplemented)) s) :=
  .of_wp fun prog w A R s h => by obtain ⟨hp, g, d, tk, os⟩ := s; obtain ⟨hl, h⟩ := h; wp_walk using AutoSeq1.wpAny_loadPart' hl, wpAny_load hl; exact ⟨_, rfl, h⟩
theorem bool_sub_own (x C dx : Addr) (b : Bool) : Meets (Builtin.«int.__sub__» ⟨[.bool b, .ref x], []⟩) (fun _ R s => s.heap.get? x = some (PySem.W.instObj C dx) ∧ R (.ok (.ret .notImplemented)) s) :=
  .of_wp fun prog w A R s h => by obtain ⟨hp, g, d, tk, os⟩ := s; obtain ⟨hl, h⟩ := h; wp_walk using AutoSeq1.wpAny_loadPart' hl, wpAny_load hl; exact ⟨_, rfl, h⟩
theorem int_mul_own (x C dx : Addr) (b : Int) (u : Tok) : Meets (Builtin.«int.__mul__» ⟨[.int b u, .ref x], []⟩) (fun _ R s => s.heap.get? x = some (PySem.W.instObj C dx) ∧ R (.ok (.ret .notImplemented)) s) :=
  .of_wp fun prog w A R s h => by obtain ⟨hp, g, d, tk, os⟩ := s; obtain ⟨hl, h⟩ := h; wp_walk using AutoSeq1.wpAny_loadPart' hl, wpAny_load hl; exact ⟨_, rfl, h⟩
theorem bool_mul_own (x C dx : Addr) (b : Bool) : Meets (Builtin.«int.__mul__» ⟨[.bool b, .ref x], []⟩) (fun _ R s => s.heap.get? x = some (PySem.W.instObj C dx) ∧ R (.ok (.ret .notImplemented)) s) :=
  .of_wp fun prog w A R s h => by obtain ⟨hp, g, d, tk, os⟩ := s; obtain ⟨hl, h⟩ := h; wp_walk using AutoSeq1.wpAny_loadPart' hl, wpAny_load hl; exact ⟨_, rfl, h⟩
theorem int_floordiv_own (x C dx : Addr) (b : Int) (u : Tok) : Meets (Builtin.«int.__floordiv__» ⟨[.int b u, .ref x], []⟩) (fun _ R s => s.heap.get? x = some (PySem.W.instObj C dx) ∧ R (.ok (.ret .notImplemented)) s) :=
  .of_wp fun prog w A R s h => by obtain ⟨hp, g, d, tk, os⟩ := s; obtain ⟨hl, h⟩ := h; wp_walk using AutoSeq1.wpAny_loadPart' hl, wpAny_load hl; exact ⟨_, rfl, h⟩
theorem bool_floordiv_own (x C dx : Addr) (b : Bool) : Meets (Builtin.«int.__floordiv__» ⟨[.bool b, .ref x], []⟩) (fun _ R s => s.heap.get? x = some (PySem.W.instObj C dx) ∧ R (.ok (.ret .notImplemented)) s) :=
  .of_wp fun prog w A R s h => by obtain ⟨hp, g, d, tk, os⟩ := s; obtain ⟨hl, h⟩ := h; wp_walk using AutoSeq1.wpAny_loadPart' hl, wpAny_load hl; exact ⟨_, rfl, h⟩
theorem int_mod_own (x C dx : Addr) (b : Int) (u : Tok) : Meets (Builtin.«int.__mod__» ⟨[.int b u, .ref x], []⟩) (fun _ R s => s.heap.get? x = some (PySem.W.instObj C dx) ∧ R (.ok (.ret .notImplemented)) s) :=
  .of_wp fun prog w A R s h => by obtain ⟨hp, g, d, tk, os⟩ := s; obtain ⟨hl, h⟩ := h; wp_walk using AutoSeq1.wpAny_loadPart' hl, wpAny_load hl; exact ⟨_, rfl, h⟩
theorem bool_mod_own (x C dx : Addr) (b : Bool) : Meets (Builtin.«int.__mod__» ⟨[.bool b, .ref x], []⟩) (fun _ R s => s.heap.get? x = some (PySem.W.instObj C dx) ∧ R (.ok (.ret .notImplemented)) s) :=
  .of_wp fun prog w A R s h => by obtain ⟨hp, g, d, tk, os⟩ := s; obtain ⟨hl, h⟩ := h; wp_walk using AutoSeq1.wpAny_loadPart' hl, wpAny_load hl; exact ⟨_, rfl, h⟩
end PySem.SeqAt
namespace PySem.W
open PySem
def fillsB (T nm : String) : Option Bool := match fastLookup T (PySem.dunder nm), fastLookup T (dunderR nm) with
  | some fo, some ro => some ((fo.isSome && !isSeqSlot fo) || (ro.isSome && !isSeqSlot ro))
  | _, _ => none
theorem fillsB_get {T nm : String} {b : Bool} (K : Frag) (h : fillsB T nm = some b) : ∃ fo ro, findIn K (.type T) (PySem.dunder nm) = some fo ∧ findIn K (.type T) (dunderR nm) = some ro ∧ ((fo.isSome && !isSeqSlot fo) || (ro.isSome && !isSeqSlot ro)) = b := by
  unfold fillsB at h
  split at h
  · rename_i fo ro h1 h2
    exact ⟨fo, ro, h1, h2, Option.some.inj h⟩
  · cases h
def ops5 : List String := ["add", "sub", "mul", "floordiv", "mod"]
theorem sub_NoneType (K : Frag) (C : Addr) : subIn K (.type "NoneType") (.ref C) = some false := rfl
theorem fb_NoneType_add : fillsB "NoneType" "add" = some false := by decide +kernel
theorem fb_NoneType_sub : fillsB "NoneType" "sub" = some false := by decide +kernel
theorem fb_NoneType_mul : fillsB "NoneType" "mul" = some false := by decide +kernel
theorem fb_NoneType_floordiv : fillsB "NoneType" "floordiv" = some false := by decide +kernel
theorem fb_NoneType_mod : fillsB "NoneType" "mod" = some false := by decide +kernel
theorem sub_bool (K : Frag) (C : Addr) : subIn K (.type "bool") (.ref C) = some false := rfl
theorem fb_bool_add : fillsB "bool" "add" = some true := by decide +kernel
theorem fb_bool_sub : fillsB "bool" "sub" = some true := by decide +kernel
theorem fb_bool_mul : fillsB "bool" "mul" = some true := by decide +kernel
theorem fb_bool_floordiv : fillsB "bool" "floordiv" = some true := by decide +kernel
theorem fb_bool_mod : fillsB "bool" "mod" = some true := by decide +kernel
theorem sub_int (K : Frag) (C : Addr) : subIn K (.type "int") (.ref C) = some false := rfl
theorem fb_int_add : fillsB "int" "add" = some true := by decide +kernel
theorem fb_int_sub : fillsB "int" "sub" = some true := by decide +kernel
theorem fb_int_mul : fillsB "int" "mul" = some true := by decide +kernel
theorem fb_int_floordiv : fillsB "int" "floordiv" = some true := by decide +kernel
theorem fb_int_mod : fillsB "int" "mod" = some true := by decide +kernel
theorem sub_str (K : Frag) (C : Addr) : subIn K (.type "str") (.ref C) = some false := rfl
theorem fb_str_add : fillsB "str" "add" = some false := by decide +kernel
theorem fb_str_sub : fillsB "str" "sub" = some false := by decide +kernel
theorem fb_str_mul : fillsB "str" "mul" = some false := by decide +kernel
theorem fb_str_floordiv : fillsB "str" "floordiv" = some false := by decide +kernel
theorem fb_str_mod : fillsB "str" "mod" = some true := by decide +kernel
theorem sub_list (K : Frag) (C : Addr) : subIn K (.type "list") (.ref C) = some false := rfl
theorem fb_list_add : fillsB "list" "add" = some false := by decide +kernel
theorem fb_list_sub : fillsB "list" "sub" = some false := by decide +kernel
theorem fb_list_mul : fillsB "list" "mul" = some false := by decide +kernel
theorem fb_list_floordiv : fillsB "list" "floordiv" = some false := by decide +kernel
theorem fb_list_mod : fillsB "list" "mod" = some false := by decide +kernel
theorem sub_tuple (K : Frag) (C : Addr) : subIn K (.type "tuple") (.ref C) = some false := rfl
theorem fb_tuple_add : fillsB "tuple" "add" = some false := by decide +kernel
theorem fb_tuple_sub : fillsB "tuple" "sub" = some false := by decide +kernel
theorem fb_tuple_mul : fillsB "tuple" "mul" = some false := by decide +kernel
theorem fb_tuple_floordiv : fillsB "tuple" "floordiv" = some false := by decide +kernel
theorem fb_tuple_mod : fillsB "tuple" "mod" = some false := by decide +kernel
theorem sub_dict (K : Frag) (C : Addr) : subIn K (.type "dict") (.ref C) = some false := rfl
theorem fb_dict_add : fillsB "dict" "add" = some false := by decide +kernel
theorem fb_dict_sub : fillsB "dict" "sub" = some false := by decide +kernel
theorem fb_dict_mul : fillsB "dict" "mul" = some false := by decide +kernel
theorem fb_dict_floordiv : fillsB "dict" "floordiv" = some false := by decide +kernel
theorem fb_dict_mod : fillsB "dict" "mod" = some false := by decide +kernel
theorem dn_add : PySem.dunder "add" = ("__add__" : Str) := by decide +kernel
theorem dr_add : dunderR "add" = ("__radd__" : Str) := by decide +kernel
theorem dn_sub : PySem.dunder "sub" = ("__sub__" : Str) := by decide +kernel
theorem dr_sub : dunderR "sub" = ("__rsub__" : Str) := by decide +kernel
theorem dn_mul : PySem.dunder "mul" = ("__mul__" : Str) := by decide +kernel
theorem dr_mul : dunderR "mul" = ("__rmul__" : Str) := by decide +kernel
theorem dn_floordiv : PySem.dunder "floordiv" = ("__floordiv__" : Str) := by decide +kernel
theorem dr_floordiv : dunderR "floordiv" = ("__rfloordiv__" : Str) := by decide +kernel
theorem dn_mod : PySem.dunder "mod" = ("__mod__" : Str) := by decide +kernel
theorem dr_mod : dunderR "mod" = ("__rmod__" : Str) := by decide +kernel
end PySem.W
namespace DL
open PySem L2 PySem.Spec PyProof.Rows PySem.SeqAt
/-- an own operator, seen from the left -/
structure BinL (c : Wd) (nm : String) (j : Nat) (C : Addr) (s : DSp2) : Prop where
  own : OwnD c C (PySem.dunder nm) j s
  sf : PySem.W.selfFirst c.K C = true
  rr : ∃ rc, PySem.W.findIn c.K (.ref C) (dunderR nm) = some rc ∧ (rc = none ∨ ∃ g : Addr, rc = some (.ref g))
/-- seen from the right -/
structure BinR (c : Wd) (nm : String) (j : Nat) (C : Addr) (s : DSp2) : Prop where
  own : OwnD c C (dunderR nm) j s
  sf : PySem.W.selfFirst c.K C = true
  ll : ∃ f : Addr, PySem.W.findIn c.K (.ref C) (PySem.dunder nm) = some (some (.ref f))
  bt : BtC c C
theorem BinL.mono {c : Wd} {nm : String} {j k : Nat} {C : Addr} {s : DSp2} (h : BinL c nm j C s) (l : j ≤ k) : BinL c nm k C s := ⟨h.own.mono l, h.sf, h.rr⟩
theorem BinR.mono {c : Wd} {nm : String} {j k : Nat} {C : Addr} {s : DSp2} (h : BinR c nm j C s) (l : j ≤ k) : BinR c nm k C s := ⟨h.own.mono l, h.sf, h.ll, h.bt⟩
theorem BinL.of {c : Wd} {nm : String} {j : Nat} {C g : Addr} {s : DSp2} {l r : Str} (e1 : PySem.dunder nm = l) (e2 : dunderR nm = r) (own : OwnD c C l j s) (sf : PySem.W.selfFirst c.K C = true) (hr : PySem.W.findIn c.K (.ref C) r = some (some (.ref g))) : BinL c nm j C s :=
  ⟨by rw [e1]; exact own, sf, _, by rw [e2]; exact hr, .inr ⟨_, rfl⟩⟩
theorem BinL.of0 {c : Wd} {nm : String} {j : Nat} {C : Addr} {s : DSp2} {l r : Str} (e1 : PySem.dunder nm = l) (e2 : dunderR nm = r) (own : OwnD c C l j s) (sf : PySem.W.selfFirst c.K C = true) (hr : PySem.W.findIn c.K (.ref C) r = some none) : BinL c nm j C s :=
  ⟨by rw [e1]; exact own, sf, _, by rw [e2]; exact hr, .inl rfl⟩
theorem BinR.of {c : Wd} {nm : String} {j : Nat} {C g : Addr} {s : DSp2} {l r : Str} (e1 : PySem.dunder nm = l) (e2 : dunderR nm = r) (own : OwnD c C r j s) (sf : PySem.W.selfFirst c.K C = true) (hl : PySem.W.findIn c.K (.ref C) l = some (some (.ref g))) (bt : BtC c C) : BinR c nm j C s :=
  ⟨by rw [e2]; exact own, sf, ⟨_, by rw [e1]; exact hl⟩, bt⟩
section
variable {X : Cx} {c : Fr} {W : WX} {N : List Str} {sc : Scope} {k j : Nat} {bb : Bool} {e a b : Expr} {es : List Expr} {pos p p2 : Pos} {r ra rb : DTE} {rs : DTA} {x : Str} {C : Addr} {s : DSp2} {tbl tb2 : List (Addr × DSp2)} {nm : String} {op : Operator}
theorem fb_any (hn : nm ∈ PySem.W.ops5) {T : String} (hT : T ∈ ["NoneType", "bool", "int", "str", "list", "tuple", "dict"]) : ∃ b, PySem.W.fillsB T nm = some b := by
  simp only [PySem.W.ops5, List.mem_cons, List.not_mem_nil, or_false] at hn hT
  rcases hn with rfl | rfl | rfl | rfl | rfl <;> rcases hT with rfl | rfl | rfl | rfl | rfl | rfl | rfl
  · exact ⟨_, PySem.W.fb_NoneType_add⟩
  · exact ⟨_, PySem.W.fb_bool_add⟩
  · exact ⟨_, PySem.W.fb_int_add⟩
  · exact ⟨_, PySem.W.fb_str_add⟩
  · exact ⟨_, PySem.W.fb_list_add⟩
  · exact ⟨_, PySem.W.fb_tuple_add⟩
  · exact ⟨_, PySem.W.fb_dict_add⟩
  · exact ⟨_, PySem.W.fb_NoneType_sub⟩
  · exact ⟨_, PySem.W.fb_bool_sub⟩
  · exact ⟨_, PySem.W.fb_int_sub⟩
  · exact ⟨_, PySem.W.fb_str_sub⟩
  · exact ⟨_, PySem.W.fb_list_sub⟩
  · exact ⟨_, PySem.W.fb_tuple_sub⟩
  · exact ⟨_, PySem.W.fb_dict_sub⟩
  · exact ⟨_, PySem.W.fb_NoneType_mul⟩
  · exact ⟨_, PySem.W.fb_bool_mul⟩
  · exact ⟨_, PySem.W.fb_int_mul⟩
  · exact ⟨_, PySem.W.fb_str_mul⟩
  · exact ⟨_, PySem.W.fb_list_mul⟩
  · exact ⟨_, PySem.W.fb_tuple_mul⟩
  · exact ⟨_, PySem.W.fb_dict_mul⟩
  · exact ⟨_, PySem.W.fb_NoneType_floordiv⟩
  · exact ⟨_, PySem.W.fb_bool_floordiv⟩
  · exact ⟨_, PySem.W.fb_int_floordiv⟩
  · exact ⟨_, PySem.W.fb_str_floordiv⟩
  · exact ⟨_, PySem.W.fb_list_floordiv⟩
  · exact ⟨_, PySem.W.fb_tuple_floordiv⟩
  · exact ⟨_, PySem.W.fb_dict_floordiv⟩
  · exact ⟨_, PySem.W.fb_NoneType_mod⟩
  · exact ⟨_, PySem.W.fb_bool_mod⟩
  · exact ⟨_, PySem.W.fb_int_mod⟩
  · exact ⟨_, PySem.W.fb_str_mod⟩
  · exact ⟨_, PySem.W.fb_list_mod⟩
  · exact ⟨_, PySem.W.fb_tuple_mod⟩
  · exact ⟨_, PySem.W.fb_dict_mod⟩
theorem fb_no (hn : nm ∈ PySem.W.ops5) {T : String} (hT : T ∈ ["NoneType", "list", "tuple", "dict"]) : PySem.W.fillsB T nm = some false := by
  simp only [PySem.W.ops5, List.mem_cons, List.not_mem_nil, or_false] at hn hT
  rcases hn with rfl | rfl | rfl | rfl | rfl <;> rcases hT with rfl | rfl | rfl | rfl
  · exact PySem.W.fb_NoneType_add
  · exact PySem.W.fb_list_add
  · exact PySem.W.fb_tuple_add
  · exact PySem.W.fb_dict_add
  · exact PySem.W.fb_NoneType_sub
  · exact PySem.W.fb_list_sub
  · exact PySem.W.fb_tuple_sub
  · exact PySem.W.fb_dict_sub
  · exact PySem.W.fb_NoneType_mul
  · exact PySem.W.fb_list_mul
  · exact PySem.W.fb_tuple_mul
  · exact PySem.W.fb_dict_mul
  · exact PySem.W.fb_NoneType_floordiv
  · exact PySem.W.fb_list_floordiv
  · exact PySem.W.fb_tuple_floordiv
  · exact PySem.W.fb_dict_floordiv
  · exact PySem.W.fb_NoneType_mod
  · exact PySem.W.fb_list_mod
  · exact PySem.W.fb_tuple_mod
  · exact PySem.W.fb_dict_mod
theorem fb_str (hn : nm ∈ PySem.W.ops5) (hm : (nm == "mod") = false) : PySem.W.fillsB "str" nm = some false := by
  simp only [PySem.W.ops5, List.mem_cons, List.not_mem_nil, or_false] at hn
  rcases hn with rfl | rfl | rfl | rfl | rfl
  · exact PySem.W.fb_str_add
  · exact PySem.W.fb_str_sub
  · exact PySem.W.fb_str_mul
  · exact PySem.W.fb_str_floordiv
  · exact absurd hm (by decide)
theorem sub_any (K : PySem.W.Frag) {T : String} (hT : T ∈ ["NoneType", "bool", "int", "str", "list", "tuple", "dict"]) : PySem.W.subIn K (.type T) (.ref C) = some false := by
  simp only [List.mem_cons, List.not_mem_nil, or_false] at hT
  rcases hT with rfl | rfl | rfl | rfl | rfl | rfl | rfl <;> rfl
/-- an int or a bool declines -/
theorem dec_int (hn : nm ∈ PySem.W.ops5) {M : Program} {w : World} {A : Around} {E : Value → Shared → Prop} {st : Shared} {xa dx : Addr} (hx : st.heap.get? xa = some (PySem.W.instObj C dx)) {i : Int} {t : Tok} {Q : Option Value → Shared → Prop} (q : Q none st) : wpAny (model M w) A (tryMethod (.int i t) (PySem.dunder nm) (.ref xa)) Q E st := by
  simp only [PySem.W.ops5, List.mem_cons, List.not_mem_nil, or_false] at hn
  rcases hn with rfl | rfl | rfl | rfl | rfl
  · exact @wpAny_tryMethod_declines (model M w) A E st (.int i t) (.ref xa) "int" (PySem.dunder "add") "int.__add__" Q (typeIs_int st i t) PySem.F.slot_int_add (call_meets PySem.F.slot_int_add (typeIs_int st i t) PySem.F.entry_int_add (PySem.F.args_int_add_2 _ _) (int_add_own xa C dx i t) ⟨hx, rfl, q⟩)
  · exact @wpAny_tryMethod_declines (model M w) A E st (.int i t) (.ref xa) "int" (PySem.dunder "sub") "int.__sub__" Q (typeIs_int st i t) PySem.F.slot_int_sub (call_meets PySem.F.slot_int_sub (typeIs_int st i t) PySem.F.entry_int_sub (PySem.F.args_int_sub_2 _ _) (int_sub_own xa C dx i t) ⟨hx, rfl, q⟩)
  · exact @wpAny_tryMethod_declines (model M w) A E st (.int i t) (.ref xa) "int" (PySem.dunder "mul") "int.__mul__" Q (typeIs_int st i t) PySem.F.slot_int_mul (call_meets PySem.F.slot_int_mul (typeIs_int st i t) PySem.F.entry_int_mul (PySem.F.args_int_mul_2 _ _) (int_mul_own xa C dx i t) ⟨hx, rfl, q⟩)
  · exact @wpAny_tryMethod_declines (model M w) A E st (.int i t) (.ref xa) "int" (PySem.dunder "floordiv") "int.__floordiv__" Q (typeIs_int st i t) PySem.F.slot_int_floordiv (call_meets PySem.F.slot_int_floordiv (typeIs_int st i t) PySem.F.entry_int_floordiv (PySem.F.args_int_floordiv_2 _ _) (int_floordiv_own xa C dx i t) ⟨hx, rfl, q⟩)
  · exact @wpAny_tryMethod_declines (model M w) A E st (.int i t) (.ref xa) "int" (PySem.dunder "mod") "int.__mod__" Q (typeIs_int st i t) PySem.F.slot_int_mod (call_meets PySem.F.slot_int_mod (typeIs_int st i t) PySem.F.entry_int_mod (PySem.F.args_int_mod_2 _ _) (int_mod_own xa C dx i t) ⟨hx, rfl, q⟩)
theorem dec_bool (hn : nm ∈ PySem.W.ops5) {M : Program} {w : World} {A : Around} {E : Value → Shared → Prop} {st : Shared} {xa dx : Addr} (hx : st.heap.get? xa = some (PySem.W.instObj C dx)) {i : Bool} {Q : Option Value → Shared → Prop} (q : Q none st) : wpAny (model M w) A (tryMethod (.bool i) (PySem.dunder nm) (.ref xa)) Q E st := by
  simp only [PySem.W.ops5, List.mem_cons, List.not_mem_nil, or_false] at hn
  rcases hn with rfl | rfl | rfl | rfl | rfl
  · exact @wpAny_tryMethod_declines (model M w) A E st (.bool i) (.ref xa) "bool" (PySem.dunder "add") "int.__add__" Q (show st.TypeIs (.bool i) "bool" from rfl) PySem.F.slot_bool_add (call_meets PySem.F.slot_bool_add rfl PySem.F.entry_int_add (PySem.F.args_int_add_2 _ _) (bool_add_own xa C dx i) ⟨hx, rfl, q⟩)
  · exact @wpAny_tryMethod_declines (model M w) A E st (.bool i) (.ref xa) "bool" (PySem.dunder "sub") "int.__sub__" Q (show st.TypeIs (.bool i) "bool" from rfl) PySem.F.slot_bool_sub (call_meets PySem.F.slot_bool_sub rfl PySem.F.entry_int_sub (PySem.F.args_int_sub_2 _ _) (bool_sub_own xa C dx i) ⟨hx, rfl, q⟩)
  · exact @wpAny_tryMethod_declines (model M w) A E st (.bool i) (.ref xa) "bool" (PySem.dunder "mul") "int.__mul__" Q (show st.TypeIs (.bool i) "bool" from rfl) PySem.F.slot_bool_mul (call_meets PySem.F.slot_bool_mul rfl PySem.F.entry_int_mul (PySem.F.args_int_mul_2 _ _) (bool_mul_own xa C dx i) ⟨hx, rfl, q⟩)
  · exact @wpAny_tryMethod_declines (model M w) A E st (.bool i) (.ref xa) "bool" (PySem.dunder "floordiv") "int.__floordiv__" Q (show st.TypeIs (.bool i) "bool" from rfl) PySem.F.slot_bool_floordiv (call_meets PySem.F.slot_bool_floordiv rfl PySem.F.entry_int_floordiv (PySem.F.args_int_floordiv_2 _ _) (bool_floordiv_own xa C dx i) ⟨hx, rfl, q⟩)
  · exact @wpAny_tryMethod_declines (model M w) A E st (.bool i) (.ref xa) "bool" (PySem.dunder "mod") "int.__mod__" Q (show st.TypeIs (.bool i) "bool" from rfl) PySem.F.slot_bool_mod (call_meets PySem.F.slot_bool_mod rfl PySem.F.entry_int_mod (PySem.F.args_int_mod_2 _ _) (bool_mod_own xa C dx i) ⟨hx, rfl, q⟩)
/-- the right side of an own operator: of the same class, or plain -/
def okR (C : Addr) : D → Bool
  | .ins C' _ => decide (C' = C)
  | d => plain d 40
def okL (nm : String) : D → Bool
  | .str s => !(nm == "mod")
  | d => plain d 40
theorem plain_ty {w : Wd} {d : D} (h : plain d 40 = true) : tyD w d fun t => ∃ T, t = .type T ∧ T ∈ ["NoneType", "bool", "int", "str", "list", "tuple", "dict"] := by
  cases d <;> first | exact ⟨_, rfl, by simp⟩ | (simp [plain] at h; done)
def oBL (C : Addr) (s : DSp2) : DOpE := fun x y z P E => match x with
  | .ins C' fs => C' = C ∧ okR C y = true ∧ s [.ins C' fs, y] [] z P E
  | _ => False
def oBR (nm : String) (C : Addr) (s : DSp2) : DOpE := fun x y z P E => match y with
  | .ins C' fs => C' = C ∧ okL nm x = true ∧ s [.ins C' fs, x] [] z P E
  | _ => False
theorem bin_left (ho : op.info.2 = nm) (hn : nm ∈ PySem.W.ops5) (B : XB X c W N sc k bb) (hE : BinL c.toWd nm j C s) (hj : j ≤ k) : OpE X c W (binaryOp op) (oBL C s) := by
  intro pins st σ H u v x y dx dy G δ P E Q I r1 r2 R p1 p2 q kp ke
  cases dx with
  | ins C' fs =>
    obtain ⟨rfl, ok, hs⟩ := q
    obtain ⟨xa, dd, vs, rfl, hG⟩ := rep_ins p1
    cases (show x = Value.ref xa from r1)
    obtain ⟨od, J⟩ := insAt I (R.le _ _ hG)
    obtain ⟨f, F, f1, f2⟩ := hE.own.ex
    obtain ⟨rc, g1, g2⟩ := hE.rr
    have go : wpAny (model X.prog X.w) X.A (call (.ref f) [.ref xa, y]) (PySem.W.CmpBack fun v s' => ∃ v', some v = some v' ∧ EP X pins σ Q v' s') X.xe st :=
      wpAny_mono (runD (ks := []) (ws := []) (zs := []) (vs := [.ref xa, v]) (us := [.ref xa, y]) B F (B.room.mono hj) B.gd rfl I (.cons rfl (.cons r2 .nil)) .nil rfl R (.cons p1 (.cons p2 .nil)) .nil hs kp ke) (fun _ _ z => noNI z fun z => ⟨_, rfl, z⟩) fun _ _ z => z
    refine PySem.W.bin_of1 ?_
    rw [ho]
    cases dy with
    | ins C2 fs2 =>
      have e : C2 = C' := by simpa [okR] using ok
      subst e
      obtain ⟨ya, dd2, vs2, rfl, hG2⟩ := rep_ins p2
      cases (show y = Value.ref ya from r2)
      obtain ⟨oe, J2⟩ := insAt I (R.le _ _ hG2)
      exact PySem.W.b1S I.kIn J J2 (by rw [B.hK]; exact hE.sf) (by rw [B.hK]; exact f1) (by rw [B.hK]; exact f2) go
    | _ =>
      obtain ⟨t, ⟨T, rfl, hT⟩, L2⟩ := looksTy B I R.le p2 r2 (plain_ty (w := c.toWd) ok)
      obtain ⟨b, hb⟩ := fb_any hn hT
      obtain ⟨fo, ro, h1, h2, _⟩ := PySem.W.fillsB_get X.K hb
      exact PySem.W.b1L I.kIn J L2 (by rw [B.hK]; exact hE.sf) (by rw [B.hK]; exact f1) (by rw [B.hK]; exact f2) (by rw [B.hK]; exact g1) g2 h1 h2 (sub_any _ hT) go
  | _ => exact q.elim
theorem bin_right (ho : op.info.2 = nm) (hn : nm ∈ PySem.W.ops5) (B : XB X c W N sc k bb) (hE : BinR c.toWd nm j C s) (hj : j ≤ k) : OpE X c W (binaryOp op) (oBR nm C s) := by
  intro pins st σ H u v x y dx dy G δ P E Q I r1 r2 R p1 p2 q kp ke
  cases dy with
  | ins C' fs =>
    obtain ⟨rfl, ok, hs⟩ := q
    obtain ⟨xa, dd, vs, rfl, hG⟩ := rep_ins p2
    cases (show y = Value.ref xa from r2)
    obtain ⟨od, J⟩ := insAt I (R.le _ _ hG)
    obtain ⟨f, F, f1, f2⟩ := hE.own.ex
    obtain ⟨g, g1⟩ := hE.ll
    have go : wpAny (model X.prog X.w) X.A (call (.ref f) [.ref xa, x]) (PySem.W.CmpBack fun v s' => ∃ v', some v = some v' ∧ EP X pins σ Q v' s') X.xe st :=
      wpAny_mono (runD (ks := []) (ws := []) (zs := []) (vs := [.ref xa, u]) (us := [.ref xa, x]) B F (B.room.mono hj) B.gd rfl I (.cons rfl (.cons r1 .nil)) .nil rfl R (.cons p2 (.cons p1 .nil)) .nil hs kp ke) (fun _ _ z => noNI z fun z => ⟨_, rfl, z⟩) fun _ _ z => z
    refine PySem.W.bin_of1 ?_
    rw [ho]
    have fin : ∀ {T : String} {b : Bool}, T ∈ ["NoneType", "bool", "int", "str", "list", "tuple", "dict"] → PySem.W.Looks (model X.prog X.w) st.heap (typeOf x) (.type T) → PySem.W.fillsB T nm = some b → (b = true → ∀ Q' : Option Value → Shared → Prop, Q' none st → wpAny (model X.prog X.w) X.A (tryMethod x (PySem.dunder nm) (.ref xa)) Q' X.xe st) →
        wpAny (model X.prog X.w) X.A (binaryOp1 nm x (.ref xa)) (fun r s' => ∃ v, r = some v ∧ EP X pins σ Q v s') X.xe st := fun {T b} hT L1 hb dec => by
      obtain ⟨fo, ro, h1, h2, hbb⟩ := PySem.W.fillsB_get X.K hb
      exact PySem.W.b1R I.kIn J L1 (by rw [B.hK]; exact hE.sf) (by rw [B.hK]; exact g1) (by rw [B.hK]; exact f1) (by rw [B.hK]; exact f2) h1 h2 (by rw [B.hK]; exact hE.bt.bt _ hT) (fun e => dec (hbb ▸ e)) go
    have hob := J.at_
    have ty : ∀ {T : String}, T ∈ ["NoneType", "bool", "int", "str", "list", "tuple", "dict"] → tyD c.toWd dx (fun t => t = .type T) → PySem.W.Looks (model X.prog X.w) st.heap (typeOf x) (.type T) := fun {T} _ h => by
      obtain ⟨t, rfl, L1⟩ := looksTy B I R.le p1 r1 h
      exact L1
    cases dx with
    | non => exact fin (by simp) (ty (T := "NoneType") (by simp) rfl) (fb_no hn (by simp)) fun h => by cases h
    | lst _ => exact fin (by simp) (ty (T := "list") (by simp) rfl) (fb_no hn (by simp)) fun h => by cases h
    | tup _ => exact fin (by simp) (ty (T := "tuple") (by simp) rfl) (fb_no hn (by simp)) fun h => by cases h
    | dct _ => exact fin (by simp) (ty (T := "dict") (by simp) rfl) (fb_no hn (by simp)) fun h => by cases h
    | str _ => exact fin (by simp) (ty (T := "str") (by simp) rfl) (fb_str hn (by simpa [okL] using ok)) fun h => by cases h
    | int i =>
      obtain ⟨b, hb⟩ := fb_any (T := "int") hn (by simp)
      cases p1
      obtain ⟨t, rfl⟩ := (show ∃ t, x = Value.int i t from r1)
      exact fin (by simp) (ty (T := "int") (by simp) rfl) hb fun _ Q' q' => dec_int hn hob q'
    | bl i =>
      obtain ⟨b, hb⟩ := fb_any (T := "bool") hn (by simp)
      cases p1
      cases (show x = Value.bool i from r1)
      exact fin (by simp) (ty (T := "bool") (by simp) rfl) hb fun _ Q' q' => dec_bool hn hob q'
    | _ => simp [okL, plain] at ok
  | _ => exact q.elim
/-- any operator -/
def oBinA (nm : String) (tl tr : List (Addr × DSp2)) (o : DOp) : DOpE := fun x y z P E => match x with
  | .ins C fs => okR C y = true ∧ dpt tl C fun s => s [.ins C fs, y] [] z P E
  | x => match y with
    | .ins C fs => okL nm x = true ∧ dpt tr C fun s => s [.ins C fs, x] [] z P E
    | y => o x y fun d => P d z
theorem op_binA {o : DOp} (ho : op.info.2 = nm) (hn : nm ∈ PySem.W.ops5) (B : XB X c W N sc k bb) (hL : AllT (BinL c.toWd nm j) tbl) (hR : AllT (BinR c.toWd nm j) tb2) (hj : j ≤ k) (hO : OpD X c (binaryOp op) o) : OpE X c W (binaryOp op) (oBinA nm tbl tb2 o) := by
  intro pins st σ H u v x y dx dy G δ P E Q I r1 r2 R p1 p2 q kp ke
  by_cases h1 : ∃ C fs, dx = .ins C fs
  · obtain ⟨C, fs, rfl⟩ := h1
    obtain ⟨s, hs, hq⟩ := hL.get q.2
    exact bin_left ho hn B hs hj pins st σ H u v x y _ dy G δ P E Q I r1 r2 R p1 p2 ⟨rfl, q.1, hq⟩ kp ke
  · by_cases h2 : ∃ C fs, dy = .ins C fs
    · obtain ⟨C, fs, rfl⟩ := h2
      have q' : okL nm dx = true ∧ dpt tb2 C fun s => s [.ins C fs, dx] [] δ.z P E := by
        cases dx <;> first | exact q | exact absurd ⟨_, _, rfl⟩ h1
      obtain ⟨s, hs, hq⟩ := hR.get q'.2
      exact bin_right ho hn B hs hj pins st σ H u v x y dx _ G δ P E Q I r1 r2 R p1 p2 ⟨rfl, q'.1, hq⟩ kp ke
    · have q' : o dx dy fun d => P d δ.z := by
        cases dx <;> first | exact absurd ⟨_, _, rfl⟩ h1 | (cases dy <;> first | exact absurd ⟨_, _, rfl⟩ h2 | exact q)
      exact opE_of hO pins st σ H u v x y dx dy G δ P E Q I r1 r2 R p1 p2 q' kp ke
end
section
variable {i j : Int} {nm : String} {o : DOp} {PZ : D → Z → Prop} {E : Er → Z → Prop} {z : Z} {tbl tb2 : List (Addr × DSp2)} {x y : D} {C : Addr} {fs : List (Str × D)}
theorem oBinA_ii : oBinA nm tbl tb2 o (.int i) (.int j) z PZ E ↔ o (.int i) (.int j) fun d => PZ d z := Iff.rfl
theorem oBinA_in : oBinA nm tbl tb2 o (.ins C fs) y z PZ E ↔ okR C y = true ∧ dpt tbl C fun s => s [.ins C fs, y] [] z PZ E := Iff.rfl
theorem oBinA_ri : oBinA nm tbl tb2 o (.int i) (.ins C fs) z PZ E ↔ dpt tb2 C fun s => s [.ins C fs, .int i] [] z PZ E := ⟨fun h => h.2, fun h => ⟨rfl, h⟩⟩
end
end DL

/-! EMH: x != y, y an instance, x plain. -/
namespace PySem.SeqAt
open MeetsSeq
theorem none_ne_own (x C dx : Addr) : Meets (Builtin.«NoneType.__ne__» ⟨[.none, .ref x], []⟩) (fun _ R s => s.heap.get? x = some (PySem.W.instObj C dx) ∧ R (.ok (.ret .notImplemented)) s) :=
  .of_wp fun prog w A R s h => by obtain ⟨hp, g, d, tk, os⟩ := s; obtain ⟨hl, h⟩ := h; wp_walk using AutoSeq1.wpAny_loadPart' hl, wpAny_load hl; exact ⟨_, rfl, h⟩
theorem int_ne_own (x C dx : Addr) (b : Int) (u : Tok) : Meets (Builtin.«int.__ne__» ⟨[.int b u, .ref x], []⟩) (fun _ R s => s.heap.get? x = some (PySem.W.instObj C dx) ∧ R (.ok (.ret .notImplemented)) s) :=
  .of_wp fun prog w A R s h => by obtain ⟨hp, g, d, tk, os⟩ := s; obtain ⟨hl, h⟩ := h; wp_walk using AutoSeq1.wpAny_loadPart' hl, wpAny_load hl; exact ⟨_, rfl, h⟩
theorem bool_ne_own (x C dx : Addr) (b : Bool) : Meets (Builtin.«int.__ne__» ⟨[.bool b, .ref x], []⟩) (fun _ R s => s.heap.get? x = some (PySem.W.instObj C dx) ∧ R (.ok (.ret .notImplemented)) s) :=
  .of_wp fun prog w A R s h => by obtain ⟨hp, g, d, tk, os⟩ := s; obtain ⟨hl, h⟩ := h; wp_walk using AutoSeq1.wpAny_loadPart' hl, wpAny_load hl; exact ⟨_, rfl, h⟩
theorem str_ne_own (x C dx : Addr) (b : Str) (u : Tok) : Meets (Builtin.«str.__ne__» ⟨[.str b u, .ref x], []⟩) (fun _ R s => s.heap.get? x = some (PySem.W.instObj C dx) ∧ R (.ok (.ret .notImplemented)) s) :=
  .of_wp fun prog w A R s h => by obtain ⟨hp, g, d, tk, os⟩ := s; obtain ⟨hl, h⟩ := h; wp_walk using AutoSeq1.wpAny_loadPart' hl, wpAny_load hl; exact ⟨_, rfl, h⟩
theorem list_ne_own {K : PySem.W.Frag} {P : Program} {w : World} (x C dx l : Addr) (hs : PySem.W.mroIn K C (.type "list") = some false) :
    MeetsIn P w (Builtin.«list.__ne__» ⟨[.ref l, .ref x], []⟩) (fun _ R s => K.In s.heap ∧ s.heap.get? x = some (PySem.W.instObj C dx) ∧ R (.ok (.ret .notImplemented)) s) := by
  intro A R s h
  obtain ⟨X, hl, h⟩ := h
  have hx := PySem.W.looks_mroIn (M := model P w) X hs
  obtain ⟨hp, g, d, tk, os⟩ := s
  wp_walk using AutoSeq1.wpAny_loadPart' hl, wpAny_load hl
  refine hx.here ?_
  wp_walk
  exact h
theorem tuple_ne_own {K : PySem.W.Frag} {P : Program} {w : World} (x C dx l : Addr) (hs : PySem.W.mroIn K C (.type "tuple") = some false) :
    MeetsIn P w (Builtin.«tuple.__ne__» ⟨[.ref l, .ref x], []⟩) (fun _ R s => K.In s.heap ∧ s.heap.get? x = some (PySem.W.instObj C dx) ∧ R (.ok (.ret .notImplemented)) s) := by
  intro A R s h
  obtain ⟨X, hl, h⟩ := h
  have hx := PySem.W.looks_mroIn (M := model P w) X hs
  obtain ⟨hp, g, d, tk, os⟩ := s
  wp_walk using AutoSeq1.wpAny_loadPart' hl, wpAny_load hl
  refine hx.here ?_
  wp_walk
  exact h
theorem dict_ne_own {K : PySem.W.Frag} {P : Program} {w : World} (x C dx a : Addr) (es : Array DictEntry) (ep : Nat) (dd : Option Addr) (sl : Array (Option Value)) (hs : PySem.W.mroIn K C (.type "dict") = some false) :
    MeetsIn P w (Builtin.«dict.__ne__» ⟨[.ref a, .ref x], []⟩) (fun _ R s => K.In s.heap ∧ s.heap.get? x = some (PySem.W.instObj C dx) ∧ s.heap.get? a = some { cls := .type "dict", dict := dd, data := .dict es ep, slots := sl } ∧ R (.ok (.ret .notImplemented)) s) := by
  intro A R s h
  obtain ⟨X, hl, ha, h⟩ := h
  have hx := PySem.W.looks_mroIn (M := model P w) X hs
  obtain ⟨hp, g, d, tk, os⟩ := s
  wp_walk using AutoSeq1.wpAny_loadPart' hl, wpAny_load hl, AutoSeq1.wpAny_loadPart' ha, wpAny_load ha
  refine hx.here ?_
  wp_walk
  exact h
end PySem.SeqAt
namespace DL
open PySem L2 PySem.Spec PyProof.Rows PySem.SeqAt
section
variable {X : Cx} {c : Fr} {W : WX} {N : List Str} {sc : Scope} {k j : Nat} {bb : Bool} {e a b : Expr} {es : List Expr} {pos p p2 : Pos} {r ra rb : DTE} {rs : DTA} {x : Str} {C : Addr} {s : DSp2} {tbl tb2 : List (Addr × DSp2)}
theorem declines_ne (B : XB X c W N sc k bb) (hE : BtC c.toWd C) {A : Around} (hu : A.units < cLine) {pins : List (Addr × Obj)} {st : Shared} {σ : L2.St} {G H : Hp} (I : Inv X pins σ H st) (le : Le G H) {y : V} {v : Value} {dy : D} (py : plain dy 40 = true) (ry : Rep c.K c.p0 G y dy) (rv : RelV y v) {xa dx : Addr} {vs : List (Str × V)} (hx : H xa = some (.ins C dx vs)) :
    v ≠ .ref xa ∧ ∃ T, PySem.W.mroIn c.K C (.type T) = some false ∧ PySem.W.Looks (model X.prog X.w) st.heap (typeOf v) (.type T) ∧ oneThing? .NotEq v (.ref xa) = none ∧ ∀ E, wpAny (model X.prog X.w) A (tryCompare v (cmpInfo .NotEq).2.1 (.ref xa)) (fun r s' => r = none ∧ s' = st) E st := by
  obtain ⟨od, J⟩ := insAt I hx
  have hob := J.at_
  have one : ∀ {z : Value}, (∀ f t, z ≠ .float f t) → True := fun _ => trivial
  have lk : ∀ {z : Value} {T : String}, st.TypeIs z T → PySem.W.Looks (model X.prog X.w) st.heap (typeOf z) (.type T) := fun {z T} h => by
    intro A Q E s' kk q
    refine wpAny_typeOf ?_ q
    cases z with
    | ref a => obtain ⟨o, h1, h2⟩ := h; exact ⟨o, kk _ _ h1, h2⟩
    | _ => exact h
  cases ry with
  | non =>
    cases (show v = Value.none from rv)
    exact ⟨by simp, "NoneType", hE.bt _ (by simp), lk rfl, rfl, fun E => wpAny_tryCompare_declines (show st.TypeIs .none "NoneType" from rfl) F.slot_NoneType_ne (call_meets F.slot_NoneType_ne rfl F.entry_NoneType_ne (F.args_NoneType_ne_2 _ _) (none_ne_own xa C dx) ⟨hob, rfl, rfl, rfl⟩)⟩
  | bl b =>
    cases (show v = Value.bool b from rv)
    exact ⟨by simp, "bool", hE.bt _ (by simp), lk rfl, rfl, fun E => wpAny_tryCompare_declines (show st.TypeIs (.bool b) "bool" from rfl) F.slot_bool_ne (call_meets F.slot_bool_ne rfl F.entry_int_ne (F.args_int_ne_2 _ _) (bool_ne_own xa C dx b) ⟨hob, rfl, rfl, rfl⟩)⟩
  | int i =>
    obtain ⟨t, rfl⟩ := (show ∃ t, v = Value.int i t from rv)
    exact ⟨by simp, "int", hE.bt _ (by simp), lk (typeIs_int st i t), rfl, fun E => wpAny_tryCompare_declines (typeIs_int st i t) F.slot_int_ne (call_meets F.slot_int_ne (typeIs_int st i t) F.entry_int_ne (F.args_int_ne_2 _ _) (int_ne_own xa C dx i t) ⟨hob, rfl, rfl, rfl⟩)⟩
  | str y =>
    obtain ⟨t, rfl⟩ := (show ∃ t, v = Value.str y t from rv)
    exact ⟨by simp, "str", hE.bt _ (by simp), lk (typeIs_str st y t), rfl, fun E => wpAny_tryCompare_declines (typeIs_str st y t) F.slot_str_ne (call_meets F.slot_str_ne (typeIs_str st y t) F.entry_str_ne (F.args_str_ne_2 _ _) (str_ne_own xa C dx y t) ⟨hob, rfl, rfl, rfl⟩)⟩
  | @lst l ws zs h1 r1 =>
    cases (show v = Value.ref l from rv)
    obtain ⟨us, v1, p1, _⟩ := I.list (le_l le (.inl h1))
    have hT : st.TypeIs (.ref l) "list" := p1.isList.typeIs
    refine ⟨fun z => ?_, "list", hE.bt _ (by simp), lk hT, oneThing_ref .., fun E => wpAny_tryCompare_declines hT F.slot_list_ne (call_meetsIn F.slot_list_ne hT F.entry_list_ne (F.args_list_ne_2 _ _) (list_ne_own (K := c.K) xa C dx l (hE.bt _ (by simp))) ⟨by rw [← B.hK]; exact I.kIn, hob, rfl, rfl, rfl⟩)⟩
    obtain ⟨o, h1, h2⟩ := hT
    cases z
    rw [hob] at h1; cases h1; cases h2
  | @tup l ws zs h1 r1 =>
    cases (show v = Value.ref l from rv)
    obtain ⟨us, v1, p1, _⟩ := I.tuple (le_t le (by rw [B.hK]; exact h1))
    have hT : st.TypeIs (.ref l) "tuple" := p1.typeIs
    refine ⟨fun z => ?_, "tuple", hE.bt _ (by simp), lk hT, oneThing_ref .., fun E => wpAny_tryCompare_declines hT F.slot_tuple_ne (call_meetsIn F.slot_tuple_ne hT F.entry_tuple_ne (F.args_tuple_ne_2 _ _) (tuple_ne_own (K := c.K) xa C dx l (hE.bt _ (by simp))) ⟨by rw [← B.hK]; exact I.kIn, hob, rfl, rfl, rfl⟩)⟩
    obtain ⟨o, h1, h2⟩ := hT
    cases z
    rw [hob] at h1; cases h1; cases h2
  | @dct l ws zs h1 r1 =>
    cases (show v = Value.ref l from rv)
    obtain ⟨es, ep, dd, sl, ho⟩ := (dic_of I le h1).2.2
    have hT : st.TypeIs (.ref l) "dict" := ⟨_, ho, rfl⟩
    refine ⟨fun z => ?_, "dict", hE.bt _ (by simp), lk hT, oneThing_ref .., fun E => wpAny_tryCompare_declines hT F.slot_dict_ne (call_meetsIn F.slot_dict_ne hT F.entry_dict_ne (F.args_dict_ne_2 _ _) (dict_ne_own (K := c.K) xa C dx l es ep dd sl (hE.bt _ (by simp))) ⟨by rw [← B.hK]; exact I.kIn, hob, ho, rfl, rfl, rfl⟩)⟩
    cases z
    rw [hob] at ho; cases ho
  | ref _ => simp [plain] at py
  | ty _ => simp [plain] at py
  | pen => simp [plain] at py
  | ins _ _ => simp [plain] at py
  | obj _ => simp [plain] at py
  | exc0 _ => simp [plain] at py
  | exc _ _ _ => simp [plain] at py




/-- x != y, x plain, y an instance of C -/
def oNeR (C : Addr) (s : DSp2) : DOpE := fun x y z P E => match y with
  | .ins C' fs => C' = C ∧ plain x 40 = true ∧ s [.ins C' fs, x] [] z (fun d z' => ∃ b, d = .bl b ∧ P (.bl (!b)) z') E
  | _ => False
theorem ne_right (B : XB X c W N sc (k + 1) bb) (hE : OwnD c.toWd C "__eq__" j s) (hN : NeC c.toWd C) (hT : BtC c.toWd C) (hj : j ≤ k) : OpE X c W (compareOp .NotEq) (oNeR C s) := by
  intro pins st σ H u v x y dx dy G δ P E Q I r1 r2 R p1 p2 q kp ke
  cases dy with
  | ins C' fs =>
    obtain ⟨rfl, px, hs⟩ := q
    obtain ⟨xa, dd, vs, rfl, hG⟩ := rep_ins p2
    cases (show y = Value.ref xa from r2)
    obtain ⟨hne, T, hm, ht, h1t, dec⟩ := declines_ne B hT (A := X.A) (by have := units1 B; omega) I R.le px p1 r1 (R.le _ _ hG)
    obtain ⟨od, J⟩ := insAt I (R.le _ _ hG)
    obtain ⟨f, F, h1, h2⟩ := hE.ex
    show wpAny _ _ (richCompare .NotEq x (.ref xa)) _ _ _
    refine rc_rightO (op := .NotEq) (by have := units1 B; omega) I.kIn J ht (by rw [B.hK]; exact hm) h1t (dec _) (try_ne I.kIn J (by rw [B.hK]; exact h1) (by rw [B.hK]; exact h2) (by rw [B.hK]; exact hN.ne) (by rw [B.hK]; exact hN.ob) (by have := units1 B; omega)
      (wpAny_mono (runD (A := X.A.in1) (ks := []) (ws := []) (zs := []) (vs := [.ref xa, u]) (us := [.ref xa, x]) (Q := fun w H' => ∃ b, w = .bl b ∧ Q (.bl (!b)) H') B F (B.room.in1.mono hj) B.gd rfl I (.cons rfl (.cons r1 .nil)) .nil rfl R (.cons p2 (.cons p1 .nil)) .nil hs (fun d z' w G' H' ⟨b, e, hp⟩ L R' rr => ?_) ke) (fun w s' ⟨wv, H', I', rw', b, e, hq⟩ => ?_) fun _ _ z => z))
    · subst e
      cases rr
      exact ⟨b, rfl, kp _ z' _ G' H' hp L R' (.bl _)⟩
    · subst e
      cases (show w = Value.bool b from rw')
      exact ⟨b, rfl, .bl (!b), H', I', rfl, hq⟩
  | _ => exact q.elim
def oNeB (w : Wd) (tbl : List (Addr × DSp2)) : DOpE := fun x y z P E => match x with
  | .ins C fs => notF w C y ∧ dpt tbl C fun s => s [.ins C fs, y] [] z (fun d z' => ∃ b, d = .bl b ∧ P (.bl (!b)) z') E
  | x => match y with
    | .ins C fs => plain x 40 = true ∧ dpt tbl C fun s => s [.ins C fs, x] [] z (fun d z' => ∃ b, d = .bl b ∧ P (.bl (!b)) z') E
    | y => oNe x y fun d => P d z
theorem op_neB (B : XB X c W N sc (k + 1) bb) (hT : AllT (fun C s => EqD c.toWd j C s) tbl) (hj : j ≤ k) : OpE X c W (compareOp .NotEq) (oNeB c.toWd tbl) := by
  intro pins st σ H u v x y dx dy G δ P E Q I r1 r2 R p1 p2 q kp ke
  by_cases h1 : ∃ C fs, dx = .ins C fs
  · obtain ⟨C, fs, rfl⟩ := h1
    obtain ⟨s, hs, hq⟩ := hT.get q.2
    exact ne_left B hs.eq hs.ne hj pins st σ H u v x y _ dy G δ P E Q I r1 r2 R p1 p2 ⟨rfl, q.1, hq⟩ kp ke
  · by_cases h2 : ∃ C fs, dy = .ins C fs
    · obtain ⟨C, fs, rfl⟩ := h2
      have q' : plain dx 40 = true ∧ dpt tbl C fun s => s [.ins C fs, dx] [] δ.z (fun d z' => ∃ b, d = .bl b ∧ P (.bl (!b)) z') E := by
        cases dx <;> first | exact q | exact absurd ⟨_, _, rfl⟩ h1
      obtain ⟨s, hs, hq⟩ := hT.get q'.2
      exact ne_right B hs.eq hs.ne hs.bt hj pins st σ H u v x y dx _ G δ P E Q I r1 r2 R p1 p2 ⟨rfl, q'.1, hq⟩ kp ke
    · have q' : oNe dx dy fun d => P d δ.z := by
        cases dx <;> first | exact absurd ⟨_, _, rfl⟩ h1 | (cases dy <;> first | exact absurd ⟨_, _, rfl⟩ h2 | exact q)
      exact opE_of (o_ne B) pins st σ H u v x y dx dy G δ P E Q I r1 r2 R p1 p2 q' kp ke
end
section
variable {i j : Int} {s t : Str} {PZ : D → Z → Prop} {E : Er → Z → Prop} {z : Z} {w : Wd} {tbl : List (Addr × DSp2)} {x y : D} {C : Addr} {fs : List (Str × D)}
theorem oNeB_ii : oNeB w tbl (.int i) (.int j) z PZ E ↔ PZ (.bl (!decide (i = j))) z := oNe_ii (P := fun d => PZ d z)
theorem oNeB_ss : oNeB w tbl (.str s) (.str t) z PZ E ↔ PZ (.bl (!(s == t))) z := oNe_ss (P := fun d => PZ d z)
theorem oNeB_in : oNeB w tbl (.ins C fs) y z PZ E ↔ notF w C y ∧ dpt tbl C fun s => s [.ins C fs, y] [] z (fun d z' => ∃ b, d = .bl b ∧ PZ (.bl (!b)) z') E := Iff.rfl
theorem oNeB_ri : oNeB w tbl (.int i) (.ins C fs) z PZ E ↔ dpt tbl C fun s => s [.ins C fs, .int i] [] z (fun d z' => ∃ b, d = .bl b ∧ PZ (.bl (!b)) z') E := ⟨fun h => h.2, fun h => ⟨rfl, h⟩⟩
end
end DL

/-! EMI: name op= e. -/
namespace PySem.W
open PySem PySem.Calls PyProof.Rows
section
variable {prog : Program} {w : World} {M : Model} {A : Around} {E : Value → Shared → Prop} {s : Shared} {K : Frag} {x y C f : Addr} {ox oy : Obj} {od oe : Option Obj} {nm T : String}
/-- no class that C is below has the in-place def -/
def noInp (K : Frag) (C : Addr) (nm : String) : Bool := (clsIn K C).any fun cd => cd.mro.all fun c => findIn K c (dunderI nm) == some none
theorem inp_none {h : Heap} {add : Bool} (X : K.In h) (hn : noInp K C nm = true) : Looks M h (fillsInplaceSlot (.ref C) nm add) false := by
  obtain ⟨cd, hc, hm⟩ := any_some hn
  intro A Q E s k q
  have Lm : Looks M h (mroOf (.ref C)) cd.mro := (looks_clsIn X hc).andThen (f := fun cd => pure cd.mro) .now
  have Lm' := Lm.keeps k
  obtain ⟨hh, g, d, tt, os⟩ := s
  have X' : K.In hh := X.keeps k
  unfold fillsInplaceSlot
  refine wpAny_bind (Lm'.at ?_)
  generalize cd.mro = l at hm
  induction l with
  | nil => exact wpAny_pure q
  | cons a r ih =>
    rw [List.all_cons, Bool.and_eq_true] at hm
    have L1 : Looks M hh (typeLookup a (dunderI nm)) none := looks_findIn X' (beq_iff_eq.mp hm.1)
    rw [List.anyM_cons]
    refine wpAny_bind ?_
    refine wpAny_bind (L1.at ?_)
    refine wpAny_pure ?_
    exact ih hm.2
theorem inp_of1 {op : Operator} {b : Value} {Q : Value → Shared → Prop} (X : K.In s.heap) (I : InstAt s.heap x ox C od) (hn : noInp K C op.info.2 = true)
    (h : wpAny M A (binaryOp1 op.info.2 (.ref x) b) (fun r s' => ∃ v, r = some v ∧ Q v s') E s) : wpAny M A (inplaceOp op (.ref x) b) Q E s := by
  obtain ⟨hh, g, d, tt, os⟩ := s
  have L1 : Looks M hh (typeOf (.ref x)) (.ref C) := I.type
  have L2 : Looks M hh (fillsInplaceSlot (.ref C) op.info.2 (op == .Add)) false := inp_none X hn
  unfold inplaceOp
  refine wpAny_holding (wpAny_bind (L1.at (wpAny_bind (L2.at ?_))))
  rw [if_neg Bool.false_ne_true]
  refine wpAny_bind (wpAny_mono h (fun r s' hr => ?_) fun _ _ z => z)
  obtain ⟨v, rfl, hq⟩ := hr
  exact wpAny_pure hq
end
end PySem.W
namespace DL
open PySem L2 PySem.Spec PyProof.Rows PySem.SeqAt
section
variable {X : Cx} {c : Fr} {W : WX} {N : List Str} {sc : Scope} {k j : Nat} {bb : Bool} {e a b : Expr} {es : List Expr} {pos pos' p p2 : Pos} {r ra rb : DTE} {rs : DTA} {x : Str} {C : Addr} {s : DSp2} {tbl tb2 : List (Addr × DSp2)} {nm : String} {op : Operator}
structure InpL (c : Wd) (nm : String) (j : Nat) (C : Addr) (s : DSp2) : Prop where
  l : BinL c nm j C s
  n : PySem.W.noInp c.K C nm = true
theorem InpL.mono {c : Wd} {nm : String} {j k : Nat} {C : Addr} {s : DSp2} (h : InpL c nm j C s) (l : j ≤ k) : InpL c nm k C s := ⟨h.l.mono l, h.n⟩
theorem inp_left (ho : op.info.2 = nm) (hn : nm ∈ PySem.W.ops5) (B : XB X c W N sc k bb) (hI : InpL c.toWd nm j C s) (hj : j ≤ k) : OpE X c W (inplaceOp op) (oBL C s) := by
  intro pins st σ H u v x y dx dy G δ P E Q I r1 r2 R p1 p2 q kp ke
  cases dx with
  | ins C' fs =>
    obtain ⟨rfl, ok, hs⟩ := q
    have hE := hI.l
    obtain ⟨xa, dd, vs, rfl, hG⟩ := rep_ins p1
    cases (show x = Value.ref xa from r1)
    obtain ⟨od, J⟩ := insAt I (R.le _ _ hG)
    obtain ⟨f, F, f1, f2⟩ := hE.own.ex
    obtain ⟨rc, g1, g2⟩ := hE.rr
    have go : wpAny (model X.prog X.w) X.A (call (.ref f) [.ref xa, y]) (PySem.W.CmpBack fun v s' => ∃ v', some v = some v' ∧ EP X pins σ Q v' s') X.xe st :=
      wpAny_mono (runD (ks := []) (ws := []) (zs := []) (vs := [.ref xa, v]) (us := [.ref xa, y]) B F (B.room.mono hj) B.gd rfl I (.cons rfl (.cons r2 .nil)) .nil rfl R (.cons p1 (.cons p2 .nil)) .nil hs kp ke) (fun _ _ z => noNI z fun z => ⟨_, rfl, z⟩) fun _ _ z => z
    refine PySem.W.inp_of1 I.kIn J (by rw [ho, B.hK]; exact hI.n) ?_
    rw [ho]
    cases dy with
    | ins C2 fs2 =>
      have e : C2 = C' := by simpa [okR] using ok
      subst e
      obtain ⟨ya, dd2, vs2, rfl, hG2⟩ := rep_ins p2
      cases (show y = Value.ref ya from r2)
      obtain ⟨oe, J2⟩ := insAt I (R.le _ _ hG2)
      exact PySem.W.b1S I.kIn J J2 (by rw [B.hK]; exact hE.sf) (by rw [B.hK]; exact f1) (by rw [B.hK]; exact f2) go
    | _ =>
      obtain ⟨t, ⟨T, rfl, hT⟩, L2⟩ := looksTy B I R.le p2 r2 (plain_ty (w := c.toWd) ok)
      obtain ⟨b, hb⟩ := fb_any hn hT
      obtain ⟨fo, ro, h1, h2, _⟩ := PySem.W.fillsB_get X.K hb
      exact PySem.W.b1L I.kIn J L2 (by rw [B.hK]; exact hE.sf) (by rw [B.hK]; exact f1) (by rw [B.hK]; exact f2) (by rw [B.hK]; exact g1) g2 h1 h2 (sub_any _ hT) go
  | _ => exact q.elim
def oInpA (tl : List (Addr × DSp2)) (o : DOp) : DOpE := fun x y z P E => match x with
  | .ins C fs => okR C y = true ∧ dpt tl C fun s => s [.ins C fs, y] [] z P E
  | x => o x y fun d => P d z
theorem op_inpA {o : DOp} (ho : op.info.2 = nm) (hn : nm ∈ PySem.W.ops5) (B : XB X c W N sc k bb) (hL : AllT (InpL c.toWd nm j) tbl) (hj : j ≤ k) (hO : OpD X c (inplaceOp op) o) : OpE X c W (inplaceOp op) (oInpA tbl o) := by
  intro pins st σ H u v x y dx dy G δ P E Q I r1 r2 R p1 p2 q kp ke
  by_cases h1 : ∃ C fs, dx = .ins C fs
  · obtain ⟨C, fs, rfl⟩ := h1
    obtain ⟨s, hs, hq⟩ := hL.get q.2
    exact inp_left ho hn B hs hj pins st σ H u v x y _ dy G δ P E Q I r1 r2 R p1 p2 ⟨rfl, q.1, hq⟩ kp ke
  · have q' : o dx dy fun d => P d δ.z := by
      cases dx <;> first | exact absurd ⟨_, _, rfl⟩ h1 | exact q
    exact opE_of hO pins st σ H u v x y dx dy G δ P E Q I r1 r2 R p1 p2 q' kp ke
theorem ds_asgC {tg : Expr} {g : DTG} (B : XB X c W N sc k bb) (he : DE X c W e r) (hg : DG X c tg g) (hw : ∀ env : Env, env.scope = sc → swappedStores [tg] e env = pure none) (hs : swapsWithSole [tg] e pos.line X.env = pure false := by rfl)
    (h1 : (assignEach [tg] X.env).map (·.2) = [assign tg X.env] := by rfl) : DS X c W (.Assign [tg] e pos) (dAsg r g) := ds_asg he hg hs (hw _ B.hs) h1
/-- nothing is said of plain values -/
def oNo : DOp := fun _ _ _ => False
theorem o_no {f : Value → Value → Sem Value} : OpD X c f oNo := ⟨fun _ _ _ _ => False, fun _ _ _ _ _ _ _ _ _ _ _ _ h => h.elim, fun _ _ _ _ _ _ _ _ _ _ _ _ _ h _ => h.elim⟩
def dAug (i : Nat) (o : DOpE) (r : DTE) : DTS := fun N δ => match δ.sl[i]? with
  | some (.d x) => r δ (fun y δ1 => o x y δ1.z (fun d z => N.nx ⟨δ1.sl.set i (.d d), z⟩) (fun er z => N.ex er { δ1 with z := z })) N.ex
  | _ => False
theorem ds_aug {i : Nat} {o : DOpE} (B : XB X c W N sc k false) (ho : OpE X c W (inplaceOp op) o) (he : DE X c W e r) (hi : N[i]? = some x := by rfl) (hx : Loc sc x := by first | exact Or.inl rfl | exact Or.inr rfl) : DS X c W (.AugAssign (.Name x pos') op e pos) (dAug i o r) := by
  refine ⟨fun pins s σ H D I ⟨G, δ, N', R, h, n⟩ => ?_⟩
  unfold dAug at h
  cases e1 : δ.sl[i]? with
  | none => rw [e1] at h; exact h.elim
  | some sl =>
    rw [e1] at h
    cases sl with
    | d dx =>
      obtain ⟨v, a1, rp⟩ := R.sl i _ e1
      have e1 := at_some a1
      have hx' : Loc X.env.scope x := by rw [B.hs]; exact hx
      obtain ⟨m, hn, hl⟩ := I.loc
      have vis : Vis X.env.scope x := by rcases hx' with k | k; exact .inl k; exact .inr (.inl k)
      obtain ⟨u, rr, l⟩ := hl i x v (by rw [B.hN]; exact hi) e1 vis
      refine wpAny_AugAssign_Name ?_
      have go : wpAny (model X.prog X.w) X.A (eval e X.env) (fun w s₂ => wpAny (model X.prog X.w) X.A (inplaceOp op u w) (fun r s₃ => wpAny (model X.prog X.w) X.A (storeName X.env x r) (fun _ => SP X pins D .next) X.xe s₃) X.xe s₂) X.xe s := by
        refine thn (he.run pins s σ H (fun y H1 => ∃ G1 δ1 dy, Gof c δ δ1 σ G H G1 H1 ∧ Rel c G1 H1 σ δ1 ∧ Rep c.K c.p0 G1 y dy ∧ o dx dy δ1.z (fun d z => N'.nx ⟨δ1.sl.set i (.d d), z⟩) (fun er z => N'.ex er { δ1 with z := z })) I
          ⟨G, δ, _, N'.ex, R, h, fun dy δ1 y G1 H1 p1 L1 R1 r1 => ⟨G1, δ1, dy, L1, R1, r1, p1⟩, exOf n⟩) fun w s1 ⟨y, H1, I1, r1, G1, δ1, dy, L1, R1, q1, p1⟩ => ?_
        refine thn (ho pins s1 σ H1 v y u w dx dy G1 δ1 _ _ (fun zv H2 => D.nx (σ.set i (some zv)) H2) I1 rr r1 R1 (rp.mono L1.g) q1 p1 (fun d z' w' G' H' p L R' rr' => n.nx _ G' H' _ p (L1.g.trans L.g) (R'.set' rr')) (fun er z' cls dd G' H' p L R' q => n.ex er _ cls dd G' H' σ p (L1.g.trans L) R' q)) fun z s2 ⟨zv, H2, I2, r2, q2⟩ => ?_
        exact store_ok I2 (by rw [B.hN]; exact B.nd) (by rw [B.hN]; exact hi) hx' r2 (fun s3 I3 => ⟨_, H2, I3, q2⟩) (.inl (B.fn rfl x))
      rcases l with ⟨hk, hm⟩ | ⟨hk, c, hc, hcell⟩
      · exact wpAny_loadName_local I.ok.kind hk hn hm go
      · rcases hk with hk | hk
        · exact wpAny_loadName_cell I.ok.kind hk hc hcell go
        · rcases hx' with k | k
          · have : X.env.scope.names.lookup x = some .free := hk
            rw [k] at this; cases this
          · have : X.env.scope.names.lookup x = some .free := hk
            rw [k] at this; cases this
    | _ => exact h.elim
end
section
variable {X : Cx} {c : Fr} {W : WX} {N : List Str} {sc : Scope} {k j : Nat} {bb : Bool} {e a b o : Expr} {es : List Expr} {pos apos p p2 : Pos} {r ra rb : DTE} {rs rk : DTA} {x : Str} {C : Addr} {s : DSp2} {tbl tb2 : List (Addr × DSp2)} {ks : List Str} {kws : List Keyword}
def dMethK (nk : Nat) (m : Str) (tbl : List (Addr × DSp2)) (ra : DTE) (rs rk : DTA) : DTE := fun δ P E => ra δ (fun d δ0 => match d with
  | .ins C fs => fs.lookup m = none ∧ dpt tbl C fun s => rs δ0 (fun ds δ1 => rk δ1 (fun zs δ2 => zs.length = nk ∧ s (.ins C fs :: ds) zs δ2.z (fun d n => P d { δ2 with z := n }) (fun er n => E er { δ2 with z := n })) E) E
  | _ => False) E
theorem mAtK_in {nk : Nat} {m : Str} {σ : L2.St} {H : Hp} {Q : VK} {pins : List (Addr × Obj)} {st : Shared} (hT : AllT (MethD c.toWd m ks j) tbl) (ho : DE X c W o ra) (I : Inv X pins σ H st) (h : liftE c W (dMethK nk m tbl ra rs rk) σ H Q) :
    wpAny (model X.prog X.w) X.A (eval o X.env) (EP X pins σ fun v H1 => ∃ (xa : Addr) (G : Hp) (δ : S) (dx : Addr) (vs : List (Str × V)) (C : Addr) (fs : List (Str × D)) (P : D → S → Prop) (E : Er → S → Prop) (s : DSp2), v = .ref xa ∧ Rel c G H1 σ δ ∧ G xa = some (.ins C dx vs) ∧ RepF c.K c.p0 G vs fs ∧ fs.lookup m = none ∧ MethD c.toWd m ks j C s ∧ rs δ (fun ds δ1 => rk δ1 (fun zs δ2 => zs.length = nk ∧ s (.ins C fs :: ds) zs δ2.z (fun d n => P d { δ2 with z := n }) (fun er n => E er { δ2 with z := n })) E) E ∧
      (∀ d δ' v G' H', P d δ' → Gof c δ δ' σ G H1 G' H' → Rel c G' H' σ δ' → Rep c.K c.p0 G' v d → Q v H') ∧ ExOk c W G σ E) X.xe st := by
  obtain ⟨G, δ, P, E, R, h, kk, xx⟩ := h
  refine ho.run pins st σ H _ I ⟨G, δ, _, E, R, h, fun d δ1 v G1 H1 p1 L1 R1 r1 => ?_, xx⟩
  cases d with
  | ins C fs =>
    obtain ⟨xa, dx, vs, rfl, hG, rf⟩ := selfRep (H := H1) r1
    obtain ⟨s, hs, p2⟩ := hT.get p1.2
    exact ⟨xa, G1, δ1, dx, vs, C, fs, P, E, s, rfl, R1, hG, rf, p1.1, hs, p2, fun d δ' v G' H' p L => kk d δ' v G' H' p (L1.trans L), xx.mono L1.g⟩
  | _ => exact p1.elim
/-- o.m(k = v, ..) -/
theorem de_methK0 {m : Str} {pl : Sem Bool} (B : XB X c W N sc k bb) (hT : AllT (MethD c.toWd m ks j) tbl) (hj : j ≤ k) (ho : DE X c W o ra) (hk : DK X c W kws rk)
    (hall : (backToKw pos (keywordEach kws X.env)).all (·.1.isSome) = true := by rfl) (hks : (backToKw pos (keywordEach kws X.env)).filterMap (·.1) = ks := by rfl)
    (hpl : ((backTo pos (starEach [] X.env)).any (·.1) || (backToKw pos (keywordEach kws X.env)).any (·.1.isNone)) = false := by rfl)
    (ht : eval (.Call (.Attribute o m apos) [] kws pos) X.env = (do
      let ov ← eval o X.env
      standAt apos.atName
      let (f, first) ← holding [ov] (getMethod ov m pl)
      callWith pos f first (backTo pos (starEach [] X.env)) (backToKw pos (keywordEach kws X.env))) := by rfl) :
    DE X c W (.Call (.Attribute o m apos) [] kws pos) (dMethK ks.length m tbl ra dNil rk) := by
  refine ⟨fun pins st σ H Q I h => ?_⟩
  refine PySem.W.methodCall_KW (pl := pl) (thn (mAtK_in hT ho I h) fun u s0 ⟨v, H0, I0, rv, xa, G0, δ0, dx, vs, C, fs, P, E, s, ev, R0, hG, rf, lk, hs, p1, kk, xx⟩ => ?_) ht
  subst ev
  obtain ⟨f, hm, hc⟩ := hs.ex
  cases (show u = Value.ref xa from rv)
  refine getmeth_ok I0 (R0.le _ _ hG) (by rw [B.hK]; exact hs.cl) (by rw [B.hK]; exact hm) (rf.look_none lk) ?_
  refine PySem.W.callWith_KW0 (first := [.ref xa]) (h₀ := X.base) I0.ok.mod.kin (by rw [B.hK]; exact hm.kp) hall (thn (hk.run pos pins s0 σ H0 (fun zs H2 => zs.length = ks.length ∧ liftSp2 c.toWd s [.ref xa] zs H2 Q fun cls d H' => W cls d σ H') I0 ⟨G0, δ0, _, E, R0, p1, fun zs δ2 us G2 H2 p2 L2 R2 r2 => ?_, xx⟩) fun ws s2 ⟨zs, H2, I2, rz, e2, q2⟩ => ⟨I2.kIn, ?_⟩) hpl
  · exact ⟨by rw [r2.len]; exact p2.1, G2, [.ins C fs], zs, δ2.z, _, _, R2.st, .cons ((Rep.ins hG rf).mono L2.g) .nil, r2, p2.2, fun d n' v G' H' q po rr => kk d _ v G' H' q (L2.trans (po.spf R2)) (R2.post po) rr, fun er n' cls dd G' H' q po rr => xx er _ cls dd G' H' q (L2.g.trans po.go.g) (R2.post po) rr⟩
  · rw [hks]
    exact runC B hc hj (us := [.ref xa]) (vs := [.ref xa]) I2 (.cons rfl .nil) rz e2 q2
/-- o.m(e, .., k = v, ..) -/
theorem de_methK {m : Str} {pl : Sem Bool} (B : XB X c W N sc k bb) (hT : AllT (MethD c.toWd m ks j) tbl) (hj : j ≤ k) (ho : DE X c W o ra) (ha : DA X c W (e :: es) rs) (hk : DK X c W kws rk)
    (hall : (backToKw pos (keywordEach kws X.env)).all (·.1.isSome) = true := by rfl) (hks : (backToKw pos (keywordEach kws X.env)).filterMap (·.1) = ks := by rfl)
    (he : starEach (e :: es) X.env = (false, eval e X.env) :: starEach es X.env := by rfl)
    (hpl : ((backTo pos (starEach (e :: es) X.env)).any (·.1) || (backToKw pos (keywordEach kws X.env)).any (·.1.isNone)) = false := by rfl)
    (ht : eval (.Call (.Attribute o m apos) (e :: es) kws pos) X.env = (do
      let ov ← eval o X.env
      standAt apos.atName
      let (f, first) ← holding [ov] (getMethod ov m pl)
      callWith pos f first (backTo pos (starEach (e :: es) X.env)) (backToKw pos (keywordEach kws X.env))) := by rfl) :
    DE X c W (.Call (.Attribute o m apos) (e :: es) kws pos) (dMethK ks.length m tbl ra rs rk) := by
  refine ⟨fun pins st σ H Q I h => ?_⟩
  refine PySem.W.methodCall_KW (pl := pl) (thn (mAtK_in hT ho I h) fun u s0 ⟨v, H0, I0, rv, xa, G0, δ0, dx, vs, C, fs, P, E, s, ev, R0, hG, rf, lk, hs, p1, kk, xx⟩ => ?_) ht
  subst ev
  obtain ⟨f, hm, hc⟩ := hs.ex
  cases (show u = Value.ref xa from rv)
  refine getmeth_ok I0 (R0.le _ _ hG) (by rw [B.hK]; exact hs.cl) (by rw [B.hK]; exact hm) (rf.look_none lk) ?_
  refine PySem.W.callWith_KW (first := [.ref xa]) (h₀ := X.base) I0.ok.mod.kin (by rw [B.hK]; exact hm.kp) hall (thn (ha.run pos pins s0 σ H0 (fun vs H1 => liftA c W rk σ H1 fun zs H2 => zs.length = ks.length ∧ liftSp2 c.toWd s (.ref xa :: vs) zs H2 Q fun cls d H' => W cls d σ H') I0 ⟨G0, δ0, _, E, R0, p1, fun ds δ1 vs' G1 H1 p1 L1 R1 r1 => ?_, xx⟩) fun us s1 ⟨vs', H1, I1, rv, q⟩ => ?_) hpl he
  · exact ⟨G1, δ1, _, E, R1, p1, fun zs δ2 us G2 H2 p2 L2 R2 r2 => ⟨by rw [r2.len]; exact p2.1, G2, .ins C fs :: ds, zs, δ2.z, _, _, R2.st, .cons ((Rep.ins hG rf).mono (L1.trans L2).g) (r1.mono L2.g), r2, p2.2, fun d n' v G' H' q po rr => kk d _ v G' H' q ((L1.trans L2).trans (po.spf R2)) (R2.post po) rr, fun er n' cls dd G' H' q po rr => xx er _ cls dd G' H' q ((L1.trans L2).g.trans po.go.g) (R2.post po) rr⟩, xx.mono L1.g⟩
  · refine thn (hk.run pos pins s1 σ H1 _ I1 q) fun ws s2 ⟨zs, H2, I2, rz, e2, q2⟩ => ⟨I2.kIn, ?_⟩
    rw [hks]
    exact runC B hc hj (us := .ref xa :: us) (vs := .ref xa :: vs') I2 (.cons rfl rv) rz e2 q2
end
section
variable {i j : Int} {nm : String} {o : DOp} {PZ : D → Z → Prop} {E : Er → Z → Prop} {z : Z} {tbl tb2 : List (Addr × DSp2)} {x y : D} {C : Addr} {fs : List (Str × D)}
theorem oInpA_in : oInpA tbl o (.ins C fs) y z PZ E ↔ okR C y = true ∧ dpt tbl C fun s => s [.ins C fs, y] [] z PZ E := Iff.rfl
theorem oInpA_ii : oInpA tbl o (.int i) (.int j) z PZ E ↔ o (.int i) (.int j) fun d => PZ d z := Iff.rfl
end
end DL

/-! EMJ: readings, evaluated from the head on (by simp with underLambda := false); each step is explicit. -/
namespace DL
open PySem L2 PySem.Spec PyProof.Rows
/-- a seal: simp does not look at x -/
inductive Seal {α : Sort _} (x : α) : Type
  | mk
def iteB (b : Bool) (x y : Unit → Prop) (_ : Seal x) (_ : Seal y) : Prop := if b = true then x () else y ()
theorem iteB_of {b : Bool} {x y : Unit → Prop} {sx : Seal x} {sy : Seal y} (h1 : b = true → x ()) (h2 : b = false → y ()) : iteB b x y sx sy := by
  cases b
  · exact h2 rfl
  · exact h1 rfl
def tbk (k : Bool → S → Prop) (d : D) (δ : S) : Prop := match d with
  | .bl b => k b δ
  | _ => False
def stp (k : S → Prop) (i : Nat) (s : Sl) (δ : S) : Prop := k ⟨δ.sl.set i s, δ.z⟩
def kz (P : D → S → Prop) (_ : Seal P) (l : List Sl) (d : D) (z : Z) : Prop := P d ⟨l, z⟩
def ke (E : Er → S → Prop) (_ : Seal E) (l : List Sl) (er : Er) (z : Z) : Prop := E er ⟨l, z⟩
def kst (k : S → Prop) (_ : Seal k) (i : Nat) (l : List Sl) (d : D) (z : Z) : Prop := stp k i (.d d) ⟨l, z⟩
def mkk (P : D → Z → Prop) (_ : Seal P) (C : Addr) (fs : List (Str × D)) (z : Z) : Prop := P (.ins C fs) z
def opz (o : DOpE) (x y : D) (δ : S) (P : D → S → Prop) (E : Er → S → Prop) : Prop := o x y δ.z (kz P .mk δ.sl) (ke E .mk δ.sl)
def unz (o : DUnE) (x : D) (δ : S) (P : D → S → Prop) (E : Er → S → Prop) : Prop := o x δ.z (kz P .mk δ.sl) (ke E .mk δ.sl)
def caz (o : DSp) (ds : List D) (δ : S) (P : D → S → Prop) (E : Er → S → Prop) : Prop := o ds δ.z (kz P .mk δ.sl) (ke E .mk δ.sl)
def clk (s : DSp2) (ds zs : List D) (δ : S) (P : D → S → Prop) (E : Er → S → Prop) : Prop := s ds zs δ.z (kz P .mk δ.sl) (ke E .mk δ.sl)
def seqN (u : DTS) (N : DN) : DN := { N with nx := u N }
def lopN (g : DTG) (tb : DTS) (r : List D) (N : DN) : DN := { N with nx := dLoop g tb N r, ct := dLoop g tb N r, bk := N.nx }
def whlN (q : DTT) (tb : DTS) (m : Nat) (N : DN) : DN := { N with nx := dWhl q tb N m, ct := dWhl q tb N m, bk := N.nx }
def park (k : S → Prop) (i j : Nat) (ds : List D) (δ : S) : Prop := match ds with
  | [x, y] => stp (stp k j (.d y)) i (.d x) δ
  | _ => False
def lkk (w : Wd) (f : Str) (tbl : List (Addr × DSp2)) (C : Addr) (fs : List (Str × D)) (o : Option D) (l : List Sl) (z : Z) (P : D → S → Prop) : Prop := match o with
  | some x => CA w C f ∧ P x ⟨l, z⟩
  | none => dpt tbl C fun s => s [.ins C fs] [] z (kz P .mk l) (fun _ _ => False)
def xkk (w : Wd) (f : Str) (C : Addr) (o : Option D) (l : List Sl) (z : Z) (P : D → S → Prop) : Prop := XA w C f ∧ match o with
  | some x => P x ⟨l, z⟩
  | none => False
def atk (w : Wd) (f : Str) (tbl : List (Addr × DSp2)) (d : D) (δ : S) (P : D → S → Prop) : Prop := match d with
  | .ins C fs => lkk w f tbl C fs (fs.lookup f) δ.sl δ.z P
  | .exc (.ref C) fs => xkk w f C (fs.lookup f) δ.sl δ.z P
  | _ => False
def mec (s : DSp2) (x : D) (ds zs : List D) (δ : S) (P : D → S → Prop) (E : Er → S → Prop) : Prop := s (x :: ds) zs δ.z (kz P .mk δ.sl) (ke E .mk δ.sl)
def mek (m : Str) (tbl : List (Addr × DSp2)) (d : D) (δ0 : S) (rs rk : DTA) (P : D → S → Prop) (E : Er → S → Prop) : Prop := match d with
  | .ins C fs => fs.lookup m = none ∧ dpt tbl C fun s => rs δ0 (fun ds δ1 => rk δ1 (fun zs δ2 => mec s (.ins C fs) ds zs δ2 P E) E) E
  | _ => False
def mekK (nk : Nat) (m : Str) (tbl : List (Addr × DSp2)) (d : D) (δ0 : S) (rs rk : DTA) (P : D → S → Prop) (E : Er → S → Prop) : Prop := match d with
  | .ins C fs => fs.lookup m = none ∧ dpt tbl C fun s => rs δ0 (fun ds δ1 => rk δ1 (fun zs δ2 => zs.length = nk ∧ mec s (.ins C fs) ds zs δ2 P E) E) E
  | _ => False
def tryN (w : Wd) (cv : Value) (i jj : Nat) (N : DN) : DN := { N with ex := fun er δ' => ∃ b, PySem.W.exmOne w.K er.cls cv = some b ∧ (if b = true then N.nx { δ' with sl := (δ'.sl.set jj (.d (.exc er.cls er.fs))).set i .un } else N.ex er δ') }
def tryk (ob : Option Bool) (i jj : Nat) (N : DN) (cls : Value) (fs : List (Str × D)) (δ : S) : Prop := ∃ b, ob = some b ∧ (if b = true then stp (stp N.nx i .un) jj (.d (.exc cls fs)) δ else N.ex ⟨cls, fs⟩ δ)
def raik (C : Addr) (fl : List Str) (ds : List D) (N : DN) (δ : S) : Prop := (ds.length = fl.length ∧ fl.length ≤ 900) ∧ N.ex ⟨.ref C, (fl.zip ds).reverse⟩ δ
def jsk (acc : Str) (rs : List DTE) (d : D) (δ : S) (P : D → S → Prop) (E : Er → S → Prop) : Prop := match d with
  | .str y => (acc ++ y).length ≤ 1000000 ∧ dJs rs (acc ++ y) δ P E
  | _ => False
def fmk (d : D) (δ : S) (P : D → S → Prop) : Prop := match d with
  | .str y => y.length ≤ 1000000 ∧ P (.str y) δ
  | .int i => intS i ∧ P (.str (toString i)) δ
  | _ => False
def chk (o' : DOp) (rq : DTE) (y d : D) (δ2 : S) (P : D → S → Prop) (E : Er → S → Prop) : Prop := match d with
  | .bl true => rq δ2 (fun w δ3 => o' y w (fun d' => (match d' with | .bl _ => True | _ => False) ∧ P d' δ3)) E
  | .bl false => P (.bl false) δ2
  | _ => False
def isB (d : D) : Prop := match d with | .bl _ => True | _ => False
def itk (P : List D → S → Prop) (d : D) (δ : S) : Prop := match d with
  | .lst xs => P xs δ
  | _ => False
def itkT (P : List D → S → Prop) (d : D) (δ : S) : Prop := match d with
  | .tup xs => P xs δ
  | _ => False
def rngk (P : List D → S → Prop) (ds : List D) (δ : S) : Prop := match ds with
  | [.int j] => (-(2 ^ 62) ≤ j ∧ j < 2 ^ 62) ∧ P ((List.range j.toNat).map fun (i : Nat) => D.int (0 + (i : Int))) δ
  | _ => False
def rngk2 (P : List D → S → Prop) (ds : List D) (δ : S) : Prop := match ds with
  | [.int i, .int j] => (-(2 ^ 62) ≤ i ∧ i < 2 ^ 62 ∧ -(2 ^ 62) ≤ j ∧ j < 2 ^ 62) ∧ P ((List.range (j - i).toNat).map fun (n : Nat) => D.int (i + (n : Int))) δ
  | _ => False
def appk (k : S → Prop) (i : Nat) (d : D) (δ : S) : Prop := match δ.sl[i]? with
  | some (.own xs) => xs.length < 100000 ∧ k ⟨δ.sl.set i (.own (xs ++ [d])), δ.z⟩
  | _ => False
def hasO (i : Nat) (δ : S) : Prop := ∃ ys, δ.sl[i]? = some (.own ys)
def agk (o : DOpE) (x y : D) (i : Nat) (δ : S) (N : DN) : Prop := o x y δ.z (kst N.nx .mk i δ.sl) (ke N.ex .mk δ.sl)
def ssk (c : Wd) (f : Str) (d : D) (δ : S) (k : S → Prop) : Prop := match (δ.sl[0]? : Option Sl) with
  | some (.self C fs) => CA c C f ∧ fs.length < 1000 ∧ k ⟨δ.sl.set 0 (.self C (putD f d fs)), δ.z⟩
  | _ => False
def prk (d : D) (δ : S) (P : Option Int → S → Prop) : Prop := match d with
  | .int i => P (some i) δ
  | _ => False
def lcP (P : D → S → Prop) (_ : Seal P) (l : List Sl) (ds : List D) (n : Z) : Prop := P (.lst ds) ⟨l, n⟩
def lck (g : DTG) (tt : DTT) (te : DTE) (vs : List Nat) (P : D → S → Prop) (items : List D) (δ : S) : Prop := dCol g tt te (cleanSl vs 0 δ.sl) (lcP P .mk δ.sl) items [] δ.z
def colk (g : DTG) (tt : DTT) (te : DTE) (cl : List Sl) (P : List D → Z → Prop) (r acc : List D) (y : D) (δ4 : S) : Prop := acc.length < 100000 ∧ dCol g tt te cl P r (acc ++ [y]) δ4.z
/-- an index that is told -/
def ixk (xs : List D) (i : Int) (P : D → Prop) : Prop := ∃ d, atI xs i = some d ∧ P d
theorem atI_lit {xs : List D} {k : Nat} {x : D} (h : xs[k]? = some x) : atI xs (k : Int) = some x := by
  have hk : k < xs.length := (List.getElem?_eq_some_iff.mp h).1
  simp only [atI, ixN]
  rw [if_pos (by omega), if_pos (by omega)]
  simpa using h
def colN (cl : List Sl) : Er → S → Prop := fun _ _ => False
section
variable {w c : Wd} {δ : S} {l r : List Sl} {z : Z} {N : DN} {i j n nk : Nat} {x y d : D} {ds xs ys zs : List D} {P : D → S → Prop} {PA : List D → S → Prop} {PT : Bool → S → Prop} {PO : Option Int → S → Prop} {PZ : D → Z → Prop} {PD : D → Prop} {E : Er → S → Prop} {EZ : Er → Z → Prop} {ra rb rq re : DTE} {rs rk : DTA} {t u : DTT} {st su tb : DTS} {g : DTG} {gs gs' : DTGs} {k : S → Prop} {kb : Bool → S → Prop} {s : Sl} {sp : DSp2} {f m : Str} {C : Addr} {fs : List (Str × D)} {tbl tb2 : List (Addr × DSp2)} {er : Er} {b : Bool} {X Y : Unit → Prop} {op op' : DOp} {opE : DOpE} {uo : DUnE} {dsp : DSp} {bu : DBu} {ri : DTI} {R : Er → Z → Prop} {PF : List (Str × D) → Z → Prop} {ii jj : Int} {ss tt : Str} {cv cls : Value} {acc : Str} {vs : List Nat}
theorem e_iteT {sx : Seal X} {sy : Seal Y} : iteB true X Y sx sy = X () := (rfl)
theorem e_iteF {sx : Seal X} {sy : Seal Y} : iteB false X Y sx sy = Y () := (rfl)
theorem e_iteN {sx : Seal X} {sy : Seal Y} : iteB (!b) X Y sx sy = iteB b Y X sy sx := by cases b <;> exact (rfl)
theorem e_tbk  : tbk kb (.bl b) δ = kb b δ := (rfl)
theorem e_kz {s1 : Seal P} : kz P s1 l d z = P d ⟨l, z⟩ := (rfl)
theorem e_ke {s1 : Seal E} : ke E s1 l er z = E er ⟨l, z⟩ := (rfl)
theorem e_kst {s1 : Seal k} : kst k s1 i l d z = stp k i (.d d) ⟨l, z⟩ := (rfl)
theorem e_mkk {s1 : Seal PZ} : mkk PZ s1 C fs z = PZ (.ins C fs) z := (rfl)
theorem e_C  : dC d δ P E = P d δ := (rfl)
theorem e_Nil  : dNil δ PA E = PA [] δ := (rfl)
theorem e_Cons  : dCons ra rs δ PA E = ra δ (fun x δ1 => rs δ1 (fun xs δ2 => PA (x :: xs) δ2) E) E := (rfl)
theorem e_Tup  : dTup rs δ P E = rs δ (fun ds δ' => ds.length ≤ 100000 ∧ P (.tup ds) δ') E := (rfl)
theorem e_Lst  : dLst rs δ P E = rs δ (fun ds δ' => ds.length ≤ 100000 ∧ P (.lst ds) δ') E := (rfl)
theorem e_Bin  : dBin op ra rb δ P E = ra δ (fun x δ1 => rb δ1 (fun y δ2 => op x y (fun z => P z δ2)) E) E := (rfl)
theorem e_BinE  : dBinE opE ra rb δ P E = ra δ (fun x δ1 => rb δ1 (fun y δ2 => opz opE x y δ2 P E) E) E := (rfl)
theorem e_opz  : opz opE x y ⟨l, z⟩ P E = opE x y z (kz P .mk l) (ke E .mk l) := (rfl)
theorem e_UnE  : dUnE uo ra δ P E = ra δ (fun x δ1 => unz uo x δ1 P E) E := (rfl)
theorem e_unz  : unz uo x ⟨l, z⟩ P E = uo x z (kz P .mk l) (ke E .mk l) := (rfl)
theorem e_CalE  : dCalE dsp rs δ P E = rs δ (fun ds δ1 => caz dsp ds δ1 P E) E := (rfl)
theorem e_caz  : caz dsp ds ⟨l, z⟩ P E = dsp ds z (kz P .mk l) (ke E .mk l) := (rfl)
theorem e_Bu  : dBu bu rs δ P E = rs δ (fun ds δ1 => bu ds (fun z => P z δ1)) E := (rfl)
theorem e_TB  : dTB ra δ PT E = ra δ (fun d δ' => tbk PT d δ') E := (rfl)
theorem e_And  : dAnd t u δ PT E = t δ (fun b δ1 => iteB b (fun _ => u δ1 PT E) (fun _ => PT false δ1) .mk .mk) E := (rfl)
theorem e_Or  : dOr t u δ PT E = t δ (fun b δ1 => iteB b (fun _ => PT true δ1) (fun _ => u δ1 PT E) .mk .mk) E := (rfl)
theorem e_Not  : dNot t δ PT E = t δ (fun b δ1 => PT (!b) δ1) E := (rfl)
theorem e_AndV  : dAndV ra rb δ P E = ra δ (fun d δ1 => tbk (fun b δ1 => iteB b (fun _ => rb δ1 P E) (fun _ => P (.bl false) δ1) .mk .mk) d δ1) E := (rfl)
theorem e_OrV  : dOrV ra rb δ P E = ra δ (fun d δ1 => tbk (fun b δ1 => iteB b (fun _ => P (.bl true) δ1) (fun _ => rb δ1 P E) .mk .mk) d δ1) E := (rfl)
theorem e_NotV  : dNotV ra δ P E = ra δ (fun d δ1 => tbk (fun b δ1 => P (.bl (!b)) δ1) d δ1) E := (rfl)
theorem e_If  : dIf t ra rb δ P E = t δ (fun b δ1 => iteB b (fun _ => ra δ1 P E) (fun _ => rb δ1 P E) .mk .mk) E := (rfl)
theorem e_Next  : dNext N δ = N.nx δ := (rfl)
theorem e_Seq  : dSeq st su N δ = st (seqN su N) δ := (rfl)
theorem e_sq_nx  : (seqN su N).nx δ = su N δ := (rfl)
theorem e_sq_rt  : (seqN su N).rt d δ = N.rt d δ := (rfl)
theorem e_sq_bk  : (seqN su N).bk δ = N.bk δ := (rfl)
theorem e_sq_ct  : (seqN su N).ct δ = N.ct δ := (rfl)
theorem e_sq_ex  : (seqN su N).ex er δ = N.ex er δ := (rfl)
theorem e_lp_nx  : (lopN g tb ds N).nx δ = dLoop g tb N ds δ := (rfl)
theorem e_lp_ct  : (lopN g tb ds N).ct δ = dLoop g tb N ds δ := (rfl)
theorem e_lp_bk  : (lopN g tb ds N).bk δ = N.nx δ := (rfl)
theorem e_lp_rt  : (lopN g tb ds N).rt d δ = N.rt d δ := (rfl)
theorem e_lp_ex  : (lopN g tb ds N).ex er δ = N.ex er δ := (rfl)
theorem e_wh_nx  : (whlN t tb n N).nx δ = dWhl t tb N n δ := (rfl)
theorem e_wh_ct  : (whlN t tb n N).ct δ = dWhl t tb N n δ := (rfl)
theorem e_wh_bk  : (whlN t tb n N).bk δ = N.nx δ := (rfl)
theorem e_wh_rt  : (whlN t tb n N).rt d δ = N.rt d δ := (rfl)
theorem e_wh_ex  : (whlN t tb n N).ex er δ = N.ex er δ := (rfl)
theorem e_Drop  : dDrop ra N δ = ra δ (fun _ δ' => N.nx δ') N.ex := (rfl)
theorem e_Ret  : dRet ra N δ = ra δ N.rt N.ex := (rfl)
theorem e_Ite  : dIte t st su N δ = t δ (fun b δ1 => iteB b (fun _ => st N δ1) (fun _ => su N δ1) .mk .mk) N.ex := (rfl)
theorem e_Set  : dSet i ra N δ = ra δ (fun d δ1 => stp N.nx i (.d d) δ1) N.ex := (rfl)
theorem e_Asg  : dAsg ra g N δ = ra δ (fun d δ1 => g d δ1 N.nx) N.ex := (rfl)
theorem e_gN  : gN i d δ k = stp k i (.d d) δ := (rfl)
theorem e_gZ  : gZ [] δ k = k δ := (rfl)
theorem e_gC  : gC g gs (d :: ds) δ k = g d δ (fun δ' => gs ds δ' k) := (rfl)
theorem e_gT  : gT n gs (.tup xs) δ k = (xs.length = n ∧ gs xs δ k) := (rfl)
theorem e_Par  : dPar i j rs N δ = rs δ (fun ds δ1 => park N.nx i j ds δ1) N.ex := (rfl)
theorem e_park  : park k i j [x, y] δ = stp (stp k j (.d y)) i (.d x) δ := (rfl)
theorem e_For  : dFor ri g tb N δ = ri δ (fun items δ1 => dLoop g tb N items δ1) N.ex := (rfl)
theorem e_ItL  : dItL ra δ PA E = ra δ (fun d δ1 => itk PA d δ1) E := (rfl)
theorem e_itk  : itk PA (.lst xs) δ = PA xs δ := (rfl)
theorem e_ItT  : dItT ra δ PA E = ra δ (fun d δ1 => itkT PA d δ1) E := (rfl)
theorem e_itkT  : itkT PA (.tup xs) δ = PA xs δ := (rfl)
theorem e_Rng1  : dRng1 rs δ PA E = rs δ (fun ds δ1 => rngk PA ds δ1) E := (rfl)
theorem e_rngk  : rngk PA [.int ii] δ = ((-(2 ^ 62) ≤ ii ∧ ii < 2 ^ 62) ∧ PA ((List.range ii.toNat).map fun (i : Nat) => D.int (0 + (i : Int))) δ) := (rfl)
theorem e_Rng2  : dRng2 rs δ PA E = rs δ (fun ds δ1 => rngk2 PA ds δ1) E := (rfl)
theorem e_rngk2  : rngk2 PA [.int ii, .int jj] δ = ((-(2 ^ 62) ≤ ii ∧ ii < 2 ^ 62 ∧ -(2 ^ 62) ≤ jj ∧ jj < 2 ^ 62) ∧ PA ((List.range (jj - ii).toNat).map fun (n : Nat) => D.int (ii + (n : Int))) δ) := (rfl)
theorem e_Call  : dCall sp rs rk δ P E = rs δ (fun ds δ1 => rk δ1 (fun zs δ2 => clk sp ds zs δ2 P E) E) E := (rfl)
theorem e_clk  : clk sp ds zs ⟨l, z⟩ P E = sp ds zs z (kz P .mk l) (ke E .mk l) := (rfl)
theorem e_Meth  : dMeth m tbl ra rs rk δ P E = ra δ (fun d δ0 => mek m tbl d δ0 rs rk P E) E := (rfl)
theorem e_mek  : mek m tbl (.ins C fs) δ rs rk P E = (fs.lookup m = none ∧ dpt tbl C fun s => rs δ (fun ds δ1 => rk δ1 (fun zs δ2 => mec s (.ins C fs) ds zs δ2 P E) E) E) := (rfl)
theorem e_mec  : mec sp x ds zs ⟨l, z⟩ P E = sp (x :: ds) zs z (kz P .mk l) (ke E .mk l) := (rfl)
theorem e_MethK  : dMethK nk m tbl ra rs rk δ P E = ra δ (fun d δ0 => mekK nk m tbl d δ0 rs rk P E) E := (rfl)
theorem e_mekK  : mekK nk m tbl (.ins C fs) δ rs rk P E = (fs.lookup m = none ∧ dpt tbl C fun s => rs δ (fun ds δ1 => rk δ1 (fun zs δ2 => zs.length = nk ∧ mec s (.ins C fs) ds zs δ2 P E) E) E) := (rfl)
theorem e_At  : dAt w f tbl ra δ P E = ra δ (fun d δ1 => atk w f tbl d δ1 P) E := (rfl)
theorem e_atk  : atk w f tbl (.ins C fs) ⟨l, z⟩ P = lkk w f tbl C fs (fs.lookup f) l z P := (rfl)
theorem e_atkX  : atk w f tbl (.exc (.ref C) fs) ⟨l, z⟩ P = xkk w f C (fs.lookup f) l z P := (rfl)
theorem e_lkkS  : lkk w f tbl C fs (some x) l z P = (CA w C f ∧ P x ⟨l, z⟩) := (rfl)
theorem e_lkkN  : lkk w f tbl C fs none l z P = dpt tbl C fun s => s [.ins C fs] [] z (kz P .mk l) (fun _ _ => False) := (rfl)
theorem e_xkkS  : xkk w f C (some x) l z P = (XA w C f ∧ P x ⟨l, z⟩) := (rfl)
theorem e_SelfSet  : dSelfSet c 0 f ra N δ = ra δ (fun d δ1 => ssk c f d δ1 N.nx) N.ex := (rfl)
theorem e_ssk  : ssk c f d ⟨.self C fs :: l, z⟩ k = (CA c C f ∧ fs.length < 1000 ∧ k ⟨.self C (putD f d fs) :: l, z⟩) := (rfl)
theorem e_Own  : dOwn i rs N δ = rs δ (fun ds δ1 => (ds.length ≤ 100000 ∧ i < δ1.sl.length) ∧ stp N.nx i (.own ds) δ1) N.ex := (rfl)
theorem e_App  : dApp i ra N δ = (hasO i δ ∧ ra δ (fun d δ1 => appk N.nx i d δ1) N.ex) := (rfl)
theorem e_Raise {fl : List Str} : dRaise C fl rs N δ = rs δ (fun ds δ' => raik C fl ds N δ') N.ex := (rfl)
theorem e_rai0  : raik C [] [] N δ = ((([] : List D).length = ([] : List Str).length ∧ ([] : List Str).length ≤ 900) ∧ N.ex ⟨.ref C, []⟩ δ) := (rfl)
theorem e_rai1  : raik C [f] [x] N δ = (([x].length = [f].length ∧ [f].length ≤ 900) ∧ N.ex ⟨.ref C, [(f, x)]⟩ δ) := (rfl)
theorem e_rai2  : raik C [f, m] [x, y] N δ = (([x, y].length = [f, m].length ∧ [f, m].length ≤ 900) ∧ N.ex ⟨.ref C, [(m, y), (f, x)]⟩ δ) := (rfl)
theorem e_Try  : dTryKeep w cv i j st N δ = st (tryN w cv i j N) δ := (rfl)
theorem e_try_nx  : (tryN w cv i j N).nx δ = N.nx δ := (rfl)
theorem e_try_rt  : (tryN w cv i j N).rt d δ = N.rt d δ := (rfl)
theorem e_try_bk  : (tryN w cv i j N).bk δ = N.bk δ := (rfl)
theorem e_try_ct  : (tryN w cv i j N).ct δ = N.ct δ := (rfl)
theorem e_try_ex  : (tryN w cv i j N).ex ⟨cls, fs⟩ δ = tryk (PySem.W.exmOne w.K cls cv) i j N cls fs δ := (rfl)
theorem e_trykT  : tryk (some true) i j N cls fs δ = stp (stp N.nx i .un) j (.d (.exc cls fs)) δ := propext ⟨fun ⟨b, e, h⟩ => by cases e; exact h, fun h => ⟨true, rfl, h⟩⟩
theorem e_trykF  : tryk (some false) i j N cls fs δ = N.ex ⟨cls, fs⟩ δ := propext ⟨fun ⟨b, e, h⟩ => by cases e; exact h, fun h => ⟨false, rfl, h⟩⟩
theorem e_Js0  : dJs [] acc δ P E = P (.str acc) δ := (rfl)
theorem e_Js1 {rr : List DTE} : dJs (ra :: rr) acc δ P E = ra δ (fun d δ1 => jsk acc rr d δ1 P E) E := (rfl)
theorem e_jsk {rr : List DTE} : jsk acc rr (.str ss) δ P E = ((acc ++ ss).length ≤ 1000000 ∧ dJs rr (acc ++ ss) δ P E) := (rfl)
theorem e_Fmt  : dFmt ra δ P E = ra δ (fun d δ1 => fmk d δ1 P) E := (rfl)
theorem e_fmkS  : fmk (.str ss) δ P = (ss.length ≤ 1000000 ∧ P (.str ss) δ) := (rfl)
theorem e_fmkI  : fmk (.int ii) δ P = (intS ii ∧ P (.str (toString ii)) δ) := (rfl)
theorem e_Chain  : dChain op op' ra rb rq δ P E = ra δ (fun x δ1 => rb δ1 (fun y δ2 => op x y (fun d => chk op' rq y d δ2 P E)) E) E := (rfl)
theorem e_chk  : chk op' rq y (.bl b) δ P E = iteB b (fun _ => rq δ (fun w δ3 => op' y w (fun d' => isB d' ∧ P d' δ3)) E) (fun _ => P (.bl false) δ) .mk .mk := by cases b <;> exact (rfl)
theorem e_isB  : isB (.bl b) = True := (rfl)
theorem e_Sl {ro rp : DTO} : dSl ra ro rp δ P E = ra δ (fun d δ1 => ro δ1 (fun lo δ2 => rp δ2 (fun hi δ3 => oSl d lo hi (fun z => P z δ3)) E) E) E := (rfl)
theorem e_None  : dNone δ PO E = PO none δ := (rfl)
theorem e_Part  : dPart ra δ PO E = ra δ (fun d δ1 => prk d δ1 PO) E := (rfl)
theorem e_prk  : prk (.int ii) δ PO = PO (some ii) δ := (rfl)
theorem e_oSlL {lo hi : Option Int} : oSl (.lst xs) lo hi PD = PD (.lst (cutD xs lo hi)) := (rfl)
theorem e_oSlT {lo hi : Option Int} : oSl (.tup xs) lo hi PD = PD (.tup (cutD xs lo hi)) := (rfl)
theorem e_oSlS {lo hi : Option Int} : oSl (.str ss) lo hi PD = (ss.length ≤ 1000000 ∧ PD (.str (cutS ss lo hi))) := (rfl)
theorem e_Ix  : dIx ra rb δ P E = ra δ (fun x δ1 => rb δ1 (fun y δ2 => oIx x y (fun z => P z δ2)) E) E := (rfl)
theorem e_oIxL  : oIx (.lst xs) (.int ii) PD = ixk xs ii PD := (rfl)
theorem e_oIxT  : oIx (.tup xs) (.int ii) PD = ixk xs ii PD := (rfl)
theorem e_oIxS  : oIx (.str ss) (.int ii) PD = (ss.length ≤ 1000000 ∧ ∃ ch, atI ss.cps.toList ii = some ch ∧ PD (.str ⟨#[ch]⟩)) := (rfl)
theorem e_ix0  : ixk (x :: xs) 0 PD = PD x := propext ⟨fun ⟨d, e, h⟩ => by have e2 := atI_lit (xs := x :: xs) (k := 0) (x := x) (by exact (rfl)); cases e.symm.trans e2; exact h, fun h => ⟨x, atI_lit (k := 0) (by exact (rfl)), h⟩⟩
theorem e_ix1 {a0 : D}  : ixk (a0 :: x :: xs) 1 PD = PD x := propext ⟨fun ⟨d, e, h⟩ => by have e2 := atI_lit (xs := a0 :: x :: xs) (k := 1) (x := x) (by exact (rfl)); cases e.symm.trans e2; exact h, fun h => ⟨x, atI_lit (k := 1) (by exact (rfl)), h⟩⟩
theorem e_ix2 {a0 a1 : D}  : ixk (a0 :: a1 :: x :: xs) 2 PD = PD x := propext ⟨fun ⟨d, e, h⟩ => by have e2 := atI_lit (xs := a0 :: a1 :: x :: xs) (k := 2) (x := x) (by exact (rfl)); cases e.symm.trans e2; exact h, fun h => ⟨x, atI_lit (k := 2) (by exact (rfl)), h⟩⟩
theorem e_ix3 {a0 a1 a2 : D}  : ixk (a0 :: a1 :: a2 :: x :: xs) 3 PD = PD x := propext ⟨fun ⟨d, e, h⟩ => by have e2 := atI_lit (xs := a0 :: a1 :: a2 :: x :: xs) (k := 3) (x := x) (by exact (rfl)); cases e.symm.trans e2; exact h, fun h => ⟨x, atI_lit (k := 3) (by exact (rfl)), h⟩⟩
theorem e_ix4 {a0 a1 a2 a3 : D}  : ixk (a0 :: a1 :: a2 :: a3 :: x :: xs) 4 PD = PD x := propext ⟨fun ⟨d, e, h⟩ => by have e2 := atI_lit (xs := a0 :: a1 :: a2 :: a3 :: x :: xs) (k := 4) (x := x) (by exact (rfl)); cases e.symm.trans e2; exact h, fun h => ⟨x, atI_lit (k := 4) (by exact (rfl)), h⟩⟩
theorem e_ix5 {a0 a1 a2 a3 a4 : D}  : ixk (a0 :: a1 :: a2 :: a3 :: a4 :: x :: xs) 5 PD = PD x := propext ⟨fun ⟨d, e, h⟩ => by have e2 := atI_lit (xs := a0 :: a1 :: a2 :: a3 :: a4 :: x :: xs) (k := 5) (x := x) (by exact (rfl)); cases e.symm.trans e2; exact h, fun h => ⟨x, atI_lit (k := 5) (by exact (rfl)), h⟩⟩
theorem e_Lam {fr : Bool} {sg : DSpA} : dLam fr sg ra ⟨l, z⟩ P E = ∀ f : Addr, sg f (lamAct ra (fz fr l)) z (kz P .mk (fz fr l)) := (rfl)
theorem e_Act {f : Addr} {act : DAct} : dAct f act i ⟨l, z⟩ P E = (l[i]? = some (.d (.ref f)) ∧ act z (kz P .mk l) (ke E .mk l)) := (rfl)
theorem e_lamAct {EZ : Er → Z → Prop} : lamAct ra l z PZ EZ = ra ⟨cleanSl [] 0 l, z⟩ (fun d δ' => PZ d δ'.z) (fun er δ' => EZ er δ'.z) := (rfl)
theorem e_fzF  : fz false l = l := (rfl)
theorem e_clN  : cleanSl [] n [] = [] := (rfl)
theorem e_clD  : cleanSl [] n (.d x :: l) = .d x :: cleanSl [] (n + 1) l := by simp [cleanSl]
theorem e_clU  : cleanSl [] n (.un :: l) = .un :: cleanSl [] (n + 1) l := by simp [cleanSl]
theorem e_clO  : cleanSl [] n (.own xs :: l) = .un :: cleanSl [] (n + 1) l := by simp [cleanSl]
theorem e_fn_nx  : (fnN PZ R).nx δ = PZ .non δ.z := (rfl)
theorem e_fn_rt  : (fnN PZ R).rt d δ = PZ d δ.z := (rfl)
theorem e_fn_ex  : (fnN PZ R).ex er δ = R er δ.z := (rfl)
theorem e_in_nx  : (inN C PF R).nx ⟨.self C fs :: l, z⟩ = PF fs z := propext ⟨fun h => by first | exact h | exact h.2, fun h => by first | exact h | exact ⟨rfl, h⟩⟩
theorem e_in_ex  : (inN C PF R).ex er δ = R er δ.z := (rfl)
theorem e_I {cc : Int → Int → Prop} {gg : Int → Int → D} : oI cc gg (.int ii) (.int jj) PD = (cc ii jj ∧ PD (gg ii jj)) := (rfl)
theorem e_AddI  : oAdd (.int ii) (.int jj) PD = PD (.int (ii + jj)) := (rfl)
theorem e_AddIB  : oAdd (.int ii) (.bl b) PD = PD (.int (ii + b2i b)) := (rfl)
theorem e_AddS  : oAdd (.str ss) (.str tt) PD = (ss.length + tt.length ≤ 1000000 ∧ PD (.str (ss ++ tt))) := (rfl)
theorem e_AddL  : oAdd (.lst xs) (.lst ys) PD = (xs.length + ys.length ≤ 100000 ∧ PD (.lst (xs ++ ys))) := (rfl)
theorem e_AddT  : oAdd (.tup xs) (.tup ys) PD = (xs.length + ys.length ≤ 100000 ∧ PD (.tup (xs ++ ys))) := (rfl)
theorem e_Len0  : oLen [.str ss] PD = (ss.length ≤ 100000 ∧ PD (.int ss.length)) := (rfl)
theorem e_Len1  : oLen [.lst xs] PD = PD (.int xs.length) := (rfl)
theorem e_Len2  : oLen [.tup xs] PD = PD (.int xs.length) := (rfl)
theorem e_Int0  : oInt [.int ii] PD = PD (.int ii) := (rfl)
theorem e_Int1  : oInt [.bl b] PD = PD (.int (if b then 1 else 0)) := (rfl)
theorem e_Abs  : oAbs [.int ii] PD = PD (.int (if ii < 0 then -ii else ii)) := (rfl)
theorem e_Repr  : oRepr [d] PD = (shw d ∧ PD (.str (toPy d).shown)) := (rfl)
theorem e_List0  : oList [.lst xs] PD = PD (.lst xs) := (rfl)
theorem e_List1  : oList [.tup xs] PD = PD (.lst xs) := (rfl)
theorem e_Tuple0  : oTuple [.lst xs] PD = PD (.tup xs) := (rfl)
theorem e_Tuple1  : oTuple [.tup xs] PD = PD (.tup xs) := (rfl)
theorem e_Gcd  : oGcd [.int ii, .int jj] PD = PD (.int ((Nat.gcd ii.natAbs jj.natAbs : Nat) : Int)) := (rfl)
theorem e_IsNN {ng : Bool} : oIsN ng .non .non PD = PD (.bl (!ng)) := (rfl)
theorem e_IsNB {ng : Bool} : oIsN ng (.bl b) .non PD = PD (.bl ng) := (rfl)
theorem e_IsNI {ng : Bool} : oIsN ng (.int ii) .non PD = PD (.bl ng) := (rfl)
theorem e_IsNS {ng : Bool} : oIsN ng (.str ss) .non PD = PD (.bl ng) := (rfl)
theorem e_IsNX {ng : Bool} : oIsN ng (.exc cls fs) .non PD = PD (.bl ng) := (rfl)
theorem e_IsNC {ng : Bool} : oIsN ng (.ins C fs) .non PD = PD (.bl ng) := (rfl)
theorem e_IsNL {ng : Bool} : oIsN ng (.lst xs) .non PD = PD (.bl ng) := (rfl)
theorem e_IsNT {ng : Bool} : oIsN ng (.tup xs) .non PD = PD (.bl ng) := (rfl)
theorem e_NegI  : oNegA tbl (.int ii) z PZ EZ = PZ (.int (-ii)) z := (rfl)
theorem e_NegC  : oNegA tbl (.ins C fs) z PZ EZ = dpt tbl C fun s => s [.ins C fs] [] z PZ EZ := (rfl)
theorem e_AbsI  : oAbsA tbl [.int ii] z PZ EZ = PZ (.int (if ii < 0 then -ii else ii)) z := (rfl)
theorem e_AbsC  : oAbsA tbl [.ins C fs] z PZ EZ = dpt tbl C fun s => s [.ins C fs] [] z PZ EZ := (rfl)
def bok (P : D → Z → Prop) (d : D) (z : Z) : Prop := ∃ b, d = .bl b ∧ P (.bl b) z
def bno (P : D → Z → Prop) (d : D) (z : Z) : Prop := ∃ b, d = .bl b ∧ P (.bl (!b)) z
def sok (P : D → Z → Prop) (d : D) (z : Z) : Prop := ∃ b, d = .str b ∧ P (.str b) z
theorem e_bok  : bok PZ (.bl b) z = PZ (.bl b) z := propext ⟨fun ⟨_, e, h⟩ => by cases e; exact h, fun h => ⟨_, rfl, h⟩⟩
theorem e_bno  : bno PZ (.bl b) z = PZ (.bl (!b)) z := propext ⟨fun ⟨_, e, h⟩ => by cases e; exact h, fun h => ⟨_, rfl, h⟩⟩
theorem e_sok  : sok PZ (.str ss) z = PZ (.str ss) z := propext ⟨fun ⟨_, e, h⟩ => by cases e; exact h, fun h => ⟨_, rfl, h⟩⟩
theorem e_BoolI  : oBoolA tbl [.int ii] z PZ EZ = PZ (.bl (ii != 0)) z := (rfl)
theorem e_BoolB  : oBoolA tbl [.bl b] z PZ EZ = PZ (.bl b) z := (rfl)
theorem e_BoolC  : oBoolA tbl [.ins C fs] z PZ EZ = dpt tbl C fun s => s [.ins C fs] [] z (bok PZ) EZ := (rfl)
theorem e_StrI  : oStrA tbl [.int ii] z PZ EZ = (intS ii ∧ PZ (.str (toString ii)) z) := (rfl)
theorem e_StrS  : oStrA tbl [.str ss] z PZ EZ = PZ (.str ss) z := (rfl)
theorem e_StrC  : oStrA tbl [.ins C fs] z PZ EZ = dpt tbl C fun s => s [.ins C fs] [] z (sok PZ) EZ := (rfl)
theorem e_dpt {kk : DSp2 → Prop} {tr : List (Addr × DSp2)} : dpt ((C, sp) :: tr) C kk = kk sp := propext dpt_one
theorem e_EqC  : oEqA w tbl (.ins C fs) y z PZ EZ = (notF w C y ∧ dpt tbl C fun s => s [.ins C fs, y] [] z PZ EZ) := (rfl)
theorem e_EqI  : oEqA w tbl (.int ii) (.int jj) z PZ EZ = PZ (.bl (decide (ii = jj))) z := propext oEqA_ii
theorem e_EqB {b2 : Bool} : oEqA w tbl (.bl b) (.bl b2) z PZ EZ = PZ (.bl (b == b2)) z := propext oEqA_bb
theorem e_EqS  : oEqA w tbl (.str ss) (.str tt) z PZ EZ = PZ (.bl (ss == tt)) z := propext oEqA_ss
theorem e_EqIC  : oEqA w tbl (.int ii) (.ins C fs) z PZ EZ = dpt tbl C fun s => s [.ins C fs, .int ii] [] z PZ EZ := propext oEqA_ri
theorem e_Eq0I  : oEq (.int ii) (.int jj) PD = PD (.bl (decide (ii = jj))) := propext oEq_ii
theorem e_Eq0B {b2 : Bool} : oEq (.bl b) (.bl b2) PD = PD (.bl (b == b2)) := propext oEq_bb
theorem e_Eq0S  : oEq (.str ss) (.str tt) PD = PD (.bl (ss == tt)) := propext oEq_ss
theorem e_Ne0I  : oNe (.int ii) (.int jj) PD = PD (.bl (!decide (ii = jj))) := propext oNe_ii
theorem e_Ne0S  : oNe (.str ss) (.str tt) PD = PD (.bl (!(ss == tt))) := propext oNe_ss
theorem e_NeI  : oNeB w tbl (.int ii) (.int jj) z PZ EZ = PZ (.bl (!decide (ii = jj))) z := propext oNeB_ii
theorem e_NeS  : oNeB w tbl (.str ss) (.str tt) z PZ EZ = PZ (.bl (!(ss == tt))) z := propext oNeB_ss
theorem e_NeC  : oNeB w tbl (.ins C fs) y z PZ EZ = (notF w C y ∧ dpt tbl C fun s => s [.ins C fs, y] [] z (bno PZ) EZ) := (rfl)
theorem e_NeIC  : oNeB w tbl (.int ii) (.ins C fs) z PZ EZ = dpt tbl C fun s => s [.ins C fs, .int ii] [] z (bno PZ) EZ := propext oNeB_ri
theorem e_OrdI {gb : Int → Int → Bool} : oOrdA w tbl tb2 gb (.int ii) (.int jj) z PZ EZ = PZ (.bl (gb ii jj)) z := (rfl)
theorem e_OrdC {gb : Int → Int → Bool} : oOrdA w tbl tb2 gb (.ins C fs) y z PZ EZ = (notF w C y ∧ dpt tbl C fun s => s [.ins C fs, y] [] z PZ EZ) := (rfl)
theorem e_OrdIC {gb : Int → Int → Bool} : oOrdA w tbl tb2 gb (.int ii) (.ins C fs) z PZ EZ = dpt tb2 C fun s => s [.ins C fs, .int ii] [] z PZ EZ := propext oOrdA_ri
theorem e_BinI {nm : String} : oBinA nm tbl tb2 op (.int ii) (.int jj) z PZ EZ = op (.int ii) (.int jj) (fun d => PZ d z) := (rfl)
theorem e_BinC {nm : String} : oBinA nm tbl tb2 op (.ins C fs) y z PZ EZ = (okR C y = true ∧ dpt tbl C fun s => s [.ins C fs, y] [] z PZ EZ) := (rfl)
theorem e_BinIC {nm : String} : oBinA nm tbl tb2 op (.int ii) (.ins C fs) z PZ EZ = dpt tb2 C fun s => s [.ins C fs, .int ii] [] z PZ EZ := propext oBinA_ri
theorem e_BinS {nm : String} : oBinA nm tbl tb2 op (.str ss) (.str tt) z PZ EZ = op (.str ss) (.str tt) (fun d => PZ d z) := (rfl)
theorem e_BinL {nm : String} : oBinA nm tbl tb2 op (.lst xs) (.lst ys) z PZ EZ = op (.lst xs) (.lst ys) (fun d => PZ d z) := (rfl)
theorem e_InpC  : oInpA tbl op (.ins C fs) y z PZ EZ = (okR C y = true ∧ dpt tbl C fun s => s [.ins C fs, y] [] z PZ EZ) := (rfl)
theorem e_MulI  : oMulA (.int ii) (.int jj) PD = (CMulE ii jj ∧ PD (.int (ii * jj))) := (rfl)
theorem e_MulL  : oMulA (.lst xs) (.int ii) PD = ((0 ≤ ii ∧ ii < 1000000 ∧ xs.length * ii.toNat ≤ 100000) ∧ PD (.lst (List.replicate ii.toNat xs).flatten)) := (rfl)
theorem e_okRi  : okR C (.int ii) = true := (rfl)
theorem e_okRC  : okR C (.ins C fs) = true := by simp [okR]
theorem e_agk  : agk opE x y i ⟨l, z⟩ N = opE x y z (kst N.nx .mk i l) (ke N.ex .mk l) := (rfl)
theorem e_LC  : dLC ri g t re vs δ P E = ri δ (fun items δ1 => lck g t re vs P items δ1) E := (rfl)
theorem e_lck  : lck g t re vs P xs ⟨l, z⟩ = dCol g t re (cleanSl vs 0 l) (lcP P .mk l) xs [] z := (rfl)
theorem e_lcP {s1 : Seal P} : lcP P s1 l ds z = P (.lst ds) ⟨l, z⟩ := (rfl)
theorem e_ColN {PC : List D → Z → Prop} : dCol g t re l PC [] xs z = PC xs z := (rfl)
theorem e_ColC {PC : List D → Z → Prop} : dCol g t re l PC (x :: ys) xs z = g x ⟨l, z⟩ (fun δ2 => t δ2 (fun b δ3 => iteB b (fun _ => re δ3 (fun y δ4 => colk g t re l PC ys xs y δ4) (fun _ _ => False)) (fun _ => dCol g t re l PC ys xs δ3.z) .mk .mk) (fun _ _ => False)) := (rfl)
theorem e_colk {PC : List D → Z → Prop} : colk g t re l PC ys xs y ⟨r, z⟩ = (xs.length < 100000 ∧ dCol g t re l PC ys (xs ++ [y]) z) := (rfl)
theorem e_Yes  : dYes δ PT E = PT true δ := (rfl)
theorem e_clV {vs : List Nat} : cleanSl vs n (.d x :: l) = (if n ∈ vs then .un else .d x) :: cleanSl vs (n + 1) l := by simp [cleanSl]
theorem e_clVU {vs : List Nat} : cleanSl vs n (.un :: l) = .un :: cleanSl vs (n + 1) l := by simp [cleanSl]
theorem e_clVO {vs : List Nat} : cleanSl vs n (.own xs :: l) = .un :: cleanSl vs (n + 1) l := by simp [cleanSl]
theorem e_clVN {vs : List Nat} : cleanSl vs n [] = [] := (rfl)
theorem e_V0  : dVar 0 ⟨.d x :: l, z⟩ P E = P x ⟨.d x :: l, z⟩ := (rfl)
theorem e_O0  : dVar 0 ⟨.own xs :: l, z⟩ P E = P (.lst xs) ⟨.d (.lst xs) :: l, z⟩ := (rfl)
theorem e_S0 {a0 : Sl}  : stp k 0 s ⟨a0 :: l, z⟩ = k ⟨s :: l, z⟩ := (rfl)
theorem e_P0  : appk k 0 d ⟨.own xs :: l, z⟩ = (xs.length < 100000 ∧ k ⟨.own (xs ++ [d]) :: l, z⟩) := (rfl)
theorem e_H0  : hasO 0 ⟨.own xs :: l, z⟩ = True := propext ⟨fun _ => trivial, fun _ => ⟨_, (rfl)⟩⟩
theorem e_G0  : dAug 0 opE ra N ⟨.d x :: l, z⟩ = ra ⟨.d x :: l, z⟩ (fun y δ1 => agk opE x y 0 δ1 N) N.ex := (rfl)
theorem e_V1 {a0 : Sl}  : dVar 1 ⟨a0 :: .d x :: l, z⟩ P E = P x ⟨a0 :: .d x :: l, z⟩ := (rfl)
theorem e_O1 {a0 : Sl}  : dVar 1 ⟨a0 :: .own xs :: l, z⟩ P E = P (.lst xs) ⟨a0 :: .d (.lst xs) :: l, z⟩ := (rfl)
theorem e_S1 {a0 a1 : Sl}  : stp k 1 s ⟨a0 :: a1 :: l, z⟩ = k ⟨a0 :: s :: l, z⟩ := (rfl)
theorem e_P1 {a0 : Sl}  : appk k 1 d ⟨a0 :: .own xs :: l, z⟩ = (xs.length < 100000 ∧ k ⟨a0 :: .own (xs ++ [d]) :: l, z⟩) := (rfl)
theorem e_H1 {a0 : Sl}  : hasO 1 ⟨a0 :: .own xs :: l, z⟩ = True := propext ⟨fun _ => trivial, fun _ => ⟨_, (rfl)⟩⟩
theorem e_G1 {a0 : Sl}  : dAug 1 opE ra N ⟨a0 :: .d x :: l, z⟩ = ra ⟨a0 :: .d x :: l, z⟩ (fun y δ1 => agk opE x y 1 δ1 N) N.ex := (rfl)
theorem e_V2 {a0 a1 : Sl}  : dVar 2 ⟨a0 :: a1 :: .d x :: l, z⟩ P E = P x ⟨a0 :: a1 :: .d x :: l, z⟩ := (rfl)
theorem e_O2 {a0 a1 : Sl}  : dVar 2 ⟨a0 :: a1 :: .own xs :: l, z⟩ P E = P (.lst xs) ⟨a0 :: a1 :: .d (.lst xs) :: l, z⟩ := (rfl)
theorem e_S2 {a0 a1 a2 : Sl}  : stp k 2 s ⟨a0 :: a1 :: a2 :: l, z⟩ = k ⟨a0 :: a1 :: s :: l, z⟩ := (rfl)
theorem e_P2 {a0 a1 : Sl}  : appk k 2 d ⟨a0 :: a1 :: .own xs :: l, z⟩ = (xs.length < 100000 ∧ k ⟨a0 :: a1 :: .own (xs ++ [d]) :: l, z⟩) := (rfl)
theorem e_H2 {a0 a1 : Sl}  : hasO 2 ⟨a0 :: a1 :: .own xs :: l, z⟩ = True := propext ⟨fun _ => trivial, fun _ => ⟨_, (rfl)⟩⟩
theorem e_G2 {a0 a1 : Sl}  : dAug 2 opE ra N ⟨a0 :: a1 :: .d x :: l, z⟩ = ra ⟨a0 :: a1 :: .d x :: l, z⟩ (fun y δ1 => agk opE x y 2 δ1 N) N.ex := (rfl)
theorem e_V3 {a0 a1 a2 : Sl}  : dVar 3 ⟨a0 :: a1 :: a2 :: .d x :: l, z⟩ P E = P x ⟨a0 :: a1 :: a2 :: .d x :: l, z⟩ := (rfl)
theorem e_O3 {a0 a1 a2 : Sl}  : dVar 3 ⟨a0 :: a1 :: a2 :: .own xs :: l, z⟩ P E = P (.lst xs) ⟨a0 :: a1 :: a2 :: .d (.lst xs) :: l, z⟩ := (rfl)
theorem e_S3 {a0 a1 a2 a3 : Sl}  : stp k 3 s ⟨a0 :: a1 :: a2 :: a3 :: l, z⟩ = k ⟨a0 :: a1 :: a2 :: s :: l, z⟩ := (rfl)
theorem e_P3 {a0 a1 a2 : Sl}  : appk k 3 d ⟨a0 :: a1 :: a2 :: .own xs :: l, z⟩ = (xs.length < 100000 ∧ k ⟨a0 :: a1 :: a2 :: .own (xs ++ [d]) :: l, z⟩) := (rfl)
theorem e_H3 {a0 a1 a2 : Sl}  : hasO 3 ⟨a0 :: a1 :: a2 :: .own xs :: l, z⟩ = True := propext ⟨fun _ => trivial, fun _ => ⟨_, (rfl)⟩⟩
theorem e_G3 {a0 a1 a2 : Sl}  : dAug 3 opE ra N ⟨a0 :: a1 :: a2 :: .d x :: l, z⟩ = ra ⟨a0 :: a1 :: a2 :: .d x :: l, z⟩ (fun y δ1 => agk opE x y 3 δ1 N) N.ex := (rfl)
theorem e_V4 {a0 a1 a2 a3 : Sl}  : dVar 4 ⟨a0 :: a1 :: a2 :: a3 :: .d x :: l, z⟩ P E = P x ⟨a0 :: a1 :: a2 :: a3 :: .d x :: l, z⟩ := (rfl)
theorem e_O4 {a0 a1 a2 a3 : Sl}  : dVar 4 ⟨a0 :: a1 :: a2 :: a3 :: .own xs :: l, z⟩ P E = P (.lst xs) ⟨a0 :: a1 :: a2 :: a3 :: .d (.lst xs) :: l, z⟩ := (rfl)
theorem e_S4 {a0 a1 a2 a3 a4 : Sl}  : stp k 4 s ⟨a0 :: a1 :: a2 :: a3 :: a4 :: l, z⟩ = k ⟨a0 :: a1 :: a2 :: a3 :: s :: l, z⟩ := (rfl)
theorem e_P4 {a0 a1 a2 a3 : Sl}  : appk k 4 d ⟨a0 :: a1 :: a2 :: a3 :: .own xs :: l, z⟩ = (xs.length < 100000 ∧ k ⟨a0 :: a1 :: a2 :: a3 :: .own (xs ++ [d]) :: l, z⟩) := (rfl)
theorem e_H4 {a0 a1 a2 a3 : Sl}  : hasO 4 ⟨a0 :: a1 :: a2 :: a3 :: .own xs :: l, z⟩ = True := propext ⟨fun _ => trivial, fun _ => ⟨_, (rfl)⟩⟩
theorem e_G4 {a0 a1 a2 a3 : Sl}  : dAug 4 opE ra N ⟨a0 :: a1 :: a2 :: a3 :: .d x :: l, z⟩ = ra ⟨a0 :: a1 :: a2 :: a3 :: .d x :: l, z⟩ (fun y δ1 => agk opE x y 4 δ1 N) N.ex := (rfl)
theorem e_V5 {a0 a1 a2 a3 a4 : Sl}  : dVar 5 ⟨a0 :: a1 :: a2 :: a3 :: a4 :: .d x :: l, z⟩ P E = P x ⟨a0 :: a1 :: a2 :: a3 :: a4 :: .d x :: l, z⟩ := (rfl)
theorem e_O5 {a0 a1 a2 a3 a4 : Sl}  : dVar 5 ⟨a0 :: a1 :: a2 :: a3 :: a4 :: .own xs :: l, z⟩ P E = P (.lst xs) ⟨a0 :: a1 :: a2 :: a3 :: a4 :: .d (.lst xs) :: l, z⟩ := (rfl)
theorem e_S5 {a0 a1 a2 a3 a4 a5 : Sl}  : stp k 5 s ⟨a0 :: a1 :: a2 :: a3 :: a4 :: a5 :: l, z⟩ = k ⟨a0 :: a1 :: a2 :: a3 :: a4 :: s :: l, z⟩ := (rfl)
theorem e_P5 {a0 a1 a2 a3 a4 : Sl}  : appk k 5 d ⟨a0 :: a1 :: a2 :: a3 :: a4 :: .own xs :: l, z⟩ = (xs.length < 100000 ∧ k ⟨a0 :: a1 :: a2 :: a3 :: a4 :: .own (xs ++ [d]) :: l, z⟩) := (rfl)
theorem e_H5 {a0 a1 a2 a3 a4 : Sl}  : hasO 5 ⟨a0 :: a1 :: a2 :: a3 :: a4 :: .own xs :: l, z⟩ = True := propext ⟨fun _ => trivial, fun _ => ⟨_, (rfl)⟩⟩
theorem e_G5 {a0 a1 a2 a3 a4 : Sl}  : dAug 5 opE ra N ⟨a0 :: a1 :: a2 :: a3 :: a4 :: .d x :: l, z⟩ = ra ⟨a0 :: a1 :: a2 :: a3 :: a4 :: .d x :: l, z⟩ (fun y δ1 => agk opE x y 5 δ1 N) N.ex := (rfl)
theorem e_V6 {a0 a1 a2 a3 a4 a5 : Sl}  : dVar 6 ⟨a0 :: a1 :: a2 :: a3 :: a4 :: a5 :: .d x :: l, z⟩ P E = P x ⟨a0 :: a1 :: a2 :: a3 :: a4 :: a5 :: .d x :: l, z⟩ := (rfl)
theorem e_O6 {a0 a1 a2 a3 a4 a5 : Sl}  : dVar 6 ⟨a0 :: a1 :: a2 :: a3 :: a4 :: a5 :: .own xs :: l, z⟩ P E = P (.lst xs) ⟨a0 :: a1 :: a2 :: a3 :: a4 :: a5 :: .d (.lst xs) :: l, z⟩ := (rfl)
theorem e_S6 {a0 a1 a2 a3 a4 a5 a6 : Sl}  : stp k 6 s ⟨a0 :: a1 :: a2 :: a3 :: a4 :: a5 :: a6 :: l, z⟩ = k ⟨a0 :: a1 :: a2 :: a3 :: a4 :: a5 :: s :: l, z⟩ := (rfl)
theorem e_P6 {a0 a1 a2 a3 a4 a5 : Sl}  : appk k 6 d ⟨a0 :: a1 :: a2 :: a3 :: a4 :: a5 :: .own xs :: l, z⟩ = (xs.length < 100000 ∧ k ⟨a0 :: a1 :: a2 :: a3 :: a4 :: a5 :: .own (xs ++ [d]) :: l, z⟩) := (rfl)
theorem e_H6 {a0 a1 a2 a3 a4 a5 : Sl}  : hasO 6 ⟨a0 :: a1 :: a2 :: a3 :: a4 :: a5 :: .own xs :: l, z⟩ = True := propext ⟨fun _ => trivial, fun _ => ⟨_, (rfl)⟩⟩
theorem e_G6 {a0 a1 a2 a3 a4 a5 : Sl}  : dAug 6 opE ra N ⟨a0 :: a1 :: a2 :: a3 :: a4 :: a5 :: .d x :: l, z⟩ = ra ⟨a0 :: a1 :: a2 :: a3 :: a4 :: a5 :: .d x :: l, z⟩ (fun y δ1 => agk opE x y 6 δ1 N) N.ex := (rfl)
theorem e_V7 {a0 a1 a2 a3 a4 a5 a6 : Sl}  : dVar 7 ⟨a0 :: a1 :: a2 :: a3 :: a4 :: a5 :: a6 :: .d x :: l, z⟩ P E = P x ⟨a0 :: a1 :: a2 :: a3 :: a4 :: a5 :: a6 :: .d x :: l, z⟩ := (rfl)
theorem e_O7 {a0 a1 a2 a3 a4 a5 a6 : Sl}  : dVar 7 ⟨a0 :: a1 :: a2 :: a3 :: a4 :: a5 :: a6 :: .own xs :: l, z⟩ P E = P (.lst xs) ⟨a0 :: a1 :: a2 :: a3 :: a4 :: a5 :: a6 :: .d (.lst xs) :: l, z⟩ := (rfl)
theorem e_S7 {a0 a1 a2 a3 a4 a5 a6 a7 : Sl}  : stp k 7 s ⟨a0 :: a1 :: a2 :: a3 :: a4 :: a5 :: a6 :: a7 :: l, z⟩ = k ⟨a0 :: a1 :: a2 :: a3 :: a4 :: a5 :: a6 :: s :: l, z⟩ := (rfl)
theorem e_P7 {a0 a1 a2 a3 a4 a5 a6 : Sl}  : appk k 7 d ⟨a0 :: a1 :: a2 :: a3 :: a4 :: a5 :: a6 :: .own xs :: l, z⟩ = (xs.length < 100000 ∧ k ⟨a0 :: a1 :: a2 :: a3 :: a4 :: a5 :: a6 :: .own (xs ++ [d]) :: l, z⟩) := (rfl)
theorem e_H7 {a0 a1 a2 a3 a4 a5 a6 : Sl}  : hasO 7 ⟨a0 :: a1 :: a2 :: a3 :: a4 :: a5 :: a6 :: .own xs :: l, z⟩ = True := propext ⟨fun _ => trivial, fun _ => ⟨_, (rfl)⟩⟩
theorem e_G7 {a0 a1 a2 a3 a4 a5 a6 : Sl}  : dAug 7 opE ra N ⟨a0 :: a1 :: a2 :: a3 :: a4 :: a5 :: a6 :: .d x :: l, z⟩ = ra ⟨a0 :: a1 :: a2 :: a3 :: a4 :: a5 :: a6 :: .d x :: l, z⟩ (fun y δ1 => agk opE x y 7 δ1 N) N.ex := (rfl)
theorem e_V8 {a0 a1 a2 a3 a4 a5 a6 a7 : Sl}  : dVar 8 ⟨a0 :: a1 :: a2 :: a3 :: a4 :: a5 :: a6 :: a7 :: .d x :: l, z⟩ P E = P x ⟨a0 :: a1 :: a2 :: a3 :: a4 :: a5 :: a6 :: a7 :: .d x :: l, z⟩ := (rfl)
theorem e_O8 {a0 a1 a2 a3 a4 a5 a6 a7 : Sl}  : dVar 8 ⟨a0 :: a1 :: a2 :: a3 :: a4 :: a5 :: a6 :: a7 :: .own xs :: l, z⟩ P E = P (.lst xs) ⟨a0 :: a1 :: a2 :: a3 :: a4 :: a5 :: a6 :: a7 :: .d (.lst xs) :: l, z⟩ := (rfl)
theorem e_S8 {a0 a1 a2 a3 a4 a5 a6 a7 a8 : Sl}  : stp k 8 s ⟨a0 :: a1 :: a2 :: a3 :: a4 :: a5 :: a6 :: a7 :: a8 :: l, z⟩ = k ⟨a0 :: a1 :: a2 :: a3 :: a4 :: a5 :: a6 :: a7 :: s :: l, z⟩ := (rfl)
theorem e_P8 {a0 a1 a2 a3 a4 a5 a6 a7 : Sl}  : appk k 8 d ⟨a0 :: a1 :: a2 :: a3 :: a4 :: a5 :: a6 :: a7 :: .own xs :: l, z⟩ = (xs.length < 100000 ∧ k ⟨a0 :: a1 :: a2 :: a3 :: a4 :: a5 :: a6 :: a7 :: .own (xs ++ [d]) :: l, z⟩) := (rfl)
theorem e_H8 {a0 a1 a2 a3 a4 a5 a6 a7 : Sl}  : hasO 8 ⟨a0 :: a1 :: a2 :: a3 :: a4 :: a5 :: a6 :: a7 :: .own xs :: l, z⟩ = True := propext ⟨fun _ => trivial, fun _ => ⟨_, (rfl)⟩⟩
theorem e_G8 {a0 a1 a2 a3 a4 a5 a6 a7 : Sl}  : dAug 8 opE ra N ⟨a0 :: a1 :: a2 :: a3 :: a4 :: a5 :: a6 :: a7 :: .d x :: l, z⟩ = ra ⟨a0 :: a1 :: a2 :: a3 :: a4 :: a5 :: a6 :: a7 :: .d x :: l, z⟩ (fun y δ1 => agk opE x y 8 δ1 N) N.ex := (rfl)
theorem e_V9 {a0 a1 a2 a3 a4 a5 a6 a7 a8 : Sl}  : dVar 9 ⟨a0 :: a1 :: a2 :: a3 :: a4 :: a5 :: a6 :: a7 :: a8 :: .d x :: l, z⟩ P E = P x ⟨a0 :: a1 :: a2 :: a3 :: a4 :: a5 :: a6 :: a7 :: a8 :: .d x :: l, z⟩ := (rfl)
theorem e_O9 {a0 a1 a2 a3 a4 a5 a6 a7 a8 : Sl}  : dVar 9 ⟨a0 :: a1 :: a2 :: a3 :: a4 :: a5 :: a6 :: a7 :: a8 :: .own xs :: l, z⟩ P E = P (.lst xs) ⟨a0 :: a1 :: a2 :: a3 :: a4 :: a5 :: a6 :: a7 :: a8 :: .d (.lst xs) :: l, z⟩ := (rfl)
theorem e_S9 {a0 a1 a2 a3 a4 a5 a6 a7 a8 a9 : Sl}  : stp k 9 s ⟨a0 :: a1 :: a2 :: a3 :: a4 :: a5 :: a6 :: a7 :: a8 :: a9 :: l, z⟩ = k ⟨a0 :: a1 :: a2 :: a3 :: a4 :: a5 :: a6 :: a7 :: a8 :: s :: l, z⟩ := (rfl)
theorem e_P9 {a0 a1 a2 a3 a4 a5 a6 a7 a8 : Sl}  : appk k 9 d ⟨a0 :: a1 :: a2 :: a3 :: a4 :: a5 :: a6 :: a7 :: a8 :: .own xs :: l, z⟩ = (xs.length < 100000 ∧ k ⟨a0 :: a1 :: a2 :: a3 :: a4 :: a5 :: a6 :: a7 :: a8 :: .own (xs ++ [d]) :: l, z⟩) := (rfl)
theorem e_H9 {a0 a1 a2 a3 a4 a5 a6 a7 a8 : Sl}  : hasO 9 ⟨a0 :: a1 :: a2 :: a3 :: a4 :: a5 :: a6 :: a7 :: a8 :: .own xs :: l, z⟩ = True := propext ⟨fun _ => trivial, fun _ => ⟨_, (rfl)⟩⟩
theorem e_G9 {a0 a1 a2 a3 a4 a5 a6 a7 a8 : Sl}  : dAug 9 opE ra N ⟨a0 :: a1 :: a2 :: a3 :: a4 :: a5 :: a6 :: a7 :: a8 :: .d x :: l, z⟩ = ra ⟨a0 :: a1 :: a2 :: a3 :: a4 :: a5 :: a6 :: a7 :: a8 :: .d x :: l, z⟩ (fun y δ1 => agk opE x y 9 δ1 N) N.ex := (rfl)
theorem e_V10 {a0 a1 a2 a3 a4 a5 a6 a7 a8 a9 : Sl}  : dVar 10 ⟨a0 :: a1 :: a2 :: a3 :: a4 :: a5 :: a6 :: a7 :: a8 :: a9 :: .d x :: l, z⟩ P E = P x ⟨a0 :: a1 :: a2 :: a3 :: a4 :: a5 :: a6 :: a7 :: a8 :: a9 :: .d x :: l, z⟩ := (rfl)
theorem e_O10 {a0 a1 a2 a3 a4 a5 a6 a7 a8 a9 : Sl}  : dVar 10 ⟨a0 :: a1 :: a2 :: a3 :: a4 :: a5 :: a6 :: a7 :: a8 :: a9 :: .own xs :: l, z⟩ P E = P (.lst xs) ⟨a0 :: a1 :: a2 :: a3 :: a4 :: a5 :: a6 :: a7 :: a8 :: a9 :: .d (.lst xs) :: l, z⟩ := (rfl)
theorem e_S10 {a0 a1 a2 a3 a4 a5 a6 a7 a8 a9 a10 : Sl}  : stp k 10 s ⟨a0 :: a1 :: a2 :: a3 :: a4 :: a5 :: a6 :: a7 :: a8 :: a9 :: a10 :: l, z⟩ = k ⟨a0 :: a1 :: a2 :: a3 :: a4 :: a5 :: a6 :: a7 :: a8 :: a9 :: s :: l, z⟩ := (rfl)
theorem e_P10 {a0 a1 a2 a3 a4 a5 a6 a7 a8 a9 : Sl}  : appk k 10 d ⟨a0 :: a1 :: a2 :: a3 :: a4 :: a5 :: a6 :: a7 :: a8 :: a9 :: .own xs :: l, z⟩ = (xs.length < 100000 ∧ k ⟨a0 :: a1 :: a2 :: a3 :: a4 :: a5 :: a6 :: a7 :: a8 :: a9 :: .own (xs ++ [d]) :: l, z⟩) := (rfl)
theorem e_H10 {a0 a1 a2 a3 a4 a5 a6 a7 a8 a9 : Sl}  : hasO 10 ⟨a0 :: a1 :: a2 :: a3 :: a4 :: a5 :: a6 :: a7 :: a8 :: a9 :: .own xs :: l, z⟩ = True := propext ⟨fun _ => trivial, fun _ => ⟨_, (rfl)⟩⟩
theorem e_G10 {a0 a1 a2 a3 a4 a5 a6 a7 a8 a9 : Sl}  : dAug 10 opE ra N ⟨a0 :: a1 :: a2 :: a3 :: a4 :: a5 :: a6 :: a7 :: a8 :: a9 :: .d x :: l, z⟩ = ra ⟨a0 :: a1 :: a2 :: a3 :: a4 :: a5 :: a6 :: a7 :: a8 :: a9 :: .d x :: l, z⟩ (fun y δ1 => agk opE x y 10 δ1 N) N.ex := (rfl)
theorem e_V11 {a0 a1 a2 a3 a4 a5 a6 a7 a8 a9 a10 : Sl}  : dVar 11 ⟨a0 :: a1 :: a2 :: a3 :: a4 :: a5 :: a6 :: a7 :: a8 :: a9 :: a10 :: .d x :: l, z⟩ P E = P x ⟨a0 :: a1 :: a2 :: a3 :: a4 :: a5 :: a6 :: a7 :: a8 :: a9 :: a10 :: .d x :: l, z⟩ := (rfl)
theorem e_O11 {a0 a1 a2 a3 a4 a5 a6 a7 a8 a9 a10 : Sl}  : dVar 11 ⟨a0 :: a1 :: a2 :: a3 :: a4 :: a5 :: a6 :: a7 :: a8 :: a9 :: a10 :: .own xs :: l, z⟩ P E = P (.lst xs) ⟨a0 :: a1 :: a2 :: a3 :: a4 :: a5 :: a6 :: a7 :: a8 :: a9 :: a10 :: .d (.lst xs) :: l, z⟩ := (rfl)
theorem e_S11 {a0 a1 a2 a3 a4 a5 a6 a7 a8 a9 a10 a11 : Sl}  : stp k 11 s ⟨a0 :: a1 :: a2 :: a3 :: a4 :: a5 :: a6 :: a7 :: a8 :: a9 :: a10 :: a11 :: l, z⟩ = k ⟨a0 :: a1 :: a2 :: a3 :: a4 :: a5 :: a6 :: a7 :: a8 :: a9 :: a10 :: s :: l, z⟩ := (rfl)
theorem e_P11 {a0 a1 a2 a3 a4 a5 a6 a7 a8 a9 a10 : Sl}  : appk k 11 d ⟨a0 :: a1 :: a2 :: a3 :: a4 :: a5 :: a6 :: a7 :: a8 :: a9 :: a10 :: .own xs :: l, z⟩ = (xs.length < 100000 ∧ k ⟨a0 :: a1 :: a2 :: a3 :: a4 :: a5 :: a6 :: a7 :: a8 :: a9 :: a10 :: .own (xs ++ [d]) :: l, z⟩) := (rfl)
theorem e_H11 {a0 a1 a2 a3 a4 a5 a6 a7 a8 a9 a10 : Sl}  : hasO 11 ⟨a0 :: a1 :: a2 :: a3 :: a4 :: a5 :: a6 :: a7 :: a8 :: a9 :: a10 :: .own xs :: l, z⟩ = True := propext ⟨fun _ => trivial, fun _ => ⟨_, (rfl)⟩⟩
theorem e_G11 {a0 a1 a2 a3 a4 a5 a6 a7 a8 a9 a10 : Sl}  : dAug 11 opE ra N ⟨a0 :: a1 :: a2 :: a3 :: a4 :: a5 :: a6 :: a7 :: a8 :: a9 :: a10 :: .d x :: l, z⟩ = ra ⟨a0 :: a1 :: a2 :: a3 :: a4 :: a5 :: a6 :: a7 :: a8 :: a9 :: a10 :: .d x :: l, z⟩ (fun y δ1 => agk opE x y 11 δ1 N) N.ex := (rfl)
theorem e_V12 {a0 a1 a2 a3 a4 a5 a6 a7 a8 a9 a10 a11 : Sl}  : dVar 12 ⟨a0 :: a1 :: a2 :: a3 :: a4 :: a5 :: a6 :: a7 :: a8 :: a9 :: a10 :: a11 :: .d x :: l, z⟩ P E = P x ⟨a0 :: a1 :: a2 :: a3 :: a4 :: a5 :: a6 :: a7 :: a8 :: a9 :: a10 :: a11 :: .d x :: l, z⟩ := (rfl)
theorem e_O12 {a0 a1 a2 a3 a4 a5 a6 a7 a8 a9 a10 a11 : Sl}  : dVar 12 ⟨a0 :: a1 :: a2 :: a3 :: a4 :: a5 :: a6 :: a7 :: a8 :: a9 :: a10 :: a11 :: .own xs :: l, z⟩ P E = P (.lst xs) ⟨a0 :: a1 :: a2 :: a3 :: a4 :: a5 :: a6 :: a7 :: a8 :: a9 :: a10 :: a11 :: .d (.lst xs) :: l, z⟩ := (rfl)
theorem e_S12 {a0 a1 a2 a3 a4 a5 a6 a7 a8 a9 a10 a11 a12 : Sl}  : stp k 12 s ⟨a0 :: a1 :: a2 :: a3 :: a4 :: a5 :: a6 :: a7 :: a8 :: a9 :: a10 :: a11 :: a12 :: l, z⟩ = k ⟨a0 :: a1 :: a2 :: a3 :: a4 :: a5 :: a6 :: a7 :: a8 :: a9 :: a10 :: a11 :: s :: l, z⟩ := (rfl)
theorem e_P12 {a0 a1 a2 a3 a4 a5 a6 a7 a8 a9 a10 a11 : Sl}  : appk k 12 d ⟨a0 :: a1 :: a2 :: a3 :: a4 :: a5 :: a6 :: a7 :: a8 :: a9 :: a10 :: a11 :: .own xs :: l, z⟩ = (xs.length < 100000 ∧ k ⟨a0 :: a1 :: a2 :: a3 :: a4 :: a5 :: a6 :: a7 :: a8 :: a9 :: a10 :: a11 :: .own (xs ++ [d]) :: l, z⟩) := (rfl)
theorem e_H12 {a0 a1 a2 a3 a4 a5 a6 a7 a8 a9 a10 a11 : Sl}  : hasO 12 ⟨a0 :: a1 :: a2 :: a3 :: a4 :: a5 :: a6 :: a7 :: a8 :: a9 :: a10 :: a11 :: .own xs :: l, z⟩ = True := propext ⟨fun _ => trivial, fun _ => ⟨_, (rfl)⟩⟩
theorem e_G12 {a0 a1 a2 a3 a4 a5 a6 a7 a8 a9 a10 a11 : Sl}  : dAug 12 opE ra N ⟨a0 :: a1 :: a2 :: a3 :: a4 :: a5 :: a6 :: a7 :: a8 :: a9 :: a10 :: a11 :: .d x :: l, z⟩ = ra ⟨a0 :: a1 :: a2 :: a3 :: a4 :: a5 :: a6 :: a7 :: a8 :: a9 :: a10 :: a11 :: .d x :: l, z⟩ (fun y δ1 => agk opE x y 12 δ1 N) N.ex := (rfl)
theorem e_V13 {a0 a1 a2 a3 a4 a5 a6 a7 a8 a9 a10 a11 a12 : Sl}  : dVar 13 ⟨a0 :: a1 :: a2 :: a3 :: a4 :: a5 :: a6 :: a7 :: a8 :: a9 :: a10 :: a11 :: a12 :: .d x :: l, z⟩ P E = P x ⟨a0 :: a1 :: a2 :: a3 :: a4 :: a5 :: a6 :: a7 :: a8 :: a9 :: a10 :: a11 :: a12 :: .d x :: l, z⟩ := (rfl)
theorem e_O13 {a0 a1 a2 a3 a4 a5 a6 a7 a8 a9 a10 a11 a12 : Sl}  : dVar 13 ⟨a0 :: a1 :: a2 :: a3 :: a4 :: a5 :: a6 :: a7 :: a8 :: a9 :: a10 :: a11 :: a12 :: .own xs :: l, z⟩ P E = P (.lst xs) ⟨a0 :: a1 :: a2 :: a3 :: a4 :: a5 :: a6 :: a7 :: a8 :: a9 :: a10 :: a11 :: a12 :: .d (.lst xs) :: l, z⟩ := (rfl)
theorem e_S13 {a0 a1 a2 a3 a4 a5 a6 a7 a8 a9 a10 a11 a12 a13 : Sl}  : stp k 13 s ⟨a0 :: a1 :: a2 :: a3 :: a4 :: a5 :: a6 :: a7 :: a8 :: a9 :: a10 :: a11 :: a12 :: a13 :: l, z⟩ = k ⟨a0 :: a1 :: a2 :: a3 :: a4 :: a5 :: a6 :: a7 :: a8 :: a9 :: a10 :: a11 :: a12 :: s :: l, z⟩ := (rfl)
theorem e_P13 {a0 a1 a2 a3 a4 a5 a6 a7 a8 a9 a10 a11 a12 : Sl}  : appk k 13 d ⟨a0 :: a1 :: a2 :: a3 :: a4 :: a5 :: a6 :: a7 :: a8 :: a9 :: a10 :: a11 :: a12 :: .own xs :: l, z⟩ = (xs.length < 100000 ∧ k ⟨a0 :: a1 :: a2 :: a3 :: a4 :: a5 :: a6 :: a7 :: a8 :: a9 :: a10 :: a11 :: a12 :: .own (xs ++ [d]) :: l, z⟩) := (rfl)
theorem e_H13 {a0 a1 a2 a3 a4 a5 a6 a7 a8 a9 a10 a11 a12 : Sl}  : hasO 13 ⟨a0 :: a1 :: a2 :: a3 :: a4 :: a5 :: a6 :: a7 :: a8 :: a9 :: a10 :: a11 :: a12 :: .own xs :: l, z⟩ = True := propext ⟨fun _ => trivial, fun _ => ⟨_, (rfl)⟩⟩
theorem e_G13 {a0 a1 a2 a3 a4 a5 a6 a7 a8 a9 a10 a11 a12 : Sl}  : dAug 13 opE ra N ⟨a0 :: a1 :: a2 :: a3 :: a4 :: a5 :: a6 :: a7 :: a8 :: a9 :: a10 :: a11 :: a12 :: .d x :: l, z⟩ = ra ⟨a0 :: a1 :: a2 :: a3 :: a4 :: a5 :: a6 :: a7 :: a8 :: a9 :: a10 :: a11 :: a12 :: .d x :: l, z⟩ (fun y δ1 => agk opE x y 13 δ1 N) N.ex := (rfl)
theorem e_V14 {a0 a1 a2 a3 a4 a5 a6 a7 a8 a9 a10 a11 a12 a13 : Sl}  : dVar 14 ⟨a0 :: a1 :: a2 :: a3 :: a4 :: a5 :: a6 :: a7 :: a8 :: a9 :: a10 :: a11 :: a12 :: a13 :: .d x :: l, z⟩ P E = P x ⟨a0 :: a1 :: a2 :: a3 :: a4 :: a5 :: a6 :: a7 :: a8 :: a9 :: a10 :: a11 :: a12 :: a13 :: .d x :: l, z⟩ := (rfl)
theorem e_O14 {a0 a1 a2 a3 a4 a5 a6 a7 a8 a9 a10 a11 a12 a13 : Sl}  : dVar 14 ⟨a0 :: a1 :: a2 :: a3 :: a4 :: a5 :: a6 :: a7 :: a8 :: a9 :: a10 :: a11 :: a12 :: a13 :: .own xs :: l, z⟩ P E = P (.lst xs) ⟨a0 :: a1 :: a2 :: a3 :: a4 :: a5 :: a6 :: a7 :: a8 :: a9 :: a10 :: a11 :: a12 :: a13 :: .d (.lst xs) :: l, z⟩ := (rfl)
theorem e_S14 {a0 a1 a2 a3 a4 a5 a6 a7 a8 a9 a10 a11 a12 a13 a14 : Sl}  : stp k 14 s ⟨a0 :: a1 :: a2 :: a3 :: a4 :: a5 :: a6 :: a7 :: a8 :: a9 :: a10 :: a11 :: a12 :: a13 :: a14 :: l, z⟩ = k ⟨a0 :: a1 :: a2 :: a3 :: a4 :: a5 :: a6 :: a7 :: a8 :: a9 :: a10 :: a11 :: a12 :: a13 :: s :: l, z⟩ := (rfl)
theorem e_P14 {a0 a1 a2 a3 a4 a5 a6 a7 a8 a9 a10 a11 a12 a13 : Sl}  : appk k 14 d ⟨a0 :: a1 :: a2 :: a3 :: a4 :: a5 :: a6 :: a7 :: a8 :: a9 :: a10 :: a11 :: a12 :: a13 :: .own xs :: l, z⟩ = (xs.length < 100000 ∧ k ⟨a0 :: a1 :: a2 :: a3 :: a4 :: a5 :: a6 :: a7 :: a8 :: a9 :: a10 :: a11 :: a12 :: a13 :: .own (xs ++ [d]) :: l, z⟩) := (rfl)
theorem e_H14 {a0 a1 a2 a3 a4 a5 a6 a7 a8 a9 a10 a11 a12 a13 : Sl}  : hasO 14 ⟨a0 :: a1 :: a2 :: a3 :: a4 :: a5 :: a6 :: a7 :: a8 :: a9 :: a10 :: a11 :: a12 :: a13 :: .own xs :: l, z⟩ = True := propext ⟨fun _ => trivial, fun _ => ⟨_, (rfl)⟩⟩
theorem e_G14 {a0 a1 a2 a3 a4 a5 a6 a7 a8 a9 a10 a11 a12 a13 : Sl}  : dAug 14 opE ra N ⟨a0 :: a1 :: a2 :: a3 :: a4 :: a5 :: a6 :: a7 :: a8 :: a9 :: a10 :: a11 :: a12 :: a13 :: .d x :: l, z⟩ = ra ⟨a0 :: a1 :: a2 :: a3 :: a4 :: a5 :: a6 :: a7 :: a8 :: a9 :: a10 :: a11 :: a12 :: a13 :: .d x :: l, z⟩ (fun y δ1 => agk opE x y 14 δ1 N) N.ex := (rfl)
theorem e_V15 {a0 a1 a2 a3 a4 a5 a6 a7 a8 a9 a10 a11 a12 a13 a14 : Sl}  : dVar 15 ⟨a0 :: a1 :: a2 :: a3 :: a4 :: a5 :: a6 :: a7 :: a8 :: a9 :: a10 :: a11 :: a12 :: a13 :: a14 :: .d x :: l, z⟩ P E = P x ⟨a0 :: a1 :: a2 :: a3 :: a4 :: a5 :: a6 :: a7 :: a8 :: a9 :: a10 :: a11 :: a12 :: a13 :: a14 :: .d x :: l, z⟩ := (rfl)
theorem e_O15 {a0 a1 a2 a3 a4 a5 a6 a7 a8 a9 a10 a11 a12 a13 a14 : Sl}  : dVar 15 ⟨a0 :: a1 :: a2 :: a3 :: a4 :: a5 :: a6 :: a7 :: a8 :: a9 :: a10 :: a11 :: a12 :: a13 :: a14 :: .own xs :: l, z⟩ P E = P (.lst xs) ⟨a0 :: a1 :: a2 :: a3 :: a4 :: a5 :: a6 :: a7 :: a8 :: a9 :: a10 :: a11 :: a12 :: a13 :: a14 :: .d (.lst xs) :: l, z⟩ := (rfl)
theorem e_S15 {a0 a1 a2 a3 a4 a5 a6 a7 a8 a9 a10 a11 a12 a13 a14 a15 : Sl}  : stp k 15 s ⟨a0 :: a1 :: a2 :: a3 :: a4 :: a5 :: a6 :: a7 :: a8 :: a9 :: a10 :: a11 :: a12 :: a13 :: a14 :: a15 :: l, z⟩ = k ⟨a0 :: a1 :: a2 :: a3 :: a4 :: a5 :: a6 :: a7 :: a8 :: a9 :: a10 :: a11 :: a12 :: a13 :: a14 :: s :: l, z⟩ := (rfl)
theorem e_P15 {a0 a1 a2 a3 a4 a5 a6 a7 a8 a9 a10 a11 a12 a13 a14 : Sl}  : appk k 15 d ⟨a0 :: a1 :: a2 :: a3 :: a4 :: a5 :: a6 :: a7 :: a8 :: a9 :: a10 :: a11 :: a12 :: a13 :: a14 :: .own xs :: l, z⟩ = (xs.length < 100000 ∧ k ⟨a0 :: a1 :: a2 :: a3 :: a4 :: a5 :: a6 :: a7 :: a8 :: a9 :: a10 :: a11 :: a12 :: a13 :: a14 :: .own (xs ++ [d]) :: l, z⟩) := (rfl)
theorem e_H15 {a0 a1 a2 a3 a4 a5 a6 a7 a8 a9 a10 a11 a12 a13 a14 : Sl}  : hasO 15 ⟨a0 :: a1 :: a2 :: a3 :: a4 :: a5 :: a6 :: a7 :: a8 :: a9 :: a10 :: a11 :: a12 :: a13 :: a14 :: .own xs :: l, z⟩ = True := propext ⟨fun _ => trivial, fun _ => ⟨_, (rfl)⟩⟩
theorem e_G15 {a0 a1 a2 a3 a4 a5 a6 a7 a8 a9 a10 a11 a12 a13 a14 : Sl}  : dAug 15 opE ra N ⟨a0 :: a1 :: a2 :: a3 :: a4 :: a5 :: a6 :: a7 :: a8 :: a9 :: a10 :: a11 :: a12 :: a13 :: a14 :: .d x :: l, z⟩ = ra ⟨a0 :: a1 :: a2 :: a3 :: a4 :: a5 :: a6 :: a7 :: a8 :: a9 :: a10 :: a11 :: a12 :: a13 :: a14 :: .d x :: l, z⟩ (fun y δ1 => agk opE x y 15 δ1 N) N.ex := (rfl)
theorem e_V16 {a0 a1 a2 a3 a4 a5 a6 a7 a8 a9 a10 a11 a12 a13 a14 a15 : Sl}  : dVar 16 ⟨a0 :: a1 :: a2 :: a3 :: a4 :: a5 :: a6 :: a7 :: a8 :: a9 :: a10 :: a11 :: a12 :: a13 :: a14 :: a15 :: .d x :: l, z⟩ P E = P x ⟨a0 :: a1 :: a2 :: a3 :: a4 :: a5 :: a6 :: a7 :: a8 :: a9 :: a10 :: a11 :: a12 :: a13 :: a14 :: a15 :: .d x :: l, z⟩ := (rfl)
theorem e_O16 {a0 a1 a2 a3 a4 a5 a6 a7 a8 a9 a10 a11 a12 a13 a14 a15 : Sl}  : dVar 16 ⟨a0 :: a1 :: a2 :: a3 :: a4 :: a5 :: a6 :: a7 :: a8 :: a9 :: a10 :: a11 :: a12 :: a13 :: a14 :: a15 :: .own xs :: l, z⟩ P E = P (.lst xs) ⟨a0 :: a1 :: a2 :: a3 :: a4 :: a5 :: a6 :: a7 :: a8 :: a9 :: a10 :: a11 :: a12 :: a13 :: a14 :: a15 :: .d (.lst xs) :: l, z⟩ := (rfl)
theorem e_S16 {a0 a1 a2 a3 a4 a5 a6 a7 a8 a9 a10 a11 a12 a13 a14 a15 a16 : Sl}  : stp k 16 s ⟨a0 :: a1 :: a2 :: a3 :: a4 :: a5 :: a6 :: a7 :: a8 :: a9 :: a10 :: a11 :: a12 :: a13 :: a14 :: a15 :: a16 :: l, z⟩ = k ⟨a0 :: a1 :: a2 :: a3 :: a4 :: a5 :: a6 :: a7 :: a8 :: a9 :: a10 :: a11 :: a12 :: a13 :: a14 :: a15 :: s :: l, z⟩ := (rfl)
theorem e_P16 {a0 a1 a2 a3 a4 a5 a6 a7 a8 a9 a10 a11 a12 a13 a14 a15 : Sl}  : appk k 16 d ⟨a0 :: a1 :: a2 :: a3 :: a4 :: a5 :: a6 :: a7 :: a8 :: a9 :: a10 :: a11 :: a12 :: a13 :: a14 :: a15 :: .own xs :: l, z⟩ = (xs.length < 100000 ∧ k ⟨a0 :: a1 :: a2 :: a3 :: a4 :: a5 :: a6 :: a7 :: a8 :: a9 :: a10 :: a11 :: a12 :: a13 :: a14 :: a15 :: .own (xs ++ [d]) :: l, z⟩) := (rfl)
theorem e_H16 {a0 a1 a2 a3 a4 a5 a6 a7 a8 a9 a10 a11 a12 a13 a14 a15 : Sl}  : hasO 16 ⟨a0 :: a1 :: a2 :: a3 :: a4 :: a5 :: a6 :: a7 :: a8 :: a9 :: a10 :: a11 :: a12 :: a13 :: a14 :: a15 :: .own xs :: l, z⟩ = True := propext ⟨fun _ => trivial, fun _ => ⟨_, (rfl)⟩⟩
theorem e_G16 {a0 a1 a2 a3 a4 a5 a6 a7 a8 a9 a10 a11 a12 a13 a14 a15 : Sl}  : dAug 16 opE ra N ⟨a0 :: a1 :: a2 :: a3 :: a4 :: a5 :: a6 :: a7 :: a8 :: a9 :: a10 :: a11 :: a12 :: a13 :: a14 :: a15 :: .d x :: l, z⟩ = ra ⟨a0 :: a1 :: a2 :: a3 :: a4 :: a5 :: a6 :: a7 :: a8 :: a9 :: a10 :: a11 :: a12 :: a13 :: a14 :: a15 :: .d x :: l, z⟩ (fun y δ1 => agk opE x y 16 δ1 N) N.ex := (rfl)
theorem e_V17 {a0 a1 a2 a3 a4 a5 a6 a7 a8 a9 a10 a11 a12 a13 a14 a15 a16 : Sl}  : dVar 17 ⟨a0 :: a1 :: a2 :: a3 :: a4 :: a5 :: a6 :: a7 :: a8 :: a9 :: a10 :: a11 :: a12 :: a13 :: a14 :: a15 :: a16 :: .d x :: l, z⟩ P E = P x ⟨a0 :: a1 :: a2 :: a3 :: a4 :: a5 :: a6 :: a7 :: a8 :: a9 :: a10 :: a11 :: a12 :: a13 :: a14 :: a15 :: a16 :: .d x :: l, z⟩ := (rfl)
theorem e_O17 {a0 a1 a2 a3 a4 a5 a6 a7 a8 a9 a10 a11 a12 a13 a14 a15 a16 : Sl}  : dVar 17 ⟨a0 :: a1 :: a2 :: a3 :: a4 :: a5 :: a6 :: a7 :: a8 :: a9 :: a10 :: a11 :: a12 :: a13 :: a14 :: a15 :: a16 :: .own xs :: l, z⟩ P E = P (.lst xs) ⟨a0 :: a1 :: a2 :: a3 :: a4 :: a5 :: a6 :: a7 :: a8 :: a9 :: a10 :: a11 :: a12 :: a13 :: a14 :: a15 :: a16 :: .d (.lst xs) :: l, z⟩ := (rfl)
theorem e_S17 {a0 a1 a2 a3 a4 a5 a6 a7 a8 a9 a10 a11 a12 a13 a14 a15 a16 a17 : Sl}  : stp k 17 s ⟨a0 :: a1 :: a2 :: a3 :: a4 :: a5 :: a6 :: a7 :: a8 :: a9 :: a10 :: a11 :: a12 :: a13 :: a14 :: a15 :: a16 :: a17 :: l, z⟩ = k ⟨a0 :: a1 :: a2 :: a3 :: a4 :: a5 :: a6 :: a7 :: a8 :: a9 :: a10 :: a11 :: a12 :: a13 :: a14 :: a15 :: a16 :: s :: l, z⟩ := (rfl)
theorem e_P17 {a0 a1 a2 a3 a4 a5 a6 a7 a8 a9 a10 a11 a12 a13 a14 a15 a16 : Sl}  : appk k 17 d ⟨a0 :: a1 :: a2 :: a3 :: a4 :: a5 :: a6 :: a7 :: a8 :: a9 :: a10 :: a11 :: a12 :: a13 :: a14 :: a15 :: a16 :: .own xs :: l, z⟩ = (xs.length < 100000 ∧ k ⟨a0 :: a1 :: a2 :: a3 :: a4 :: a5 :: a6 :: a7 :: a8 :: a9 :: a10 :: a11 :: a12 :: a13 :: a14 :: a15 :: a16 :: .own (xs ++ [d]) :: l, z⟩) := (rfl)
theorem e_H17 {a0 a1 a2 a3 a4 a5 a6 a7 a8 a9 a10 a11 a12 a13 a14 a15 a16 : Sl}  : hasO 17 ⟨a0 :: a1 :: a2 :: a3 :: a4 :: a5 :: a6 :: a7 :: a8 :: a9 :: a10 :: a11 :: a12 :: a13 :: a14 :: a15 :: a16 :: .own xs :: l, z⟩ = True := propext ⟨fun _ => trivial, fun _ => ⟨_, (rfl)⟩⟩
theorem e_G17 {a0 a1 a2 a3 a4 a5 a6 a7 a8 a9 a10 a11 a12 a13 a14 a15 a16 : Sl}  : dAug 17 opE ra N ⟨a0 :: a1 :: a2 :: a3 :: a4 :: a5 :: a6 :: a7 :: a8 :: a9 :: a10 :: a11 :: a12 :: a13 :: a14 :: a15 :: a16 :: .d x :: l, z⟩ = ra ⟨a0 :: a1 :: a2 :: a3 :: a4 :: a5 :: a6 :: a7 :: a8 :: a9 :: a10 :: a11 :: a12 :: a13 :: a14 :: a15 :: a16 :: .d x :: l, z⟩ (fun y δ1 => agk opE x y 17 δ1 N) N.ex := (rfl)
theorem e_SF0  : dSelfFld c 0 f ⟨.self C fs :: l, z⟩ P E = (CA c C f ∧ (match fs.lookup f with | some x => P x ⟨.self C fs :: l, z⟩ | none => False)) := (rfl)
theorem loop_nil : dLoop g tb N [] δ = N.nx δ := (rfl)
theorem loop_cons : dLoop g tb N (x :: xs) δ = g x δ (fun δ2 => tb (lopN g tb xs N) δ2) := (rfl)
theorem whl_succ : dWhl t tb N (n + 1) δ = t δ (fun b δ1 => iteB b (fun _ => tb (whlN t tb n N) δ1) (fun _ => N.nx δ1) .mk .mk) N.ex := (rfl)
theorem ixk_in (h0 : 0 ≤ ii) (h1 : ii < (xs.length : Int)) (h : ∀ d, d ∈ xs → PD d) : ixk xs ii PD := by
  obtain ⟨d, e, m⟩ := atI_in h0 h1
  exact ⟨d, e, h d m⟩
theorem oBinA_rp {nm : String} (h : okL nm x = true) (k : dpt tb2 C fun s => s [.ins C fs, x] [] z PZ EZ) : oBinA nm tbl tb2 op x (.ins C fs) z PZ EZ := by
  cases x <;> first | exact ⟨h, k⟩ | simp [okL, plain] at h
end
end DL

/-! EMK: the other form of a draw; more built-in calls. -/
namespace DL
open PySem L2 PySem.Spec PyProof.Rows
def drawB_8 (c : Wd) (k1 k2 k3 k4 k5 p1 p2 p3 q k6 k7 : Int) : DTS := dRet (dBin (oI (fun _ j => 0 < j) fun i j => .int (i % j)) (dBu oInt (dCons (dBin (oI CDivW fun i j => .int (i / j)) (dVar 6) (dC (.int q))) (dNil))) (dVar 1))
def drawB_7 (c : Wd) (k1 k2 k3 k4 k5 p1 p2 p3 q k6 k7 : Int) : DTS := dSeq (dSet 6 (dBin (oI (fun _ j => 0 < j) fun i j => .int (i % j)) (dBu oInt (dCons (dBin (oI CPow fun i j => .int (i ^ j.toNat)) (dBin oAdd (dBin oAdd (dBin (oI CMulE fun i j => .int (i * j)) (dVar 6) (dBin oAdd (dBin (oI CMulE fun i j => .int (i * j)) (dC (.int 2)) (dVar 3)) (dC (.int k4)))) (dBin (oI CMulE fun i j => .int (i * j)) (dBin (oI CMulE fun i j => .int (i * j)) (dC (.int k1)) (dVar 3)) (dVar 3))) (dC (.int k5))) (dC (.int 3))) (dNil))) (dC (.int p3)))) (drawB_8 c k1 k2 k3 k4 k5 p1 p2 p3 q k6 k7)
def drawB_6 (c : Wd) (k1 k2 k3 k4 k5 p1 p2 p3 q k6 k7 : Int) : DTS := dSeq (dSet 6 (dBin (oI (fun _ j => 0 < j) fun i j => .int (i % j)) (dBu oInt (dCons (dBin (oI CPow fun i j => .int (i ^ j.toNat)) (dBin oAdd (dBin oAdd (dBin (oI (fun _ j => 0 < j) fun i j => .int (i % j)) (dBu oInt (dCons (dVar 4) (dNil))) (dC (.int p1))) (dBin (oI CMulE fun i j => .int (i * j)) (dC (.int k3)) (dVar 3))) (dC (.int k2))) (dC (.int 5))) (dNil))) (dC (.int p2)))) (drawB_7 c k1 k2 k3 k4 k5 p1 p2 p3 q k6 k7)
def drawB_5 (c : Wd) (k1 k2 k3 k4 k5 p1 p2 p3 q k6 k7 : Int) : DTS := dSeq (dIte (dAnd (dTB (dBin (oI (fun _ _ => True) fun i j => .bl (decide (i < j))) (dVar 3) (dBu oLen (dCons (dPen c 0 0) (dNil))))) (dTB (dBin (oI (fun _ _ => True) fun i j => .bl (decide (j ≤ i))) (dBu oAbs (dCons (dVar 4) (dNil))) (dBin (oI CPow fun i j => .int (i ^ j.toNat)) (dC (.int 10)) (dC (.int 18)))))) (dSeq (dSet 5 (dBin oAdd (dBin (oI CMulE fun i j => .int (i * j)) (dC (.int 2)) (dBin (oI (fun _ _ => True) fun i j => .int (i - j)) (dBu oAbs (dCons (dVar 4) (dNil))) (dBin (oI CPow fun i j => .int (i ^ j.toNat)) (dC (.int 10)) (dC (.int 18))))) (dBu oInt (dCons (dBin (oI (fun _ _ => True) fun i j => .bl (decide (i < j))) (dVar 4) (dC (.int 0))) (dNil))))) (dSeq (dAsg (dBin (oI CDivW fun i j => .int (i / j)) (dBu oInt (dCons (dVar 5) (dNil))) (dVar 1)) (gPen 0 2)) (dRet (dBin (oI (fun _ j => 0 < j) fun i j => .int (i % j)) (dBu oInt (dCons (dVar 5) (dNil))) (dVar 1))))) (dNext)) (drawB_6 c k1 k2 k3 k4 k5 p1 p2 p3 q k6 k7)
def drawB_4 (c : Wd) (k1 k2 k3 k4 k5 p1 p2 p3 q k6 k7 : Int) : DTS := dSeq (dIte (dTB (dBin oNe (dPen c 0 0) (dLst (dNil)))) (dSet 4 (dIx (dPen c 0 0) (dBin (oI (fun _ j => 0 < j) fun i j => .int (i % j)) (dBu oInt (dCons (dVar 3) (dNil))) (dBu oLen (dCons (dPen c 0 0) (dNil)))))) (dNext)) (drawB_5 c k1 k2 k3 k4 k5 p1 p2 p3 q k6 k7)
def drawB_3 (c : Wd) (k1 k2 k3 k4 k5 p1 p2 p3 q k6 k7 : Int) : DTS := dSeq (dSet 4 (dBin oAdd (dBin (oI CMulE fun i j => .int (i * j)) (dC (.int k6)) (dVar 3)) (dC (.int k7)))) (drawB_4 c k1 k2 k3 k4 k5 p1 p2 p3 q k6 k7)
def drawB_2 (c : Wd) (k1 k2 k3 k4 k5 p1 p2 p3 q k6 k7 : Int) : DTS := dSeq (dAsg (dBin oAdd (dVar 3) (dC (.int 1))) (gPen 0 1)) (drawB_3 c k1 k2 k3 k4 k5 p1 p2 p3 q k6 k7)
def drawB_1 (c : Wd) (k1 k2 k3 k4 k5 p1 p2 p3 q k6 k7 : Int) : DTS := dSeq (dSet 3 (dPen c 0 1)) (drawB_2 c k1 k2 k3 k4 k5 p1 p2 p3 q k6 k7)
def drawB_0 (c : Wd) (k1 k2 k3 k4 k5 p1 p2 p3 q k6 k7 : Int) : DTS := dSeq (dIte (dTB (dBin (oI (fun _ _ => True) fun i j => .bl (decide (j < i))) (dPen c 0 2) (dC (.int 0)))) (dSeq (dSet 2 (dBin (oI (fun _ j => 0 < j) fun i j => .int (i % j)) (dBu oInt (dCons (dPen c 0 2) (dNil))) (dVar 1))) (dSeq (dAsg (dBin (oI CDivW fun i j => .int (i / j)) (dBu oInt (dCons (dPen c 0 2) (dNil))) (dVar 1)) (gPen 0 2)) (dRet (dVar 2)))) (dNext)) (drawB_1 c k1 k2 k3 k4 k5 p1 p2 p3 q k6 k7)
theorem pw18B : (10 : Int) ^ (18 : Int).toNat = 1000000000000000000 := rfl
theorem drawB_tail {c : Wd} {k1 k2 k3 k4 k5 p1 p2 p3 q k6 k7 : Int} (hk : (0 ≤ k1 ∧ k1 < 1048576) ∧ (0 ≤ k2 ∧ k2 < 1048576) ∧ (0 ≤ k3 ∧ k3 < 1048576) ∧ (0 ≤ k4 ∧ k4 < 1048576) ∧ (0 ≤ k5 ∧ k5 < 1048576) ∧ (0 < p1 ∧ p1 < 4294967296) ∧ (0 < p2 ∧ p2 < 4294967296) ∧ (0 < p3 ∧ p3 < 4294967296) ∧ (0 < q ∧ q < 1024))
    {fu : Nat} {ms : Addr → Option Cell} {b : Nat} {m : Int} {P : D → Z → Prop} {R : Er → Z → Prop} (h0 : 0 < m) (h1 : m < 2 ^ 200) (hb : b ≤ 1000000) (hp : ∀ (z : Int), 0 ≤ z → z < m → P (.int z) ⟨fu, ms⟩) (i : Int) :
    drawB_5 c k1 k2 k3 k4 k5 p1 p2 p3 q k6 k7 (fnN P R) ⟨[.d .pen, .d (.int m), .un, .d (.int b), .d (.int i), .un, .un], ⟨fu, ms⟩⟩ := by
  obtain ⟨⟨a1, a2⟩, ⟨b1, b2⟩, ⟨c1, c2⟩, ⟨d1, d2⟩, ⟨e1, e2⟩, ⟨f1, f2⟩, ⟨g1, g2⟩, ⟨i1, i2⟩, ⟨j1, j2⟩⟩ := hk
  have hm : (b : Int) ≤ 1000000 := by omega
  have hm0 : (0 : Int) ≤ b := by omega
  have hmm : m.natAbs < 2 ^ 200 := by omega
  have fin : ∀ x : Int, P (.int (x % m)) ⟨fu, ms⟩ := fun x => hp _ (emb x h0).1 (emb x h0).2
  have last : drawB_6 c k1 k2 k3 k4 k5 p1 p2 p3 q k6 k7 (fnN P R) ⟨[.d .pen, .d (.int m), .un, .d (.int b), .d (.int i), .un, .un], ⟨fu, ms⟩⟩ := by
    unfold drawB_6
    rw [dSeq]
    simp only [dIte, dTB, dBin, dPen, isPen, dC, dVar, dNil, dCons, dSet, dAsg, dRet, dNext, dAnd, dOr, dNot, dAndV, dOrV, dNotV, dBu, oLen, oInt, oAbs, oI, oAdd, oIx, dIx, gPen, gN, gC, gT, gZ, dLst, dTup, dPar, dSl, dNone, dPart, oSl, dCall, dIf, dDrop, fnN, List.getElem?_cons_zero, List.getElem?_cons_succ, List.set_cons_zero, List.set_cons_succ, true_and, if_true, if_false, Bool.false_eq_true, List.length_cons, List.length_nil, Option.some.injEq, Int.reduceEq, ↓reduceIte, Nat.reduceAdd, Nat.reduceLeDiff, and_true, Nat.zero_le]
    have q1 := emb i f1
    have q2 := mulb c1 (Int.le_of_lt c2) hm0 hm
    refine ⟨f1, mx_of 40 20 (by omega) (by omega), cpow_of (by omega) (by omega) (by decide) (by decide), g1, ?_⟩
    have q3 := emb ((i % p1 + k3 * (b : Int) + k2) ^ Int.toNat 5) g1
    generalize (i % p1 + k3 * (b : Int) + k2) ^ Int.toNat 5 % p2 = x at q3 ⊢
    unfold drawB_7
    rw [dSeq]
    simp only [dIte, dTB, dBin, dPen, isPen, dC, dVar, dNil, dCons, dSet, dAsg, dRet, dNext, dAnd, dOr, dNot, dAndV, dOrV, dNotV, dBu, oLen, oInt, oAbs, oI, oAdd, oIx, dIx, gPen, gN, gC, gT, gZ, dLst, dTup, dPar, dSl, dNone, dPart, oSl, dCall, dIf, dDrop, fnN, List.getElem?_cons_zero, List.getElem?_cons_succ, List.set_cons_zero, List.set_cons_succ, true_and, if_true, if_false, Bool.false_eq_true, List.length_cons, List.length_nil, Option.some.injEq, Int.reduceEq, ↓reduceIte, Nat.reduceAdd, Nat.reduceLeDiff, and_true, Nat.zero_le]
    have q4 := mulb q3.1 (Int.le_of_lt q3.2) (y := 2 * (b : Int) + k4) (Y := 3048576) (by omega) (by omega)
    have q5 := mulb a1 (Int.le_of_lt a2) hm0 hm
    have q6 := mulb q5.1 q5.2 hm0 hm
    have q6' : k1 * (b : Int) * (b : Int) ≤ 1048576000000000000 := Int.le_trans q6.2 (by omega)
    refine ⟨mx_of 2 20 (by decide) (by omega), mx_of 33 41 (by omega) (by omega), mx_of 41 20 (by omega) (by omega), mx_of 61 20 (by omega) (by omega), ?_⟩
    have w : x * (2 * (b : Int) + k4) + k1 * (b : Int) * (b : Int) + k5 < 2 ^ 62 := by omega
    have w0 : 0 ≤ x * (2 * (b : Int) + k4) + k1 * (b : Int) * (b : Int) + k5 := by omega
    generalize x * (2 * (b : Int) + k4) + k1 * (b : Int) * (b : Int) + k5 = y at w w0 ⊢
    refine ⟨cpow_of w0 (by omega) (by decide) (by decide), i1, ?_⟩
    unfold drawB_8
    simp only [dIte, dTB, dBin, dPen, isPen, dC, dVar, dNil, dCons, dSet, dAsg, dRet, dNext, dAnd, dOr, dNot, dAndV, dOrV, dNotV, dBu, oLen, oInt, oAbs, oI, oAdd, oIx, dIx, gPen, gN, gC, gT, gZ, dLst, dTup, dPar, dSl, dNone, dPart, oSl, dCall, dIf, dDrop, fnN, List.getElem?_cons_zero, List.getElem?_cons_succ, List.set_cons_zero, List.set_cons_succ, true_and, if_true, if_false, Bool.false_eq_true, List.length_cons, List.length_nil, Option.some.injEq, Int.reduceEq, ↓reduceIte, Nat.reduceAdd, Nat.reduceLeDiff, and_true, Nat.zero_le]
    exact ⟨cdw 10 j1 (by omega), h0, fin _⟩
  unfold drawB_5
  rw [dSeq]
  simp only [dIte, dTB, dBin, dPen, isPen, dC, dVar, dNil, dCons, dSet, dAsg, dRet, dNext, dAnd, dOr, dNot, dAndV, dOrV, dNotV, dBu, oLen, oInt, oAbs, oI, oAdd, oIx, dIx, gPen, gN, gC, gT, gZ, dLst, dTup, dPar, dSl, dNone, dPart, oSl, dCall, dIf, dDrop, fnN, List.getElem?_cons_zero, List.getElem?_cons_succ, List.set_cons_zero, List.set_cons_succ, true_and, if_true, if_false, Bool.false_eq_true, List.length_cons, List.length_nil, Option.some.injEq, Int.reduceEq, ↓reduceIte, Nat.reduceAdd, Nat.reduceLeDiff, and_true, Nat.zero_le]
  intro hcs
  generalize (if i < 0 then -i else i) = ab
  have pc : CPow 10 18 := cpow_of (by decide) (by decide) (by decide) (by decide)
  split
  · refine ⟨pc, ?_⟩
    split
    · simp only [dSeq, dIte, dTB, dBin, dPen, isPen, dC, dVar, dNil, dCons, dSet, dAsg, dRet, dNext, dAnd, dOr, dNot, dAndV, dOrV, dNotV, dBu, oLen, oInt, oAbs, oI, oAdd, oIx, dIx, gPen, gN, gC, gT, gZ, dLst, dTup, dPar, dSl, dNone, dPart, oSl, dCall, dIf, dDrop, fnN, List.getElem?_cons_zero, List.getElem?_cons_succ, List.set_cons_zero, List.set_cons_succ, true_and, if_true, if_false, Bool.false_eq_true, List.length_cons, List.length_nil, Option.some.injEq, Int.reduceEq, ↓reduceIte, Nat.reduceAdd, Nat.reduceLeDiff, and_true, Nat.zero_le]
      generalize (if i < 0 then -i else i) = ab
      refine ⟨pc, me_l (by decide), ?_⟩
      exact ⟨cdw 200 h0 hmm, fu, Nat.le_refl _, h0, fin _⟩
    · exact last
  · exact last
theorem drawB_ok {c : Wd} {k1 k2 k3 k4 k5 p1 p2 p3 q k6 k7 : Int} (hk : (0 ≤ k1 ∧ k1 < 1048576) ∧ (0 ≤ k2 ∧ k2 < 1048576) ∧ (0 ≤ k3 ∧ k3 < 1048576) ∧ (0 ≤ k4 ∧ k4 < 1048576) ∧ (0 ≤ k5 ∧ k5 < 1048576) ∧ (0 < p1 ∧ p1 < 4294967296) ∧ (0 < p2 ∧ p2 < 4294967296) ∧ (0 < p3 ∧ p3 < 4294967296) ∧ (0 < q ∧ q < 1024))
    {z : Z} {m : Int} {P : D → Z → Prop} {R : Er → Z → Prop} (h0 : 0 < m) (h1 : m < 2 ^ 200) (hn : 0 < z.fu) (hp : ∀ (v : Int), 0 ≤ v → v < m → P (.int v) { z with fu := z.fu - 1 }) :
    drawB_0 c k1 k2 k3 k4 k5 p1 p2 p3 q k6 k7 (fnN P R) ⟨[.d .pen, .d (.int m), .un, .un, .un, .un, .un], z⟩ := by
  obtain ⟨fu, ms⟩ := z
  replace hn : 0 < fu := hn
  have hmm : m.natAbs < 2 ^ 200 := by omega
  unfold drawB_0
  rw [dSeq]
  simp only [dIte, dTB, dBin, dPen, isPen, dC, dVar, dNil, dCons, dSet, dAsg, dRet, dNext, dAnd, dOr, dNot, dAndV, dOrV, dNotV, dBu, oLen, oInt, oAbs, oI, oAdd, oIx, dIx, gPen, gN, gC, gT, gZ, dLst, dTup, dPar, dSl, dNone, dPart, oSl, dCall, dIf, dDrop, fnN, List.getElem?_cons_zero, List.getElem?_cons_succ, List.set_cons_zero, List.set_cons_succ, true_and, if_true, if_false, Bool.false_eq_true, List.length_cons, List.length_nil, Option.some.injEq, Int.reduceEq, ↓reduceIte, Nat.reduceAdd, Nat.reduceLeDiff, and_true, Nat.zero_le]
  intro z
  by_cases hz : 0 < z
  · simp only [hz, decide_true, if_true, dSeq, dIte, dTB, dBin, dPen, isPen, dC, dVar, dNil, dCons, dSet, dAsg, dRet, dNext, dAnd, dOr, dNot, dAndV, dOrV, dNotV, dBu, oLen, oInt, oAbs, oI, oAdd, oIx, dIx, gPen, gN, gC, gT, gZ, dLst, dTup, dPar, dSl, dNone, dPart, oSl, dCall, dIf, dDrop, fnN, List.getElem?_cons_zero, List.getElem?_cons_succ, List.set_cons_zero, List.set_cons_succ, true_and, if_true, if_false, Bool.false_eq_true, List.length_cons, List.length_nil, Option.some.injEq, Int.reduceEq, ↓reduceIte, Nat.reduceAdd, Nat.reduceLeDiff, and_true, Nat.zero_le]
    intro z1
    exact ⟨h0, fun z2 => ⟨cdw 200 h0 hmm, fu - 1, by omega, hp _ (emb _ h0).1 (emb _ h0).2⟩⟩
  · simp only [hz, decide_false, if_false, Bool.false_eq_true]
    unfold drawB_1
    rw [dSeq]
    simp only [dIte, dTB, dBin, dPen, isPen, dC, dVar, dNil, dCons, dSet, dAsg, dRet, dNext, dAnd, dOr, dNot, dAndV, dOrV, dNotV, dBu, oLen, oInt, oAbs, oI, oAdd, oIx, dIx, gPen, gN, gC, gT, gZ, dLst, dTup, dPar, dSl, dNone, dPart, oSl, dCall, dIf, dDrop, fnN, List.getElem?_cons_zero, List.getElem?_cons_succ, List.set_cons_zero, List.set_cons_succ, true_and, if_true, if_false, Bool.false_eq_true, List.length_cons, List.length_nil, Option.some.injEq, Int.reduceEq, ↓reduceIte, Nat.reduceAdd, Nat.reduceLeDiff, and_true, Nat.zero_le]
    intro b hb
    unfold drawB_2
    rw [dSeq]
    simp only [dIte, dTB, dBin, dPen, isPen, dC, dVar, dNil, dCons, dSet, dAsg, dRet, dNext, dAnd, dOr, dNot, dAndV, dOrV, dNotV, dBu, oLen, oInt, oAbs, oI, oAdd, oIx, dIx, gPen, gN, gC, gT, gZ, dLst, dTup, dPar, dSl, dNone, dPart, oSl, dCall, dIf, dDrop, fnN, List.getElem?_cons_zero, List.getElem?_cons_succ, List.set_cons_zero, List.set_cons_succ, true_and, if_true, if_false, Bool.false_eq_true, List.length_cons, List.length_nil, Option.some.injEq, Int.reduceEq, ↓reduceIte, Nat.reduceAdd, Nat.reduceLeDiff, and_true, Nat.zero_le]
    refine ⟨b + 1, fu - 1, by simp, by omega, ?_⟩
    have hb2 : b ≤ 1000000 := by omega
    unfold drawB_3
    rw [dSeq]
    simp only [dIte, dTB, dBin, dPen, isPen, dC, dVar, dNil, dCons, dSet, dAsg, dRet, dNext, dAnd, dOr, dNot, dAndV, dOrV, dNotV, dBu, oLen, oInt, oAbs, oI, oAdd, oIx, dIx, gPen, gN, gC, gT, gZ, dLst, dTup, dPar, dSl, dNone, dPart, oSl, dCall, dIf, dDrop, fnN, List.getElem?_cons_zero, List.getElem?_cons_succ, List.set_cons_zero, List.set_cons_succ, true_and, if_true, if_false, Bool.false_eq_true, List.length_cons, List.length_nil, Option.some.injEq, Int.reduceEq, ↓reduceIte, Nat.reduceAdd, Nat.reduceLeDiff, and_true, Nat.zero_le]
    refine ⟨me_r (by omega), ?_⟩
    unfold drawB_4
    rw [dSeq]
    simp only [dIte, dTB, dBin, dPen, isPen, dC, dVar, dNil, dCons, dSet, dAsg, dRet, dNext, dAnd, dOr, dNot, dAndV, dOrV, dNotV, dBu, oLen, oInt, oAbs, oI, oAdd, oIx, dIx, gPen, gN, gC, gT, gZ, dLst, dTup, dPar, dSl, dNone, dPart, oSl, dCall, dIf, dDrop, fnN, List.getElem?_cons_zero, List.getElem?_cons_succ, List.set_cons_zero, List.set_cons_succ, true_and, if_true, if_false, Bool.false_eq_true, List.length_cons, List.length_nil, Option.some.injEq, Int.reduceEq, ↓reduceIte, Nat.reduceAdd, Nat.reduceLeDiff, and_true, Nat.zero_le]
    intro hcs
    unfold oNe
    simp only [eqD_ints_nil]
    refine ⟨⟨noDic_ints _, noDic_nil⟩, ?_⟩
    by_cases hc : c.cs = []
    · rw [hc]
      simp only [List.isEmpty_nil, Bool.not_true, Bool.false_eq_true, if_false]
      exact drawB_tail hk h0 h1 hb2 hp (k6 * b + k7)
    · have hi : c.cs.isEmpty = false := by cases q : c.cs with | nil => exact absurd q hc | cons _ _ => rfl
      rw [hi]
      simp only [Bool.not_false, if_true]
      intro _ _
      obtain ⟨i, e⟩ := atI_cell hc b
      exact ⟨len_pos hc, .int i, e, drawB_tail hk h0 h1 hb2 hp i⟩

section
variable {X : Cx} {c : Fr} {W : WX} {N : List Str} {sc : Scope} {k j : Nat} {bb : Bool}
def oMax2 : DBu := fun ds P => match ds with
  | [.int i, .int j] => P (.int (if j > i then j else i))
  | _ => False
def oMin2 : DBu := fun ds P => match ds with
  | [.int i, .int j] => P (.int (if j < i then j else i))
  | _ => False
theorem int2_of {K : PySem.W.Frag} {p0 : Addr} {G : Hp} {vs : List V} {i j : Int} (h : RepL K p0 G vs [.int i, .int j]) : vs = [.int i, .int j] := by
  cases h with
  | cons r1 h => cases r1; cases h with
    | cons r2 h => cases r2; cases h; rfl
theorem b_max2 (B : XB X c W N sc k bb) : BuD X c (.builtin "max") oMax2 := by
  refine ⟨_, call_max2 B.calm, fun G H σ δ vs ds P Q R rr o kk => ?_⟩
  match ds, o, rr with
  | [.int i, .int j], o, rr => exact ⟨i, j, int2_of rr, kk _ _ G H o Go.refl R (.int _)⟩
theorem b_min2 (B : XB X c W N sc k bb) : BuD X c (.builtin "min") oMin2 := by
  refine ⟨_, call_min2 B.calm, fun G H σ δ vs ds P Q R rr o kk => ?_⟩
  match ds, o, rr with
  | [.int i, .int j], o, rr => exact ⟨i, j, int2_of rr, kk _ _ G H o Go.refl R (.int _)⟩
theorem repL_bls {K : PySem.W.Frag} {p0 : Addr} {G : Hp} : ∀ {bs : List Bool} {vs : List V}, RepL K p0 G vs (bs.map .bl) → vs = bs.map V.bl
  | [], _, .nil => rfl
  | _ :: _, _, .cons r h => by cases r; rw [repL_bls h]; rfl
theorem repL_ints {K : PySem.W.Frag} {p0 : Addr} {G : Hp} : ∀ {bs : List Int} {vs : List V}, RepL K p0 G vs (bs.map .int) → vs = bs.map V.int
  | [], _, .nil => rfl
  | _ :: _, _, .cons r h => by cases r; rw [repL_ints h]; rfl
theorem ints_rep {K : PySem.W.Frag} {p0 : Addr} {G : Hp} : ∀ bs : List Int, RepL K p0 G (bs.map V.int) (bs.map .int)
  | [] => .nil
  | _ :: r => .cons (.int _) (ints_rep r)
/-- all(xs), any(xs) of a list of True and False -/
def oAll : DBu := fun ds P => match ds with
  | [.lst xs] => ∃ bs : List Bool, xs = bs.map .bl ∧ P (.bl (bs.all id))
  | _ => False
theorem b_all (B : XB X c W N sc k bb) : BuD X c (.builtin "all") oAll := by
  refine ⟨_, cr_all B.calm, fun G H σ δ vs ds P Q R rr o kk => ?_⟩
  match ds, o, rr with
  | [.lst xs], ⟨bs, e, p⟩, .cons (.lst h1 r1) .nil =>
    subst e
    rw [repL_bls r1] at h1
    exact ⟨_, bs, rfl, by rw [B.hK]; exact le_l R.le (.inl h1), kk _ _ G H p Go.refl R (.bl _)⟩
/-- sum, max, min of a list of ints -/
def oSumL : DBu := fun ds P => match ds with
  | [.lst xs] => ∃ ns : List Int, xs = ns.map .int ∧ P (.int ns.sum)
  | _ => False
theorem b_sumL (B : XB X c W N sc k bb) : BuD X c (.builtin "sum") oSumL := by
  refine ⟨_, cr_sum B.calm, fun G H σ δ vs ds P Q R rr o kk => ?_⟩
  match ds, o, rr with
  | [.lst xs], ⟨bs, e, p⟩, .cons (.lst h1 r1) .nil =>
    subst e
    rw [repL_ints r1] at h1
    exact ⟨_, bs, rfl, by rw [B.hK]; exact le_l R.le (.inl h1), kk _ _ G H p Go.refl R (.int _)⟩
def oMaxL : DBu := fun ds P => match ds with
  | [.lst xs] => ∃ ns : List Int, xs = ns.map .int ∧ 0 < ns.length ∧ ∀ m, m ∈ ns → (∀ y, y ∈ ns → y ≤ m) → P (.int m)
  | _ => False
theorem b_maxL (B : XB X c W N sc k bb) : BuD X c (.builtin "max") oMaxL := by
  refine ⟨_, cr_max B.calm, fun G H σ δ vs ds P Q R rr o kk => ?_⟩
  match ds, o, rr with
  | [.lst xs], ⟨bs, e, n, p⟩, .cons (.lst h1 r1) .nil =>
    subst e
    rw [repL_ints r1] at h1
    exact ⟨_, bs, rfl, by rw [B.hK]; exact le_l R.le (.inl h1), n, fun m h1 h2 => kk _ _ G H (p m h1 h2) Go.refl R (.int _)⟩
def oMinL : DBu := fun ds P => match ds with
  | [.lst xs] => ∃ ns : List Int, xs = ns.map .int ∧ 0 < ns.length ∧ ∀ m, m ∈ ns → (∀ y, y ∈ ns → m ≤ y) → P (.int m)
  | _ => False
theorem b_minL (B : XB X c W N sc k bb) : BuD X c (.builtin "min") oMinL := by
  refine ⟨_, cr_min B.calm, fun G H σ δ vs ds P Q R rr o kk => ?_⟩
  match ds, o, rr with
  | [.lst xs], ⟨bs, e, n, p⟩, .cons (.lst h1 r1) .nil =>
    subst e
    rw [repL_ints r1] at h1
    exact ⟨_, bs, rfl, by rw [B.hK]; exact le_l R.le (.inl h1), n, fun m h1 h2 => kk _ _ G H (p m h1 h2) Go.refl R (.int _)⟩
def oSortL : DBu := fun ds P => match ds with
  | [.lst xs] => ∃ ns : List Int, xs = ns.map .int ∧ ns.length < 64 ∧ ∀ ns' : List Int, ns'.Perm ns → ns'.Pairwise (· ≤ ·) → P (.lst (ns'.map .int))
  | _ => False
theorem b_sortL (B : XB X c W N sc k bb) : BuD X c (.builtin "sorted") oSortL := by
  refine ⟨_, cr_sorted, fun G H σ δ vs ds P Q R rr o kk => ?_⟩
  match ds, o, rr with
  | [.lst xs], ⟨bs, e, n, p⟩, .cons (.lst h1 r1) .nil =>
    subst e
    rw [repL_ints r1] at h1
    exact ⟨_, bs, rfl, by rw [B.hK]; exact le_l R.le (.inl h1), n, fun ns' p' h1 h2 hp => kk _ _ _ _ (p ns' h1 h2) (R.newG hp) (R.laid' hp) (.lst (.inl upd_same) (ints_rep _))⟩
theorem de_globI {x : Str} {i : Int} {pos : Pos} (B : XB X c W N sc k bb) (hg : sc.names.lookup x = some .globalImplicit) (h : ∃ t, c.mg x = some (.int i t)) (hd : (x == ("__debug__" : Str)) = false := by decide) : DE X c W (.Name x pos) (dC (.int i)) := by
  obtain ⟨t, h⟩ := h
  exact de_glob B hg h (v := .int i) ⟨t, rfl⟩ (fun _ => .int _) hd
theorem de_globS {x : Str} {i : Str} {pos : Pos} (B : XB X c W N sc k bb) (hg : sc.names.lookup x = some .globalImplicit) (h : ∃ t, c.mg x = some (.str i t)) (hd : (x == ("__debug__" : Str)) = false := by decide) : DE X c W (.Name x pos) (dC (.str i)) := by
  obtain ⟨t, h⟩ := h
  exact de_glob B hg h (v := .str i) ⟨t, rfl⟩ (fun _ => .str _) hd
end
section
variable {P : D → Prop} {i j : Int} {xs : List D} {a b : Bool} {PZ : D → Z → Prop} {EZ : Er → Z → Prop} {z : Z} {w : Wd} {tbl : List (Addr × DSp2)} {ys : List D}
theorem e_Max2 : oMax2 [.int i, .int j] P = P (.int (if j > i then j else i)) := (rfl)
theorem e_Min2 : oMin2 [.int i, .int j] P = P (.int (if j < i then j else i)) := (rfl)
theorem oNe_bb : oNe (.bl a) (.bl b) P ↔ P (.bl (!(a == b))) := by
  have e : eqD (.bl a) (.bl b) = (a == b) := by rw [eqD]
  unfold oNe; rw [e]; exact ⟨fun h => h.2, fun h => ⟨⟨rfl, rfl⟩, h⟩⟩
theorem e_NeB : oNeB w tbl (.bl a) (.bl b) z PZ EZ = PZ (.bl (!(a == b))) z := propext (oNe_bb (P := fun d => PZ d z))
theorem e_Ne0B : oNe (.bl a) (.bl b) P = P (.bl (!(a == b))) := propext oNe_bb
theorem e_EqL : oEqA w tbl (.lst xs) (.lst ys) z PZ EZ = ((plain (.lst xs) 40 = true ∧ plain (.lst ys) 40 = true) ∧ PZ (.bl (eqD (.lst xs) (.lst ys))) z) := (rfl)
theorem oAll_of (bs : List Bool) (h : P (.bl (bs.all id))) : oAll [.lst (bs.map .bl)] P := ⟨bs, rfl, h⟩
end
end DL

/-! EML: a comprehension that a local name gets. -/
namespace DL
open PySem L2 PySem.Spec PyProof.Rows PySem.SeqAt
section
variable {X : Cx} {c : Fr} {W : WX} {N : List Str} {sc : Scope} {k : Nat} {bb : Bool} {e a b : Expr} {es : List Expr} {pos p : Pos} {r ra rb : DTE} {rs : DTA} {x : Str}
theorem ds_setLc {elt tg iter : Expr} {ifs : List Expr} {scope : Scope} {own : List (Str × Nat)} {ri : DTI} {g : DTG} {tt : DTT} {te : DTE} {iy : Nat} {y : Str} {py spos : Pos} (B : XB X c W N sc k false) (hkf : sc.kind = .function) (hl : (py.line == pos.line) = true) (ha : (scope.names.any fun (n, k) => n == y && (k == .local || k == .cell)) = false)
    (hi : DI X c W tg iter ri) (ok : BlkOk N sc scope own)
    (hb : ∀ (X' : Cx) (c' : Fr), c'.toWd = c.toWd → XB X' c' never N (relS scope sc) k true → DGo X' c' (own.map (·.2)) tg g ∧ DTs X' c' never ifs tt ∧ DE X' c' never elt te)
    (hy : N[iy]? = some y := by rfl) (hyl : sc.names.lookup y = some .local := by rfl)
    (hs : ∀ x, foldedSetIterable iter X.env x = pure x := by intro _; rfl) : DS X c W (.Assign [.Name y py] (.ListComp elt [⟨tg, iter, ifs, 0⟩] scope pos) spos) (dSet iy (dLC ri g tt te (own.map (·.2)))) := by
  let ι := { c' : Fr // c'.toWd = c.toWd }
  have hg := fun s H C cl fp => pg_ex (X := X.blk s H scope (compEnvC scope cl C X.env) fp) (ι := ι) fun i => (hb _ i.1 i.2 (xb_blk B i.1 i.2 s H C cl fp)).1
  have ht := fun s H C cl fp => pts_ex (X := X.blk s H scope (compEnvC scope cl C X.env) fp) (ι := ι) fun i => (hb _ i.1 i.2 (xb_blk B i.1 i.2 s H C cl fp)).2.1
  have he := fun s H C cl fp => pe_ex (X := X.blk s H scope (compEnvC scope cl C X.env) fp) (ι := ι) fun i => (hb _ i.1 i.2 (xb_blk B i.1 i.2 s H C cl fp)).2.2
  refine psI (ps_setLc B.calm (by rw [B.hN]; exact B.nd) (by rw [B.hN]; exact hy) (by rw [B.hs]; exact hyl) (sw_true (by rw [B.hs]; exact hkf) (by rw [B.hs]; exact hyl) hl ha) hi (by rw [B.hN, B.hs]; exact ok) hg ht he hs) fun DD σ H ⟨G, δ, N', R, h, nn⟩ => ?_
  obtain ⟨P, eP⟩ : ∃ P : D → S → Prop, P = fun d δ1 => N'.nx { δ1 with sl := δ1.sl.set iy (.d d) } := ⟨_, rfl⟩
  obtain ⟨E, eE⟩ : ∃ E : Er → S → Prop, E = N'.ex := ⟨_, rfl⟩
  obtain ⟨Q, eQ⟩ : ∃ Q : VK, Q = fun v H1 => gName iy v σ H1 DD.nx := ⟨_, rfl⟩
  have h : dLC ri g tt te (own.map (·.2)) δ P E := by rw [eP, eE]; exact h
  have x : ExOk c W G σ E := by rw [eE]; exact exOf nn
  have kk : ∀ d δ' v G' H', P d δ' → Gof c δ δ' σ G H G' H' → Rel c G' H' σ δ' → Rep c.K c.p0 G' v d → Q v H' := by
    rw [eP, eQ]
    exact fun d δ' v G' H' p L R' rr => nn.nx _ G' H' _ p L.g (R'.set' rr)
  show tLc _ _ _ _ _ σ H (fun v H1 => gName iy v σ H1 DD.nx)
  rw [← eQ]
  clear eP eE eQ nn
  refine ⟨G, δ, _, E, R, h, fun items δ1 J G1 H1 p L R1 j => ?_, x⟩
  intro q hq
  have gq1 : G1 q = none := R1.gnone hq
  have ns1 : ¬ Spc c.toWd δ1.z q := R1.st.pne hq
  let c' : Fr := frOf c.toWd G1 (upd H1 q (.lst [])) δ1.z [q]
  let cl := cleanSl (own.map (·.2)) 0 δ1.sl
  let PP : List D → Z → Prop := fun ds n => P (.lst ds) { δ1 with z := n }
  have ho : ∀ (i : Nat) (s : Sl), cl[i]? = some s → isOwn s = false := fun i s h => clean_own h
  refine ⟨fun i m H' => m = items.length - i ∧ i ≤ items.length ∧ ∃ G2 n vacc acc, Rel c' G2 H' (wipe σ (own.map (·.2))) ⟨cl, n⟩ ∧ Le G1 G2 ∧ H' q = some (.lst vacc) ∧ (G2 q = none ∧ ¬ Spc c.toWd n q) ∧ RepL c.K c.p0 G2 vacc acc ∧ dCol g tt te cl PP (items.drop i) acc n,
    ⟨items.length, rfl, Nat.zero_le _, G1, δ1.z, [], [], rel_block R1 hq _ _, Le.refl _, upd_same, ⟨gq1, ns1⟩, .nil, p⟩, ?_⟩
  rintro i m H' ⟨rfl, hi', G2, n, vacc, acc, R2, L2, hH, ⟨gq2, ns2⟩, hr, p2⟩
  by_cases hlt : i < items.length
  · right
    rw [drop_cons hlt] at p2
    refine ⟨j.go i H' G2 hlt L2 R2.le, fun H'' => i + 1 ≤ items.length ∧ ∃ G2 n vacc acc, Rel c' G2 H'' (wipe σ (own.map (·.2))) ⟨cl, n⟩ ∧ Le G1 G2 ∧ H'' q = some (.lst vacc) ∧ (G2 q = none ∧ ¬ Spc c.toWd n q) ∧ RepL c.K c.p0 G2 vacc acc ∧ dCol g tt te cl PP (items.drop (i + 1)) acc n,
      fun H3 ⟨q1, q2⟩ => ⟨items.length - (i + 1), by omega, rfl, q1, q2⟩, fun x3 H3 y => ?_⟩
    obtain ⟨G3, d, e3, po3, r3⟩ := j.yld i H' x3 H3 G2 n L2 R2.st y hlt
    have R3 : Rel c' G3 H3 (wipe σ (own.map (·.2))) ⟨cl, n⟩ := R2.post po3
    have ed : d = items[i] := by rw [List.getElem?_eq_getElem hlt] at e3; exact (Option.some.inj e3).symm
    subst ed
    -- what the step leaves of the list
    have stay : ∀ {S S' : Addr → Prop} {Ga Ha Gb Hb : Hp}, Go S S' Ga Ha Gb Hb → Ha q = some (.lst vacc) → Ga q = none → ¬ S q → Hb q = some (.lst vacc) ∧ Gb q = none ∧ ¬ S' q := fun {S S' Ga Ha Gb Hb} go h1 h2 h3 => by
      refine ⟨go.h _ _ h1 h3, ?_, fun h => ?_⟩
      · cases e : Gb q with
        | none => rfl
        | some u =>
          rcases go.nw q u e with z | z | z
          · rw [h2] at z; cases z
          · rw [h1] at z; cases z
          · exact absurd z h3
      · rcases go.ks q h with z | z
        · exact h3 z
        · rw [h1] at z; cases z
    obtain ⟨a1, a2, a3⟩ := stay po3.go hH gq2 ns2
    refine ⟨⟨c', rfl⟩, G3, ⟨cl, n⟩, _, _, R3, r3, p2, fun δ4 G4 H4 σ4 p4 L4 R4 ew => ?_⟩
    obtain ⟨b1, b2, b3⟩ := stay L4 a1 a2 (fun z => a3 (spf_clean ho z))
    refine ⟨by rw [ew]; exact wipe_twice, ⟨c', rfl⟩, G4, δ4, _, _, R4, p4, fun b δ5 G5 H5 p5 L5 R5 => ?_, fun er δ' cls dd G' H' z => z.elim⟩
    obtain ⟨d1, d2, d3⟩ := stay L5 b1 b2 b3
    have L35 : Le G2 G5 := (po3.go.g.trans L4.g).trans L5.g
    cases b with
    | false =>
      simp only [Bool.false_eq_true, if_false] at p5 ⊢
      exact ⟨hlt, G5, δ5.z, vacc, acc, rel_mix R2 R5 L35 ho, L2.trans L35, d1, ⟨d2, fun z => d3 (.inl z)⟩, hr.mono L35, p5⟩
    | true =>
      simp only [if_true] at p5 ⊢
      refine ⟨⟨c', rfl⟩, G5, δ5, _, _, R5, p5, fun z δ6 v6 G6 H6 p6 L6 R6 r6 => ?_, fun er δ' cls dd G' H' z => z.elim⟩
      have L26 : Le G2 G6 := L35.trans L6.g
      obtain ⟨e1, e2, e3⟩ := stay L6 d1 d2 d3
      have e3' : ¬ Spc c.toWd δ6.z q := fun z => e3 (.inl z)
      refine ⟨vacc, e1, sl5 (by rw [hr.len]; exact p6.1), hlt, G6, δ6.z, vacc ++ [v6], acc ++ [z], rel_mu (rel_mix R2 R6 L26 ho) ho (by simp [c']) e2 e1 e3', L2.trans L26, upd_same, ⟨e2, e3'⟩, RepL.snoc r6 (hr.mono L26), p6.2⟩
  · left
    have e : items.drop i = [] := List.drop_eq_nil_of_le (by omega)
    rw [e] at p2
    refine ⟨j.stop i H' G2 (by omega) L2 R2.le, ?_⟩
    have LL : Le G2 (upd G2 q (.lst vacc)) := Le.new gq2
    have po : Post c.toWd δ1.z G1 H1 (upd G2 q (.lst vacc)) H' n := by
      refine ⟨R2.st.frozen hH gq2 ns2, ?_⟩
      have g1 : Go (Spc c.toWd δ1.z) (fun b => Spc c.toWd δ1.z b ∨ b = q) G1 H1 G1 (upd H1 q (.lst [])) := (R1.laidH (o := .lst []) hq).go.imp (fun _ h => h) fun b h => h.imp id fun z => .inr (by rw [z]; exact hq)
      have g2 : Go (fun b => Spc c.toWd δ1.z b ∨ b = q) (fun b => Spc c.toWd n b ∨ b = q) G1 (upd H1 q (.lst [])) G2 H' := R2.go.imp (fun b h => h.imp id fun m => List.mem_singleton.mp m) fun b h => h.elim (fun z => .inl (.inl z)) fun z => .inr (.inl (.inr z))
      exact (g1.trans g2).frozen hq ns2
    exact kk (.lst acc) _ (.ref q) _ H' p2 (L.trans (po.spf R1)) (R1.post po) (.lst (.inl upd_same) (hr.mono LL))
end
section
variable {vs : List Nat} {n : Nat} {s : Sl} {l : List Sl} {x : D} {xs : List D} {kvs : List (Key × D)}
def cl1 (s : Sl) : Sl := match s with
  | .d x => .d x
  | _ => .un
theorem e_clA : cleanSl [] n (s :: l) = cl1 s :: cleanSl [] (n + 1) l := by cases s <;> simp [cleanSl, cl1]
theorem e_clA2 : cleanSl vs n (s :: l) = (if n ∈ vs then .un else cl1 s) :: cleanSl vs (n + 1) l := by cases s <;> simp [cleanSl, cl1]
theorem e_cl1D : cl1 (.d x) = .d x := (rfl)
theorem e_cl1U : cl1 .un = .un := (rfl)
theorem e_cl1O : cl1 (.own xs) = .un := (rfl)
theorem e_cl1K : cl1 (.ownK kvs) = .un := (rfl)
end
end DL

/-! M53: buckets, as numbers. -/
namespace K53
def fB (b r e t : Int) : Int := b + r * (t / e)
def leB (b r e b2 r2 e2 : Int) : Bool := !decide (r2 * e < r * e2) && ((List.range (e2 / ((Nat.gcd e.natAbs e2.natAbs : Nat) : Int)).toNat).map (fun (s : Nat) => decide (fB b r e ((s : Int) * e) ≤ fB b2 r2 e2 ((s : Int) * e)))).all id
def early (b r e C : Int) : Int := if C ≤ b then 0 else e * (0 - (b - C) / r)
theorem leB_iff {b r e b2 r2 e2 : Int} : leB b r e b2 r2 e2 = true ↔ r * e2 ≤ r2 * e ∧ ∀ s : Nat, s < (e2 / ((Nat.gcd e.natAbs e2.natAbs : Nat) : Int)).toNat → fB b r e ((s : Int) * e) ≤ fB b2 r2 e2 ((s : Int) * e) := by
  unfold leB
  simp only [Bool.and_eq_true, Bool.not_eq_true', decide_eq_false_iff_not, Int.not_lt, List.all_eq_true, List.mem_map, List.mem_range, id]
  constructor
  · rintro ⟨h1, h2⟩
    exact ⟨h1, fun s hs => of_decide_eq_true (h2 _ ⟨s, hs, rfl⟩)⟩
  · rintro ⟨h1, h2⟩
    refine ⟨h1, ?_⟩
    rintro x ⟨s, hs, rfl⟩
    exact decide_eq_true (h2 s hs)
theorem le_far {b r e b2 r2 e2 : Int} (he : 0 < e) (he2 : 0 < e2) (hr : 0 < r) (hr2 : 0 < r2) (h : leB b r e b2 r2 e2 = true) : ∀ t : Int, 0 ≤ t → fB b r e t ≤ fB b2 r2 e2 t := by
  obtain ⟨hc, hs⟩ := leB_iff.mp h
  intro t ht
  have gp : 0 < Nat.gcd e.natAbs e2.natAbs := Nat.gcd_pos_of_pos_left _ (by omega)
  obtain ⟨e', he'⟩ : ((Nat.gcd e.natAbs e2.natAbs : Nat) : Int) ∣ e := Int.ofNat_dvd_left.mpr (Nat.gcd_dvd_left _ _)
  obtain ⟨n, hn⟩ : ((Nat.gcd e.natAbs e2.natAbs : Nat) : Int) ∣ e2 := Int.ofNat_dvd_left.mpr (Nat.gcd_dvd_right _ _)
  generalize hg : ((Nat.gcd e.natAbs e2.natAbs : Nat) : Int) = g at *
  have g0 : 0 < g := by omega
  have hdn : e2 / g = n := by rw [hn]; exact Int.mul_ediv_cancel_left _ (by omega)
  rw [hdn] at hs
  have n0 : 0 < n := by
    rw [hn] at he2
    exact Int.pos_of_mul_pos_right he2 g0
  -- the rates
  have hrate : r * n ≤ r2 * e' := by
    have : g * (r * n) ≤ g * (r2 * e') := by
      have e1 : g * (r * n) = r * e2 := by rw [hn]; grind
      have e3 : g * (r2 * e') = r2 * e := by rw [he']; grind
      rw [e1, e3]; exact hc
    exact Int.le_of_mul_le_mul_left this g0
  -- the step of t
  have a1 := Int.mul_ediv_add_emod t e
  have a2 := Int.emod_nonneg t (Int.ne_of_gt he)
  have a3 : 0 ≤ t / e := Int.ediv_nonneg ht (by omega)
  generalize hs0 : t / e = s at *
  generalize t % e = rt at *
  have b1 := Int.mul_ediv_add_emod s n
  have b2' := Int.emod_nonneg s (Int.ne_of_gt n0)
  have b3 := Int.emod_lt_of_pos s n0
  have b4 : 0 ≤ s / n := Int.ediv_nonneg a3 (by omega)
  generalize s / n = q at *
  generalize s % n = s0 at *
  have key := hs s0.toNat (by omega)
  rw [Int.toNat_of_nonneg b2'] at key
  unfold fB at key ⊢
  rw [hs0]
  have c1 : s0 * e / e = s0 := Int.mul_ediv_cancel _ (by omega)
  rw [c1] at key
  -- the other bucket at t
  have c2 : (s * e) / e2 ≤ t / e2 := Int.ediv_le_ediv he2 (by
    rw [Int.mul_comm s e]; omega)
  have c3 : s * e = s0 * e + e2 * (q * e') := by
    rw [← b1]
    conv => rhs; rw [hn]
    conv => lhs; rw [he']
    conv => rhs; rw [he']
    grind
  have c4 : (s * e) / e2 = s0 * e / e2 + q * e' := by
    rw [c3, Int.add_mul_ediv_left _ _ (by omega)]
  have c5 : r2 * (s0 * e / e2 + q * e') ≤ r2 * (t / e2) := Int.mul_le_mul_of_nonneg_left (by rw [← c4]; exact c2) (by omega)
  have c6 : q * (r * n) ≤ q * (r2 * e') := Int.mul_le_mul_of_nonneg_left hrate b4
  have c7 : r * s = r * s0 + q * (r * n) := by rw [← b1]; grind
  have c8 : r2 * (s0 * e / e2 + q * e') = r2 * (s0 * e / e2) + q * (r2 * e') := by grind
  omega
/-- as the law looks -/
theorem le_near {b r e b2 r2 e2 : Int} (he : 0 < e) (he2 : 0 < e2) (hr : 0 < r) (hr2 : 0 < r2) : leB b r e b2 r2 e2 = true ↔ r * e2 ≤ r2 * e ∧ ∀ t : Int, 0 ≤ t → t < e * e2 → fB b r e t ≤ fB b2 r2 e2 t := by
  constructor
  · intro h
    exact ⟨(leB_iff.mp h).1, fun t h0 _ => le_far he he2 hr hr2 h t h0⟩
  · rintro ⟨h1, h2⟩
    refine leB_iff.mpr ⟨h1, fun s hs => h2 _ (Int.mul_nonneg (by omega) (by omega)) ?_⟩
    have gp : 0 < Nat.gcd e.natAbs e2.natAbs := Nat.gcd_pos_of_pos_left _ (by omega)
    have q : e2 / ((Nat.gcd e.natAbs e2.natAbs : Nat) : Int) ≤ e2 := Int.ediv_le_self _ (by omega)
    have s2 : (s : Int) < e2 := by omega
    have := Int.mul_lt_mul_of_pos_right s2 he
    rw [Int.mul_comm e e2]
    exact this
theorem fB_zero (b r e : Int) : fB b r e 0 = b := by unfold fB; simp
theorem fB_small {b r e t : Int} (h0 : 0 ≤ t) (h1 : t < e) : fB b r e t = b := by unfold fB; rw [Int.ediv_eq_zero_of_lt h0 h1]; simp
theorem fB_one {b r e : Int} (h : 0 < e) : fB b r e e = b + r := by unfold fB; rw [Int.ediv_self (by omega)]; simp
theorem both {b r e b2 r2 e2 : Int} (he : 0 < e) (he2 : 0 < e2) (hr : 0 < r) (hr2 : 0 < r2) : (leB b r e b2 r2 e2 = true ∧ leB b2 r2 e2 b r e = true) ↔ (b = b2 ∧ r = r2 ∧ e = e2) := by
  constructor
  · rintro ⟨h1, h2⟩
    have f1 := le_far he he2 hr hr2 h1
    have f2 := le_far he2 he hr2 hr h2
    have eq : ∀ t, 0 ≤ t → fB b r e t = fB b2 r2 e2 t := fun t ht => by have := f1 t ht; have := f2 t ht; omega
    have z := eq 0 (by omega)
    rw [fB_zero, fB_zero] at z
    have hee : e = e2 := by
      rcases Int.lt_trichotomy e e2 with l | l | l
      · have q := eq e (by omega)
        rw [fB_one he, fB_small (by omega) l] at q
        omega
      · exact l
      · have q := eq e2 (by omega)
        rw [fB_one he2, fB_small (by omega) l] at q
        omega
    have q := eq e (by omega)
    rw [fB_one he, hee, fB_one he2] at q
    exact ⟨z, by omega, hee⟩
  · rintro ⟨rfl, rfl, rfl⟩
    have : leB b r e b r e = true := leB_iff.mpr ⟨by omega, fun s _ => by omega⟩
    exact ⟨this, this⟩
theorem early_nonneg {b r e C : Int} (he : 0 < e) (hr : 0 < r) : 0 ≤ early b r e C := by
  unfold early
  split
  · omega
  · rename_i h
    refine Int.mul_nonneg (by omega) ?_
    have : (b - C) / r ≤ 0 := by
      have := Int.ediv_le_ediv hr (show b - C ≤ 0 by omega)
      simpa using this
    omega
theorem early_le {b r e C t : Int} (he : 0 < e) (hr : 0 < r) (ht : 0 ≤ t) (h : C ≤ fB b r e t) : early b r e C ≤ t := by
  unfold early
  split
  · exact ht
  · rename_i hc
    unfold fB at h
    have a1 := Int.mul_ediv_add_emod t e
    have a2 := Int.emod_nonneg t (Int.ne_of_gt he)
    generalize t / e = s at *
    have k1 : -s ≤ (b - C) / r := by
      rw [Int.le_ediv_iff_mul_le hr]
      rw [Int.neg_mul, Int.mul_comm s r]
      omega
    have k2 : e * (0 - (b - C) / r) ≤ e * s := Int.mul_le_mul_of_nonneg_left (by omega) (by omega)
    omega
theorem early_ge {b r e C : Int} (he : 0 < e) (hr : 0 < r) : C ≤ fB b r e (early b r e C) := by
  unfold early fB
  split
  · simp; omega
  · rename_i hc
    rw [Int.mul_ediv_cancel_left _ (by omega)]
    have a1 := Int.mul_ediv_add_emod (b - C) r
    have a3 := Int.emod_lt_of_pos (b - C) hr
    have a2 := Int.emod_nonneg (b - C) (Int.ne_of_gt hr)
    rw [Int.mul_sub, Int.mul_zero]
    omega
theorem early_mono {b r e b2 r2 e2 C : Int} (he : 0 < e) (he2 : 0 < e2) (hr : 0 < r) (hr2 : 0 < r2) (h : leB b r e b2 r2 e2 = true) : early b2 r2 e2 C ≤ early b r e C :=
  early_le he2 hr2 (early_nonneg he hr) (Int.le_trans (early_ge he hr) (le_far he he2 hr hr2 h _ (early_nonneg he hr)))
end K53

namespace K53
open PySem L2 DL
def top (i : Nat) : Stmt := PySem.Challenge.pw_creditturns_k53_buckets_compared.main.body.getD i (.Pass ⟨0, 0, 0, 0⟩)
abbrev s_law_pen : Stmt := top 34
abbrev s_law_draw : Stmt := top 35
abbrev s_law_pick : Stmt := top 36
abbrev s_law_parts : Stmt := top 38
abbrev s_Bucket___eq__ : Stmt := inClass (top 32) 11
abbrev s_law_near : Stmt := top 39
abbrev s_is_int : Stmt := top 13
abbrev s_is_between : Stmt := top 14
abbrev s_BadBucket___init__ : Stmt := inClass (top 7) 0
abbrev s_Bucket___init__ : Stmt := inClass (top 32) 0
abbrev s_need_like : Stmt := top 28
abbrev s_bits_in : Stmt := top 31
abbrev s_Bucket___le__ : Stmt := inClass (top 32) 7
abbrev s_Bucket___lt__ : Stmt := inClass (top 32) 8
abbrev s_Bucket___gt__ : Stmt := inClass (top 32) 10
abbrev s_law_is_below : Stmt := top 37
abbrev s_Bucket___ge__ : Stmt := inClass (top 32) 9
abbrev s_BadNumber___init__ : Stmt := inClass (top 9) 0
abbrev s_need_number : Stmt := top 15
abbrev s_Bucket_earliest : Stmt := inClass (top 32) 3
abbrev s_law_pair_right : Stmt := top 41
abbrev s_law_heard : Stmt := top 40
abbrev s_law : Stmt := top 42
theorem boo_list : bootBuiltins ("list" : Str) = some (.type "list") := by decide +kernel
theorem boo_range : bootBuiltins ("range" : Str) = some (.type "range") := by decide +kernel
theorem boo_int : bootBuiltins ("int" : Str) = some (.type "int") := by decide +kernel
theorem boo_len : bootBuiltins ("len" : Str) = some (.builtin "len") := by decide +kernel
theorem boo_abs : bootBuiltins ("abs" : Str) = some (.builtin "abs") := by decide +kernel
theorem boo_isinstance : bootBuiltins ("isinstance" : Str) = some (.builtin "isinstance") := by decide +kernel
theorem boo_max : bootBuiltins ("max" : Str) = some (.builtin "max") := by decide +kernel
theorem boo_bool : bootBuiltins ("bool" : Str) = some (.type "bool") := by decide +kernel
theorem boo_super : bootBuiltins ("super" : Str) = some (.type "super") := by decide +kernel
theorem boo_all : bootBuiltins ("all" : Str) = some (.builtin "all") := by decide +kernel
theorem boo_repr : bootBuiltins ("repr" : Str) = some (.builtin "repr") := by decide +kernel
/-- where all stands -/
structure Ad where
  f_law : Addr
  f_law_pen : Addr
  f_law_parts : Addr
  f_law_draw : Addr
  f_law_pick : Addr
  f_law_near : Addr
  f_Bucket___eq__ : Addr
  c_Bucket : Addr
  f_law_pair_right : Addr
  f_Bucket___init__ : Addr
  f_is_between : Addr
  f_is_int : Addr
  c_BadBucket : Addr
  f_BadBucket_init : Addr
  f_law_is_below : Addr
  f_Bucket___gt__ : Addr
  f_need_like : Addr
  f_Bucket___lt__ : Addr
  f_Bucket___le__ : Addr
  f_bits_in : Addr
  f_Bucket___ge__ : Addr
  f_Bucket_earliest : Addr
  f_need_number : Addr
  c_BadNumber : Addr
  f_BadNumber_init : Addr
  f_law_heard : Addr
  c_CreditError : Addr
  cc_law : Addr
  pt_law : Addr
/-- what the top has written -/
structure Txt (c : Wd) (A : Ad) : Prop where
  mg_law : c.mg ("law" : Str) = some (.ref A.f_law)
  F_law : ∃ fd, FunD c.K "law" "law" (defArgs s_law) (defBody s_law) (defScope s_law) [] [] A.f_law fd
  mg_law_pen : c.mg ("_law_pen" : Str) = some (.ref A.f_law_pen)
  F_law_pen : ∃ fd, FunD c.K "_law_pen" "_law_pen" (defArgs s_law_pen) (defBody s_law_pen) (defScope s_law_pen) [] [] A.f_law_pen fd
  no_list : c.mg ("list" : Str) = none
  no_range : c.mg ("range" : Str) = none
  mg_law_parts : c.mg ("_law_parts" : Str) = some (.ref A.f_law_parts)
  F_law_parts : ∃ fd, FunD c.K "_law_parts" "_law_parts" (defArgs s_law_parts) (defBody s_law_parts) (defScope s_law_parts) [] [] A.f_law_parts fd
  mg_law_draw : c.mg ("_law_draw" : Str) = some (.ref A.f_law_draw)
  F_law_draw : ∃ fd, FunD c.K "_law_draw" "_law_draw" (defArgs s_law_draw) (defBody s_law_draw) (defScope s_law_draw) [] [] A.f_law_draw fd
  no_int : c.mg ("int" : Str) = none
  no_len : c.mg ("len" : Str) = none
  no_abs : c.mg ("abs" : Str) = none
  mg_law_pick : c.mg ("_law_pick" : Str) = some (.ref A.f_law_pick)
  F_law_pick : ∃ fd, FunD c.K "_law_pick" "_law_pick" (defArgs s_law_pick) (defBody s_law_pick) (defScope s_law_pick) [] [] A.f_law_pick fd
  mg_law_near : c.mg ("_law_near" : Str) = some (.ref A.f_law_near)
  F_law_near : ∃ fd, FunD c.K "_law_near" "_law_near" (defArgs s_law_near) (defBody s_law_near) (defScope s_law_near) [] [] A.f_law_near fd
  mg_c_Bucket : c.mg ("Bucket" : Str) = some (.ref A.c_Bucket)
  fi_Bucket___eq__ : PySem.W.findIn c.K (.ref A.c_Bucket) "__eq__" = some (some (.ref A.f_Bucket___eq__))
  if_Bucket___eq__ : PySem.W.isFn c.K (.ref A.f_Bucket___eq__) = true
  F_Bucket___eq__ : ∃ fd, FunD c.K "__eq__" "Bucket.__eq__" (defArgs s_Bucket___eq__) (defBody s_Bucket___eq__) (defScope s_Bucket___eq__) [] [] A.f_Bucket___eq__ fd
  no_isinstance : c.mg ("isinstance" : Str) = none
  cl_Bucket : Cls c.K A.c_Bucket
  ci_Bucket : CI c A.c_Bucket
  ne_Bucket : NeC c A.c_Bucket
  bt_Bucket : BtC c A.c_Bucket
  nf_Bucket_NoneType : PySem.W.notFirst c.K A.c_Bucket (.type "NoneType") = true
  nf_Bucket_bool : PySem.W.notFirst c.K A.c_Bucket (.type "bool") = true
  nf_Bucket_int : PySem.W.notFirst c.K A.c_Bucket (.type "int") = true
  nf_Bucket_str : PySem.W.notFirst c.K A.c_Bucket (.type "str") = true
  nf_Bucket_list : PySem.W.notFirst c.K A.c_Bucket (.type "list") = true
  nf_Bucket_tuple : PySem.W.notFirst c.K A.c_Bucket (.type "tuple") = true
  nf_Bucket_dict : PySem.W.notFirst c.K A.c_Bucket (.type "dict") = true
  no_max : c.mg ("max" : Str) = none
  mg_law_pair_right : c.mg ("_law_pair_right" : Str) = some (.ref A.f_law_pair_right)
  F_law_pair_right : ∃ fd, FunD c.K "_law_pair_right" "_law_pair_right" (defArgs s_law_pair_right) (defBody s_law_pair_right) (defScope s_law_pair_right) [] [] A.f_law_pair_right fd
  fi_Bucket___init__ : PySem.W.findIn c.K (.ref A.c_Bucket) "__init__" = some (some (.ref A.f_Bucket___init__))
  if_Bucket___init__ : PySem.W.isFn c.K (.ref A.f_Bucket___init__) = true
  F_Bucket___init__ : ∃ fd, FunD c.K "__init__" "Bucket.__init__" (defArgs s_Bucket___init__) (defBody s_Bucket___init__) (defScope s_Bucket___init__) [] [] A.f_Bucket___init__ fd
  mg_is_between : c.mg ("is_between" : Str) = some (.ref A.f_is_between)
  F_is_between : ∃ fd, FunD c.K "is_between" "is_between" (defArgs s_is_between) (defBody s_is_between) (defScope s_is_between) [] [] A.f_is_between fd
  mg_is_int : c.mg ("is_int" : Str) = some (.ref A.f_is_int)
  F_is_int : ∃ fd, FunD c.K "is_int" "is_int" (defArgs s_is_int) (defBody s_is_int) (defScope s_is_int) [] [] A.f_is_int fd
  no_bool : c.mg ("bool" : Str) = none
  gv_MOST_BITS : ∃ t, c.mg ("MOST_BITS" : Str) = some (.int 1000000 t)
  mg_c_BadBucket : c.mg ("BadBucket" : Str) = some (.ref A.c_BadBucket)
  nx_BadBucket_part : PySem.W.findIn c.K (.ref A.c_BadBucket) "part" = some none
  no_super : c.mg ("super" : Str) = none
  ix_BadBucket : IniX c A.c_BadBucket A.f_BadBucket_init "BadBucket.__init__" s_BadBucket___init__ ["self", "part"]
  xc_BadBucket : PySem.W.XcC c.K A.c_BadBucket
  xa_BadBucket_part : XA c A.c_BadBucket ("part" : Str)
  gv_MOST_RATE : ∃ t, c.mg ("MOST_RATE" : Str) = some (.int 1000 t)
  na_Bucket_burst : CA c A.c_Bucket ("burst" : Str)
  na_Bucket_rate : CA c A.c_Bucket ("rate" : Str)
  na_Bucket_every : CA c A.c_Bucket ("every" : Str)
  mk_Bucket : Mk c.K A.c_Bucket A.f_Bucket___init__
  mg_law_is_below : c.mg ("_law_is_below" : Str) = some (.ref A.f_law_is_below)
  F_law_is_below : ∃ fd, FunD c.K "_law_is_below" "_law_is_below" (defArgs s_law_is_below) (defBody s_law_is_below) (defScope s_law_is_below) [] [] A.f_law_is_below fd
  fi_Bucket___gt__ : PySem.W.findIn c.K (.ref A.c_Bucket) "__gt__" = some (some (.ref A.f_Bucket___gt__))
  if_Bucket___gt__ : PySem.W.isFn c.K (.ref A.f_Bucket___gt__) = true
  F_Bucket___gt__ : ∃ fd, FunD c.K "__gt__" "Bucket.__gt__" (defArgs s_Bucket___gt__) (defBody s_Bucket___gt__) (defScope s_Bucket___gt__) [] [] A.f_Bucket___gt__ fd
  mg_need_like : c.mg ("need_like" : Str) = some (.ref A.f_need_like)
  F_need_like : ∃ fd, FunD c.K "need_like" "need_like" (defArgs s_need_like) (defBody s_need_like) (defScope s_need_like) [] [] A.f_need_like fd
  fi_Bucket___lt__ : PySem.W.findIn c.K (.ref A.c_Bucket) "__lt__" = some (some (.ref A.f_Bucket___lt__))
  if_Bucket___lt__ : PySem.W.isFn c.K (.ref A.f_Bucket___lt__) = true
  F_Bucket___lt__ : ∃ fd, FunD c.K "__lt__" "Bucket.__lt__" (defArgs s_Bucket___lt__) (defBody s_Bucket___lt__) (defScope s_Bucket___lt__) [] [] A.f_Bucket___lt__ fd
  fi_Bucket___le__ : PySem.W.findIn c.K (.ref A.c_Bucket) "__le__" = some (some (.ref A.f_Bucket___le__))
  if_Bucket___le__ : PySem.W.isFn c.K (.ref A.f_Bucket___le__) = true
  F_Bucket___le__ : ∃ fd, FunD c.K "__le__" "Bucket.__le__" (defArgs s_Bucket___le__) (defBody s_Bucket___le__) (defScope s_Bucket___le__) [] [] A.f_Bucket___le__ fd
  mo_gcd : c.mg ("gcd" : Str) = some (.builtin "math.gcd")
  mg_bits_in : c.mg ("bits_in" : Str) = some (.ref A.f_bits_in)
  F_bits_in : ∃ fd, FunD c.K "bits_in" "bits_in" (defArgs s_bits_in) (defBody s_bits_in) (defScope s_bits_in) [] [] A.f_bits_in fd
  no_all : c.mg ("all" : Str) = none
  fi_Bucket___ge__ : PySem.W.findIn c.K (.ref A.c_Bucket) "__ge__" = some (some (.ref A.f_Bucket___ge__))
  if_Bucket___ge__ : PySem.W.isFn c.K (.ref A.f_Bucket___ge__) = true
  F_Bucket___ge__ : ∃ fd, FunD c.K "__ge__" "Bucket.__ge__" (defArgs s_Bucket___ge__) (defBody s_Bucket___ge__) (defScope s_Bucket___ge__) [] [] A.f_Bucket___ge__ fd
  no_repr : c.mg ("repr" : Str) = none
  fi_Bucket_earliest : PySem.W.findIn c.K (.ref A.c_Bucket) "earliest" = some (some (.ref A.f_Bucket_earliest))
  if_Bucket_earliest : PySem.W.isFn c.K (.ref A.f_Bucket_earliest) = true
  F_Bucket_earliest : ∃ fd, FunD c.K "earliest" "Bucket.earliest" (defArgs s_Bucket_earliest) (defBody s_Bucket_earliest) (defScope s_Bucket_earliest) [] [] A.f_Bucket_earliest fd
  mg_need_number : c.mg ("need_number" : Str) = some (.ref A.f_need_number)
  F_need_number : ∃ fd, FunD c.K "need_number" "need_number" (defArgs s_need_number) (defBody s_need_number) (defScope s_need_number) [] [] A.f_need_number fd
  mg_c_BadNumber : c.mg ("BadNumber" : Str) = some (.ref A.c_BadNumber)
  nx_BadNumber_value : PySem.W.findIn c.K (.ref A.c_BadNumber) "value" = some none
  ix_BadNumber : IniX c A.c_BadNumber A.f_BadNumber_init "BadNumber.__init__" s_BadNumber___init__ ["self", "value"]
  xc_BadNumber : PySem.W.XcC c.K A.c_BadNumber
  xa_BadNumber_value : XA c A.c_BadNumber ("value" : Str)
  mg_law_heard : c.mg ("_law_heard" : Str) = some (.ref A.f_law_heard)
  F_law_heard : ∃ fd, FunD c.K "_law_heard" "_law_heard" (defArgs s_law_heard) (defBody s_law_heard) (defScope s_law_heard) [] [] A.f_law_heard fd
  mg_c_CreditError : c.mg ("CreditError" : Str) = some (.ref A.c_CreditError)
  lm_law : LamF c A.f_law A.cc_law A.pt_law "law"
  kt_NoneType_BadBucket : PySem.W.kitOne c.K (.type "NoneType") (.ref A.c_BadBucket) = some false
  kt_bool_BadBucket : PySem.W.kitOne c.K (.type "bool") (.ref A.c_BadBucket) = some false
  kt_int_BadBucket : PySem.W.kitOne c.K (.type "int") (.ref A.c_BadBucket) = some false
  kt_str_BadBucket : PySem.W.kitOne c.K (.type "str") (.ref A.c_BadBucket) = some false
  kt_list_BadBucket : PySem.W.kitOne c.K (.type "list") (.ref A.c_BadBucket) = some false
  kt_tuple_BadBucket : PySem.W.kitOne c.K (.type "tuple") (.ref A.c_BadBucket) = some false
  kt_dict_BadBucket : PySem.W.kitOne c.K (.type "dict") (.ref A.c_BadBucket) = some false
  kt_c_Bucket_BadBucket : PySem.W.kitOne c.K (.ref A.c_Bucket) (.ref A.c_BadBucket) = some false
  kt_c_BadBucket_BadBucket : PySem.W.kitOne c.K (.ref A.c_BadBucket) (.ref A.c_BadBucket) = some true
  kt_c_BadNumber_BadBucket : PySem.W.kitOne c.K (.ref A.c_BadNumber) (.ref A.c_BadBucket) = some false
  kt_NoneType_Bucket : PySem.W.kitOne c.K (.type "NoneType") (.ref A.c_Bucket) = some false
  kt_bool_Bucket : PySem.W.kitOne c.K (.type "bool") (.ref A.c_Bucket) = some false
  kt_int_Bucket : PySem.W.kitOne c.K (.type "int") (.ref A.c_Bucket) = some false
  kt_str_Bucket : PySem.W.kitOne c.K (.type "str") (.ref A.c_Bucket) = some false
  kt_list_Bucket : PySem.W.kitOne c.K (.type "list") (.ref A.c_Bucket) = some false
  kt_tuple_Bucket : PySem.W.kitOne c.K (.type "tuple") (.ref A.c_Bucket) = some false
  kt_dict_Bucket : PySem.W.kitOne c.K (.type "dict") (.ref A.c_Bucket) = some false
  kt_c_Bucket_Bucket : PySem.W.kitOne c.K (.ref A.c_Bucket) (.ref A.c_Bucket) = some true
  kt_c_BadBucket_Bucket : PySem.W.kitOne c.K (.ref A.c_BadBucket) (.ref A.c_Bucket) = some false
  kt_c_BadNumber_Bucket : PySem.W.kitOne c.K (.ref A.c_BadNumber) (.ref A.c_Bucket) = some false
  kt_NoneType_bool : PySem.W.kitOne c.K (.type "NoneType") (.type "bool") = some false
  kt_bool_bool : PySem.W.kitOne c.K (.type "bool") (.type "bool") = some true
  kt_int_bool : PySem.W.kitOne c.K (.type "int") (.type "bool") = some false
  kt_str_bool : PySem.W.kitOne c.K (.type "str") (.type "bool") = some false
  kt_list_bool : PySem.W.kitOne c.K (.type "list") (.type "bool") = some false
  kt_tuple_bool : PySem.W.kitOne c.K (.type "tuple") (.type "bool") = some false
  kt_dict_bool : PySem.W.kitOne c.K (.type "dict") (.type "bool") = some false
  kt_c_Bucket_bool : PySem.W.kitOne c.K (.ref A.c_Bucket) (.type "bool") = some false
  kt_c_BadBucket_bool : PySem.W.kitOne c.K (.ref A.c_BadBucket) (.type "bool") = some false
  kt_c_BadNumber_bool : PySem.W.kitOne c.K (.ref A.c_BadNumber) (.type "bool") = some false
  kt_NoneType_int : PySem.W.kitOne c.K (.type "NoneType") (.type "int") = some false
  kt_bool_int : PySem.W.kitOne c.K (.type "bool") (.type "int") = some true
  kt_int_int : PySem.W.kitOne c.K (.type "int") (.type "int") = some true
  kt_str_int : PySem.W.kitOne c.K (.type "str") (.type "int") = some false
  kt_list_int : PySem.W.kitOne c.K (.type "list") (.type "int") = some false
  kt_tuple_int : PySem.W.kitOne c.K (.type "tuple") (.type "int") = some false
  kt_dict_int : PySem.W.kitOne c.K (.type "dict") (.type "int") = some false
  kt_c_Bucket_int : PySem.W.kitOne c.K (.ref A.c_Bucket) (.type "int") = some false
  kt_c_BadBucket_int : PySem.W.kitOne c.K (.ref A.c_BadBucket) (.type "int") = some false
  kt_c_BadNumber_int : PySem.W.kitOne c.K (.ref A.c_BadNumber) (.type "int") = some false
  em_BadBucket_CreditError : PySem.W.exmOne c.K (.ref A.c_BadBucket) (.ref A.c_CreditError) = some true
  em_BadNumber_CreditError : PySem.W.exmOne c.K (.ref A.c_BadNumber) (.ref A.c_CreditError) = some true
  nf_Bucket_c_Bucket : PySem.W.notFirst c.K A.c_Bucket (.ref A.c_Bucket) = true
/-! _law_draw -/
def N_law_draw : List Str := [("_law_pen_here" : Str), ("_law_many" : Str), ("_law_digit" : Str), ("_law_at" : Str), ("_law_cell" : Str), ("_law_great" : Str), ("_law_mixed" : Str)]
theorem sc_law_draw : FnScope N_law_draw [("_law_pen_here" : Str), ("_law_many" : Str)] (defScope s_law_draw) := ⟨rfl, rfl, rfl, by decide +kernel, rfl, by decide +kernel, by decide +kernel⟩
def u_law_draw_8 (c : Wd) (A : Ad) : DTS := dRet (dBin (oI (fun _ j => 0 < j) fun i j => .int (i % j)) (dBu oInt (dCons (dBin (oI CDivW fun i j => .int (i / j)) (dVar 6) (dC (.int 32))) (dNil))) (dVar 1))
def u_law_draw_7 (c : Wd) (A : Ad) : DTS := dSeq (dSet 6 (dBin (oI (fun _ j => 0 < j) fun i j => .int (i % j)) (dBu oInt (dCons (dBin (oI CPow fun i j => .int (i ^ j.toNat)) (dBin oAdd (dBin oAdd (dBin (oI CMulE fun i j => .int (i * j)) (dVar 6) (dBin oAdd (dBin (oI CMulE fun i j => .int (i * j)) (dC (.int 2)) (dVar 3)) (dC (.int 339)))) (dBin (oI CMulE fun i j => .int (i * j)) (dBin (oI CMulE fun i j => .int (i * j)) (dC (.int 47459)) (dVar 3)) (dVar 3))) (dC (.int 131))) (dC (.int 3))) (dNil))) (dC (.int 2147483587)))) (u_law_draw_8 c A)
def u_law_draw_6 (c : Wd) (A : Ad) : DTS := dSeq (dSet 6 (dBin (oI (fun _ j => 0 < j) fun i j => .int (i % j)) (dBu oInt (dCons (dBin (oI CPow fun i j => .int (i ^ j.toNat)) (dBin oAdd (dBin oAdd (dBin (oI (fun _ j => 0 < j) fun i j => .int (i % j)) (dBu oInt (dCons (dVar 4) (dNil))) (dC (.int 2147483549))) (dBin (oI CMulE fun i j => .int (i * j)) (dC (.int 52361)) (dVar 3))) (dC (.int 613))) (dC (.int 5))) (dNil))) (dC (.int 2147483629)))) (u_law_draw_7 c A)
def u_law_draw_5 (c : Wd) (A : Ad) : DTS := dSeq (dIte (dAnd (dTB (dBin (oI (fun _ _ => True) fun i j => .bl (decide (i < j))) (dVar 3) (dBu oLen (dCons (dPen c 0 0) (dNil))))) (dTB (dBin (oI (fun _ _ => True) fun i j => .bl (decide (j ≤ i))) (dBu oAbs (dCons (dVar 4) (dNil))) (dBin (oI CPow fun i j => .int (i ^ j.toNat)) (dC (.int 10)) (dC (.int 18)))))) (dSeq (dSet 5 (dBin oAdd (dBin (oI CMulE fun i j => .int (i * j)) (dC (.int 2)) (dBin (oI (fun _ _ => True) fun i j => .int (i - j)) (dBu oAbs (dCons (dVar 4) (dNil))) (dBin (oI CPow fun i j => .int (i ^ j.toNat)) (dC (.int 10)) (dC (.int 18))))) (dBu oInt (dCons (dBin (oI (fun _ _ => True) fun i j => .bl (decide (i < j))) (dVar 4) (dC (.int 0))) (dNil))))) (dSeq (dAsg (dBin (oI CDivW fun i j => .int (i / j)) (dBu oInt (dCons (dVar 5) (dNil))) (dVar 1)) (gPen 0 2)) (dRet (dBin (oI (fun _ j => 0 < j) fun i j => .int (i % j)) (dBu oInt (dCons (dVar 5) (dNil))) (dVar 1))))) (dNext)) (u_law_draw_6 c A)
def u_law_draw_4 (c : Wd) (A : Ad) : DTS := dSeq (dIte (dTB (dBin oNe (dPen c 0 0) (dLst (dNil)))) (dSet 4 (dIx (dPen c 0 0) (dBin (oI (fun _ j => 0 < j) fun i j => .int (i % j)) (dBu oInt (dCons (dVar 3) (dNil))) (dBu oLen (dCons (dPen c 0 0) (dNil)))))) (dNext)) (u_law_draw_5 c A)
def u_law_draw_3 (c : Wd) (A : Ad) : DTS := dSeq (dSet 4 (dBin oAdd (dBin (oI CMulE fun i j => .int (i * j)) (dC (.int 39119)) (dVar 3)) (dC (.int 823)))) (u_law_draw_4 c A)
def u_law_draw_2 (c : Wd) (A : Ad) : DTS := dSeq (dAsg (dBin oAdd (dVar 3) (dC (.int 1))) (gPen 0 1)) (u_law_draw_3 c A)
def u_law_draw_1 (c : Wd) (A : Ad) : DTS := dSeq (dSet 3 (dPen c 0 1)) (u_law_draw_2 c A)
def t_law_draw (c : Wd) (A : Ad) : DTS := dSeq (dIte (dTB (dBin (oI (fun _ _ => True) fun i j => .bl (decide (j < i))) (dPen c 0 2) (dC (.int 0)))) (dSeq (dSet 2 (dBin (oI (fun _ j => 0 < j) fun i j => .int (i % j)) (dBu oInt (dCons (dPen c 0 2) (dNil))) (dVar 1))) (dSeq (dAsg (dBin (oI CDivW fun i j => .int (i / j)) (dBu oInt (dCons (dPen c 0 2) (dNil))) (dVar 1)) (gPen 0 2)) (dRet (dVar 2)))) (dNext)) (u_law_draw_1 c A)
theorem dd_law_draw {c : Wd} {A : Ad} (T : Txt c A) (X : Cx) (cf : Fr) (W : WX) (ec : cf.toWd = c) (B : XB X cf W N_law_draw (defScope s_law_draw) 0 false) : DSs X cf W (defBody s_law_draw) (t_law_draw c A) := by
  subst ec
  exact (dss_cons (ds_if (dtc o_gt (de_pen B (i := 0) rfl (.inl rfl)) de_int) (dss_cons (dset B (i := 2) (de_bin o_mod (de_ty B T.no_int boo_int b_int rfl (da_cons (de_pen B (i := 0) rfl (.inl rfl)) da_nil)) (dv B (i := 1)))) (dss_cons (ds_asg (de_bin o_fdivW (de_ty B T.no_int boo_int b_int rfl (da_cons (de_pen B (i := 0) rfl (.inl rfl)) da_nil)) (dv B (i := 1))) (dg_pen B (i := 0) rfl (.inl rfl))) (dss_one (ds_ret (dv B (i := 2)))))) dss_nil) (dss_cons (dset B (i := 3) (de_pen B (i := 0) rfl (.inl rfl))) (dss_cons (ds_asg (de_bin (o_add B.hK) (dv B (i := 3)) de_int) (dg_pen B (i := 0) rfl (.inl rfl))) (dss_cons (dset B (i := 4) (de_bin (o_add B.hK) (de_bin o_mulE de_int (dv B (i := 3))) de_int)) (dss_cons (ds_if (dtc (o_ne B) (de_pen B (i := 0) rfl (.inl rfl)) (de_lst da_nil)) (dss_one (dset B (i := 4) (de_ix B (de_pen B (i := 0) rfl (.inl rfl)) (de_bin o_mod (de_ty B T.no_int boo_int b_int rfl (da_cons (dv B (i := 3)) da_nil)) (de_bu B T.no_len boo_len (b_len B) rfl (da_cons (de_pen B (i := 0) rfl (.inl rfl)) da_nil)))))) dss_nil) (dss_cons (ds_if (dw_and (dtc o_lt (dv B (i := 3)) (de_bu B T.no_len boo_len (b_len B) rfl (da_cons (de_pen B (i := 0) rfl (.inl rfl)) da_nil))) (dw_and1 (dtc o_ge (de_bu B T.no_abs boo_abs b_abs rfl (da_cons (dv B (i := 4)) da_nil)) (de_bin o_pow de_int de_int)))).pt (dss_cons (dset B (i := 5) (de_bin (o_add B.hK) (de_bin o_mulE de_int (de_bin o_sub (de_bu B T.no_abs boo_abs b_abs rfl (da_cons (dv B (i := 4)) da_nil)) (de_bin o_pow de_int de_int))) (de_ty B T.no_int boo_int b_int rfl (da_cons (dcp o_lt (dv B (i := 4)) de_int) da_nil)))) (dss_cons (ds_asg (de_bin o_fdivW (de_ty B T.no_int boo_int b_int rfl (da_cons (dv B (i := 5)) da_nil)) (dv B (i := 1))) (dg_pen B (i := 0) rfl (.inl rfl))) (dss_one (ds_ret (de_bin o_mod (de_ty B T.no_int boo_int b_int rfl (da_cons (dv B (i := 5)) da_nil)) (dv B (i := 1))))))) dss_nil) (dss_cons (dset B (i := 6) (de_bin o_mod (de_ty B T.no_int boo_int b_int rfl (da_cons (de_bin o_pow (de_bin (o_add B.hK) (de_bin (o_add B.hK) (de_bin o_mod (de_ty B T.no_int boo_int b_int rfl (da_cons (dv B (i := 4)) da_nil)) de_int) (de_bin o_mulE de_int (dv B (i := 3)))) de_int) de_int) da_nil)) de_int)) (dss_cons (dset B (i := 6) (de_bin o_mod (de_ty B T.no_int boo_int b_int rfl (da_cons (de_bin o_pow (de_bin (o_add B.hK) (de_bin (o_add B.hK) (de_bin o_mulE (dv B (i := 6)) (de_bin (o_add B.hK) (de_bin o_mulE de_int (dv B (i := 3))) de_int)) (de_bin o_mulE (de_bin o_mulE de_int (dv B (i := 3))) (dv B (i := 3)))) de_int) de_int) da_nil)) de_int)) (dss_one (ds_ret (de_bin o_mod (de_ty B T.no_int boo_int b_int rfl (da_cons (de_bin o_fdivW (dv B (i := 6)) de_int) da_nil)) (dv B (i := 1)))))))))))))
theorem rd_law_draw {c : Wd} {A : Ad} : ∀ ds n P R, sDraw ds n P R → t_law_draw c A (fnN P R) (startS N_law_draw ds n) := by
  rintro ds z P R ⟨m, rfl, h0, h1, h2, h3⟩
  exact drawB_ok (c := c) (k1 := 47459) (k2 := 613) (k3 := 52361) (k4 := 339) (k5 := 131) (p1 := 2147483549) (p2 := 2147483629) (p3 := 2147483587) (q := 32) (k6 := 39119) (k7 := 823) (by decide) h0 h1 h2 h3
theorem ok_law_draw {c : Wd} {A : Ad} (T : Txt c A) : ∃ fd, FunD c.K "_law_draw" "_law_draw" (defArgs s_law_draw) (defBody s_law_draw) (defScope s_law_draw) [] [] A.f_law_draw fd ∧ FnG c 1 A.f_law_draw fd [("_law_pen_here" : Str), ("_law_many" : Str)] (liftSp c sDraw) := by
  obtain ⟨fd, F⟩ := T.F_law_draw
  exact ⟨fd, F, fn_ok F sc_law_draw sDraw_len (dd_law_draw T) rd_law_draw⟩
def cs_law_draw_2 (c : Wd) (A : Ad) : DSp2 := fun ds es m P R => ds.length = 2 ∧ sDraw ds m P R
theorem ca_law_draw_2 {c : Wd} {A : Ad} (T : Txt c A) : Callee c (.ref A.f_law_draw) [] 1 (cs_law_draw_2 c A) := by
  obtain ⟨fd, F, G⟩ := ok_law_draw T
  exact callee_fn G F.kp (shape_n0 F fun _ _ _ _ _ _ us hl => match us, hl with | [_, _], _ => rfl)
theorem cq_law_draw_2 {c : Wd} {A : Ad} {x0 x1 : D} {z : Z} {P : D → Z → Prop} {R : Er → Z → Prop} : cs_law_draw_2 c A [x0, x1] [] z P R ↔ sDraw [x0, x1] z P R := ⟨fun h => h.2, fun h => ⟨rfl, h⟩⟩
/-! _law_pick -/
def N_law_pick : List Str := [("_law_pen_here" : Str), ("_law_some" : Str)]
theorem sc_law_pick : FnScope N_law_pick [("_law_pen_here" : Str), ("_law_some" : Str)] (defScope s_law_pick) := ⟨rfl, rfl, rfl, by decide +kernel, rfl, by decide +kernel, by decide +kernel⟩
def t_law_pick (c : Wd) (A : Ad) : DTS := dRet (dIx (dVar 1) (dCall (fun ds zs n P R => zs = [] ∧ (cs_law_draw_2 c A) ds [] n P R) (dCons (dVar 0) (dCons (dBu oLen (dCons (dVar 1) (dNil))) (dNil))) dNil))
theorem dd_law_pick {c : Wd} {A : Ad} (T : Txt c A) (X : Cx) (cf : Fr) (W : WX) (ec : cf.toWd = c) (B : XB X cf W N_law_pick (defScope s_law_pick) 1 false) : DSs X cf W (defBody s_law_pick) (t_law_pick c A) := by
  subst ec
  exact (dss_one (ds_ret (de_ix B (dv B (i := 1)) (de_call B T.mg_law_draw (ca_law_draw_2 T) (by decide) rfl (da_cons (dv B (i := 0)) (da_cons (de_bu B T.no_len boo_len (b_len B) rfl (da_cons (dv B (i := 1)) da_nil)) da_nil))))))
def sp_law_pick (c : Wd) (A : Ad) : DSp := fun ds n P R => ds.length = 2 ∧ t_law_pick c A (fnN P R) (startS N_law_pick ds n)
theorem ok_law_pick {c : Wd} {A : Ad} (T : Txt c A) : ∃ fd, FunD c.K "_law_pick" "_law_pick" (defArgs s_law_pick) (defBody s_law_pick) (defScope s_law_pick) [] [] A.f_law_pick fd ∧ FnG c 2 A.f_law_pick fd [("_law_pen_here" : Str), ("_law_some" : Str)] (liftSp c (sp_law_pick c A)) := by
  obtain ⟨fd, F⟩ := T.F_law_pick
  exact ⟨fd, F, fn_ok F sc_law_pick (fun _ _ _ _ h => h.1) (dd_law_pick T) (fun _ _ _ _ h => h.2)⟩
def cs_law_pick_2 (c : Wd) (A : Ad) : DSp2 := fun ds es m P R => ds.length = 2 ∧ (sp_law_pick c A) ds m P R
theorem ca_law_pick_2 {c : Wd} {A : Ad} (T : Txt c A) : Callee c (.ref A.f_law_pick) [] 2 (cs_law_pick_2 c A) := by
  obtain ⟨fd, F, G⟩ := ok_law_pick T
  exact callee_fn G F.kp (shape_n0 F fun _ _ _ _ _ _ us hl => match us, hl with | [_, _], _ => rfl)
theorem cq_law_pick_2 {c : Wd} {A : Ad} {x0 x1 : D} {z : Z} {P : D → Z → Prop} {R : Er → Z → Prop} : cs_law_pick_2 c A [x0, x1] [] z P R ↔ (sp_law_pick c A) [x0, x1] z P R := ⟨fun h => h.2, fun h => ⟨rfl, h⟩⟩
/-! _law_parts -/
def N_law_parts : List Str := [("_law_pen_here" : Str)]
theorem sc_law_parts : FnScope N_law_parts [("_law_pen_here" : Str)] (defScope s_law_parts) := ⟨rfl, rfl, rfl, by decide +kernel, rfl, by decide +kernel, by decide +kernel⟩
def t_law_parts (c : Wd) (A : Ad) : DTS := dRet (dLst (dCons (dBin oAdd (dC (.int 1)) (dCall (fun ds zs n P R => zs = [] ∧ (cs_law_draw_2 c A) ds [] n P R) (dCons (dVar 0) (dCons (dCall (fun ds zs n P R => zs = [] ∧ (cs_law_pick_2 c A) ds [] n P R) (dCons (dVar 0) (dCons (dLst (dCons (dC (.int 4)) (dCons (dC (.int 20)) (dCons (dC (.int 90)) (dNil))))) (dNil))) dNil) (dNil))) dNil)) (dCons (dBin oAdd (dC (.int 1)) (dCall (fun ds zs n P R => zs = [] ∧ (cs_law_draw_2 c A) ds [] n P R) (dCons (dVar 0) (dCons (dC (.int 12)) (dNil))) dNil)) (dCons (dBin oAdd (dC (.int 1)) (dCall (fun ds zs n P R => zs = [] ∧ (cs_law_draw_2 c A) ds [] n P R) (dCons (dVar 0) (dCons (dC (.int 12)) (dNil))) dNil)) (dNil)))))
theorem dd_law_parts {c : Wd} {A : Ad} (T : Txt c A) (X : Cx) (cf : Fr) (W : WX) (ec : cf.toWd = c) (B : XB X cf W N_law_parts (defScope s_law_parts) 2 false) : DSs X cf W (defBody s_law_parts) (t_law_parts c A) := by
  subst ec
  exact (dss_one (ds_ret (de_lst (da_cons (de_bin (o_add B.hK) de_int (de_call B T.mg_law_draw (ca_law_draw_2 T) (by decide) rfl (da_cons (dv B (i := 0)) (da_cons (de_call B T.mg_law_pick (ca_law_pick_2 T) (by decide) rfl (da_cons (dv B (i := 0)) (da_cons (de_lst (da_cons de_int (da_cons de_int (da_cons de_int da_nil)))) da_nil))) da_nil)))) (da_cons (de_bin (o_add B.hK) de_int (de_call B T.mg_law_draw (ca_law_draw_2 T) (by decide) rfl (da_cons (dv B (i := 0)) (da_cons de_int da_nil)))) (da_cons (de_bin (o_add B.hK) de_int (de_call B T.mg_law_draw (ca_law_draw_2 T) (by decide) rfl (da_cons (dv B (i := 0)) (da_cons de_int da_nil)))) da_nil))))))
def sp_law_parts (c : Wd) (A : Ad) : DSp := fun ds n P R => ds.length = 1 ∧ t_law_parts c A (fnN P R) (startS N_law_parts ds n)
theorem ok_law_parts {c : Wd} {A : Ad} (T : Txt c A) : ∃ fd, FunD c.K "_law_parts" "_law_parts" (defArgs s_law_parts) (defBody s_law_parts) (defScope s_law_parts) [] [] A.f_law_parts fd ∧ FnG c 3 A.f_law_parts fd [("_law_pen_here" : Str)] (liftSp c (sp_law_parts c A)) := by
  obtain ⟨fd, F⟩ := T.F_law_parts
  exact ⟨fd, F, fn_ok F sc_law_parts (fun _ _ _ _ h => h.1) (dd_law_parts T) (fun _ _ _ _ h => h.2)⟩
def cs_law_parts_1 (c : Wd) (A : Ad) : DSp2 := fun ds es m P R => ds.length = 1 ∧ (sp_law_parts c A) ds m P R
theorem ca_law_parts_1 {c : Wd} {A : Ad} (T : Txt c A) : Callee c (.ref A.f_law_parts) [] 3 (cs_law_parts_1 c A) := by
  obtain ⟨fd, F, G⟩ := ok_law_parts T
  exact callee_fn G F.kp (shape_n0 F fun _ _ _ _ _ _ us hl => match us, hl with | [_], _ => rfl)
theorem cq_law_parts_1 {c : Wd} {A : Ad} {x0 : D} {z : Z} {P : D → Z → Prop} {R : Er → Z → Prop} : cs_law_parts_1 c A [x0] [] z P R ↔ (sp_law_parts c A) [x0] z P R := ⟨fun h => h.2, fun h => ⟨rfl, h⟩⟩
/-! Bucket.__eq__ -/
def N_Bucket___eq__ : List Str := [("self" : Str), ("other" : Str)]
theorem sc_Bucket___eq__ : FnScope N_Bucket___eq__ [("self" : Str), ("other" : Str)] (defScope s_Bucket___eq__) := ⟨rfl, rfl, rfl, by decide +kernel, rfl, by decide +kernel, by decide +kernel⟩
def u_Bucket___eq___1 (c : Wd) (A : Ad) : DTS := dRet (dBin oEq (dTup (dCons (dAt c ("burst" : Str) [] (dVar 0)) (dCons (dAt c ("rate" : Str) [] (dVar 0)) (dCons (dAt c ("every" : Str) [] (dVar 0)) (dNil))))) (dTup (dCons (dAt c ("burst" : Str) [] (dVar 1)) (dCons (dAt c ("rate" : Str) [] (dVar 1)) (dCons (dAt c ("every" : Str) [] (dVar 1)) (dNil))))))
def t_Bucket___eq__ (c : Wd) (A : Ad) : DTS := dSeq (dIte (dNot (dTB (dCalE (oIsA c) (dCons (dVar 1) (dCons (dC (.ref A.c_Bucket)) (dNil)))))) (dRet (dC (.bl false))) (dNext)) (u_Bucket___eq___1 c A)
theorem dd_Bucket___eq__ {c : Wd} {A : Ad} (T : Txt c A) (X : Cx) (cf : Fr) (W : WX) (ec : cf.toWd = c) (B : XB X cf W N_Bucket___eq__ (defScope s_Bucket___eq__) 1 false) : DSs X cf W (defBody s_Bucket___eq__) (t_Bucket___eq__ c A) := by
  subst ec
  exact (dss_cons (ds_if (dt_not (dt_val (de_calB B T.no_isinstance boo_isinstance (c_isa B) rfl (da_cons (dv B (i := 1)) (da_cons (de_glob B (v := .ref A.c_Bucket) rfl T.mg_c_Bucket rfl (fun _ => .ref _)) da_nil))))) (dss_one (ds_ret de_bl)) dss_nil) (dss_one (ds_ret (dcp (o_eq B) (de_tup (da_cons (de_at (tbl := []) (j := 0) B trivial (Nat.zero_le _) (dv B (i := 0))) (da_cons (de_at (tbl := []) (j := 0) B trivial (Nat.zero_le _) (dv B (i := 0))) (da_cons (de_at (tbl := []) (j := 0) B trivial (Nat.zero_le _) (dv B (i := 0))) da_nil)))) (de_tup (da_cons (de_at (tbl := []) (j := 0) B trivial (Nat.zero_le _) (dv B (i := 1))) (da_cons (de_at (tbl := []) (j := 0) B trivial (Nat.zero_le _) (dv B (i := 1))) (da_cons (de_at (tbl := []) (j := 0) B trivial (Nat.zero_le _) (dv B (i := 1))) da_nil))))))))
def sp_Bucket___eq__ (c : Wd) (A : Ad) : DSp := fun ds n P R => ds.length = 2 ∧ t_Bucket___eq__ c A (fnN P R) (startS N_Bucket___eq__ ds n)
theorem ok_Bucket___eq__ {c : Wd} {A : Ad} (T : Txt c A) : ∃ fd, FunD c.K "__eq__" "Bucket.__eq__" (defArgs s_Bucket___eq__) (defBody s_Bucket___eq__) (defScope s_Bucket___eq__) [] [] A.f_Bucket___eq__ fd ∧ FnG c 2 A.f_Bucket___eq__ fd [("self" : Str), ("other" : Str)] (liftSp c (sp_Bucket___eq__ c A)) := by
  obtain ⟨fd, F⟩ := T.F_Bucket___eq__
  exact ⟨fd, F, fn_ok F sc_Bucket___eq__ (fun _ _ _ _ h => h.1) (dd_Bucket___eq__ T) (fun _ _ _ _ h => h.2)⟩
def cs_Bucket___eq___2 (c : Wd) (A : Ad) : DSp2 := fun ds es m P R => ds.length = 2 ∧ (sp_Bucket___eq__ c A) ds m P R
theorem ca_Bucket___eq___2 {c : Wd} {A : Ad} (T : Txt c A) : Callee c (.ref A.f_Bucket___eq__) [] 2 (cs_Bucket___eq___2 c A) := by
  obtain ⟨fd, F, G⟩ := ok_Bucket___eq__ T
  exact callee_fn G F.kp (shape_n0 F fun _ _ _ _ _ _ us hl => match us, hl with | [_, _], _ => rfl)
theorem cq_Bucket___eq___2 {c : Wd} {A : Ad} {x0 x1 : D} {z : Z} {P : D → Z → Prop} {R : Er → Z → Prop} : cs_Bucket___eq___2 c A [x0, x1] [] z P R ↔ (sp_Bucket___eq__ c A) [x0, x1] z P R := ⟨fun h => h.2, fun h => ⟨rfl, h⟩⟩
theorem eq_Bucket_eq {c : Wd} {A : Ad} (T : Txt c A) : EqD c 2 A.c_Bucket (cs_Bucket___eq___2 c A) := ⟨⟨⟨_, ca_Bucket___eq___2 T, T.fi_Bucket___eq__, T.if_Bucket___eq__⟩⟩, T.ne_Bucket, T.bt_Bucket⟩
def tq_eq_eq_Bucket (c : Wd) (A : Ad) : List (Addr × DSp2) := [(A.c_Bucket, cs_Bucket___eq___2 c A)]
theorem ta_eq_eq_Bucket {c : Wd} {A : Ad} (T : Txt c A) : AllT (fun C s => EqD c 2 C s) (tq_eq_eq_Bucket c A) := ⟨(eq_Bucket_eq T).mono (by decide), trivial⟩
/-! _law_near -/
def N_law_near : List Str := [("_law_pen_here" : Str), ("_law_parts_here" : Str), ("_law_way" : Str), ("_law_by" : Str), ("_law_at" : Str), ("_law_step" : Str), ("_law_k" : Str)]
theorem sc_law_near : FnScope N_law_near [("_law_pen_here" : Str), ("_law_parts_here" : Str)] (defScope s_law_near) := ⟨rfl, rfl, rfl, by decide +kernel, rfl, by decide +kernel, by decide +kernel⟩
def u_law_near_5 (c : Wd) (A : Ad) : DTS := dRet (dLC (dRng1 (dCons (dC (.int 3)) (dNil))) (gN 6) (dYes) (dBu oMax2 (dCons (dC (.int 1)) (dCons (dBu oInt (dCons (dBin oAdd (dIx (dVar 1) (dVar 6)) (dBin (oI CMulE fun i j => .int (i * j)) (dVar 5) (dBu oInt (dCons (dBinE (oEqA c (tq_eq_eq_Bucket c A)) (dVar 6) (dVar 4)) (dNil))))) (dNil))) (dNil)))) [6])
def u_law_near_4 (c : Wd) (A : Ad) : DTS := dSeq (dAsg (dTup (dCons (dCall (fun ds zs n P R => zs = [] ∧ (cs_law_draw_2 c A) ds [] n P R) (dCons (dVar 0) (dCons (dC (.int 3)) (dNil))) dNil) (dCons (dCall (fun ds zs n P R => zs = [] ∧ (cs_law_pick_2 c A) ds [] n P R) (dCons (dVar 0) (dCons (dLst (dCons (dUnE (oNegA []) (dC (.int 1))) (dCons (dC (.int 1)) (dCons (dC (.int 0)) (dCons (dC (.int 2)) (dNil)))))) (dNil))) dNil) (dNil)))) (gT 2 (gC (gN 4) (gC (gN 5) (gZ))))) (u_law_near_5 c A)
def u_law_near_3 (c : Wd) (A : Ad) : DTS := dSeq (dIte (dTB (dBinE (oEqA c (tq_eq_eq_Bucket c A)) (dVar 2) (dC (.int 2)))) (dRet (dLst (dCons (dBin oAdd (dIx (dVar 1) (dC (.int 0))) (dBin (oI CMulE fun i j => .int (i * j)) (dIx (dVar 1) (dC (.int 1))) (dBin (oI (fun _ _ => True) fun i j => .int (i - j)) (dVar 3) (dC (.int 1))))) (dCons (dBin (oI CMulE fun i j => .int (i * j)) (dIx (dVar 1) (dC (.int 1))) (dVar 3)) (dCons (dBin (oI CMulE fun i j => .int (i * j)) (dIx (dVar 1) (dC (.int 2))) (dVar 3)) (dNil)))))) (dNext)) (u_law_near_4 c A)
def u_law_near_2 (c : Wd) (A : Ad) : DTS := dSeq (dIte (dTB (dBinE (oEqA c (tq_eq_eq_Bucket c A)) (dVar 2) (dC (.int 1)))) (dRet (dLst (dCons (dIx (dVar 1) (dC (.int 0))) (dCons (dBin (oI CMulE fun i j => .int (i * j)) (dIx (dVar 1) (dC (.int 1))) (dVar 3)) (dCons (dBin (oI CMulE fun i j => .int (i * j)) (dIx (dVar 1) (dC (.int 2))) (dVar 3)) (dNil)))))) (dNext)) (u_law_near_3 c A)
def u_law_near_1 (c : Wd) (A : Ad) : DTS := dSeq (dIte (dTB (dBinE (oEqA c (tq_eq_eq_Bucket c A)) (dVar 2) (dC (.int 0)))) (dRet (dCall (fun ds zs n P R => zs = [] ∧ (cs_law_parts_1 c A) ds [] n P R) (dCons (dVar 0) (dNil)) dNil)) (dNext)) (u_law_near_2 c A)
def t_law_near (c : Wd) (A : Ad) : DTS := dSeq (dPar 2 3 (dCons (dCall (fun ds zs n P R => zs = [] ∧ (cs_law_draw_2 c A) ds [] n P R) (dCons (dVar 0) (dCons (dC (.int 6)) (dNil))) dNil) (dCons (dCall (fun ds zs n P R => zs = [] ∧ (cs_law_pick_2 c A) ds [] n P R) (dCons (dVar 0) (dCons (dLst (dCons (dC (.int 1)) (dCons (dC (.int 2)) (dCons (dC (.int 3)) (dNil))))) (dNil))) dNil) (dNil)))) (u_law_near_1 c A)
theorem dd_law_near {c : Wd} {A : Ad} (T : Txt c A) (X : Cx) (cf : Fr) (W : WX) (ec : cf.toWd = c) (B : XB X cf W N_law_near (defScope s_law_near) 3 false) : DSs X cf W (defBody s_law_near) (t_law_near c A) := by
  subst ec
  exact (dss_cons (ds_par B (i := 2) (j := 3) rfl rfl (by decide) rfl rfl (da_cons (de_call B T.mg_law_draw (ca_law_draw_2 T) (by decide) rfl (da_cons (dv B (i := 0)) (da_cons de_int da_nil))) (da_cons (de_call B T.mg_law_pick (ca_law_pick_2 T) (by decide) rfl (da_cons (dv B (i := 0)) (da_cons (de_lst (da_cons de_int (da_cons de_int (da_cons de_int da_nil)))) da_nil))) da_nil)) (fun env h => by cases env; cases h; rfl)) (dss_cons (ds_if (dtcE (op_eqA B (ta_eq_eq_Bucket T) (by decide)) (dv B (i := 2)) de_int) (dss_one (ds_ret (de_call B T.mg_law_parts (ca_law_parts_1 T) (by decide) rfl (da_cons (dv B (i := 0)) da_nil)))) dss_nil) (dss_cons (ds_if (dtcE (op_eqA B (ta_eq_eq_Bucket T) (by decide)) (dv B (i := 2)) de_int) (dss_one (ds_ret (de_lst (da_cons (de_ix B (dv B (i := 1)) de_int) (da_cons (de_bin o_mulE (de_ix B (dv B (i := 1)) de_int) (dv B (i := 3))) (da_cons (de_bin o_mulE (de_ix B (dv B (i := 1)) de_int) (dv B (i := 3))) da_nil)))))) dss_nil) (dss_cons (ds_if (dtcE (op_eqA B (ta_eq_eq_Bucket T) (by decide)) (dv B (i := 2)) de_int) (dss_one (ds_ret (de_lst (da_cons (de_bin (o_add B.hK) (de_ix B (dv B (i := 1)) de_int) (de_bin o_mulE (de_ix B (dv B (i := 1)) de_int) (de_bin o_sub (dv B (i := 3)) de_int))) (da_cons (de_bin o_mulE (de_ix B (dv B (i := 1)) de_int) (dv B (i := 3))) (da_cons (de_bin o_mulE (de_ix B (dv B (i := 1)) de_int) (dv B (i := 3))) da_nil)))))) dss_nil) (dss_cons (ds_asgC B (de_tup (da_cons (de_call B T.mg_law_draw (ca_law_draw_2 T) (by decide) rfl (da_cons (dv B (i := 0)) (da_cons de_int da_nil))) (da_cons (de_call B T.mg_law_pick (ca_law_pick_2 T) (by decide) rfl (da_cons (dv B (i := 0)) (da_cons (de_lst (da_cons (de_unE (u_neg (j := 0) B trivial (Nat.zero_le _)) de_int) (da_cons de_int (da_cons de_int (da_cons de_int da_nil))))) da_nil))) da_nil))) (dg_tup B (dgs_cons (dgn B (i := 4)) (dgs_cons (dgn B (i := 5)) dgs_nil))) (fun env h => by cases env; cases h; rfl)) (dss_one (ds_ret (de_lc B (own := [(("_law_k" : Str), 6)]) (di_range1 B rfl T.no_range (da_cons de_int da_nil)) (blkOk_by (by decide +kernel)) (fun X' c' ec B' => by
  have T : Txt c'.toWd A := by rw [ec]; exact T
  try rw [← ec]
  exact ⟨(dgo_name B' (i := 6) rfl rfl (by decide)), dts_nil, (de_bu B' T.no_max boo_max (b_max2 B') rfl (da_cons de_int (da_cons (de_ty B' T.no_int boo_int b_int rfl (da_cons (de_bin (o_add B'.hK) (de_ix B' (dv B' (i := 1)) (dv B' (i := 6))) (de_bin o_mulE (dv B' (i := 5)) (de_ty B' T.no_int boo_int b_int rfl (da_cons (dcpE (op_eqA B' (ta_eq_eq_Bucket T) (by decide)) (dv B' (i := 6)) (dv B' (i := 4))) da_nil)))) da_nil)) da_nil)))⟩)))))))))
def sp_law_near (c : Wd) (A : Ad) : DSp := fun ds n P R => ds.length = 2 ∧ t_law_near c A (fnN P R) (startS N_law_near ds n)
theorem ok_law_near {c : Wd} {A : Ad} (T : Txt c A) : ∃ fd, FunD c.K "_law_near" "_law_near" (defArgs s_law_near) (defBody s_law_near) (defScope s_law_near) [] [] A.f_law_near fd ∧ FnG c 4 A.f_law_near fd [("_law_pen_here" : Str), ("_law_parts_here" : Str)] (liftSp c (sp_law_near c A)) := by
  obtain ⟨fd, F⟩ := T.F_law_near
  exact ⟨fd, F, fn_ok F sc_law_near (fun _ _ _ _ h => h.1) (dd_law_near T) (fun _ _ _ _ h => h.2)⟩
def cs_law_near_2 (c : Wd) (A : Ad) : DSp2 := fun ds es m P R => ds.length = 2 ∧ (sp_law_near c A) ds m P R
theorem ca_law_near_2 {c : Wd} {A : Ad} (T : Txt c A) : Callee c (.ref A.f_law_near) [] 4 (cs_law_near_2 c A) := by
  obtain ⟨fd, F, G⟩ := ok_law_near T
  exact callee_fn G F.kp (shape_n0 F fun _ _ _ _ _ _ us hl => match us, hl with | [_, _], _ => rfl)
theorem cq_law_near_2 {c : Wd} {A : Ad} {x0 x1 : D} {z : Z} {P : D → Z → Prop} {R : Er → Z → Prop} : cs_law_near_2 c A [x0, x1] [] z P R ↔ (sp_law_near c A) [x0, x1] z P R := ⟨fun h => h.2, fun h => ⟨rfl, h⟩⟩
/-! is_int -/
def N_is_int : List Str := [("value" : Str)]
theorem sc_is_int : FnScope N_is_int [("value" : Str)] (defScope s_is_int) := ⟨rfl, rfl, rfl, by decide +kernel, rfl, by decide +kernel, by decide +kernel⟩
def t_is_int (c : Wd) (A : Ad) : DTS := dRet (dAndV (dCalE (oIsA c) (dCons (dVar 0) (dCons (dC (.ty "int")) (dNil)))) (dNotV (dCalE (oIsA c) (dCons (dVar 0) (dCons (dC (.ty "bool")) (dNil))))))
theorem dd_is_int {c : Wd} {A : Ad} (T : Txt c A) (X : Cx) (cf : Fr) (W : WX) (ec : cf.toWd = c) (B : XB X cf W N_is_int (defScope s_is_int) 0 false) : DSs X cf W (defBody s_is_int) (t_is_int c A) := by
  subst ec
  exact (dss_one (ds_ret (de_and (de_calB B T.no_isinstance boo_isinstance (c_isa B) rfl (da_cons (dv B (i := 0)) (da_cons (de_blt B (v := .ty "int") rfl T.no_int boo_int rfl (fun _ => .ty _)) da_nil))) (de_one (de_not (de_calB B T.no_isinstance boo_isinstance (c_isa B) rfl (da_cons (dv B (i := 0)) (da_cons (de_blt B (v := .ty "bool") rfl T.no_bool boo_bool rfl (fun _ => .ty _)) da_nil))))))))
def sp_is_int (c : Wd) (A : Ad) : DSp := fun ds n P R => ds.length = 1 ∧ t_is_int c A (fnN P R) (startS N_is_int ds n)
theorem ok_is_int {c : Wd} {A : Ad} (T : Txt c A) : ∃ fd, FunD c.K "is_int" "is_int" (defArgs s_is_int) (defBody s_is_int) (defScope s_is_int) [] [] A.f_is_int fd ∧ FnG c 1 A.f_is_int fd [("value" : Str)] (liftSp c (sp_is_int c A)) := by
  obtain ⟨fd, F⟩ := T.F_is_int
  exact ⟨fd, F, fn_ok F sc_is_int (fun _ _ _ _ h => h.1) (dd_is_int T) (fun _ _ _ _ h => h.2)⟩
def cs_is_int_1 (c : Wd) (A : Ad) : DSp2 := fun ds es m P R => ds.length = 1 ∧ (sp_is_int c A) ds m P R
theorem ca_is_int_1 {c : Wd} {A : Ad} (T : Txt c A) : Callee c (.ref A.f_is_int) [] 1 (cs_is_int_1 c A) := by
  obtain ⟨fd, F, G⟩ := ok_is_int T
  exact callee_fn G F.kp (shape_n0 F fun _ _ _ _ _ _ us hl => match us, hl with | [_], _ => rfl)
theorem cq_is_int_1 {c : Wd} {A : Ad} {x0 : D} {z : Z} {P : D → Z → Prop} {R : Er → Z → Prop} : cs_is_int_1 c A [x0] [] z P R ↔ (sp_is_int c A) [x0] z P R := ⟨fun h => h.2, fun h => ⟨rfl, h⟩⟩
/-! is_between -/
def N_is_between : List Str := [("value" : Str), ("least" : Str), ("most" : Str)]
theorem sc_is_between : FnScope N_is_between [("value" : Str), ("least" : Str), ("most" : Str)] (defScope s_is_between) := ⟨rfl, rfl, rfl, by decide +kernel, rfl, by decide +kernel, by decide +kernel⟩
def t_is_between (c : Wd) (A : Ad) : DTS := dRet (dAndV (dCall (fun ds zs n P R => zs = [] ∧ (cs_is_int_1 c A) ds [] n P R) (dCons (dVar 0) (dNil)) dNil) (dChain (oI (fun _ _ => True) fun i j => .bl (decide (i ≤ j))) (oI (fun _ _ => True) fun i j => .bl (decide (i ≤ j))) (dVar 1) (dVar 0) (dVar 2)))
theorem dd_is_between {c : Wd} {A : Ad} (T : Txt c A) (X : Cx) (cf : Fr) (W : WX) (ec : cf.toWd = c) (B : XB X cf W N_is_between (defScope s_is_between) 1 false) : DSs X cf W (defBody s_is_between) (t_is_between c A) := by
  subst ec
  exact (dss_one (ds_ret (de_and (de_call B T.mg_is_int (ca_is_int_1 T) (by decide) rfl (da_cons (dv B (i := 0)) da_nil)) (de_one (de_chain o_le o_le (dv B (i := 1)) (dv B (i := 0)) (dv B (i := 2)))))))
def sp_is_between (c : Wd) (A : Ad) : DSp := fun ds n P R => ds.length = 3 ∧ t_is_between c A (fnN P R) (startS N_is_between ds n)
theorem ok_is_between {c : Wd} {A : Ad} (T : Txt c A) : ∃ fd, FunD c.K "is_between" "is_between" (defArgs s_is_between) (defBody s_is_between) (defScope s_is_between) [] [] A.f_is_between fd ∧ FnG c 2 A.f_is_between fd [("value" : Str), ("least" : Str), ("most" : Str)] (liftSp c (sp_is_between c A)) := by
  obtain ⟨fd, F⟩ := T.F_is_between
  exact ⟨fd, F, fn_ok F sc_is_between (fun _ _ _ _ h => h.1) (dd_is_between T) (fun _ _ _ _ h => h.2)⟩
def cs_is_between_3 (c : Wd) (A : Ad) : DSp2 := fun ds es m P R => ds.length = 3 ∧ (sp_is_between c A) ds m P R
theorem ca_is_between_3 {c : Wd} {A : Ad} (T : Txt c A) : Callee c (.ref A.f_is_between) [] 2 (cs_is_between_3 c A) := by
  obtain ⟨fd, F, G⟩ := ok_is_between T
  exact callee_fn G F.kp (shape_n0 F fun _ _ _ _ _ _ us hl => match us, hl with | [_, _, _], _ => rfl)
theorem cq_is_between_3 {c : Wd} {A : Ad} {x0 x1 x2 : D} {z : Z} {P : D → Z → Prop} {R : Er → Z → Prop} : cs_is_between_3 c A [x0, x1, x2] [] z P R ↔ (sp_is_between c A) [x0, x1, x2] z P R := ⟨fun h => h.2, fun h => ⟨rfl, h⟩⟩
theorem nsx_BadBucket : NdefX.NScope ["self", "part", "__class__"] ["self", "part"] ["__class__"] (defScope s_BadBucket___init__) := ⟨rfl, rfl, rfl, by decide +kernel, rfl, by decide +kernel, by decide +kernel, by decide +kernel, by decide +kernel⟩
theorem ex_BadBucket {c : Wd} {A : Ad} (T : Txt c A) : ExcD c A.c_BadBucket [("part" : Str)] 1 := T.ix_BadBucket.one fun cc cf fd S => sup1 S T.ix_BadBucket.T nsx_BadBucket T.nx_BadBucket_part rfl
/-! Bucket.__init__ -/
def N_Bucket___init__ : List Str := [("self" : Str), ("burst" : Str), ("rate" : Str), ("every" : Str)]
theorem sc_Bucket___init__ : FnScope N_Bucket___init__ [("self" : Str), ("burst" : Str), ("rate" : Str), ("every" : Str)] (defScope s_Bucket___init__) := ⟨rfl, rfl, rfl, by decide +kernel, rfl, by decide +kernel, by decide +kernel⟩
def u_Bucket___init___5 (c : Wd) (A : Ad) : DTS := dSelfSet c 0 ("every" : Str) (dVar 3)
def u_Bucket___init___4 (c : Wd) (A : Ad) : DTS := dSeq (dSelfSet c 0 ("rate" : Str) (dVar 2)) (u_Bucket___init___5 c A)
def u_Bucket___init___3 (c : Wd) (A : Ad) : DTS := dSeq (dSelfSet c 0 ("burst" : Str) (dVar 1)) (u_Bucket___init___4 c A)
def u_Bucket___init___2 (c : Wd) (A : Ad) : DTS := dSeq (dIte (dNot (dTB (dCall (fun ds zs n P R => zs = [] ∧ (cs_is_between_3 c A) ds [] n P R) (dCons (dVar 3) (dCons (dC (.int 1)) (dCons (dC (.int 1000)) (dNil)))) dNil))) (dRaise A.c_BadBucket [("part" : Str)] (dCons (dC (.str ("every" : Str))) (dNil))) (dNext)) (u_Bucket___init___3 c A)
def u_Bucket___init___1 (c : Wd) (A : Ad) : DTS := dSeq (dIte (dNot (dTB (dCall (fun ds zs n P R => zs = [] ∧ (cs_is_between_3 c A) ds [] n P R) (dCons (dVar 2) (dCons (dC (.int 1)) (dCons (dC (.int 1000)) (dNil)))) dNil))) (dRaise A.c_BadBucket [("part" : Str)] (dCons (dC (.str ("rate" : Str))) (dNil))) (dNext)) (u_Bucket___init___2 c A)
def t_Bucket___init__ (c : Wd) (A : Ad) : DTS := dSeq (dIte (dNot (dTB (dCall (fun ds zs n P R => zs = [] ∧ (cs_is_between_3 c A) ds [] n P R) (dCons (dVar 1) (dCons (dC (.int 1)) (dCons (dC (.int 1000000)) (dNil)))) dNil))) (dRaise A.c_BadBucket [("part" : Str)] (dCons (dC (.str ("burst" : Str))) (dNil))) (dNext)) (u_Bucket___init___1 c A)
theorem dd_Bucket___init__ {c : Wd} {A : Ad} (T : Txt c A) (X : Cx) (cf : Fr) (W : WX) (ec : cf.toWd = c) (B : XB X cf W N_Bucket___init__ (defScope s_Bucket___init__) 2 false) : DSs X cf W (defBody s_Bucket___init__) (t_Bucket___init__ c A) := by
  subst ec
  exact (dss_cons (ds_if (dt_not (dt_val (de_call B T.mg_is_between (ca_is_between_3 T) (by decide) rfl (da_cons (dv B (i := 1)) (da_cons de_int (da_cons (de_globI B rfl T.gv_MOST_BITS) da_nil)))))) (dss_one (ds_raise B (ex_BadBucket T) (by decide) T.mg_c_BadBucket rfl (da_cons de_str da_nil))) dss_nil) (dss_cons (ds_if (dt_not (dt_val (de_call B T.mg_is_between (ca_is_between_3 T) (by decide) rfl (da_cons (dv B (i := 2)) (da_cons de_int (da_cons (de_globI B rfl T.gv_MOST_RATE) da_nil)))))) (dss_one (ds_raise B (ex_BadBucket T) (by decide) T.mg_c_BadBucket rfl (da_cons de_str da_nil))) dss_nil) (dss_cons (ds_if (dt_not (dt_val (de_call B T.mg_is_between (ca_is_between_3 T) (by decide) rfl (da_cons (dv B (i := 3)) (da_cons de_int (da_cons (de_globI B rfl T.gv_MOST_RATE) da_nil)))))) (dss_one (ds_raise B (ex_BadBucket T) (by decide) T.mg_c_BadBucket rfl (da_cons de_str da_nil))) dss_nil) (dss_cons (ds_self B rfl (.inl rfl) (dv B (i := 1))) (dss_cons (ds_self B rfl (.inl rfl) (dv B (i := 2))) (dss_one (ds_self B rfl (.inl rfl) (dv B (i := 3)))))))))
def si_Bucket___init__ (c : Wd) (A : Ad) : DInit := fun ds n P R => ds.length = 3 ∧ t_Bucket___init__ c A (inN A.c_Bucket P R) (startI A.c_Bucket N_Bucket___init__ ds n)
theorem ok_Bucket___init__ {c : Wd} {A : Ad} (T : Txt c A) : ∃ fd, FunD c.K "__init__" "Bucket.__init__" (defArgs s_Bucket___init__) (defBody s_Bucket___init__) (defScope s_Bucket___init__) [] [] A.f_Bucket___init__ fd ∧ FnG c 3 A.f_Bucket___init__ fd [("self" : Str), ("burst" : Str), ("rate" : Str), ("every" : Str)] (liftInit c A.c_Bucket (si_Bucket___init__ c A)) := by
  obtain ⟨fd, F⟩ := T.F_Bucket___init__
  exact ⟨fd, F, init_ok F sc_Bucket___init__ (by decide) (fun _ _ _ _ h => by rw [h.1]; rfl) (dd_Bucket___init__ T) (fun _ _ _ _ h => h.2)⟩
def cs_Bucket_Bucket___init___3 (c : Wd) (A : Ad) : DSp2 := fun ds es m P R => ds.length = 3 ∧ si_Bucket___init__ c A ds m (fun fs m' => P (.ins A.c_Bucket fs) m') R
theorem ca_Bucket_Bucket___init___3 {c : Wd} {A : Ad} (T : Txt c A) : Callee c (.ref A.c_Bucket) [] 4 (cs_Bucket_Bucket___init___3 c A) := by
  obtain ⟨fd, F, G⟩ := ok_Bucket___init__ T
  exact callee_cls (n := 3) (gD := fun ds _ => ds) T.mk_Bucket G (shape_n0 F fun _ _ _ _ _ _ us hl => match us, hl with | [_, _, _, _], _ => rfl) (fun _ _ _ => rfl)
theorem cq_Bucket_Bucket___init___3 {c : Wd} {A : Ad} {x0 x1 x2 : D} {z : Z} {P : D → Z → Prop} {R : Er → Z → Prop} : cs_Bucket_Bucket___init___3 c A [x0, x1, x2] [] z P R ↔ si_Bucket___init__ c A [x0, x1, x2] z (fun fs m' => P (.ins A.c_Bucket fs) m') R := ⟨fun h => h.2, fun h => ⟨rfl, h⟩⟩
theorem cr_Bucket_Bucket___init___3 {c : Wd} {A : Ad} {x0 x1 x2 : D} {z : Z} {P : D → Z → Prop} {R : Er → Z → Prop} : cs_Bucket_Bucket___init___3 c A [x0, x1, x2] [] z P R ↔ si_Bucket___init__ c A [x0, x1, x2] z (mkk P .mk A.c_Bucket) R := ⟨fun h => h.2, fun h => ⟨rfl, h⟩⟩
/-! need_like -/
def N_need_like : List Str := [("value" : Str)]
theorem sc_need_like : FnScope N_need_like [("value" : Str)] (defScope s_need_like) := ⟨rfl, rfl, rfl, by decide +kernel, rfl, by decide +kernel, by decide +kernel⟩
def t_need_like (c : Wd) (A : Ad) : DTS := dIte (dNot (dTB (dCalE (oIsA c) (dCons (dVar 0) (dCons (dC (.ref A.c_Bucket)) (dNil)))))) (dRaise A.c_BadBucket [("part" : Str)] (dCons (dC (.str ("other" : Str))) (dNil))) (dNext)
theorem dd_need_like {c : Wd} {A : Ad} (T : Txt c A) (X : Cx) (cf : Fr) (W : WX) (ec : cf.toWd = c) (B : XB X cf W N_need_like (defScope s_need_like) 2 false) : DSs X cf W (defBody s_need_like) (t_need_like c A) := by
  subst ec
  exact (dss_one (ds_if (dt_not (dt_val (de_calB B T.no_isinstance boo_isinstance (c_isa B) rfl (da_cons (dv B (i := 0)) (da_cons (de_glob B (v := .ref A.c_Bucket) rfl T.mg_c_Bucket rfl (fun _ => .ref _)) da_nil))))) (dss_one (ds_raise B (ex_BadBucket T) (by decide) T.mg_c_BadBucket rfl (da_cons de_str da_nil))) dss_nil))
def sp_need_like (c : Wd) (A : Ad) : DSp := fun ds n P R => ds.length = 1 ∧ t_need_like c A (fnN P R) (startS N_need_like ds n)
theorem ok_need_like {c : Wd} {A : Ad} (T : Txt c A) : ∃ fd, FunD c.K "need_like" "need_like" (defArgs s_need_like) (defBody s_need_like) (defScope s_need_like) [] [] A.f_need_like fd ∧ FnG c 3 A.f_need_like fd [("value" : Str)] (liftSp c (sp_need_like c A)) := by
  obtain ⟨fd, F⟩ := T.F_need_like
  exact ⟨fd, F, fn_ok F sc_need_like (fun _ _ _ _ h => h.1) (dd_need_like T) (fun _ _ _ _ h => h.2)⟩
def cs_need_like_1 (c : Wd) (A : Ad) : DSp2 := fun ds es m P R => ds.length = 1 ∧ (sp_need_like c A) ds m P R
theorem ca_need_like_1 {c : Wd} {A : Ad} (T : Txt c A) : Callee c (.ref A.f_need_like) [] 3 (cs_need_like_1 c A) := by
  obtain ⟨fd, F, G⟩ := ok_need_like T
  exact callee_fn G F.kp (shape_n0 F fun _ _ _ _ _ _ us hl => match us, hl with | [_], _ => rfl)
theorem cq_need_like_1 {c : Wd} {A : Ad} {x0 : D} {z : Z} {P : D → Z → Prop} {R : Er → Z → Prop} : cs_need_like_1 c A [x0] [] z P R ↔ (sp_need_like c A) [x0] z P R := ⟨fun h => h.2, fun h => ⟨rfl, h⟩⟩
/-! bits_in -/
def N_bits_in : List Str := [("bucket" : Str), ("ticks" : Str)]
theorem sc_bits_in : FnScope N_bits_in [("bucket" : Str), ("ticks" : Str)] (defScope s_bits_in) := ⟨rfl, rfl, rfl, by decide +kernel, rfl, by decide +kernel, by decide +kernel⟩
def t_bits_in (c : Wd) (A : Ad) : DTS := dRet (dBin oAdd (dAt c ("burst" : Str) [] (dVar 0)) (dBin (oI CMulE fun i j => .int (i * j)) (dAt c ("rate" : Str) [] (dVar 0)) (dBin (oI (fun _ j => CDivG j) fun i j => .int (i.fdiv j)) (dVar 1) (dAt c ("every" : Str) [] (dVar 0)))))
theorem dd_bits_in {c : Wd} {A : Ad} (T : Txt c A) (X : Cx) (cf : Fr) (W : WX) (ec : cf.toWd = c) (B : XB X cf W N_bits_in (defScope s_bits_in) 1 false) : DSs X cf W (defBody s_bits_in) (t_bits_in c A) := by
  subst ec
  exact (dss_one (ds_ret (de_bin (o_add B.hK) (de_at (tbl := []) (j := 0) B trivial (Nat.zero_le _) (dv B (i := 0))) (de_bin o_mulE (de_at (tbl := []) (j := 0) B trivial (Nat.zero_le _) (dv B (i := 0))) (de_bin o_fdivG (dv B (i := 1)) (de_at (tbl := []) (j := 0) B trivial (Nat.zero_le _) (dv B (i := 0))))))))
def sp_bits_in (c : Wd) (A : Ad) : DSp := fun ds n P R => ds.length = 2 ∧ t_bits_in c A (fnN P R) (startS N_bits_in ds n)
theorem ok_bits_in {c : Wd} {A : Ad} (T : Txt c A) : ∃ fd, FunD c.K "bits_in" "bits_in" (defArgs s_bits_in) (defBody s_bits_in) (defScope s_bits_in) [] [] A.f_bits_in fd ∧ FnG c 2 A.f_bits_in fd [("bucket" : Str), ("ticks" : Str)] (liftSp c (sp_bits_in c A)) := by
  obtain ⟨fd, F⟩ := T.F_bits_in
  exact ⟨fd, F, fn_ok F sc_bits_in (fun _ _ _ _ h => h.1) (dd_bits_in T) (fun _ _ _ _ h => h.2)⟩
def cs_bits_in_2 (c : Wd) (A : Ad) : DSp2 := fun ds es m P R => ds.length = 2 ∧ (sp_bits_in c A) ds m P R
theorem ca_bits_in_2 {c : Wd} {A : Ad} (T : Txt c A) : Callee c (.ref A.f_bits_in) [] 2 (cs_bits_in_2 c A) := by
  obtain ⟨fd, F, G⟩ := ok_bits_in T
  exact callee_fn G F.kp (shape_n0 F fun _ _ _ _ _ _ us hl => match us, hl with | [_, _], _ => rfl)
theorem cq_bits_in_2 {c : Wd} {A : Ad} {x0 x1 : D} {z : Z} {P : D → Z → Prop} {R : Er → Z → Prop} : cs_bits_in_2 c A [x0, x1] [] z P R ↔ (sp_bits_in c A) [x0, x1] z P R := ⟨fun h => h.2, fun h => ⟨rfl, h⟩⟩
/-! Bucket.__le__ -/
def N_Bucket___le__ : List Str := [("self" : Str), ("other" : Str), ("steps" : Str), ("step" : Str)]
theorem sc_Bucket___le__ : FnScope N_Bucket___le__ [("self" : Str), ("other" : Str)] (defScope s_Bucket___le__) := ⟨rfl, rfl, rfl, by decide +kernel, rfl, by decide +kernel, by decide +kernel⟩
def u_Bucket___le___3 (c : Wd) (A : Ad) : DTS := dRet (dBu oAll (dCons (dLC (dRng1 (dCons (dVar 2) (dNil))) (gN 3) (dYes) (dBin (oI (fun _ _ => True) fun i j => .bl (decide (i ≤ j))) (dCall (fun ds zs n P R => zs = [] ∧ (cs_bits_in_2 c A) ds [] n P R) (dCons (dVar 0) (dCons (dBin (oI CMulE fun i j => .int (i * j)) (dVar 3) (dAt c ("every" : Str) [] (dVar 0))) (dNil))) dNil) (dCall (fun ds zs n P R => zs = [] ∧ (cs_bits_in_2 c A) ds [] n P R) (dCons (dVar 1) (dCons (dBin (oI CMulE fun i j => .int (i * j)) (dVar 3) (dAt c ("every" : Str) [] (dVar 0))) (dNil))) dNil)) [3]) (dNil)))
def u_Bucket___le___2 (c : Wd) (A : Ad) : DTS := dSeq (dSet 2 (dBin (oI (fun _ j => CDivG j) fun i j => .int (i.fdiv j)) (dAt c ("every" : Str) [] (dVar 1)) (dBu oGcd (dCons (dAt c ("every" : Str) [] (dVar 0)) (dCons (dAt c ("every" : Str) [] (dVar 1)) (dNil)))))) (u_Bucket___le___3 c A)
def u_Bucket___le___1 (c : Wd) (A : Ad) : DTS := dSeq (dIte (dTB (dBin (oI (fun _ _ => True) fun i j => .bl (decide (j < i))) (dBin (oI CMulE fun i j => .int (i * j)) (dAt c ("rate" : Str) [] (dVar 0)) (dAt c ("every" : Str) [] (dVar 1))) (dBin (oI CMulE fun i j => .int (i * j)) (dAt c ("rate" : Str) [] (dVar 1)) (dAt c ("every" : Str) [] (dVar 0))))) (dRet (dC (.bl false))) (dNext)) (u_Bucket___le___2 c A)
def t_Bucket___le__ (c : Wd) (A : Ad) : DTS := dSeq (dDrop (dCall (fun ds zs n P R => zs = [] ∧ (cs_need_like_1 c A) ds [] n P R) (dCons (dVar 1) (dNil)) dNil)) (u_Bucket___le___1 c A)
theorem dd_Bucket___le__ {c : Wd} {A : Ad} (T : Txt c A) (X : Cx) (cf : Fr) (W : WX) (ec : cf.toWd = c) (B : XB X cf W N_Bucket___le__ (defScope s_Bucket___le__) 3 false) : DSs X cf W (defBody s_Bucket___le__) (t_Bucket___le__ c A) := by
  subst ec
  exact (dss_cons (ds_expr (de_call B T.mg_need_like (ca_need_like_1 T) (by decide) rfl (da_cons (dv B (i := 1)) da_nil))) (dss_cons (ds_if (dtc o_gt (de_bin o_mulE (de_at (tbl := []) (j := 0) B trivial (Nat.zero_le _) (dv B (i := 0))) (de_at (tbl := []) (j := 0) B trivial (Nat.zero_le _) (dv B (i := 1)))) (de_bin o_mulE (de_at (tbl := []) (j := 0) B trivial (Nat.zero_le _) (dv B (i := 1))) (de_at (tbl := []) (j := 0) B trivial (Nat.zero_le _) (dv B (i := 0))))) (dss_one (ds_ret de_bl)) dss_nil) (dss_cons (dset B (i := 2) (de_bin o_fdivG (de_at (tbl := []) (j := 0) B trivial (Nat.zero_le _) (dv B (i := 1))) (de_buM B T.mo_gcd b_gcd rfl (da_cons (de_at (tbl := []) (j := 0) B trivial (Nat.zero_le _) (dv B (i := 0))) (da_cons (de_at (tbl := []) (j := 0) B trivial (Nat.zero_le _) (dv B (i := 1))) da_nil))))) (dss_one (ds_ret (de_bu B T.no_all boo_all (b_all B) rfl (da_cons (de_lc B (own := [(("step" : Str), 3)]) (di_range1 B rfl T.no_range (da_cons (dv B (i := 2)) da_nil)) (blkOk_by (by decide +kernel)) (fun X' c' ec B' => by
  have T : Txt c'.toWd A := by rw [ec]; exact T
  try rw [← ec]
  exact ⟨(dgo_name B' (i := 3) rfl rfl (by decide)), dts_nil, (dcp o_le (de_call B' T.mg_bits_in (ca_bits_in_2 T) (by decide) rfl (da_cons (dv B' (i := 0)) (da_cons (de_bin o_mulE (dv B' (i := 3)) (de_at (tbl := []) (j := 0) B' trivial (Nat.zero_le _) (dv B' (i := 0)))) da_nil))) (de_call B' T.mg_bits_in (ca_bits_in_2 T) (by decide) rfl (da_cons (dv B' (i := 1)) (da_cons (de_bin o_mulE (dv B' (i := 3)) (de_at (tbl := []) (j := 0) B' trivial (Nat.zero_le _) (dv B' (i := 0)))) da_nil))))⟩)) da_nil)))))))
def sp_Bucket___le__ (c : Wd) (A : Ad) : DSp := fun ds n P R => ds.length = 2 ∧ t_Bucket___le__ c A (fnN P R) (startS N_Bucket___le__ ds n)
theorem ok_Bucket___le__ {c : Wd} {A : Ad} (T : Txt c A) : ∃ fd, FunD c.K "__le__" "Bucket.__le__" (defArgs s_Bucket___le__) (defBody s_Bucket___le__) (defScope s_Bucket___le__) [] [] A.f_Bucket___le__ fd ∧ FnG c 4 A.f_Bucket___le__ fd [("self" : Str), ("other" : Str)] (liftSp c (sp_Bucket___le__ c A)) := by
  obtain ⟨fd, F⟩ := T.F_Bucket___le__
  exact ⟨fd, F, fn_ok F sc_Bucket___le__ (fun _ _ _ _ h => h.1) (dd_Bucket___le__ T) (fun _ _ _ _ h => h.2)⟩
def cs_Bucket___le___2 (c : Wd) (A : Ad) : DSp2 := fun ds es m P R => ds.length = 2 ∧ (sp_Bucket___le__ c A) ds m P R
theorem ca_Bucket___le___2 {c : Wd} {A : Ad} (T : Txt c A) : Callee c (.ref A.f_Bucket___le__) [] 4 (cs_Bucket___le___2 c A) := by
  obtain ⟨fd, F, G⟩ := ok_Bucket___le__ T
  exact callee_fn G F.kp (shape_n0 F fun _ _ _ _ _ _ us hl => match us, hl with | [_, _], _ => rfl)
theorem cq_Bucket___le___2 {c : Wd} {A : Ad} {x0 x1 : D} {z : Z} {P : D → Z → Prop} {R : Er → Z → Prop} : cs_Bucket___le___2 c A [x0, x1] [] z P R ↔ (sp_Bucket___le__ c A) [x0, x1] z P R := ⟨fun h => h.2, fun h => ⟨rfl, h⟩⟩
theorem own_Bucket_le {c : Wd} {A : Ad} (T : Txt c A) : OwnD c A.c_Bucket "__le__" 4 (cs_Bucket___le___2 c A) := ⟨⟨_, ca_Bucket___le___2 T, T.fi_Bucket___le__, T.if_Bucket___le__⟩⟩
def tq_own_le_Bucket (c : Wd) (A : Ad) : List (Addr × DSp2) := [(A.c_Bucket, cs_Bucket___le___2 c A)]
theorem ta_own_le_Bucket {c : Wd} {A : Ad} (T : Txt c A) : AllT (fun C s => OwnD c C "__le__" 4 s) (tq_own_le_Bucket c A) := ⟨(own_Bucket_le T).mono (by decide), trivial⟩
/-! Bucket.__lt__ -/
def N_Bucket___lt__ : List Str := [("self" : Str), ("other" : Str)]
theorem sc_Bucket___lt__ : FnScope N_Bucket___lt__ [("self" : Str), ("other" : Str)] (defScope s_Bucket___lt__) := ⟨rfl, rfl, rfl, by decide +kernel, rfl, by decide +kernel, by decide +kernel⟩
def t_Bucket___lt__ (c : Wd) (A : Ad) : DTS := dRet (dAndV (dBinE (oOrdA c (tq_own_le_Bucket c A) [] fun i j => decide (i ≤ j)) (dVar 0) (dVar 1)) (dBinE (oNeB c (tq_eq_eq_Bucket c A)) (dVar 0) (dVar 1)))
theorem dd_Bucket___lt__ {c : Wd} {A : Ad} (T : Txt c A) (X : Cx) (cf : Fr) (W : WX) (ec : cf.toWd = c) (B : XB X cf W N_Bucket___lt__ (defScope s_Bucket___lt__) 4 false) : DSs X cf W (defBody s_Bucket___lt__) (t_Bucket___lt__ c A) := by
  subst ec
  exact (dss_one (ds_ret (de_and (dcpE (op_leA (j := 4) B ((ta_own_le_Bucket T).imp fun _ _ h => h.mono (by decide)) trivial (by decide)) (dv B (i := 0)) (dv B (i := 1))) (de_one (dcpE (op_neB B (ta_eq_eq_Bucket T) (by decide)) (dv B (i := 0)) (dv B (i := 1)))))))
def sp_Bucket___lt__ (c : Wd) (A : Ad) : DSp := fun ds n P R => ds.length = 2 ∧ t_Bucket___lt__ c A (fnN P R) (startS N_Bucket___lt__ ds n)
theorem ok_Bucket___lt__ {c : Wd} {A : Ad} (T : Txt c A) : ∃ fd, FunD c.K "__lt__" "Bucket.__lt__" (defArgs s_Bucket___lt__) (defBody s_Bucket___lt__) (defScope s_Bucket___lt__) [] [] A.f_Bucket___lt__ fd ∧ FnG c 5 A.f_Bucket___lt__ fd [("self" : Str), ("other" : Str)] (liftSp c (sp_Bucket___lt__ c A)) := by
  obtain ⟨fd, F⟩ := T.F_Bucket___lt__
  exact ⟨fd, F, fn_ok F sc_Bucket___lt__ (fun _ _ _ _ h => h.1) (dd_Bucket___lt__ T) (fun _ _ _ _ h => h.2)⟩
def cs_Bucket___lt___2 (c : Wd) (A : Ad) : DSp2 := fun ds es m P R => ds.length = 2 ∧ (sp_Bucket___lt__ c A) ds m P R
theorem ca_Bucket___lt___2 {c : Wd} {A : Ad} (T : Txt c A) : Callee c (.ref A.f_Bucket___lt__) [] 5 (cs_Bucket___lt___2 c A) := by
  obtain ⟨fd, F, G⟩ := ok_Bucket___lt__ T
  exact callee_fn G F.kp (shape_n0 F fun _ _ _ _ _ _ us hl => match us, hl with | [_, _], _ => rfl)
theorem cq_Bucket___lt___2 {c : Wd} {A : Ad} {x0 x1 : D} {z : Z} {P : D → Z → Prop} {R : Er → Z → Prop} : cs_Bucket___lt___2 c A [x0, x1] [] z P R ↔ (sp_Bucket___lt__ c A) [x0, x1] z P R := ⟨fun h => h.2, fun h => ⟨rfl, h⟩⟩
theorem own_Bucket_lt {c : Wd} {A : Ad} (T : Txt c A) : OwnD c A.c_Bucket "__lt__" 5 (cs_Bucket___lt___2 c A) := ⟨⟨_, ca_Bucket___lt___2 T, T.fi_Bucket___lt__, T.if_Bucket___lt__⟩⟩
def tq_own_lt_Bucket (c : Wd) (A : Ad) : List (Addr × DSp2) := [(A.c_Bucket, cs_Bucket___lt___2 c A)]
theorem ta_own_lt_Bucket {c : Wd} {A : Ad} (T : Txt c A) : AllT (fun C s => OwnD c C "__lt__" 5 s) (tq_own_lt_Bucket c A) := ⟨(own_Bucket_lt T).mono (by decide), trivial⟩
/-! Bucket.__gt__ -/
def N_Bucket___gt__ : List Str := [("self" : Str), ("other" : Str)]
theorem sc_Bucket___gt__ : FnScope N_Bucket___gt__ [("self" : Str), ("other" : Str)] (defScope s_Bucket___gt__) := ⟨rfl, rfl, rfl, by decide +kernel, rfl, by decide +kernel, by decide +kernel⟩
def u_Bucket___gt___1 (c : Wd) (A : Ad) : DTS := dRet (dBinE (oOrdA c (tq_own_lt_Bucket c A) [] fun i j => decide (i < j)) (dVar 1) (dVar 0))
def t_Bucket___gt__ (c : Wd) (A : Ad) : DTS := dSeq (dDrop (dCall (fun ds zs n P R => zs = [] ∧ (cs_need_like_1 c A) ds [] n P R) (dCons (dVar 1) (dNil)) dNil)) (u_Bucket___gt___1 c A)
theorem dd_Bucket___gt__ {c : Wd} {A : Ad} (T : Txt c A) (X : Cx) (cf : Fr) (W : WX) (ec : cf.toWd = c) (B : XB X cf W N_Bucket___gt__ (defScope s_Bucket___gt__) 5 false) : DSs X cf W (defBody s_Bucket___gt__) (t_Bucket___gt__ c A) := by
  subst ec
  exact (dss_cons (ds_expr (de_call B T.mg_need_like (ca_need_like_1 T) (by decide) rfl (da_cons (dv B (i := 1)) da_nil))) (dss_one (ds_ret (dcpE (op_ltA (j := 5) B ((ta_own_lt_Bucket T).imp fun _ _ h => h.mono (by decide)) trivial (by decide)) (dv B (i := 1)) (dv B (i := 0))))))
def sp_Bucket___gt__ (c : Wd) (A : Ad) : DSp := fun ds n P R => ds.length = 2 ∧ t_Bucket___gt__ c A (fnN P R) (startS N_Bucket___gt__ ds n)
theorem ok_Bucket___gt__ {c : Wd} {A : Ad} (T : Txt c A) : ∃ fd, FunD c.K "__gt__" "Bucket.__gt__" (defArgs s_Bucket___gt__) (defBody s_Bucket___gt__) (defScope s_Bucket___gt__) [] [] A.f_Bucket___gt__ fd ∧ FnG c 6 A.f_Bucket___gt__ fd [("self" : Str), ("other" : Str)] (liftSp c (sp_Bucket___gt__ c A)) := by
  obtain ⟨fd, F⟩ := T.F_Bucket___gt__
  exact ⟨fd, F, fn_ok F sc_Bucket___gt__ (fun _ _ _ _ h => h.1) (dd_Bucket___gt__ T) (fun _ _ _ _ h => h.2)⟩
def cs_Bucket___gt___2 (c : Wd) (A : Ad) : DSp2 := fun ds es m P R => ds.length = 2 ∧ (sp_Bucket___gt__ c A) ds m P R
theorem ca_Bucket___gt___2 {c : Wd} {A : Ad} (T : Txt c A) : Callee c (.ref A.f_Bucket___gt__) [] 6 (cs_Bucket___gt___2 c A) := by
  obtain ⟨fd, F, G⟩ := ok_Bucket___gt__ T
  exact callee_fn G F.kp (shape_n0 F fun _ _ _ _ _ _ us hl => match us, hl with | [_, _], _ => rfl)
theorem cq_Bucket___gt___2 {c : Wd} {A : Ad} {x0 x1 : D} {z : Z} {P : D → Z → Prop} {R : Er → Z → Prop} : cs_Bucket___gt___2 c A [x0, x1] [] z P R ↔ (sp_Bucket___gt__ c A) [x0, x1] z P R := ⟨fun h => h.2, fun h => ⟨rfl, h⟩⟩
theorem own_Bucket_gt {c : Wd} {A : Ad} (T : Txt c A) : OwnD c A.c_Bucket "__gt__" 6 (cs_Bucket___gt___2 c A) := ⟨⟨_, ca_Bucket___gt___2 T, T.fi_Bucket___gt__, T.if_Bucket___gt__⟩⟩
def tq_own_gt_Bucket (c : Wd) (A : Ad) : List (Addr × DSp2) := [(A.c_Bucket, cs_Bucket___gt___2 c A)]
theorem ta_own_gt_Bucket {c : Wd} {A : Ad} (T : Txt c A) : AllT (fun C s => OwnD c C "__gt__" 6 s) (tq_own_gt_Bucket c A) := ⟨(own_Bucket_gt T).mono (by decide), trivial⟩
theorem ordr_Bucket_lt {c : Wd} {A : Ad} (T : Txt c A) : OrdR c "__lt__" 5 A.c_Bucket (cs_Bucket___lt___2 c A) := ⟨⟨⟨_, ca_Bucket___lt___2 T, T.fi_Bucket___lt__, T.if_Bucket___lt__⟩⟩, T.bt_Bucket⟩
def tq_ordr_lt_Bucket (c : Wd) (A : Ad) : List (Addr × DSp2) := [(A.c_Bucket, cs_Bucket___lt___2 c A)]
theorem ta_ordr_lt_Bucket {c : Wd} {A : Ad} (T : Txt c A) : AllT (OrdR c "__lt__" 5) (tq_ordr_lt_Bucket c A) := ⟨(ordr_Bucket_lt T).mono (by decide), trivial⟩
/-! _law_is_below -/
def N_law_is_below : List Str := [("_law_one" : Str), ("_law_other" : Str), ("_law_far" : Str)]
theorem sc_law_is_below : FnScope N_law_is_below [("_law_one" : Str), ("_law_other" : Str)] (defScope s_law_is_below) := ⟨rfl, rfl, rfl, by decide +kernel, rfl, by decide +kernel, by decide +kernel⟩
def u_law_is_below_2 (c : Wd) (A : Ad) : DTS := dRet (dC (.bl true))
def u_law_is_below_1 (c : Wd) (A : Ad) : DTS := dSeq (dFor (dRng1 (dCons (dBin (oI CMulE fun i j => .int (i * j)) (dIx (dVar 0) (dC (.int 2))) (dIx (dVar 1) (dC (.int 2)))) (dNil))) (gN 2) (dIte (dTB (dBinE (oOrdA c (tq_own_gt_Bucket c A) (tq_ordr_lt_Bucket c A) fun i j => decide (j < i)) (dBin oAdd (dIx (dVar 0) (dC (.int 0))) (dBin (oI CMulE fun i j => .int (i * j)) (dIx (dVar 0) (dC (.int 1))) (dBin (oI CDivW fun i j => .int (i / j)) (dBu oInt (dCons (dVar 2) (dNil))) (dIx (dVar 0) (dC (.int 2)))))) (dBin oAdd (dIx (dVar 1) (dC (.int 0))) (dBin (oI CMulE fun i j => .int (i * j)) (dIx (dVar 1) (dC (.int 1))) (dBin (oI CDivW fun i j => .int (i / j)) (dBu oInt (dCons (dVar 2) (dNil))) (dIx (dVar 1) (dC (.int 2)))))))) (dRet (dC (.bl false))) (dNext))) (u_law_is_below_2 c A)
def t_law_is_below (c : Wd) (A : Ad) : DTS := dSeq (dIte (dTB (dBinE (oOrdA c (tq_own_gt_Bucket c A) (tq_ordr_lt_Bucket c A) fun i j => decide (j < i)) (dBin (oI CMulE fun i j => .int (i * j)) (dIx (dVar 0) (dC (.int 1))) (dIx (dVar 1) (dC (.int 2)))) (dBin (oI CMulE fun i j => .int (i * j)) (dIx (dVar 1) (dC (.int 1))) (dIx (dVar 0) (dC (.int 2)))))) (dRet (dC (.bl false))) (dNext)) (u_law_is_below_1 c A)
theorem dd_law_is_below {c : Wd} {A : Ad} (T : Txt c A) (X : Cx) (cf : Fr) (W : WX) (ec : cf.toWd = c) (B : XB X cf W N_law_is_below (defScope s_law_is_below) 6 false) : DSs X cf W (defBody s_law_is_below) (t_law_is_below c A) := by
  subst ec
  exact (dss_cons (ds_if (dtcE (op_gtA (j := 6) B ((ta_own_gt_Bucket T).imp fun _ _ h => h.mono (by decide)) ((ta_ordr_lt_Bucket T).imp fun _ _ h => h.mono (by decide)) (by decide)) (de_bin o_mulE (de_ix B (dv B (i := 0)) de_int) (de_ix B (dv B (i := 1)) de_int)) (de_bin o_mulE (de_ix B (dv B (i := 1)) de_int) (de_ix B (dv B (i := 0)) de_int))) (dss_one (ds_ret de_bl)) dss_nil) (dss_cons (ds_for B (di_range1 B rfl T.no_range (da_cons (de_bin o_mulE (de_ix B (dv B (i := 0)) de_int) (de_ix B (dv B (i := 1)) de_int)) da_nil)) (dgn B (i := 2)) (dss_one (ds_if (dtcE (op_gtA (j := 6) B ((ta_own_gt_Bucket T).imp fun _ _ h => h.mono (by decide)) ((ta_ordr_lt_Bucket T).imp fun _ _ h => h.mono (by decide)) (by decide)) (de_bin (o_add B.hK) (de_ix B (dv B (i := 0)) de_int) (de_bin o_mulE (de_ix B (dv B (i := 0)) de_int) (de_bin o_fdivW (de_ty B T.no_int boo_int b_int rfl (da_cons (dv B (i := 2)) da_nil)) (de_ix B (dv B (i := 0)) de_int)))) (de_bin (o_add B.hK) (de_ix B (dv B (i := 1)) de_int) (de_bin o_mulE (de_ix B (dv B (i := 1)) de_int) (de_bin o_fdivW (de_ty B T.no_int boo_int b_int rfl (da_cons (dv B (i := 2)) da_nil)) (de_ix B (dv B (i := 1)) de_int))))) (dss_one (ds_ret de_bl)) dss_nil))) (dss_one (ds_ret de_bl))))
def sp_law_is_below (c : Wd) (A : Ad) : DSp := fun ds n P R => ds.length = 2 ∧ t_law_is_below c A (fnN P R) (startS N_law_is_below ds n)
theorem ok_law_is_below {c : Wd} {A : Ad} (T : Txt c A) : ∃ fd, FunD c.K "_law_is_below" "_law_is_below" (defArgs s_law_is_below) (defBody s_law_is_below) (defScope s_law_is_below) [] [] A.f_law_is_below fd ∧ FnG c 7 A.f_law_is_below fd [("_law_one" : Str), ("_law_other" : Str)] (liftSp c (sp_law_is_below c A)) := by
  obtain ⟨fd, F⟩ := T.F_law_is_below
  exact ⟨fd, F, fn_ok F sc_law_is_below (fun _ _ _ _ h => h.1) (dd_law_is_below T) (fun _ _ _ _ h => h.2)⟩
def cs_law_is_below_2 (c : Wd) (A : Ad) : DSp2 := fun ds es m P R => ds.length = 2 ∧ (sp_law_is_below c A) ds m P R
theorem ca_law_is_below_2 {c : Wd} {A : Ad} (T : Txt c A) : Callee c (.ref A.f_law_is_below) [] 7 (cs_law_is_below_2 c A) := by
  obtain ⟨fd, F, G⟩ := ok_law_is_below T
  exact callee_fn G F.kp (shape_n0 F fun _ _ _ _ _ _ us hl => match us, hl with | [_, _], _ => rfl)
theorem cq_law_is_below_2 {c : Wd} {A : Ad} {x0 x1 : D} {z : Z} {P : D → Z → Prop} {R : Er → Z → Prop} : cs_law_is_below_2 c A [x0, x1] [] z P R ↔ (sp_law_is_below c A) [x0, x1] z P R := ⟨fun h => h.2, fun h => ⟨rfl, h⟩⟩
/-! Bucket.__ge__ -/
def N_Bucket___ge__ : List Str := [("self" : Str), ("other" : Str)]
theorem sc_Bucket___ge__ : FnScope N_Bucket___ge__ [("self" : Str), ("other" : Str)] (defScope s_Bucket___ge__) := ⟨rfl, rfl, rfl, by decide +kernel, rfl, by decide +kernel, by decide +kernel⟩
def u_Bucket___ge___1 (c : Wd) (A : Ad) : DTS := dRet (dBinE (oOrdA c (tq_own_le_Bucket c A) [] fun i j => decide (i ≤ j)) (dVar 1) (dVar 0))
def t_Bucket___ge__ (c : Wd) (A : Ad) : DTS := dSeq (dDrop (dCall (fun ds zs n P R => zs = [] ∧ (cs_need_like_1 c A) ds [] n P R) (dCons (dVar 1) (dNil)) dNil)) (u_Bucket___ge___1 c A)
theorem dd_Bucket___ge__ {c : Wd} {A : Ad} (T : Txt c A) (X : Cx) (cf : Fr) (W : WX) (ec : cf.toWd = c) (B : XB X cf W N_Bucket___ge__ (defScope s_Bucket___ge__) 4 false) : DSs X cf W (defBody s_Bucket___ge__) (t_Bucket___ge__ c A) := by
  subst ec
  exact (dss_cons (ds_expr (de_call B T.mg_need_like (ca_need_like_1 T) (by decide) rfl (da_cons (dv B (i := 1)) da_nil))) (dss_one (ds_ret (dcpE (op_leA (j := 4) B ((ta_own_le_Bucket T).imp fun _ _ h => h.mono (by decide)) trivial (by decide)) (dv B (i := 1)) (dv B (i := 0))))))
def sp_Bucket___ge__ (c : Wd) (A : Ad) : DSp := fun ds n P R => ds.length = 2 ∧ t_Bucket___ge__ c A (fnN P R) (startS N_Bucket___ge__ ds n)
theorem ok_Bucket___ge__ {c : Wd} {A : Ad} (T : Txt c A) : ∃ fd, FunD c.K "__ge__" "Bucket.__ge__" (defArgs s_Bucket___ge__) (defBody s_Bucket___ge__) (defScope s_Bucket___ge__) [] [] A.f_Bucket___ge__ fd ∧ FnG c 5 A.f_Bucket___ge__ fd [("self" : Str), ("other" : Str)] (liftSp c (sp_Bucket___ge__ c A)) := by
  obtain ⟨fd, F⟩ := T.F_Bucket___ge__
  exact ⟨fd, F, fn_ok F sc_Bucket___ge__ (fun _ _ _ _ h => h.1) (dd_Bucket___ge__ T) (fun _ _ _ _ h => h.2)⟩
def cs_Bucket___ge___2 (c : Wd) (A : Ad) : DSp2 := fun ds es m P R => ds.length = 2 ∧ (sp_Bucket___ge__ c A) ds m P R
theorem ca_Bucket___ge___2 {c : Wd} {A : Ad} (T : Txt c A) : Callee c (.ref A.f_Bucket___ge__) [] 5 (cs_Bucket___ge___2 c A) := by
  obtain ⟨fd, F, G⟩ := ok_Bucket___ge__ T
  exact callee_fn G F.kp (shape_n0 F fun _ _ _ _ _ _ us hl => match us, hl with | [_, _], _ => rfl)
theorem cq_Bucket___ge___2 {c : Wd} {A : Ad} {x0 x1 : D} {z : Z} {P : D → Z → Prop} {R : Er → Z → Prop} : cs_Bucket___ge___2 c A [x0, x1] [] z P R ↔ (sp_Bucket___ge__ c A) [x0, x1] z P R := ⟨fun h => h.2, fun h => ⟨rfl, h⟩⟩
theorem ordr_Bucket_ge {c : Wd} {A : Ad} (T : Txt c A) : OrdR c "__ge__" 5 A.c_Bucket (cs_Bucket___ge___2 c A) := ⟨⟨⟨_, ca_Bucket___ge___2 T, T.fi_Bucket___ge__, T.if_Bucket___ge__⟩⟩, T.bt_Bucket⟩
def tq_ordr_ge_Bucket (c : Wd) (A : Ad) : List (Addr × DSp2) := [(A.c_Bucket, cs_Bucket___ge___2 c A)]
theorem ta_ordr_ge_Bucket {c : Wd} {A : Ad} (T : Txt c A) : AllT (OrdR c "__ge__" 5) (tq_ordr_ge_Bucket c A) := ⟨(ordr_Bucket_ge T).mono (by decide), trivial⟩
theorem ordr_Bucket_gt {c : Wd} {A : Ad} (T : Txt c A) : OrdR c "__gt__" 6 A.c_Bucket (cs_Bucket___gt___2 c A) := ⟨⟨⟨_, ca_Bucket___gt___2 T, T.fi_Bucket___gt__, T.if_Bucket___gt__⟩⟩, T.bt_Bucket⟩
def tq_ordr_gt_Bucket (c : Wd) (A : Ad) : List (Addr × DSp2) := [(A.c_Bucket, cs_Bucket___gt___2 c A)]
theorem ta_ordr_gt_Bucket {c : Wd} {A : Ad} (T : Txt c A) : AllT (OrdR c "__gt__" 6) (tq_ordr_gt_Bucket c A) := ⟨(ordr_Bucket_gt T).mono (by decide), trivial⟩
theorem own_Bucket_ge {c : Wd} {A : Ad} (T : Txt c A) : OwnD c A.c_Bucket "__ge__" 5 (cs_Bucket___ge___2 c A) := ⟨⟨_, ca_Bucket___ge___2 T, T.fi_Bucket___ge__, T.if_Bucket___ge__⟩⟩
def tq_own_ge_Bucket (c : Wd) (A : Ad) : List (Addr × DSp2) := [(A.c_Bucket, cs_Bucket___ge___2 c A)]
theorem ta_own_ge_Bucket {c : Wd} {A : Ad} (T : Txt c A) : AllT (fun C s => OwnD c C "__ge__" 5 s) (tq_own_ge_Bucket c A) := ⟨(own_Bucket_ge T).mono (by decide), trivial⟩
theorem ordr_Bucket_le {c : Wd} {A : Ad} (T : Txt c A) : OrdR c "__le__" 4 A.c_Bucket (cs_Bucket___le___2 c A) := ⟨⟨⟨_, ca_Bucket___le___2 T, T.fi_Bucket___le__, T.if_Bucket___le__⟩⟩, T.bt_Bucket⟩
def tq_ordr_le_Bucket (c : Wd) (A : Ad) : List (Addr × DSp2) := [(A.c_Bucket, cs_Bucket___le___2 c A)]
theorem ta_ordr_le_Bucket {c : Wd} {A : Ad} (T : Txt c A) : AllT (OrdR c "__le__" 4) (tq_ordr_le_Bucket c A) := ⟨(ordr_Bucket_le T).mono (by decide), trivial⟩
theorem nsx_BadNumber : NdefX.NScope ["self", "value", "__class__"] ["self", "value"] ["__class__"] (defScope s_BadNumber___init__) := ⟨rfl, rfl, rfl, by decide +kernel, rfl, by decide +kernel, by decide +kernel, by decide +kernel, by decide +kernel⟩
theorem ex_BadNumber {c : Wd} {A : Ad} (T : Txt c A) : ExcD c A.c_BadNumber [("value" : Str)] 1 := T.ix_BadNumber.one fun cc cf fd S => sup1 S T.ix_BadNumber.T nsx_BadNumber T.nx_BadNumber_value rfl
/-! need_number -/
def N_need_number : List Str := [("value" : Str), ("least" : Str)]
theorem sc_need_number : FnScope N_need_number [("value" : Str), ("least" : Str)] (defScope s_need_number) := ⟨rfl, rfl, rfl, by decide +kernel, rfl, by decide +kernel, by decide +kernel⟩
def t_need_number (c : Wd) (A : Ad) : DTS := dIte (dOr (dNot (dTB (dCall (fun ds zs n P R => zs = [] ∧ (cs_is_int_1 c A) ds [] n P R) (dCons (dVar 0) (dNil)) dNil))) (dTB (dBin (oI (fun _ _ => True) fun i j => .bl (decide (i < j))) (dVar 0) (dVar 1)))) (dRaise A.c_BadNumber [("value" : Str)] (dCons (dVar 0) (dNil))) (dNext)
theorem dd_need_number {c : Wd} {A : Ad} (T : Txt c A) (X : Cx) (cf : Fr) (W : WX) (ec : cf.toWd = c) (B : XB X cf W N_need_number (defScope s_need_number) 2 false) : DSs X cf W (defBody s_need_number) (t_need_number c A) := by
  subst ec
  exact (dss_one (ds_if (dw_or (dt_not (dt_val (de_call B T.mg_is_int (ca_is_int_1 T) (by decide) rfl (da_cons (dv B (i := 0)) da_nil)))) (dw_or1 (dtc o_lt (dv B (i := 0)) (dv B (i := 1))))).pt (dss_one (ds_raise B (ex_BadNumber T) (by decide) T.mg_c_BadNumber rfl (da_cons (dv B (i := 0)) da_nil))) dss_nil))
def sp_need_number (c : Wd) (A : Ad) : DSp := fun ds n P R => ds.length = 2 ∧ t_need_number c A (fnN P R) (startS N_need_number ds n)
theorem ok_need_number {c : Wd} {A : Ad} (T : Txt c A) : ∃ fd, FunD c.K "need_number" "need_number" (defArgs s_need_number) (defBody s_need_number) (defScope s_need_number) [] [] A.f_need_number fd ∧ FnG c 3 A.f_need_number fd [("value" : Str), ("least" : Str)] (liftSp c (sp_need_number c A)) := by
  obtain ⟨fd, F⟩ := T.F_need_number
  exact ⟨fd, F, fn_ok F sc_need_number (fun _ _ _ _ h => h.1) (dd_need_number T) (fun _ _ _ _ h => h.2)⟩
def cs_need_number_2 (c : Wd) (A : Ad) : DSp2 := fun ds es m P R => ds.length = 2 ∧ (sp_need_number c A) ds m P R
theorem ca_need_number_2 {c : Wd} {A : Ad} (T : Txt c A) : Callee c (.ref A.f_need_number) [] 3 (cs_need_number_2 c A) := by
  obtain ⟨fd, F, G⟩ := ok_need_number T
  exact callee_fn G F.kp (shape_n0 F fun _ _ _ _ _ _ us hl => match us, hl with | [_, _], _ => rfl)
theorem cq_need_number_2 {c : Wd} {A : Ad} {x0 x1 : D} {z : Z} {P : D → Z → Prop} {R : Er → Z → Prop} : cs_need_number_2 c A [x0, x1] [] z P R ↔ (sp_need_number c A) [x0, x1] z P R := ⟨fun h => h.2, fun h => ⟨rfl, h⟩⟩
/-! Bucket.earliest -/
def N_Bucket_earliest : List Str := [("self" : Str), ("bits" : Str)]
theorem sc_Bucket_earliest : FnScope N_Bucket_earliest [("self" : Str), ("bits" : Str)] (defScope s_Bucket_earliest) := ⟨rfl, rfl, rfl, by decide +kernel, rfl, by decide +kernel, by decide +kernel⟩
def u_Bucket_earliest_2 (c : Wd) (A : Ad) : DTS := dRet (dBin (oI CMulE fun i j => .int (i * j)) (dAt c ("every" : Str) [] (dVar 0)) (dBin (oI (fun _ _ => True) fun i j => .int (i - j)) (dC (.int 0)) (dBin (oI (fun _ j => CDivG j) fun i j => .int (i.fdiv j)) (dBin (oI (fun _ _ => True) fun i j => .int (i - j)) (dAt c ("burst" : Str) [] (dVar 0)) (dVar 1)) (dAt c ("rate" : Str) [] (dVar 0)))))
def u_Bucket_earliest_1 (c : Wd) (A : Ad) : DTS := dSeq (dIte (dTB (dBin (oI (fun _ _ => True) fun i j => .bl (decide (i ≤ j))) (dVar 1) (dAt c ("burst" : Str) [] (dVar 0)))) (dRet (dC (.int 0))) (dNext)) (u_Bucket_earliest_2 c A)
def t_Bucket_earliest (c : Wd) (A : Ad) : DTS := dSeq (dDrop (dCall (fun ds zs n P R => zs = [] ∧ (cs_need_number_2 c A) ds [] n P R) (dCons (dVar 1) (dCons (dC (.int 0)) (dNil))) dNil)) (u_Bucket_earliest_1 c A)
theorem dd_Bucket_earliest {c : Wd} {A : Ad} (T : Txt c A) (X : Cx) (cf : Fr) (W : WX) (ec : cf.toWd = c) (B : XB X cf W N_Bucket_earliest (defScope s_Bucket_earliest) 3 false) : DSs X cf W (defBody s_Bucket_earliest) (t_Bucket_earliest c A) := by
  subst ec
  exact (dss_cons (ds_expr (de_call B T.mg_need_number (ca_need_number_2 T) (by decide) rfl (da_cons (dv B (i := 1)) (da_cons de_int da_nil)))) (dss_cons (ds_if (dtc o_le (dv B (i := 1)) (de_at (tbl := []) (j := 0) B trivial (Nat.zero_le _) (dv B (i := 0)))) (dss_one (ds_ret de_int)) dss_nil) (dss_one (ds_ret (de_bin o_mulE (de_at (tbl := []) (j := 0) B trivial (Nat.zero_le _) (dv B (i := 0))) (de_bin o_sub de_int (de_bin o_fdivG (de_bin o_sub (de_at (tbl := []) (j := 0) B trivial (Nat.zero_le _) (dv B (i := 0))) (dv B (i := 1))) (de_at (tbl := []) (j := 0) B trivial (Nat.zero_le _) (dv B (i := 0))))))))))
def sp_Bucket_earliest (c : Wd) (A : Ad) : DSp := fun ds n P R => ds.length = 2 ∧ t_Bucket_earliest c A (fnN P R) (startS N_Bucket_earliest ds n)
theorem ok_Bucket_earliest {c : Wd} {A : Ad} (T : Txt c A) : ∃ fd, FunD c.K "earliest" "Bucket.earliest" (defArgs s_Bucket_earliest) (defBody s_Bucket_earliest) (defScope s_Bucket_earliest) [] [] A.f_Bucket_earliest fd ∧ FnG c 4 A.f_Bucket_earliest fd [("self" : Str), ("bits" : Str)] (liftSp c (sp_Bucket_earliest c A)) := by
  obtain ⟨fd, F⟩ := T.F_Bucket_earliest
  exact ⟨fd, F, fn_ok F sc_Bucket_earliest (fun _ _ _ _ h => h.1) (dd_Bucket_earliest T) (fun _ _ _ _ h => h.2)⟩
def cs_Bucket_earliest_2 (c : Wd) (A : Ad) : DSp2 := fun ds es m P R => ds.length = 2 ∧ (sp_Bucket_earliest c A) ds m P R
theorem ca_Bucket_earliest_2 {c : Wd} {A : Ad} (T : Txt c A) : Callee c (.ref A.f_Bucket_earliest) [] 4 (cs_Bucket_earliest_2 c A) := by
  obtain ⟨fd, F, G⟩ := ok_Bucket_earliest T
  exact callee_fn G F.kp (shape_n0 F fun _ _ _ _ _ _ us hl => match us, hl with | [_, _], _ => rfl)
theorem cq_Bucket_earliest_2 {c : Wd} {A : Ad} {x0 x1 : D} {z : Z} {P : D → Z → Prop} {R : Er → Z → Prop} : cs_Bucket_earliest_2 c A [x0, x1] [] z P R ↔ (sp_Bucket_earliest c A) [x0, x1] z P R := ⟨fun h => h.2, fun h => ⟨rfl, h⟩⟩
theorem meth_Bucket_earliest_2 {c : Wd} {A : Ad} (T : Txt c A) : MethD c ("earliest" : Str) [] 4 A.c_Bucket (cs_Bucket_earliest_2 c A) := by
  obtain ⟨fd, F⟩ := T.F_Bucket_earliest
  exact ⟨T.cl_Bucket, _, ⟨T.fi_Bucket_earliest, T.if_Bucket_earliest, F.kp⟩, ca_Bucket_earliest_2 T⟩
def tq_meth_earliest_Bucket_2 (c : Wd) (A : Ad) : List (Addr × DSp2) := [(A.c_Bucket, cs_Bucket_earliest_2 c A)]
theorem ta_meth_earliest_Bucket_2 {c : Wd} {A : Ad} (T : Txt c A) : AllT (MethD c ("earliest" : Str) [] 4) (tq_meth_earliest_Bucket_2 c A) := ⟨(meth_Bucket_earliest_2 T).mono (by decide), trivial⟩
/-! _law_pair_right -/
def N_law_pair_right : List Str := [("_law_one" : Str), ("_law_other" : Str), ("_law_left" : Str), ("_law_right" : Str), ("_law_below" : Str), ("_law_above" : Str), ("_law_told" : Str), ("_law_due" : Str), ("_law_some" : Str), ("_law_bits_so" : Str)]
theorem sc_law_pair_right : FnScope N_law_pair_right [("_law_one" : Str), ("_law_other" : Str)] (defScope s_law_pair_right) := ⟨rfl, rfl, rfl, by decide +kernel, rfl, by decide +kernel, by decide +kernel⟩
def u_law_pair_right_6 (c : Wd) (A : Ad) : DTS := dRet (dOrV (dNotV (dVar 4)) (dBinE (oEqA c (tq_eq_eq_Bucket c A)) (dVar 8) (dLst (dNil))))
def u_law_pair_right_5 (c : Wd) (A : Ad) : DTS := dSeq (dSet 8 (dLC (dItT (dTup (dCons (dC (.int 1)) (dCons (dC (.int 5)) (dCons (dC (.int 60)) (dCons (dC (.int 200)) (dCons (dC (.int 999)) (dCons (dBin (oI CPow fun i j => .int (i ^ j.toNat)) (dC (.int 10)) (dC (.int 20))) (dNil))))))))) (gN 9) (dTB (dBinE (oOrdA c (tq_own_lt_Bucket c A) (tq_ordr_gt_Bucket c A) fun i j => decide (i < j)) (dMeth ("earliest" : Str) (tq_meth_earliest_Bucket_2 c A) (dVar 2) (dCons (dVar 9) (dNil)) dNil) (dMeth ("earliest" : Str) (tq_meth_earliest_Bucket_2 c A) (dVar 3) (dCons (dVar 9) (dNil)) dNil))) (dVar 9) [9])) (u_law_pair_right_6 c A)
def u_law_pair_right_4 (c : Wd) (A : Ad) : DTS := dSeq (dIte (dOr (dTB (dBin oNe (dBu oRepr (dCons (dVar 6) (dNil))) (dBu oRepr (dCons (dVar 7) (dNil))))) (dTB (dBinE (oNeB c (tq_eq_eq_Bucket c A)) (dAndV (dVar 4) (dVar 5)) (dBinE (oEqA c (tq_eq_eq_Bucket c A)) (dVar 0) (dVar 1))))) (dRet (dC (.bl false))) (dNext)) (u_law_pair_right_5 c A)
def u_law_pair_right_3 (c : Wd) (A : Ad) : DTS := dSeq (dSet 7 (dLst (dCons (dVar 4) (dCons (dAndV (dVar 4) (dNotV (dVar 5))) (dCons (dVar 5) (dCons (dAndV (dVar 5) (dNotV (dVar 4))) (dCons (dAndV (dVar 4) (dVar 5)) (dCons (dOrV (dNotV (dVar 4)) (dNotV (dVar 5))) (dNil))))))))) (u_law_pair_right_4 c A)
def u_law_pair_right_2 (c : Wd) (A : Ad) : DTS := dSeq (dSet 6 (dLst (dCons (dBinE (oOrdA c (tq_own_le_Bucket c A) (tq_ordr_ge_Bucket c A) fun i j => decide (i ≤ j)) (dVar 2) (dVar 3)) (dCons (dBinE (oOrdA c (tq_own_lt_Bucket c A) (tq_ordr_gt_Bucket c A) fun i j => decide (i < j)) (dVar 2) (dVar 3)) (dCons (dBinE (oOrdA c (tq_own_ge_Bucket c A) (tq_ordr_le_Bucket c A) fun i j => decide (j ≤ i)) (dVar 2) (dVar 3)) (dCons (dBinE (oOrdA c (tq_own_gt_Bucket c A) (tq_ordr_lt_Bucket c A) fun i j => decide (j < i)) (dVar 2) (dVar 3)) (dCons (dBinE (oEqA c (tq_eq_eq_Bucket c A)) (dVar 2) (dVar 3)) (dCons (dBinE (oNeB c (tq_eq_eq_Bucket c A)) (dVar 2) (dVar 3)) (dNil))))))))) (u_law_pair_right_3 c A)
def u_law_pair_right_1 (c : Wd) (A : Ad) : DTS := dSeq (dPar 4 5 (dCons (dCall (fun ds zs n P R => zs = [] ∧ (cs_law_is_below_2 c A) ds [] n P R) (dCons (dVar 0) (dCons (dVar 1) (dNil))) dNil) (dCons (dCall (fun ds zs n P R => zs = [] ∧ (cs_law_is_below_2 c A) ds [] n P R) (dCons (dVar 1) (dCons (dVar 0) (dNil))) dNil) (dNil)))) (u_law_pair_right_2 c A)
def t_law_pair_right (c : Wd) (A : Ad) : DTS := dSeq (dAsg (dTup (dCons (dCall (fun ds zs n P R => zs = [] ∧ (cs_Bucket_Bucket___init___3 c A) ds [] n P R) (dCons (dIx (dVar 0) (dC (.int 0))) (dCons (dIx (dVar 0) (dC (.int 1))) (dCons (dIx (dVar 0) (dC (.int 2))) (dNil)))) dNil) (dCons (dCall (fun ds zs n P R => zs = [] ∧ (cs_Bucket_Bucket___init___3 c A) ds [] n P R) (dCons (dIx (dVar 1) (dC (.int 0))) (dCons (dIx (dVar 1) (dC (.int 1))) (dCons (dIx (dVar 1) (dC (.int 2))) (dNil)))) dNil) (dNil)))) (gT 2 (gC (gN 2) (gC (gN 3) (gZ))))) (u_law_pair_right_1 c A)
theorem dd_law_pair_right {c : Wd} {A : Ad} (T : Txt c A) (X : Cx) (cf : Fr) (W : WX) (ec : cf.toWd = c) (B : XB X cf W N_law_pair_right (defScope s_law_pair_right) 7 false) : DSs X cf W (defBody s_law_pair_right) (t_law_pair_right c A) := by
  subst ec
  exact (dss_cons (ds_asgC B (de_tup (da_cons (de_call B T.mg_c_Bucket (ca_Bucket_Bucket___init___3 T) (by decide) rfl (da_cons (de_ix B (dv B (i := 0)) de_int) (da_cons (de_ix B (dv B (i := 0)) de_int) (da_cons (de_ix B (dv B (i := 0)) de_int) da_nil)))) (da_cons (de_call B T.mg_c_Bucket (ca_Bucket_Bucket___init___3 T) (by decide) rfl (da_cons (de_ix B (dv B (i := 1)) de_int) (da_cons (de_ix B (dv B (i := 1)) de_int) (da_cons (de_ix B (dv B (i := 1)) de_int) da_nil)))) da_nil))) (dg_tup B (dgs_cons (dgn B (i := 2)) (dgs_cons (dgn B (i := 3)) dgs_nil))) (fun env h => by cases env; cases h; rfl)) (dss_cons (ds_par B (i := 4) (j := 5) rfl rfl (by decide) rfl rfl (da_cons (de_call B T.mg_law_is_below (ca_law_is_below_2 T) (by decide) rfl (da_cons (dv B (i := 0)) (da_cons (dv B (i := 1)) da_nil))) (da_cons (de_call B T.mg_law_is_below (ca_law_is_below_2 T) (by decide) rfl (da_cons (dv B (i := 1)) (da_cons (dv B (i := 0)) da_nil))) da_nil)) (fun env h => by cases env; cases h; rfl)) (dss_cons (dset B (i := 6) (de_lst (da_cons (dcpE (op_leA (j := 5) B ((ta_own_le_Bucket T).imp fun _ _ h => h.mono (by decide)) ((ta_ordr_ge_Bucket T).imp fun _ _ h => h.mono (by decide)) (by decide)) (dv B (i := 2)) (dv B (i := 3))) (da_cons (dcpE (op_ltA (j := 6) B ((ta_own_lt_Bucket T).imp fun _ _ h => h.mono (by decide)) ((ta_ordr_gt_Bucket T).imp fun _ _ h => h.mono (by decide)) (by decide)) (dv B (i := 2)) (dv B (i := 3))) (da_cons (dcpE (op_geA (j := 5) B ((ta_own_ge_Bucket T).imp fun _ _ h => h.mono (by decide)) ((ta_ordr_le_Bucket T).imp fun _ _ h => h.mono (by decide)) (by decide)) (dv B (i := 2)) (dv B (i := 3))) (da_cons (dcpE (op_gtA (j := 6) B ((ta_own_gt_Bucket T).imp fun _ _ h => h.mono (by decide)) ((ta_ordr_lt_Bucket T).imp fun _ _ h => h.mono (by decide)) (by decide)) (dv B (i := 2)) (dv B (i := 3))) (da_cons (dcpE (op_eqA B (ta_eq_eq_Bucket T) (by decide)) (dv B (i := 2)) (dv B (i := 3))) (da_cons (dcpE (op_neB B (ta_eq_eq_Bucket T) (by decide)) (dv B (i := 2)) (dv B (i := 3))) da_nil)))))))) (dss_cons (dset B (i := 7) (de_lst (da_cons (dv B (i := 4)) (da_cons (de_and (dv B (i := 4)) (de_one (de_not (dv B (i := 5))))) (da_cons (dv B (i := 5)) (da_cons (de_and (dv B (i := 5)) (de_one (de_not (dv B (i := 4))))) (da_cons (de_and (dv B (i := 4)) (de_one (dv B (i := 5)))) (da_cons (de_or (de_not (dv B (i := 4))) (de_one (de_not (dv B (i := 5))))) da_nil)))))))) (dss_cons (ds_if (dw_or (dtc (o_ne B) (de_bu B T.no_repr boo_repr (b_repr B) rfl (da_cons (dv B (i := 6)) da_nil)) (de_bu B T.no_repr boo_repr (b_repr B) rfl (da_cons (dv B (i := 7)) da_nil))) (dw_or1 (dtcE (op_neB B (ta_eq_eq_Bucket T) (by decide)) (de_and (dv B (i := 4)) (de_one (dv B (i := 5)))) (dcpE (op_eqA B (ta_eq_eq_Bucket T) (by decide)) (dv B (i := 0)) (dv B (i := 1)))))).pt (dss_one (ds_ret de_bl)) dss_nil) (dss_cons (ds_setLc B (iy := 8) rfl rfl (by first | rfl | decide +kernel) (own := [(("_law_bits_so" : Str), 9)]) (di_tup B (de_tup (da_cons de_int (da_cons de_int (da_cons de_int (da_cons de_int (da_cons de_int (da_cons (de_bin o_pow de_int de_int) da_nil)))))))) (blkOk_by (by decide +kernel)) (fun X' c' ec B' => by
  have T : Txt c'.toWd A := by rw [ec]; exact T
  try rw [← ec]
  exact ⟨(dgo_name B' (i := 9) rfl rfl (by decide)), (dts_one (dtcE (op_ltA (j := 6) B' ((ta_own_lt_Bucket T).imp fun _ _ h => h.mono (by decide)) ((ta_ordr_gt_Bucket T).imp fun _ _ h => h.mono (by decide)) (by decide)) (de_meth B' (ta_meth_earliest_Bucket_2 T) (by decide) (dv B' (i := 2)) (da_cons (dv B' (i := 9)) da_nil)) (de_meth B' (ta_meth_earliest_Bucket_2 T) (by decide) (dv B' (i := 3)) (da_cons (dv B' (i := 9)) da_nil)))), (dv B' (i := 9))⟩)) (dss_one (ds_ret (de_or (de_not (dv B (i := 4))) (de_one (dcpE (op_eqA B (ta_eq_eq_Bucket T) (by decide)) (dv B (i := 8)) (de_lst da_nil))))))))))))
def sp_law_pair_right (c : Wd) (A : Ad) : DSp := fun ds n P R => ds.length = 2 ∧ t_law_pair_right c A (fnN P R) (startS N_law_pair_right ds n)
theorem ok_law_pair_right {c : Wd} {A : Ad} (T : Txt c A) : ∃ fd, FunD c.K "_law_pair_right" "_law_pair_right" (defArgs s_law_pair_right) (defBody s_law_pair_right) (defScope s_law_pair_right) [] [] A.f_law_pair_right fd ∧ FnG c 8 A.f_law_pair_right fd [("_law_one" : Str), ("_law_other" : Str)] (liftSp c (sp_law_pair_right c A)) := by
  obtain ⟨fd, F⟩ := T.F_law_pair_right
  exact ⟨fd, F, fn_ok F sc_law_pair_right (fun _ _ _ _ h => h.1) (dd_law_pair_right T) (fun _ _ _ _ h => h.2)⟩
def cs_law_pair_right_2 (c : Wd) (A : Ad) : DSp2 := fun ds es m P R => ds.length = 2 ∧ (sp_law_pair_right c A) ds m P R
theorem ca_law_pair_right_2 {c : Wd} {A : Ad} (T : Txt c A) : Callee c (.ref A.f_law_pair_right) [] 8 (cs_law_pair_right_2 c A) := by
  obtain ⟨fd, F, G⟩ := ok_law_pair_right T
  exact callee_fn G F.kp (shape_n0 F fun _ _ _ _ _ _ us hl => match us, hl with | [_, _], _ => rfl)
theorem cq_law_pair_right_2 {c : Wd} {A : Ad} {x0 x1 : D} {z : Z} {P : D → Z → Prop} {R : Er → Z → Prop} : cs_law_pair_right_2 c A [x0, x1] [] z P R ↔ (sp_law_pair_right c A) [x0, x1] z P R := ⟨fun h => h.2, fun h => ⟨rfl, h⟩⟩
/-! _law_heard -/
def N_law_heard : List Str := [("_law_ask" : Str), ("_law_caught" : Str), ("error" : Str)]
theorem sc_law_heard : FnScope N_law_heard [("_law_ask" : Str)] (defScope s_law_heard) := ⟨rfl, rfl, rfl, by decide +kernel, rfl, by decide +kernel, by decide +kernel⟩
def u_law_heard_2 (c : Wd) (A : Ad) (f : Addr) (act : DAct) : DTS := dRet (dIf (dTB (dCalE (oIsA c) (dCons (dVar 1) (dCons (dC (.ref A.c_BadBucket)) (dNil))))) (dAt c ("part" : Str) [] (dVar 1)) (dC (.str ("odd" : Str))))
def u_law_heard_1 (c : Wd) (A : Ad) (f : Addr) (act : DAct) : DTS := dSeq (dTryKeep c (.ref A.c_CreditError) 2 1 (dRet (dLst (dCons (dAct f act 0) (dNil))))) (u_law_heard_2 c A f act)
def t_law_heard (c : Wd) (A : Ad) (f : Addr) (act : DAct) : DTS := dSeq (dSet 1 (dC .non)) (u_law_heard_1 c A f act)
theorem dd_law_heard {c : Wd} {A : Ad} (T : Txt c A) (X : Cx) (cf : Fr) (W : WX) (f : Addr) (act : DAct) (ec : cf.toWd = c) (B : XB X cf W N_law_heard (defScope s_law_heard) 15 false) (hact : ∀ pn xe W1 (p pos : Pos), XB (X.tr pn xe) cf W1 N_law_heard (defScope s_law_heard) 15 false → DE (X.tr pn xe) cf W1 (.Call (.Name "_law_ask" p) [] [] pos) (dAct f act 0)) : DSs X cf W (defBody s_law_heard) (t_law_heard c A f act) := by
  subst ec
  exact (dss_cons (dset B (i := 1) de_non) (dss_cons (ds_tryKeep B (i := 2) (jj := 1) rfl rfl rfl (by first | exact Or.inl rfl | exact Or.inr rfl) rfl T.mg_c_CreditError (fun pn xe W1 B1 => (dss_one (ds_ret (de_lst (da_cons (hact pn xe W1 _ _ B1) da_nil)))))) (dss_one (ds_ret (de_if (dt_val (de_calB B T.no_isinstance boo_isinstance (c_isa B) rfl (da_cons (dv B (i := 1)) (da_cons (de_glob B (v := .ref A.c_BadBucket) rfl T.mg_c_BadBucket rfl (fun _ => .ref _)) da_nil)))) (de_at (tbl := []) (j := 0) B trivial (Nat.zero_le _) (dv B (i := 1))) de_str)))))
def ga_law_heard (c : Wd) (A : Ad) : DSpA := fun f act z P => t_law_heard c A f act (fnN P (fun _ _ => False)) (startS N_law_heard [.ref f] z)
theorem gok_law_heard {c : Wd} {A : Ad} (T : Txt c A) : GAct c A.f_law_heard 16 15 (ga_law_heard c A) := by
  obtain ⟨fd, F⟩ := T.F_law_heard
  exact g_act F sc_law_heard (bnd1 F fun _ _ _ _ _ _ u => rfl) (fun X cf W f act ec B hact => dd_law_heard T X cf W f act ec B hact) (by first | exact .inl rfl | exact .inr (.inl rfl)) rfl (by decide)
/-! law -/
def N_law : List Str := [("_law_script" : Str), ("_law_pen_here" : Str), ("_law_lap" : Str), ("_law_one" : Str), ("_law_other" : Str), ("_law_third" : Str), ("_law_first" : Str), ("_law_second" : Str), ("_law_made" : Str), ("_law_odd" : Str), ("_law_heard_here" : Str), ("_law_late" : Str), ("_law_far" : Str), ("_law_near_here" : Str)]
theorem sc_law : FnScope N_law [("_law_script" : Str)] (defScope s_law) := ⟨rfl, rfl, rfl, by decide +kernel, rfl, by decide +kernel, by decide +kernel⟩
def u_law_4 (c : Wd) (A : Ad) : DTS := dRet (dAndV (dBinE (oOrdA c (tq_own_le_Bucket c A) (tq_ordr_ge_Bucket c A) fun i j => decide (i ≤ j)) (dVar 13) (dVar 12)) (dAndV (dNotV (dBinE (oOrdA c (tq_own_le_Bucket c A) (tq_ordr_ge_Bucket c A) fun i j => decide (i ≤ j)) (dVar 12) (dVar 13))) (dAndV (dBinE (oOrdA c (tq_own_lt_Bucket c A) (tq_ordr_gt_Bucket c A) fun i j => decide (i < j)) (dCall (fun ds zs n P R => zs = [] ∧ (cs_Bucket_Bucket___init___3 c A) ds [] n P R) (dCons (dC (.int 1)) (dCons (dC (.int 1)) (dCons (dC (.int 1000)) (dNil)))) dNil) (dVar 12)) (dBinE (oOrdA c (tq_own_gt_Bucket c A) (tq_ordr_lt_Bucket c A) fun i j => decide (j < i)) (dCall (fun ds zs n P R => zs = [] ∧ (cs_Bucket_Bucket___init___3 c A) ds [] n P R) (dCons (dC (.int 1)) (dCons (dC (.int 1000)) (dCons (dC (.int 1)) (dNil)))) dNil) (dCall (fun ds zs n P R => zs = [] ∧ (cs_Bucket_Bucket___init___3 c A) ds [] n P R) (dCons (dC (.int 1)) (dCons (dC (.int 999)) (dCons (dC (.int 1)) (dNil)))) dNil)))))
def u_law_3 (c : Wd) (A : Ad) : DTS := dSeq (dPar 12 13 (dCons (dCall (fun ds zs n P R => zs = [] ∧ (cs_Bucket_Bucket___init___3 c A) ds [] n P R) (dCons (dBin (oI CPow fun i j => .int (i ^ j.toNat)) (dC (.int 10)) (dC (.int 6))) (dCons (dC (.int 1000)) (dCons (dC (.int 1000)) (dNil)))) dNil) (dCons (dCall (fun ds zs n P R => zs = [] ∧ (cs_Bucket_Bucket___init___3 c A) ds [] n P R) (dCons (dBin (oI (fun _ _ => True) fun i j => .int (i - j)) (dBin (oI CPow fun i j => .int (i ^ j.toNat)) (dC (.int 10)) (dC (.int 6))) (dC (.int 999))) (dCons (dC (.int 1)) (dCons (dC (.int 1)) (dNil)))) dNil) (dNil)))) (u_law_4 c A)
def u_law_2 (c : Wd) (A : Ad) : DTS := dSeq (dIte (dOr (dNot (dTB (dBinE (oOrdA c (tq_own_le_Bucket c A) (tq_ordr_ge_Bucket c A) fun i j => decide (i ≤ j)) (dVar 11) (dCall (fun ds zs n P R => zs = [] ∧ (cs_Bucket_Bucket___init___3 c A) ds [] n P R) (dCons (dC (.int 558)) (dCons (dC (.int 499)) (dCons (dC (.int 998)) (dNil)))) dNil)))) (dTB (dBinE (oOrdA c (tq_own_le_Bucket c A) (tq_ordr_ge_Bucket c A) fun i j => decide (i ≤ j)) (dVar 11) (dCall (fun ds zs n P R => zs = [] ∧ (cs_Bucket_Bucket___init___3 c A) ds [] n P R) (dCons (dC (.int 557)) (dCons (dC (.int 499)) (dCons (dC (.int 998)) (dNil)))) dNil)))) (dRet (dC (.bl false))) (dNext)) (u_law_3 c A)
def u_law_1 (c : Wd) (A : Ad) : DTS := dSeq (dSet 11 (dCall (fun ds zs n P R => zs = [] ∧ (cs_Bucket_Bucket___init___3 c A) ds [] n P R) (dCons (dC (.int 60)) (dCons (dC (.int 500)) (dCons (dC (.int 1000)) (dNil)))) dNil)) (u_law_2 c A)
def t_law (c : Wd) (A : Ad) : DTS := dSeq (dFor (dRng1 (dCons (dC (.int 8)) (dNil))) (gN 2) (dSeq (dSet 3 (dCall (fun ds zs n P R => zs = [] ∧ (cs_law_parts_1 c A) ds [] n P R) (dCons (dVar 1) (dNil)) dNil)) (dSeq (dPar 4 5 (dCons (dCall (fun ds zs n P R => zs = [] ∧ (cs_law_near_2 c A) ds [] n P R) (dCons (dVar 1) (dCons (dVar 3) (dNil))) dNil) (dCons (dCall (fun ds zs n P R => zs = [] ∧ (cs_law_near_2 c A) ds [] n P R) (dCons (dVar 1) (dCons (dVar 3) (dNil))) dNil) (dNil)))) (dSeq (dFor (dItL (dLst (dCons (dTup (dCons (dVar 3) (dCons (dVar 4) (dNil)))) (dCons (dTup (dCons (dVar 4) (dCons (dVar 3) (dNil)))) (dCons (dTup (dCons (dVar 4) (dCons (dVar 5) (dNil)))) (dCons (dTup (dCons (dVar 3) (dCons (dVar 3) (dNil)))) (dCons (dTup (dCons (dVar 5) (dCons (dVar 3) (dNil)))) (dNil)))))))) (gT 2 (gC (gN 6) (gC (gN 7) (gZ)))) (dIte (dNot (dTB (dCall (fun ds zs n P R => zs = [] ∧ (cs_law_pair_right_2 c A) ds [] n P R) (dCons (dVar 6) (dCons (dVar 7) (dNil))) dNil))) (dRet (dC (.bl false))) (dNext))) (dSeq (dSet 8 (dCall (fun ds zs n P R => zs = [] ∧ (cs_Bucket_Bucket___init___3 c A) ds [] n P R) (dCons (dIx (dVar 3) (dC (.int 0))) (dCons (dIx (dVar 3) (dC (.int 1))) (dCons (dIx (dVar 3) (dC (.int 2))) (dNil)))) dNil)) (dSeq (dSet 9 (dCall (fun ds zs n P R => zs = [] ∧ (cs_law_pick_2 c A) ds [] n P R) (dCons (dVar 1) (dCons (dLst (dCons (dC .non) (dCons (dC (.int 0)) (dCons (dC (.bl true)) (dCons (dC (.str ("2 1 6" : Str))) (dCons (dLst (dNil)) (dCons (dTup (dCons (dC (.int 2)) (dCons (dC (.int 1)) (dCons (dC (.int 6)) (dNil))))) (dCons (dC (.dct [])) (dCons (dVar 3) (dNil)))))))))) (dNil))) dNil)) (dSeq (dOwn 10 (dCons (dLam false (ga_law_heard c A) (dBinE (oOrdA c (tq_own_le_Bucket c A) (tq_ordr_ge_Bucket c A) fun i j => decide (i ≤ j)) (dVar 8) (dVar 9))) (dNil))) (dSeq (dApp 10 (dLam false (ga_law_heard c A) (dBinE (oOrdA c (tq_own_lt_Bucket c A) (tq_ordr_gt_Bucket c A) fun i j => decide (i < j)) (dVar 8) (dVar 9)))) (dSeq (dApp 10 (dLam false (ga_law_heard c A) (dBinE (oOrdA c (tq_own_ge_Bucket c A) (tq_ordr_le_Bucket c A) fun i j => decide (j ≤ i)) (dVar 8) (dVar 9)))) (dSeq (dApp 10 (dLam false (ga_law_heard c A) (dBinE (oOrdA c (tq_own_gt_Bucket c A) (tq_ordr_lt_Bucket c A) fun i j => decide (j < i)) (dVar 8) (dVar 9)))) (dIte (dOr (dTB (dBinE (oNeB c (tq_eq_eq_Bucket c A)) (dVar 10) (dBin oMulA (dLst (dCons (dC (.str ("other" : Str))) (dNil))) (dC (.int 4))))) (dTB (dBinE (oEqA c (tq_eq_eq_Bucket c A)) (dVar 8) (dVar 9)))) (dRet (dC (.bl false))) (dNext)))))))))))) (u_law_1 c A)
theorem dd_law {c : Wd} {A : Ad} (T : Txt c A) (X : Cx) (cf : Fr) (W : WX) (ec : cf.toWd = c) (B : XB X cf W N_law (defScope s_law) 16 false) (at_ : AtF c.K A.f_law ("law" : Str) X.env) : DSs X cf W (List.drop 1 (defBody s_law)) (t_law c A) := by
  subst ec
  have LH := T.lm_law.h at_
  exact (dss_cons (ds_for B (di_range1 B rfl T.no_range (da_cons de_int da_nil)) (dgn B (i := 2)) (dss_cons (dset B (i := 3) (de_call B T.mg_law_parts (ca_law_parts_1 T) (by decide) rfl (da_cons (dv B (i := 1)) da_nil))) (dss_cons (ds_par B (i := 4) (j := 5) rfl rfl (by decide) rfl rfl (da_cons (de_call B T.mg_law_near (ca_law_near_2 T) (by decide) rfl (da_cons (dv B (i := 1)) (da_cons (dv B (i := 3)) da_nil))) (da_cons (de_call B T.mg_law_near (ca_law_near_2 T) (by decide) rfl (da_cons (dv B (i := 1)) (da_cons (dv B (i := 3)) da_nil))) da_nil)) (fun env h => by cases env; cases h; rfl)) (dss_cons (ds_for B (di_list B (de_lst (da_cons (de_tup (da_cons (dv B (i := 3)) (da_cons (dv B (i := 4)) da_nil))) (da_cons (de_tup (da_cons (dv B (i := 4)) (da_cons (dv B (i := 3)) da_nil))) (da_cons (de_tup (da_cons (dv B (i := 4)) (da_cons (dv B (i := 5)) da_nil))) (da_cons (de_tup (da_cons (dv B (i := 3)) (da_cons (dv B (i := 3)) da_nil))) (da_cons (de_tup (da_cons (dv B (i := 5)) (da_cons (dv B (i := 3)) da_nil))) da_nil))))))) (dg_tup B (dgs_cons (dgn B (i := 6)) (dgs_cons (dgn B (i := 7)) dgs_nil))) (dss_one (ds_if (dt_not (dt_val (de_call B T.mg_law_pair_right (ca_law_pair_right_2 T) (by decide) rfl (da_cons (dv B (i := 6)) (da_cons (dv B (i := 7)) da_nil))))) (dss_one (ds_ret de_bl)) dss_nil))) (dss_cons (dset B (i := 8) (de_call B T.mg_c_Bucket (ca_Bucket_Bucket___init___3 T) (by decide) rfl (da_cons (de_ix B (dv B (i := 3)) de_int) (da_cons (de_ix B (dv B (i := 3)) de_int) (da_cons (de_ix B (dv B (i := 3)) de_int) da_nil))))) (dss_cons (dset B (i := 9) (de_call B T.mg_law_pick (ca_law_pick_2 T) (by decide) rfl (da_cons (dv B (i := 1)) (da_cons (de_lst (da_cons de_non (da_cons de_int (da_cons de_bl (da_cons de_str (da_cons (de_lst da_nil) (da_cons (de_tup (da_cons de_int (da_cons de_int (da_cons de_int da_nil)))) (da_cons de_dct0 (da_cons (dv B (i := 3)) da_nil))))))))) da_nil)))) (dss_cons (down B (i := 10) (da_cons (de_lam (ja := 14) B LH T.mg_law_heard (gok_law_heard T) (by decide) rfl (by first | exact ⟨rfl, rfl, rfl, by decide +kernel, by decide +kernel⟩) (fun X' c' W' ec B' => by
  have T : Txt c'.toWd A := by rw [ec]; exact T
  try rw [← ec]
  exact (dcpE (op_leA (j := 5) B' ((ta_own_le_Bucket T).imp fun _ _ h => h.mono (by decide)) ((ta_ordr_ge_Bucket T).imp fun _ _ h => h.mono (by decide)) (by decide)) (dv B' (i := 8)) (dv B' (i := 9))))) da_nil)) (dss_cons (dapp B (i := 10) (de_lam (ja := 14) B LH T.mg_law_heard (gok_law_heard T) (by decide) rfl (by first | exact ⟨rfl, rfl, rfl, by decide +kernel, by decide +kernel⟩) (fun X' c' W' ec B' => by
  have T : Txt c'.toWd A := by rw [ec]; exact T
  try rw [← ec]
  exact (dcpE (op_ltA (j := 6) B' ((ta_own_lt_Bucket T).imp fun _ _ h => h.mono (by decide)) ((ta_ordr_gt_Bucket T).imp fun _ _ h => h.mono (by decide)) (by decide)) (dv B' (i := 8)) (dv B' (i := 9)))))) (dss_cons (dapp B (i := 10) (de_lam (ja := 14) B LH T.mg_law_heard (gok_law_heard T) (by decide) rfl (by first | exact ⟨rfl, rfl, rfl, by decide +kernel, by decide +kernel⟩) (fun X' c' W' ec B' => by
  have T : Txt c'.toWd A := by rw [ec]; exact T
  try rw [← ec]
  exact (dcpE (op_geA (j := 5) B' ((ta_own_ge_Bucket T).imp fun _ _ h => h.mono (by decide)) ((ta_ordr_le_Bucket T).imp fun _ _ h => h.mono (by decide)) (by decide)) (dv B' (i := 8)) (dv B' (i := 9)))))) (dss_cons (dapp B (i := 10) (de_lam (ja := 14) B LH T.mg_law_heard (gok_law_heard T) (by decide) rfl (by first | exact ⟨rfl, rfl, rfl, by decide +kernel, by decide +kernel⟩) (fun X' c' W' ec B' => by
  have T : Txt c'.toWd A := by rw [ec]; exact T
  try rw [← ec]
  exact (dcpE (op_gtA (j := 6) B' ((ta_own_gt_Bucket T).imp fun _ _ h => h.mono (by decide)) ((ta_ordr_lt_Bucket T).imp fun _ _ h => h.mono (by decide)) (by decide)) (dv B' (i := 8)) (dv B' (i := 9)))))) (dss_one (ds_if (dw_or (dtcE (op_neB B (ta_eq_eq_Bucket T) (by decide)) (dv B (i := 10)) (de_bin o_mulA (de_lst (da_cons de_str da_nil)) de_int)) (dw_or1 (dtcE (op_eqA B (ta_eq_eq_Bucket T) (by decide)) (dv B (i := 8)) (dv B (i := 9))))).pt (dss_one (ds_ret de_bl)) dss_nil)))))))))))) (dss_cons (dset B (i := 11) (de_call B T.mg_c_Bucket (ca_Bucket_Bucket___init___3 T) (by decide) rfl (da_cons de_int (da_cons de_int (da_cons de_int da_nil))))) (dss_cons (ds_if (dw_or (dt_not (dtcE (op_leA (j := 5) B ((ta_own_le_Bucket T).imp fun _ _ h => h.mono (by decide)) ((ta_ordr_ge_Bucket T).imp fun _ _ h => h.mono (by decide)) (by decide)) (dv B (i := 11)) (de_call B T.mg_c_Bucket (ca_Bucket_Bucket___init___3 T) (by decide) rfl (da_cons de_int (da_cons de_int (da_cons de_int da_nil)))))) (dw_or1 (dtcE (op_leA (j := 5) B ((ta_own_le_Bucket T).imp fun _ _ h => h.mono (by decide)) ((ta_ordr_ge_Bucket T).imp fun _ _ h => h.mono (by decide)) (by decide)) (dv B (i := 11)) (de_call B T.mg_c_Bucket (ca_Bucket_Bucket___init___3 T) (by decide) rfl (da_cons de_int (da_cons de_int (da_cons de_int da_nil))))))).pt (dss_one (ds_ret de_bl)) dss_nil) (dss_cons (ds_par B (i := 12) (j := 13) rfl rfl (by decide) rfl rfl (da_cons (de_call B T.mg_c_Bucket (ca_Bucket_Bucket___init___3 T) (by decide) rfl (da_cons (de_bin o_pow de_int de_int) (da_cons de_int (da_cons de_int da_nil)))) (da_cons (de_call B T.mg_c_Bucket (ca_Bucket_Bucket___init___3 T) (by decide) rfl (da_cons (de_bin o_sub (de_bin o_pow de_int de_int) de_int) (da_cons de_int (da_cons de_int da_nil)))) da_nil)) (fun env h => by cases env; cases h; rfl)) (dss_one (ds_ret (de_and (dcpE (op_leA (j := 5) B ((ta_own_le_Bucket T).imp fun _ _ h => h.mono (by decide)) ((ta_ordr_ge_Bucket T).imp fun _ _ h => h.mono (by decide)) (by decide)) (dv B (i := 13)) (dv B (i := 12))) (de_and (de_not (dcpE (op_leA (j := 5) B ((ta_own_le_Bucket T).imp fun _ _ h => h.mono (by decide)) ((ta_ordr_ge_Bucket T).imp fun _ _ h => h.mono (by decide)) (by decide)) (dv B (i := 12)) (dv B (i := 13)))) (de_and (dcpE (op_ltA (j := 6) B ((ta_own_lt_Bucket T).imp fun _ _ h => h.mono (by decide)) ((ta_ordr_gt_Bucket T).imp fun _ _ h => h.mono (by decide)) (by decide)) (de_call B T.mg_c_Bucket (ca_Bucket_Bucket___init___3 T) (by decide) rfl (da_cons de_int (da_cons de_int (da_cons de_int da_nil)))) (dv B (i := 12))) (de_one (dcpE (op_gtA (j := 6) B ((ta_own_gt_Bucket T).imp fun _ _ h => h.mono (by decide)) ((ta_ordr_lt_Bucket T).imp fun _ _ h => h.mono (by decide)) (by decide)) (de_call B T.mg_c_Bucket (ca_Bucket_Bucket___init___3 T) (by decide) rfl (da_cons de_int (da_cons de_int (da_cons de_int da_nil)))) (de_call B T.mg_c_Bucket (ca_Bucket_Bucket___init___3 T) (by decide) rfl (da_cons de_int (da_cons de_int (da_cons de_int da_nil)))))))))))))))
theorem isa_NoneType_BadBucket {c : Wd} {A : Ad} (T : Txt c A) {z : Z} {P : D → Z → Prop} {E : Er → Z → Prop} : oIsA c [.non, (.ref A.c_BadBucket)] z P E ↔ P (.bl false) z := isa_bt T.kt_NoneType_BadBucket
theorem isa_bool_BadBucket {c : Wd} {A : Ad} (T : Txt c A) {b : Bool} {z : Z} {P : D → Z → Prop} {E : Er → Z → Prop} : oIsA c [(.bl b), (.ref A.c_BadBucket)] z P E ↔ P (.bl false) z := isa_bt T.kt_bool_BadBucket
theorem isa_int_BadBucket {c : Wd} {A : Ad} (T : Txt c A) {i : Int} {z : Z} {P : D → Z → Prop} {E : Er → Z → Prop} : oIsA c [(.int i), (.ref A.c_BadBucket)] z P E ↔ P (.bl false) z := isa_bt T.kt_int_BadBucket
theorem isa_str_BadBucket {c : Wd} {A : Ad} (T : Txt c A) {s : Str} {z : Z} {P : D → Z → Prop} {E : Er → Z → Prop} : oIsA c [(.str s), (.ref A.c_BadBucket)] z P E ↔ P (.bl false) z := isa_bt T.kt_str_BadBucket
theorem isa_list_BadBucket {c : Wd} {A : Ad} (T : Txt c A) {xs : List D} {z : Z} {P : D → Z → Prop} {E : Er → Z → Prop} : oIsA c [(.lst xs), (.ref A.c_BadBucket)] z P E ↔ P (.bl false) z := isa_bt T.kt_list_BadBucket
theorem isa_tuple_BadBucket {c : Wd} {A : Ad} (T : Txt c A) {xs : List D} {z : Z} {P : D → Z → Prop} {E : Er → Z → Prop} : oIsA c [(.tup xs), (.ref A.c_BadBucket)] z P E ↔ P (.bl false) z := isa_bt T.kt_tuple_BadBucket
theorem isa_dict_BadBucket {c : Wd} {A : Ad} (T : Txt c A) {xs : List (Key × D)} {z : Z} {P : D → Z → Prop} {E : Er → Z → Prop} : oIsA c [(.dct xs), (.ref A.c_BadBucket)] z P E ↔ P (.bl false) z := isa_bt T.kt_dict_BadBucket
theorem isa_c_Bucket_BadBucket {c : Wd} {A : Ad} (T : Txt c A) {fs : List (Str × D)} {z : Z} {P : D → Z → Prop} {E : Er → Z → Prop} : oIsA c [.ins A.c_Bucket fs, (.ref A.c_BadBucket)] z P E ↔ P (.bl false) z := isa_in T.ci_Bucket T.kt_c_Bucket_BadBucket
theorem isa_x_BadBucket_BadBucket {c : Wd} {A : Ad} (T : Txt c A) {fs : List (Str × D)} {z : Z} {P : D → Z → Prop} {E : Er → Z → Prop} : oIsA c [.exc (.ref A.c_BadBucket) fs, (.ref A.c_BadBucket)] z P E ↔ P (.bl true) z := isa_ex T.xc_BadBucket T.kt_c_BadBucket_BadBucket
theorem isa_x_BadNumber_BadBucket {c : Wd} {A : Ad} (T : Txt c A) {fs : List (Str × D)} {z : Z} {P : D → Z → Prop} {E : Er → Z → Prop} : oIsA c [.exc (.ref A.c_BadNumber) fs, (.ref A.c_BadBucket)] z P E ↔ P (.bl false) z := isa_ex T.xc_BadNumber T.kt_c_BadNumber_BadBucket
theorem isa_NoneType_Bucket {c : Wd} {A : Ad} (T : Txt c A) {z : Z} {P : D → Z → Prop} {E : Er → Z → Prop} : oIsA c [.non, (.ref A.c_Bucket)] z P E ↔ P (.bl false) z := isa_bt T.kt_NoneType_Bucket
theorem isa_bool_Bucket {c : Wd} {A : Ad} (T : Txt c A) {b : Bool} {z : Z} {P : D → Z → Prop} {E : Er → Z → Prop} : oIsA c [(.bl b), (.ref A.c_Bucket)] z P E ↔ P (.bl false) z := isa_bt T.kt_bool_Bucket
theorem isa_int_Bucket {c : Wd} {A : Ad} (T : Txt c A) {i : Int} {z : Z} {P : D → Z → Prop} {E : Er → Z → Prop} : oIsA c [(.int i), (.ref A.c_Bucket)] z P E ↔ P (.bl false) z := isa_bt T.kt_int_Bucket
theorem isa_str_Bucket {c : Wd} {A : Ad} (T : Txt c A) {s : Str} {z : Z} {P : D → Z → Prop} {E : Er → Z → Prop} : oIsA c [(.str s), (.ref A.c_Bucket)] z P E ↔ P (.bl false) z := isa_bt T.kt_str_Bucket
theorem isa_list_Bucket {c : Wd} {A : Ad} (T : Txt c A) {xs : List D} {z : Z} {P : D → Z → Prop} {E : Er → Z → Prop} : oIsA c [(.lst xs), (.ref A.c_Bucket)] z P E ↔ P (.bl false) z := isa_bt T.kt_list_Bucket
theorem isa_tuple_Bucket {c : Wd} {A : Ad} (T : Txt c A) {xs : List D} {z : Z} {P : D → Z → Prop} {E : Er → Z → Prop} : oIsA c [(.tup xs), (.ref A.c_Bucket)] z P E ↔ P (.bl false) z := isa_bt T.kt_tuple_Bucket
theorem isa_dict_Bucket {c : Wd} {A : Ad} (T : Txt c A) {xs : List (Key × D)} {z : Z} {P : D → Z → Prop} {E : Er → Z → Prop} : oIsA c [(.dct xs), (.ref A.c_Bucket)] z P E ↔ P (.bl false) z := isa_bt T.kt_dict_Bucket
theorem isa_c_Bucket_Bucket {c : Wd} {A : Ad} (T : Txt c A) {fs : List (Str × D)} {z : Z} {P : D → Z → Prop} {E : Er → Z → Prop} : oIsA c [.ins A.c_Bucket fs, (.ref A.c_Bucket)] z P E ↔ P (.bl true) z := isa_in T.ci_Bucket T.kt_c_Bucket_Bucket
theorem isa_x_BadBucket_Bucket {c : Wd} {A : Ad} (T : Txt c A) {fs : List (Str × D)} {z : Z} {P : D → Z → Prop} {E : Er → Z → Prop} : oIsA c [.exc (.ref A.c_BadBucket) fs, (.ref A.c_Bucket)] z P E ↔ P (.bl false) z := isa_ex T.xc_BadBucket T.kt_c_BadBucket_Bucket
theorem isa_x_BadNumber_Bucket {c : Wd} {A : Ad} (T : Txt c A) {fs : List (Str × D)} {z : Z} {P : D → Z → Prop} {E : Er → Z → Prop} : oIsA c [.exc (.ref A.c_BadNumber) fs, (.ref A.c_Bucket)] z P E ↔ P (.bl false) z := isa_ex T.xc_BadNumber T.kt_c_BadNumber_Bucket
theorem isa_NoneType_bool {c : Wd} {A : Ad} (T : Txt c A) {z : Z} {P : D → Z → Prop} {E : Er → Z → Prop} : oIsA c [.non, (.ty "bool")] z P E ↔ P (.bl false) z := isa_bt T.kt_NoneType_bool
theorem isa_bool_bool {c : Wd} {A : Ad} (T : Txt c A) {b : Bool} {z : Z} {P : D → Z → Prop} {E : Er → Z → Prop} : oIsA c [(.bl b), (.ty "bool")] z P E ↔ P (.bl true) z := isa_bt T.kt_bool_bool
theorem isa_int_bool {c : Wd} {A : Ad} (T : Txt c A) {i : Int} {z : Z} {P : D → Z → Prop} {E : Er → Z → Prop} : oIsA c [(.int i), (.ty "bool")] z P E ↔ P (.bl false) z := isa_bt T.kt_int_bool
theorem isa_str_bool {c : Wd} {A : Ad} (T : Txt c A) {s : Str} {z : Z} {P : D → Z → Prop} {E : Er → Z → Prop} : oIsA c [(.str s), (.ty "bool")] z P E ↔ P (.bl false) z := isa_bt T.kt_str_bool
theorem isa_list_bool {c : Wd} {A : Ad} (T : Txt c A) {xs : List D} {z : Z} {P : D → Z → Prop} {E : Er → Z → Prop} : oIsA c [(.lst xs), (.ty "bool")] z P E ↔ P (.bl false) z := isa_bt T.kt_list_bool
theorem isa_tuple_bool {c : Wd} {A : Ad} (T : Txt c A) {xs : List D} {z : Z} {P : D → Z → Prop} {E : Er → Z → Prop} : oIsA c [(.tup xs), (.ty "bool")] z P E ↔ P (.bl false) z := isa_bt T.kt_tuple_bool
theorem isa_dict_bool {c : Wd} {A : Ad} (T : Txt c A) {xs : List (Key × D)} {z : Z} {P : D → Z → Prop} {E : Er → Z → Prop} : oIsA c [(.dct xs), (.ty "bool")] z P E ↔ P (.bl false) z := isa_bt T.kt_dict_bool
theorem isa_c_Bucket_bool {c : Wd} {A : Ad} (T : Txt c A) {fs : List (Str × D)} {z : Z} {P : D → Z → Prop} {E : Er → Z → Prop} : oIsA c [.ins A.c_Bucket fs, (.ty "bool")] z P E ↔ P (.bl false) z := isa_in T.ci_Bucket T.kt_c_Bucket_bool
theorem isa_x_BadBucket_bool {c : Wd} {A : Ad} (T : Txt c A) {fs : List (Str × D)} {z : Z} {P : D → Z → Prop} {E : Er → Z → Prop} : oIsA c [.exc (.ref A.c_BadBucket) fs, (.ty "bool")] z P E ↔ P (.bl false) z := isa_ex T.xc_BadBucket T.kt_c_BadBucket_bool
theorem isa_x_BadNumber_bool {c : Wd} {A : Ad} (T : Txt c A) {fs : List (Str × D)} {z : Z} {P : D → Z → Prop} {E : Er → Z → Prop} : oIsA c [.exc (.ref A.c_BadNumber) fs, (.ty "bool")] z P E ↔ P (.bl false) z := isa_ex T.xc_BadNumber T.kt_c_BadNumber_bool
theorem isa_NoneType_int {c : Wd} {A : Ad} (T : Txt c A) {z : Z} {P : D → Z → Prop} {E : Er → Z → Prop} : oIsA c [.non, (.ty "int")] z P E ↔ P (.bl false) z := isa_bt T.kt_NoneType_int
theorem isa_bool_int {c : Wd} {A : Ad} (T : Txt c A) {b : Bool} {z : Z} {P : D → Z → Prop} {E : Er → Z → Prop} : oIsA c [(.bl b), (.ty "int")] z P E ↔ P (.bl true) z := isa_bt T.kt_bool_int
theorem isa_int_int {c : Wd} {A : Ad} (T : Txt c A) {i : Int} {z : Z} {P : D → Z → Prop} {E : Er → Z → Prop} : oIsA c [(.int i), (.ty "int")] z P E ↔ P (.bl true) z := isa_bt T.kt_int_int
theorem isa_str_int {c : Wd} {A : Ad} (T : Txt c A) {s : Str} {z : Z} {P : D → Z → Prop} {E : Er → Z → Prop} : oIsA c [(.str s), (.ty "int")] z P E ↔ P (.bl false) z := isa_bt T.kt_str_int
theorem isa_list_int {c : Wd} {A : Ad} (T : Txt c A) {xs : List D} {z : Z} {P : D → Z → Prop} {E : Er → Z → Prop} : oIsA c [(.lst xs), (.ty "int")] z P E ↔ P (.bl false) z := isa_bt T.kt_list_int
theorem isa_tuple_int {c : Wd} {A : Ad} (T : Txt c A) {xs : List D} {z : Z} {P : D → Z → Prop} {E : Er → Z → Prop} : oIsA c [(.tup xs), (.ty "int")] z P E ↔ P (.bl false) z := isa_bt T.kt_tuple_int
theorem isa_dict_int {c : Wd} {A : Ad} (T : Txt c A) {xs : List (Key × D)} {z : Z} {P : D → Z → Prop} {E : Er → Z → Prop} : oIsA c [(.dct xs), (.ty "int")] z P E ↔ P (.bl false) z := isa_bt T.kt_dict_int
theorem isa_c_Bucket_int {c : Wd} {A : Ad} (T : Txt c A) {fs : List (Str × D)} {z : Z} {P : D → Z → Prop} {E : Er → Z → Prop} : oIsA c [.ins A.c_Bucket fs, (.ty "int")] z P E ↔ P (.bl false) z := isa_in T.ci_Bucket T.kt_c_Bucket_int
theorem isa_x_BadBucket_int {c : Wd} {A : Ad} (T : Txt c A) {fs : List (Str × D)} {z : Z} {P : D → Z → Prop} {E : Er → Z → Prop} : oIsA c [.exc (.ref A.c_BadBucket) fs, (.ty "int")] z P E ↔ P (.bl false) z := isa_ex T.xc_BadBucket T.kt_c_BadBucket_int
theorem isa_x_BadNumber_int {c : Wd} {A : Ad} (T : Txt c A) {fs : List (Str × D)} {z : Z} {P : D → Z → Prop} {E : Er → Z → Prop} : oIsA c [.exc (.ref A.c_BadNumber) fs, (.ty "int")] z P E ↔ P (.bl false) z := isa_ex T.xc_BadNumber T.kt_c_BadNumber_int
theorem np_Bucket_NoneType {c : Wd} {A : Ad} (T : Txt c A) : notF c A.c_Bucket .non := T.nf_Bucket_NoneType
theorem np_Bucket_bool {c : Wd} {A : Ad} (T : Txt c A) {b : Bool} : notF c A.c_Bucket (.bl b) := T.nf_Bucket_bool
theorem np_Bucket_int {c : Wd} {A : Ad} (T : Txt c A) {i : Int} : notF c A.c_Bucket (.int i) := T.nf_Bucket_int
theorem np_Bucket_str {c : Wd} {A : Ad} (T : Txt c A) {s : Str} : notF c A.c_Bucket (.str s) := T.nf_Bucket_str
theorem np_Bucket_list {c : Wd} {A : Ad} (T : Txt c A) {xs : List D} : notF c A.c_Bucket (.lst xs) := T.nf_Bucket_list
theorem np_Bucket_tuple {c : Wd} {A : Ad} (T : Txt c A) {xs : List D} : notF c A.c_Bucket (.tup xs) := T.nf_Bucket_tuple
theorem np_Bucket_dict {c : Wd} {A : Ad} (T : Txt c A) {xs : List (Key × D)} : notF c A.c_Bucket (.dct xs) := T.nf_Bucket_dict
theorem np_Bucket_c_Bucket {c : Wd} {A : Ad} (T : Txt c A) {fs : List (Str × D)} : notF c A.c_Bucket (.ins A.c_Bucket fs) := ⟨T.ci_Bucket, T.nf_Bucket_c_Bucket⟩
abbrev o_Bucket (A : Ad) (x0 x1 x2 : D) : D := .ins A.c_Bucket [(("burst" : Str), x0), (("rate" : Str), x1), (("every" : Str), x2)]
theorem lk_Bucket_burst {x0 x1 x2 : D} : List.lookup ("burst" : Str) [(("burst" : Str), x0), (("rate" : Str), x1), (("every" : Str), x2)] = some x0 := rfl
theorem lk_Bucket_rate {x0 x1 x2 : D} : List.lookup ("rate" : Str) [(("burst" : Str), x0), (("rate" : Str), x1), (("every" : Str), x2)] = some x1 := rfl
theorem lk_Bucket_every {x0 x1 x2 : D} : List.lookup ("every" : Str) [(("burst" : Str), x0), (("rate" : Str), x1), (("every" : Str), x2)] = some x2 := rfl
theorem pd_Bucket_burst {x0 : D} : putD ("burst" : Str) x0 [] = [(("burst" : Str), x0)] := rfl
theorem pd_Bucket_rate {x0 x1 : D} : putD ("rate" : Str) x1 [(("burst" : Str), x0)] = [(("burst" : Str), x0), (("rate" : Str), x1)] := rfl
theorem pd_Bucket_every {x0 x1 x2 : D} : putD ("every" : Str) x2 [(("burst" : Str), x0), (("rate" : Str), x1)] = [(("burst" : Str), x0), (("rate" : Str), x1), (("every" : Str), x2)] := rfl
theorem ml_Bucket_earliest {x0 x1 x2 : D} : List.lookup ("earliest" : Str) ([(("burst" : Str), x0), (("rate" : Str), x1), (("every" : Str), x2)] : List (Str × D)) = none := rfl
abbrev xo_BadBucket (A : Ad) (x0 : D) : Er := ⟨.ref A.c_BadBucket, [(("part" : Str), x0)]⟩
theorem lx_BadBucket_part {x0 : D} : List.lookup ("part" : Str) [(("part" : Str), x0)] = some x0 := rfl
abbrev xo_BadNumber (A : Ad) (x0 : D) : Er := ⟨.ref A.c_BadNumber, [(("value" : Str), x0)]⟩
theorem lx_BadNumber_value {x0 : D} : List.lookup ("value" : Str) [(("value" : Str), x0)] = some x0 := rfl
theorem txt {P : Program} {w : World} {K : PySem.W.Frag} {mg : Str → Option Value} {base h : Heap} {p : Addr} {cs : List Int} {f_law f_law_pen f_law_parts f_law_draw f_law_pick f_law_near f_Bucket___eq__ c_Bucket f_law_pair_right f_Bucket___init__ f_is_between f_is_int c_BadBucket f_BadBucket_init f_law_is_below f_Bucket___gt__ f_need_like f_Bucket___lt__ f_Bucket___le__ f_bits_in f_Bucket___ge__ f_Bucket_earliest f_need_number c_BadNumber f_BadNumber_init f_law_heard c_CreditError cc_law pt_law : Addr} (X : K.In h) (G : h.Ns mainGlobals mg)
    {oc_law kV_law dc_law pm_law cd_law ct_law : Value} {od_law an_law : Option Addr} {sl_law : Array (Option Value)}
    {oc_law_pen kV_law_pen dc_law_pen pm_law_pen cd_law_pen ct_law_pen : Value} {od_law_pen an_law_pen : Option Addr} {sl_law_pen : Array (Option Value)}
    {oc_law_parts kV_law_parts dc_law_parts pm_law_parts cd_law_parts ct_law_parts : Value} {od_law_parts an_law_parts : Option Addr} {sl_law_parts : Array (Option Value)}
    {oc_law_draw kV_law_draw dc_law_draw pm_law_draw cd_law_draw ct_law_draw : Value} {od_law_draw an_law_draw : Option Addr} {sl_law_draw : Array (Option Value)}
    {oc_law_pick kV_law_pick dc_law_pick pm_law_pick cd_law_pick ct_law_pick : Value} {od_law_pick an_law_pick : Option Addr} {sl_law_pick : Array (Option Value)}
    {oc_law_near kV_law_near dc_law_near pm_law_near cd_law_near ct_law_near : Value} {od_law_near an_law_near : Option Addr} {sl_law_near : Array (Option Value)}
    {oc_Bucket___eq__ kV_Bucket___eq__ dc_Bucket___eq__ pm_Bucket___eq__ cd_Bucket___eq__ ct_Bucket___eq__ : Value} {od_Bucket___eq__ an_Bucket___eq__ : Option Addr} {sl_Bucket___eq__ : Array (Option Value)}
    {oc_law_pair_right kV_law_pair_right dc_law_pair_right pm_law_pair_right cd_law_pair_right ct_law_pair_right : Value} {od_law_pair_right an_law_pair_right : Option Addr} {sl_law_pair_right : Array (Option Value)}
    {oc_Bucket___init__ kV_Bucket___init__ dc_Bucket___init__ pm_Bucket___init__ cd_Bucket___init__ ct_Bucket___init__ : Value} {od_Bucket___init__ an_Bucket___init__ : Option Addr} {sl_Bucket___init__ : Array (Option Value)}
    {oc_is_between kV_is_between dc_is_between pm_is_between cd_is_between ct_is_between : Value} {od_is_between an_is_between : Option Addr} {sl_is_between : Array (Option Value)}
    {oc_is_int kV_is_int dc_is_int pm_is_int cd_is_int ct_is_int : Value} {od_is_int an_is_int : Option Addr} {sl_is_int : Array (Option Value)}
    {gt_MOST_BITS : Tok}
    {oc_BadBucket_init kV_BadBucket_init dc_BadBucket_init pm_BadBucket_init ct_BadBucket_init : Value} {od_BadBucket_init an_BadBucket_init : Option Addr} {sl_BadBucket_init : Array (Option Value)} {cc_BadBucket_init cf_BadBucket_init : Addr}
    {nm_BadBucket_init : Str} {q_BadBucket_init : Str} {N_BadBucket_init : Addr} {bs_BadBucket_init : List Value} {bm_BadBucket_init : List Value} {sn_BadBucket_init : List Str} {sub_BadBucket_init : List Value} {ab_BadBucket_init : Bool} {col_BadBucket_init : Option Bool} {dd_BadBucket_init : Option Addr} {k0_BadBucket_init : Option Value} {k1_BadBucket_init : Option Value} {k2_BadBucket_init : Option Value} {k3_BadBucket_init : Option Value} {k5_BadBucket_init : Option Value}
    {fc_BadBucket_init : Value} {fd_BadBucket_init : Option Addr} {fv_BadBucket_init : Array Value} {fs_BadBucket_init : Array (Option Value)} {ff_BadBucket_init : Str} {ft_BadBucket_init : Tok} {gc_BadBucket_init : Value} {gd_BadBucket_init : Option Addr} {gs_BadBucket_init : Array (Option Value)}
    {gt_MOST_RATE : Tok}
    {oc_law_is_below kV_law_is_below dc_law_is_below pm_law_is_below cd_law_is_below ct_law_is_below : Value} {od_law_is_below an_law_is_below : Option Addr} {sl_law_is_below : Array (Option Value)}
    {oc_Bucket___gt__ kV_Bucket___gt__ dc_Bucket___gt__ pm_Bucket___gt__ cd_Bucket___gt__ ct_Bucket___gt__ : Value} {od_Bucket___gt__ an_Bucket___gt__ : Option Addr} {sl_Bucket___gt__ : Array (Option Value)}
    {oc_need_like kV_need_like dc_need_like pm_need_like cd_need_like ct_need_like : Value} {od_need_like an_need_like : Option Addr} {sl_need_like : Array (Option Value)}
    {oc_Bucket___lt__ kV_Bucket___lt__ dc_Bucket___lt__ pm_Bucket___lt__ cd_Bucket___lt__ ct_Bucket___lt__ : Value} {od_Bucket___lt__ an_Bucket___lt__ : Option Addr} {sl_Bucket___lt__ : Array (Option Value)}
    {oc_Bucket___le__ kV_Bucket___le__ dc_Bucket___le__ pm_Bucket___le__ cd_Bucket___le__ ct_Bucket___le__ : Value} {od_Bucket___le__ an_Bucket___le__ : Option Addr} {sl_Bucket___le__ : Array (Option Value)}
    {oc_bits_in kV_bits_in dc_bits_in pm_bits_in cd_bits_in ct_bits_in : Value} {od_bits_in an_bits_in : Option Addr} {sl_bits_in : Array (Option Value)}
    {oc_Bucket___ge__ kV_Bucket___ge__ dc_Bucket___ge__ pm_Bucket___ge__ cd_Bucket___ge__ ct_Bucket___ge__ : Value} {od_Bucket___ge__ an_Bucket___ge__ : Option Addr} {sl_Bucket___ge__ : Array (Option Value)}
    {oc_Bucket_earliest kV_Bucket_earliest dc_Bucket_earliest pm_Bucket_earliest cd_Bucket_earliest ct_Bucket_earliest : Value} {od_Bucket_earliest an_Bucket_earliest : Option Addr} {sl_Bucket_earliest : Array (Option Value)}
    {oc_need_number kV_need_number dc_need_number pm_need_number cd_need_number ct_need_number : Value} {od_need_number an_need_number : Option Addr} {sl_need_number : Array (Option Value)}
    {oc_BadNumber_init kV_BadNumber_init dc_BadNumber_init pm_BadNumber_init ct_BadNumber_init : Value} {od_BadNumber_init an_BadNumber_init : Option Addr} {sl_BadNumber_init : Array (Option Value)} {cc_BadNumber_init cf_BadNumber_init : Addr}
    {nm_BadNumber_init : Str} {q_BadNumber_init : Str} {N_BadNumber_init : Addr} {bs_BadNumber_init : List Value} {bm_BadNumber_init : List Value} {sn_BadNumber_init : List Str} {sub_BadNumber_init : List Value} {ab_BadNumber_init : Bool} {col_BadNumber_init : Option Bool} {dd_BadNumber_init : Option Addr} {k0_BadNumber_init : Option Value} {k1_BadNumber_init : Option Value} {k2_BadNumber_init : Option Value} {k3_BadNumber_init : Option Value} {k5_BadNumber_init : Option Value}
    {fc_BadNumber_init : Value} {fd_BadNumber_init : Option Addr} {fv_BadNumber_init : Array Value} {fs_BadNumber_init : Array (Option Value)} {ff_BadNumber_init : Str} {ft_BadNumber_init : Tok} {gc_BadNumber_init : Value} {gd_BadNumber_init : Option Addr} {gs_BadNumber_init : Array (Option Value)}
    {oc_law_heard kV_law_heard dc_law_heard pm_law_heard cd_law_heard ct_law_heard : Value} {od_law_heard an_law_heard : Option Addr} {sl_law_heard : Array (Option Value)}
    {ko_law : Value} {kd_law : Option Addr} {kv_law : Array Value} {ks_law : Array (Option Value)}
    (h_a_law : PySem.W.nsIn K mainGlobals "law" = some (some (.ref f_law)))
    (h_l_law : K.lookup f_law = some ⟨oc_law, od_law, .func (PySem.W.fnOf "law" "law" (defArgs s_law) (defBody s_law) (defScope s_law) .none kV_law dc_law pm_law an_law cd_law ct_law), sl_law⟩)
    (h_c_law : PySem.W.codeIn K cd_law "law" = true)
    (h_k_law : PySem.W.keepIn K (.ref f_law) = true)
    (h_a_law_pen : PySem.W.nsIn K mainGlobals "_law_pen" = some (some (.ref f_law_pen)))
    (h_l_law_pen : K.lookup f_law_pen = some ⟨oc_law_pen, od_law_pen, .func (PySem.W.fnOf "_law_pen" "_law_pen" (defArgs s_law_pen) (defBody s_law_pen) (defScope s_law_pen) .none kV_law_pen dc_law_pen pm_law_pen an_law_pen cd_law_pen ct_law_pen), sl_law_pen⟩)
    (h_c_law_pen : PySem.W.codeIn K cd_law_pen "_law_pen" = true)
    (h_k_law_pen : PySem.W.keepIn K (.ref f_law_pen) = true)
    (h_no_list : PySem.W.nsIn K mainGlobals "list" = some none)
    (h_no_range : PySem.W.nsIn K mainGlobals "range" = some none)
    (h_a_law_parts : PySem.W.nsIn K mainGlobals "_law_parts" = some (some (.ref f_law_parts)))
    (h_l_law_parts : K.lookup f_law_parts = some ⟨oc_law_parts, od_law_parts, .func (PySem.W.fnOf "_law_parts" "_law_parts" (defArgs s_law_parts) (defBody s_law_parts) (defScope s_law_parts) .none kV_law_parts dc_law_parts pm_law_parts an_law_parts cd_law_parts ct_law_parts), sl_law_parts⟩)
    (h_c_law_parts : PySem.W.codeIn K cd_law_parts "_law_parts" = true)
    (h_k_law_parts : PySem.W.keepIn K (.ref f_law_parts) = true)
    (h_a_law_draw : PySem.W.nsIn K mainGlobals "_law_draw" = some (some (.ref f_law_draw)))
    (h_l_law_draw : K.lookup f_law_draw = some ⟨oc_law_draw, od_law_draw, .func (PySem.W.fnOf "_law_draw" "_law_draw" (defArgs s_law_draw) (defBody s_law_draw) (defScope s_law_draw) .none kV_law_draw dc_law_draw pm_law_draw an_law_draw cd_law_draw ct_law_draw), sl_law_draw⟩)
    (h_c_law_draw : PySem.W.codeIn K cd_law_draw "_law_draw" = true)
    (h_k_law_draw : PySem.W.keepIn K (.ref f_law_draw) = true)
    (h_no_int : PySem.W.nsIn K mainGlobals "int" = some none)
    (h_no_len : PySem.W.nsIn K mainGlobals "len" = some none)
    (h_no_abs : PySem.W.nsIn K mainGlobals "abs" = some none)
    (h_a_law_pick : PySem.W.nsIn K mainGlobals "_law_pick" = some (some (.ref f_law_pick)))
    (h_l_law_pick : K.lookup f_law_pick = some ⟨oc_law_pick, od_law_pick, .func (PySem.W.fnOf "_law_pick" "_law_pick" (defArgs s_law_pick) (defBody s_law_pick) (defScope s_law_pick) .none kV_law_pick dc_law_pick pm_law_pick an_law_pick cd_law_pick ct_law_pick), sl_law_pick⟩)
    (h_c_law_pick : PySem.W.codeIn K cd_law_pick "_law_pick" = true)
    (h_k_law_pick : PySem.W.keepIn K (.ref f_law_pick) = true)
    (h_a_law_near : PySem.W.nsIn K mainGlobals "_law_near" = some (some (.ref f_law_near)))
    (h_l_law_near : K.lookup f_law_near = some ⟨oc_law_near, od_law_near, .func (PySem.W.fnOf "_law_near" "_law_near" (defArgs s_law_near) (defBody s_law_near) (defScope s_law_near) .none kV_law_near dc_law_near pm_law_near an_law_near cd_law_near ct_law_near), sl_law_near⟩)
    (h_c_law_near : PySem.W.codeIn K cd_law_near "_law_near" = true)
    (h_k_law_near : PySem.W.keepIn K (.ref f_law_near) = true)
    (h_g_Bucket : PySem.W.nsIn K mainGlobals "Bucket" = some (some (.ref c_Bucket)))
    (h_a_Bucket___eq__ : PySem.W.findIn K (.ref c_Bucket) "__eq__" = some (some (.ref f_Bucket___eq__)))
    (h_i_Bucket___eq__ : PySem.W.isFn K (.ref f_Bucket___eq__) = true)
    (h_l_Bucket___eq__ : K.lookup f_Bucket___eq__ = some ⟨oc_Bucket___eq__, od_Bucket___eq__, .func (PySem.W.fnOf "__eq__" "Bucket.__eq__" (defArgs s_Bucket___eq__) (defBody s_Bucket___eq__) (defScope s_Bucket___eq__) .none kV_Bucket___eq__ dc_Bucket___eq__ pm_Bucket___eq__ an_Bucket___eq__ cd_Bucket___eq__ ct_Bucket___eq__), sl_Bucket___eq__⟩)
    (h_c_Bucket___eq__ : PySem.W.codeIn K cd_Bucket___eq__ "Bucket.__eq__" = true)
    (h_k_Bucket___eq__ : PySem.W.keepIn K (.ref f_Bucket___eq__) = true)
    (h_no_isinstance : PySem.W.nsIn K mainGlobals "isinstance" = some none)
    (h_pg_Bucket : PySem.W.plainGet K c_Bucket Str.empty = true)
    (h_hd_Bucket : PySem.W.hasDictIn K c_Bucket = true)
    (h_po_Bucket : PySem.W.plainOver K c_Bucket = true)
    (h_sa_Bucket : PySem.W.findIn K (.ref c_Bucket) "__setattr__" = some (some (.builtin "object.__setattr__")))
    (h_cg : PySem.W.specialIn K (.builtin "object.__class__") "__get__" = some (some (.builtin "getset_descriptor.__get__")))
    (h_ct : PySem.W.takesIn K (.builtin "object.__class__") = some true)
    (h_cc_Bucket : PySem.W.findIn K (.ref c_Bucket) "__class__" = some (some (.builtin "object.__class__")))
    (h_ob_Bucket : PySem.W.mroIn K c_Bucket (.type "object") = some true)
    (h_ne_Bucket : PySem.W.findIn K (.ref c_Bucket) "__ne__" = some (some (.builtin "object.__ne__")))
    (h_bt_Bucket_NoneType : PySem.W.mroIn K c_Bucket (.type "NoneType") = some false)
    (h_bt_Bucket_bool : PySem.W.mroIn K c_Bucket (.type "bool") = some false)
    (h_bt_Bucket_int : PySem.W.mroIn K c_Bucket (.type "int") = some false)
    (h_bt_Bucket_str : PySem.W.mroIn K c_Bucket (.type "str") = some false)
    (h_bt_Bucket_list : PySem.W.mroIn K c_Bucket (.type "list") = some false)
    (h_bt_Bucket_tuple : PySem.W.mroIn K c_Bucket (.type "tuple") = some false)
    (h_bt_Bucket_dict : PySem.W.mroIn K c_Bucket (.type "dict") = some false)
    (h_nf_Bucket_NoneType : PySem.W.notFirst K c_Bucket (.type "NoneType") = true)
    (h_nf_Bucket_bool : PySem.W.notFirst K c_Bucket (.type "bool") = true)
    (h_nf_Bucket_int : PySem.W.notFirst K c_Bucket (.type "int") = true)
    (h_nf_Bucket_str : PySem.W.notFirst K c_Bucket (.type "str") = true)
    (h_nf_Bucket_list : PySem.W.notFirst K c_Bucket (.type "list") = true)
    (h_nf_Bucket_tuple : PySem.W.notFirst K c_Bucket (.type "tuple") = true)
    (h_nf_Bucket_dict : PySem.W.notFirst K c_Bucket (.type "dict") = true)
    (h_no_max : PySem.W.nsIn K mainGlobals "max" = some none)
    (h_a_law_pair_right : PySem.W.nsIn K mainGlobals "_law_pair_right" = some (some (.ref f_law_pair_right)))
    (h_l_law_pair_right : K.lookup f_law_pair_right = some ⟨oc_law_pair_right, od_law_pair_right, .func (PySem.W.fnOf "_law_pair_right" "_law_pair_right" (defArgs s_law_pair_right) (defBody s_law_pair_right) (defScope s_law_pair_right) .none kV_law_pair_right dc_law_pair_right pm_law_pair_right an_law_pair_right cd_law_pair_right ct_law_pair_right), sl_law_pair_right⟩)
    (h_c_law_pair_right : PySem.W.codeIn K cd_law_pair_right "_law_pair_right" = true)
    (h_k_law_pair_right : PySem.W.keepIn K (.ref f_law_pair_right) = true)
    (h_a_Bucket___init__ : PySem.W.findIn K (.ref c_Bucket) "__init__" = some (some (.ref f_Bucket___init__)))
    (h_i_Bucket___init__ : PySem.W.isFn K (.ref f_Bucket___init__) = true)
    (h_l_Bucket___init__ : K.lookup f_Bucket___init__ = some ⟨oc_Bucket___init__, od_Bucket___init__, .func (PySem.W.fnOf "__init__" "Bucket.__init__" (defArgs s_Bucket___init__) (defBody s_Bucket___init__) (defScope s_Bucket___init__) .none kV_Bucket___init__ dc_Bucket___init__ pm_Bucket___init__ an_Bucket___init__ cd_Bucket___init__ ct_Bucket___init__), sl_Bucket___init__⟩)
    (h_c_Bucket___init__ : PySem.W.codeIn K cd_Bucket___init__ "Bucket.__init__" = true)
    (h_k_Bucket___init__ : PySem.W.keepIn K (.ref f_Bucket___init__) = true)
    (h_a_is_between : PySem.W.nsIn K mainGlobals "is_between" = some (some (.ref f_is_between)))
    (h_l_is_between : K.lookup f_is_between = some ⟨oc_is_between, od_is_between, .func (PySem.W.fnOf "is_between" "is_between" (defArgs s_is_between) (defBody s_is_between) (defScope s_is_between) .none kV_is_between dc_is_between pm_is_between an_is_between cd_is_between ct_is_between), sl_is_between⟩)
    (h_c_is_between : PySem.W.codeIn K cd_is_between "is_between" = true)
    (h_k_is_between : PySem.W.keepIn K (.ref f_is_between) = true)
    (h_a_is_int : PySem.W.nsIn K mainGlobals "is_int" = some (some (.ref f_is_int)))
    (h_l_is_int : K.lookup f_is_int = some ⟨oc_is_int, od_is_int, .func (PySem.W.fnOf "is_int" "is_int" (defArgs s_is_int) (defBody s_is_int) (defScope s_is_int) .none kV_is_int dc_is_int pm_is_int an_is_int cd_is_int ct_is_int), sl_is_int⟩)
    (h_c_is_int : PySem.W.codeIn K cd_is_int "is_int" = true)
    (h_k_is_int : PySem.W.keepIn K (.ref f_is_int) = true)
    (h_no_bool : PySem.W.nsIn K mainGlobals "bool" = some none)
    (h_gv_MOST_BITS : PySem.W.nsIn K mainGlobals "MOST_BITS" = some (some (.int 1000000 gt_MOST_BITS)))
    (h_g_BadBucket : PySem.W.nsIn K mainGlobals "BadBucket" = some (some (.ref c_BadBucket)))
    (h_oc_BadBucket_init : K.lookup c_BadBucket = some (excClassObj nm_BadBucket_init q_BadBucket_init c_BadBucket N_BadBucket_init bs_BadBucket_init bm_BadBucket_init true sn_BadBucket_init sub_BadBucket_init ab_BadBucket_init col_BadBucket_init dd_BadBucket_init k0_BadBucket_init k1_BadBucket_init k2_BadBucket_init k3_BadBucket_init k5_BadBucket_init "ValueError.__new__"))
    (h_rv_BadBucket_init : PySem.HandSPX.refsVE bm_BadBucket_init = true)
    (h_sa_BadBucket : PySem.W.findIn K (.ref c_BadBucket) "__setattr__" = some (some (.builtin "object.__setattr__")))
    (h_bx_BadBucket : PySem.W.subIn K (.ref c_BadBucket) (.type "BaseException") = some true)
    (h_tc_BadBucket : PySem.W.typeIn K (.ref c_BadBucket) = some (.type "type"))
    (h_kc_BadBucket : PySem.W.keepIn K (.ref c_BadBucket) = true)
    (h_a_BadBucket_init : PySem.W.findIn K (.ref c_BadBucket) "__init__" = some (some (.ref f_BadBucket_init)))
    (h_ty_BadBucket_init : PySem.W.typeIn K (.ref f_BadBucket_init) = some (.type "function"))
    (h_nx_BadBucket_part : PySem.W.findIn K (.ref c_BadBucket) "part" = some none)
    (h_l_BadBucket_init : K.lookup f_BadBucket_init = some ⟨oc_BadBucket_init, od_BadBucket_init, .func (PySem.W.fnX "__init__" "BadBucket.__init__" (defArgs s_BadBucket___init__) (defBody s_BadBucket___init__) (defScope s_BadBucket___init__) [(("__class__" : Str), cc_BadBucket_init)] .none kV_BadBucket_init dc_BadBucket_init pm_BadBucket_init an_BadBucket_init (.ref cf_BadBucket_init) ct_BadBucket_init), sl_BadBucket_init⟩)
    (h_c_BadBucket_init : PySem.W.codeIn K (.ref cf_BadBucket_init) "BadBucket.__init__" = true)
    (h_f1_BadBucket_init : K.lookup cf_BadBucket_init = some ⟨fc_BadBucket_init, fd_BadBucket_init, .fields fv_BadBucket_init, fs_BadBucket_init⟩)
    (h_f2_BadBucket_init : fv_BadBucket_init[2]? = some (.str ff_BadBucket_init ft_BadBucket_init))
    (h_f3_BadBucket_init : ((P.main.file : Str) == ff_BadBucket_init) = true)
    (h_ce_BadBucket_init : K.lookup cc_BadBucket_init = some ⟨gc_BadBucket_init, gd_BadBucket_init, .cell (some (.ref c_BadBucket)), gs_BadBucket_init⟩)
    (h_top_super : (P.main.scope.names.lookup ("super" : Str)).isSome = false)
    (h_no_super : PySem.W.nsIn K mainGlobals "super" = some none)
    (h_st_any : PySem.W.nsIn K cStatics "thirdparty.any" = some none)
    (h_su_BadBucket_init : PySem.W.ks_superIn K c_BadBucket c_BadBucket "__init__" = some (some (.builtin veI)))
    (h_sb_BadBucket_init : PySem.W.subIn K (.ref c_BadBucket) (.type "ValueError") = some true)
    (h_me_BadBucket_init : PySem.W.mroIn K c_BadBucket (.ref c_BadBucket) = some true)
    (h_xg_BadBucket : PySem.W.findIn K (.ref c_BadBucket) "__getattribute__" = some (some (.builtin "BaseException.__getattribute__")))
    (h_xa_BadBucket : PySem.W.findIn K (.ref c_BadBucket) "__getattr__" = some none)
    (h_xd_BadBucket : PySem.W.hasDictIn K c_BadBucket = true)
    (h_cc_BadBucket : PySem.W.findIn K (.ref c_BadBucket) "__class__" = some (some (.builtin "object.__class__")))
    (h_ob_BadBucket : PySem.W.mroIn K c_BadBucket (.type "object") = some true)
    (h_gv_MOST_RATE : PySem.W.nsIn K mainGlobals "MOST_RATE" = some (some (.int 1000 gt_MOST_RATE)))
    (h_na_Bucket_burst : PySem.W.findIn K (.ref c_Bucket) "burst" = some none)
    (h_na_Bucket_rate : PySem.W.findIn K (.ref c_Bucket) "rate" = some none)
    (h_na_Bucket_every : PySem.W.findIn K (.ref c_Bucket) "every" = some none)
    (h_mk_Bucket : PySem.W.makesIn K c_Bucket = true)
    (h_kc_Bucket : PySem.W.keepIn K (.ref c_Bucket) = true)
    (h_a_law_is_below : PySem.W.nsIn K mainGlobals "_law_is_below" = some (some (.ref f_law_is_below)))
    (h_l_law_is_below : K.lookup f_law_is_below = some ⟨oc_law_is_below, od_law_is_below, .func (PySem.W.fnOf "_law_is_below" "_law_is_below" (defArgs s_law_is_below) (defBody s_law_is_below) (defScope s_law_is_below) .none kV_law_is_below dc_law_is_below pm_law_is_below an_law_is_below cd_law_is_below ct_law_is_below), sl_law_is_below⟩)
    (h_c_law_is_below : PySem.W.codeIn K cd_law_is_below "_law_is_below" = true)
    (h_k_law_is_below : PySem.W.keepIn K (.ref f_law_is_below) = true)
    (h_a_Bucket___gt__ : PySem.W.findIn K (.ref c_Bucket) "__gt__" = some (some (.ref f_Bucket___gt__)))
    (h_i_Bucket___gt__ : PySem.W.isFn K (.ref f_Bucket___gt__) = true)
    (h_l_Bucket___gt__ : K.lookup f_Bucket___gt__ = some ⟨oc_Bucket___gt__, od_Bucket___gt__, .func (PySem.W.fnOf "__gt__" "Bucket.__gt__" (defArgs s_Bucket___gt__) (defBody s_Bucket___gt__) (defScope s_Bucket___gt__) .none kV_Bucket___gt__ dc_Bucket___gt__ pm_Bucket___gt__ an_Bucket___gt__ cd_Bucket___gt__ ct_Bucket___gt__), sl_Bucket___gt__⟩)
    (h_c_Bucket___gt__ : PySem.W.codeIn K cd_Bucket___gt__ "Bucket.__gt__" = true)
    (h_k_Bucket___gt__ : PySem.W.keepIn K (.ref f_Bucket___gt__) = true)
    (h_a_need_like : PySem.W.nsIn K mainGlobals "need_like" = some (some (.ref f_need_like)))
    (h_l_need_like : K.lookup f_need_like = some ⟨oc_need_like, od_need_like, .func (PySem.W.fnOf "need_like" "need_like" (defArgs s_need_like) (defBody s_need_like) (defScope s_need_like) .none kV_need_like dc_need_like pm_need_like an_need_like cd_need_like ct_need_like), sl_need_like⟩)
    (h_c_need_like : PySem.W.codeIn K cd_need_like "need_like" = true)
    (h_k_need_like : PySem.W.keepIn K (.ref f_need_like) = true)
    (h_a_Bucket___lt__ : PySem.W.findIn K (.ref c_Bucket) "__lt__" = some (some (.ref f_Bucket___lt__)))
    (h_i_Bucket___lt__ : PySem.W.isFn K (.ref f_Bucket___lt__) = true)
    (h_l_Bucket___lt__ : K.lookup f_Bucket___lt__ = some ⟨oc_Bucket___lt__, od_Bucket___lt__, .func (PySem.W.fnOf "__lt__" "Bucket.__lt__" (defArgs s_Bucket___lt__) (defBody s_Bucket___lt__) (defScope s_Bucket___lt__) .none kV_Bucket___lt__ dc_Bucket___lt__ pm_Bucket___lt__ an_Bucket___lt__ cd_Bucket___lt__ ct_Bucket___lt__), sl_Bucket___lt__⟩)
    (h_c_Bucket___lt__ : PySem.W.codeIn K cd_Bucket___lt__ "Bucket.__lt__" = true)
    (h_k_Bucket___lt__ : PySem.W.keepIn K (.ref f_Bucket___lt__) = true)
    (h_a_Bucket___le__ : PySem.W.findIn K (.ref c_Bucket) "__le__" = some (some (.ref f_Bucket___le__)))
    (h_i_Bucket___le__ : PySem.W.isFn K (.ref f_Bucket___le__) = true)
    (h_l_Bucket___le__ : K.lookup f_Bucket___le__ = some ⟨oc_Bucket___le__, od_Bucket___le__, .func (PySem.W.fnOf "__le__" "Bucket.__le__" (defArgs s_Bucket___le__) (defBody s_Bucket___le__) (defScope s_Bucket___le__) .none kV_Bucket___le__ dc_Bucket___le__ pm_Bucket___le__ an_Bucket___le__ cd_Bucket___le__ ct_Bucket___le__), sl_Bucket___le__⟩)
    (h_c_Bucket___le__ : PySem.W.codeIn K cd_Bucket___le__ "Bucket.__le__" = true)
    (h_k_Bucket___le__ : PySem.W.keepIn K (.ref f_Bucket___le__) = true)
    (h_mo_gcd : PySem.W.nsIn K mainGlobals "gcd" = some (some (.builtin "math.gcd")))
    (h_a_bits_in : PySem.W.nsIn K mainGlobals "bits_in" = some (some (.ref f_bits_in)))
    (h_l_bits_in : K.lookup f_bits_in = some ⟨oc_bits_in, od_bits_in, .func (PySem.W.fnOf "bits_in" "bits_in" (defArgs s_bits_in) (defBody s_bits_in) (defScope s_bits_in) .none kV_bits_in dc_bits_in pm_bits_in an_bits_in cd_bits_in ct_bits_in), sl_bits_in⟩)
    (h_c_bits_in : PySem.W.codeIn K cd_bits_in "bits_in" = true)
    (h_k_bits_in : PySem.W.keepIn K (.ref f_bits_in) = true)
    (h_no_all : PySem.W.nsIn K mainGlobals "all" = some none)
    (h_a_Bucket___ge__ : PySem.W.findIn K (.ref c_Bucket) "__ge__" = some (some (.ref f_Bucket___ge__)))
    (h_i_Bucket___ge__ : PySem.W.isFn K (.ref f_Bucket___ge__) = true)
    (h_l_Bucket___ge__ : K.lookup f_Bucket___ge__ = some ⟨oc_Bucket___ge__, od_Bucket___ge__, .func (PySem.W.fnOf "__ge__" "Bucket.__ge__" (defArgs s_Bucket___ge__) (defBody s_Bucket___ge__) (defScope s_Bucket___ge__) .none kV_Bucket___ge__ dc_Bucket___ge__ pm_Bucket___ge__ an_Bucket___ge__ cd_Bucket___ge__ ct_Bucket___ge__), sl_Bucket___ge__⟩)
    (h_c_Bucket___ge__ : PySem.W.codeIn K cd_Bucket___ge__ "Bucket.__ge__" = true)
    (h_k_Bucket___ge__ : PySem.W.keepIn K (.ref f_Bucket___ge__) = true)
    (h_no_repr : PySem.W.nsIn K mainGlobals "repr" = some none)
    (h_a_Bucket_earliest : PySem.W.findIn K (.ref c_Bucket) "earliest" = some (some (.ref f_Bucket_earliest)))
    (h_i_Bucket_earliest : PySem.W.isFn K (.ref f_Bucket_earliest) = true)
    (h_l_Bucket_earliest : K.lookup f_Bucket_earliest = some ⟨oc_Bucket_earliest, od_Bucket_earliest, .func (PySem.W.fnOf "earliest" "Bucket.earliest" (defArgs s_Bucket_earliest) (defBody s_Bucket_earliest) (defScope s_Bucket_earliest) .none kV_Bucket_earliest dc_Bucket_earliest pm_Bucket_earliest an_Bucket_earliest cd_Bucket_earliest ct_Bucket_earliest), sl_Bucket_earliest⟩)
    (h_c_Bucket_earliest : PySem.W.codeIn K cd_Bucket_earliest "Bucket.earliest" = true)
    (h_k_Bucket_earliest : PySem.W.keepIn K (.ref f_Bucket_earliest) = true)
    (h_a_need_number : PySem.W.nsIn K mainGlobals "need_number" = some (some (.ref f_need_number)))
    (h_l_need_number : K.lookup f_need_number = some ⟨oc_need_number, od_need_number, .func (PySem.W.fnOf "need_number" "need_number" (defArgs s_need_number) (defBody s_need_number) (defScope s_need_number) .none kV_need_number dc_need_number pm_need_number an_need_number cd_need_number ct_need_number), sl_need_number⟩)
    (h_c_need_number : PySem.W.codeIn K cd_need_number "need_number" = true)
    (h_k_need_number : PySem.W.keepIn K (.ref f_need_number) = true)
    (h_g_BadNumber : PySem.W.nsIn K mainGlobals "BadNumber" = some (some (.ref c_BadNumber)))
    (h_oc_BadNumber_init : K.lookup c_BadNumber = some (excClassObj nm_BadNumber_init q_BadNumber_init c_BadNumber N_BadNumber_init bs_BadNumber_init bm_BadNumber_init true sn_BadNumber_init sub_BadNumber_init ab_BadNumber_init col_BadNumber_init dd_BadNumber_init k0_BadNumber_init k1_BadNumber_init k2_BadNumber_init k3_BadNumber_init k5_BadNumber_init "ValueError.__new__"))
    (h_rv_BadNumber_init : PySem.HandSPX.refsVE bm_BadNumber_init = true)
    (h_sa_BadNumber : PySem.W.findIn K (.ref c_BadNumber) "__setattr__" = some (some (.builtin "object.__setattr__")))
    (h_bx_BadNumber : PySem.W.subIn K (.ref c_BadNumber) (.type "BaseException") = some true)
    (h_tc_BadNumber : PySem.W.typeIn K (.ref c_BadNumber) = some (.type "type"))
    (h_kc_BadNumber : PySem.W.keepIn K (.ref c_BadNumber) = true)
    (h_a_BadNumber_init : PySem.W.findIn K (.ref c_BadNumber) "__init__" = some (some (.ref f_BadNumber_init)))
    (h_ty_BadNumber_init : PySem.W.typeIn K (.ref f_BadNumber_init) = some (.type "function"))
    (h_nx_BadNumber_value : PySem.W.findIn K (.ref c_BadNumber) "value" = some none)
    (h_l_BadNumber_init : K.lookup f_BadNumber_init = some ⟨oc_BadNumber_init, od_BadNumber_init, .func (PySem.W.fnX "__init__" "BadNumber.__init__" (defArgs s_BadNumber___init__) (defBody s_BadNumber___init__) (defScope s_BadNumber___init__) [(("__class__" : Str), cc_BadNumber_init)] .none kV_BadNumber_init dc_BadNumber_init pm_BadNumber_init an_BadNumber_init (.ref cf_BadNumber_init) ct_BadNumber_init), sl_BadNumber_init⟩)
    (h_c_BadNumber_init : PySem.W.codeIn K (.ref cf_BadNumber_init) "BadNumber.__init__" = true)
    (h_f1_BadNumber_init : K.lookup cf_BadNumber_init = some ⟨fc_BadNumber_init, fd_BadNumber_init, .fields fv_BadNumber_init, fs_BadNumber_init⟩)
    (h_f2_BadNumber_init : fv_BadNumber_init[2]? = some (.str ff_BadNumber_init ft_BadNumber_init))
    (h_f3_BadNumber_init : ((P.main.file : Str) == ff_BadNumber_init) = true)
    (h_ce_BadNumber_init : K.lookup cc_BadNumber_init = some ⟨gc_BadNumber_init, gd_BadNumber_init, .cell (some (.ref c_BadNumber)), gs_BadNumber_init⟩)
    (h_su_BadNumber_init : PySem.W.ks_superIn K c_BadNumber c_BadNumber "__init__" = some (some (.builtin veI)))
    (h_sb_BadNumber_init : PySem.W.subIn K (.ref c_BadNumber) (.type "ValueError") = some true)
    (h_me_BadNumber_init : PySem.W.mroIn K c_BadNumber (.ref c_BadNumber) = some true)
    (h_xg_BadNumber : PySem.W.findIn K (.ref c_BadNumber) "__getattribute__" = some (some (.builtin "BaseException.__getattribute__")))
    (h_xa_BadNumber : PySem.W.findIn K (.ref c_BadNumber) "__getattr__" = some none)
    (h_xd_BadNumber : PySem.W.hasDictIn K c_BadNumber = true)
    (h_cc_BadNumber : PySem.W.findIn K (.ref c_BadNumber) "__class__" = some (some (.builtin "object.__class__")))
    (h_ob_BadNumber : PySem.W.mroIn K c_BadNumber (.type "object") = some true)
    (h_a_law_heard : PySem.W.nsIn K mainGlobals "_law_heard" = some (some (.ref f_law_heard)))
    (h_l_law_heard : K.lookup f_law_heard = some ⟨oc_law_heard, od_law_heard, .func (PySem.W.fnOf "_law_heard" "_law_heard" (defArgs s_law_heard) (defBody s_law_heard) (defScope s_law_heard) .none kV_law_heard dc_law_heard pm_law_heard an_law_heard cd_law_heard ct_law_heard), sl_law_heard⟩)
    (h_c_law_heard : PySem.W.codeIn K cd_law_heard "_law_heard" = true)
    (h_k_law_heard : PySem.W.keepIn K (.ref f_law_heard) = true)
    (h_g_CreditError : PySem.W.nsIn K mainGlobals "CreditError" = some (some (.ref c_CreditError)))
    (h_ld_law : (PySem.W.fnOf "law" "law" (defArgs s_law) (defBody s_law) (defScope s_law) .none kV_law dc_law pm_law an_law cd_law ct_law).code = .ref cc_law)
    (h_lc_law : K.lookup cc_law = some ⟨ko_law, kd_law, .fields kv_law, ks_law⟩)
    (h_lp_law : kv_law[11]? = some (.ref pt_law))
    (h_lt_law : PySem.W.tabIn K "law" = some (cc_law, pt_law))
    (h_ln_law : K.lookup pt_law = none)
    (h_kt_NoneType_BadBucket : PySem.W.kitOne K (.type "NoneType") (.ref c_BadBucket) = some false)
    (h_kt_bool_BadBucket : PySem.W.kitOne K (.type "bool") (.ref c_BadBucket) = some false)
    (h_kt_int_BadBucket : PySem.W.kitOne K (.type "int") (.ref c_BadBucket) = some false)
    (h_kt_str_BadBucket : PySem.W.kitOne K (.type "str") (.ref c_BadBucket) = some false)
    (h_kt_list_BadBucket : PySem.W.kitOne K (.type "list") (.ref c_BadBucket) = some false)
    (h_kt_tuple_BadBucket : PySem.W.kitOne K (.type "tuple") (.ref c_BadBucket) = some false)
    (h_kt_dict_BadBucket : PySem.W.kitOne K (.type "dict") (.ref c_BadBucket) = some false)
    (h_kt_c_Bucket_BadBucket : PySem.W.kitOne K (.ref c_Bucket) (.ref c_BadBucket) = some false)
    (h_kt_c_BadBucket_BadBucket : PySem.W.kitOne K (.ref c_BadBucket) (.ref c_BadBucket) = some true)
    (h_kt_c_BadNumber_BadBucket : PySem.W.kitOne K (.ref c_BadNumber) (.ref c_BadBucket) = some false)
    (h_kt_NoneType_Bucket : PySem.W.kitOne K (.type "NoneType") (.ref c_Bucket) = some false)
    (h_kt_bool_Bucket : PySem.W.kitOne K (.type "bool") (.ref c_Bucket) = some false)
    (h_kt_int_Bucket : PySem.W.kitOne K (.type "int") (.ref c_Bucket) = some false)
    (h_kt_str_Bucket : PySem.W.kitOne K (.type "str") (.ref c_Bucket) = some false)
    (h_kt_list_Bucket : PySem.W.kitOne K (.type "list") (.ref c_Bucket) = some false)
    (h_kt_tuple_Bucket : PySem.W.kitOne K (.type "tuple") (.ref c_Bucket) = some false)
    (h_kt_dict_Bucket : PySem.W.kitOne K (.type "dict") (.ref c_Bucket) = some false)
    (h_kt_c_Bucket_Bucket : PySem.W.kitOne K (.ref c_Bucket) (.ref c_Bucket) = some true)
    (h_kt_c_BadBucket_Bucket : PySem.W.kitOne K (.ref c_BadBucket) (.ref c_Bucket) = some false)
    (h_kt_c_BadNumber_Bucket : PySem.W.kitOne K (.ref c_BadNumber) (.ref c_Bucket) = some false)
    (h_kt_NoneType_bool : PySem.W.kitOne K (.type "NoneType") (.type "bool") = some false)
    (h_kt_bool_bool : PySem.W.kitOne K (.type "bool") (.type "bool") = some true)
    (h_kt_int_bool : PySem.W.kitOne K (.type "int") (.type "bool") = some false)
    (h_kt_str_bool : PySem.W.kitOne K (.type "str") (.type "bool") = some false)
    (h_kt_list_bool : PySem.W.kitOne K (.type "list") (.type "bool") = some false)
    (h_kt_tuple_bool : PySem.W.kitOne K (.type "tuple") (.type "bool") = some false)
    (h_kt_dict_bool : PySem.W.kitOne K (.type "dict") (.type "bool") = some false)
    (h_kt_c_Bucket_bool : PySem.W.kitOne K (.ref c_Bucket) (.type "bool") = some false)
    (h_kt_c_BadBucket_bool : PySem.W.kitOne K (.ref c_BadBucket) (.type "bool") = some false)
    (h_kt_c_BadNumber_bool : PySem.W.kitOne K (.ref c_BadNumber) (.type "bool") = some false)
    (h_kt_NoneType_int : PySem.W.kitOne K (.type "NoneType") (.type "int") = some false)
    (h_kt_bool_int : PySem.W.kitOne K (.type "bool") (.type "int") = some true)
    (h_kt_int_int : PySem.W.kitOne K (.type "int") (.type "int") = some true)
    (h_kt_str_int : PySem.W.kitOne K (.type "str") (.type "int") = some false)
    (h_kt_list_int : PySem.W.kitOne K (.type "list") (.type "int") = some false)
    (h_kt_tuple_int : PySem.W.kitOne K (.type "tuple") (.type "int") = some false)
    (h_kt_dict_int : PySem.W.kitOne K (.type "dict") (.type "int") = some false)
    (h_kt_c_Bucket_int : PySem.W.kitOne K (.ref c_Bucket) (.type "int") = some false)
    (h_kt_c_BadBucket_int : PySem.W.kitOne K (.ref c_BadBucket) (.type "int") = some false)
    (h_kt_c_BadNumber_int : PySem.W.kitOne K (.ref c_BadNumber) (.type "int") = some false)
    (h_em_BadBucket_CreditError : PySem.W.exmOne K (.ref c_BadBucket) (.ref c_CreditError) = some true)
    (h_em_BadNumber_CreditError : PySem.W.exmOne K (.ref c_BadNumber) (.ref c_CreditError) = some true)
    (h_nf_Bucket_c_Bucket : PySem.W.notFirst K c_Bucket (.ref c_Bucket) = true)
    (hnd : (([(cc_law, pt_law, ("law" : Str) ++ ".<locals>." ++ "<lambda>")] : List Tb).map fun t => t.2.1).Nodup) (HT : ∀ t ∈ ([(cc_law, pt_law, ("law" : Str) ++ ".<locals>." ++ "<lambda>")] : List Tb), LamX.TabB base mg t.1 t.2.1) :
    Txt (lawWd P w K mg base p cs (tbs [(cc_law, pt_law, ("law" : Str) ++ ".<locals>." ++ "<lambda>")])) ⟨f_law, f_law_pen, f_law_parts, f_law_draw, f_law_pick, f_law_near, f_Bucket___eq__, c_Bucket, f_law_pair_right, f_Bucket___init__, f_is_between, f_is_int, c_BadBucket, f_BadBucket_init, f_law_is_below, f_Bucket___gt__, f_need_like, f_Bucket___lt__, f_Bucket___le__, f_bits_in, f_Bucket___ge__, f_Bucket_earliest, f_need_number, c_BadNumber, f_BadNumber_init, f_law_heard, c_CreditError, cc_law, pt_law⟩ := by
  refine ⟨?_, ?_, ?_, ?_, ?_, ?_, ?_, ?_, ?_, ?_, ?_, ?_, ?_, ?_, ?_, ?_, ?_, ?_, ?_, ?_, ?_, ?_, ?_, ?_, ?_, ?_, ?_, ?_, ?_, ?_, ?_, ?_, ?_, ?_, ?_, ?_, ?_, ?_, ?_, ?_, ?_, ?_, ?_, ?_, ?_, ?_, ?_, ?_, ?_, ?_, ?_, ?_, ?_, ?_, ?_, ?_, ?_, ?_, ?_, ?_, ?_, ?_, ?_, ?_, ?_, ?_, ?_, ?_, ?_, ?_, ?_, ?_, ?_, ?_, ?_, ?_, ?_, ?_, ?_, ?_, ?_, ?_, ?_, ?_, ?_, ?_, ?_, ?_, ?_, ?_, ?_, ?_, ?_, ?_, ?_, ?_, ?_, ?_, ?_, ?_, ?_, ?_, ?_, ?_, ?_, ?_, ?_, ?_, ?_, ?_, ?_, ?_, ?_, ?_, ?_, ?_, ?_, ?_, ?_, ?_, ?_, ?_, ?_, ?_, ?_, ?_, ?_, ?_, ?_, ?_, ?_, ?_, ?_, ?_⟩
  · exact PySem.W.mg_of X G h_a_law
  · exact ⟨_, fund0 h_l_law h_c_law h_k_law⟩
  · exact PySem.W.mg_of X G h_a_law_pen
  · exact ⟨_, fund0 h_l_law_pen h_c_law_pen h_k_law_pen⟩
  · exact PySem.W.mg_none_of X G h_no_list
  · exact PySem.W.mg_none_of X G h_no_range
  · exact PySem.W.mg_of X G h_a_law_parts
  · exact ⟨_, fund0 h_l_law_parts h_c_law_parts h_k_law_parts⟩
  · exact PySem.W.mg_of X G h_a_law_draw
  · exact ⟨_, fund0 h_l_law_draw h_c_law_draw h_k_law_draw⟩
  · exact PySem.W.mg_none_of X G h_no_int
  · exact PySem.W.mg_none_of X G h_no_len
  · exact PySem.W.mg_none_of X G h_no_abs
  · exact PySem.W.mg_of X G h_a_law_pick
  · exact ⟨_, fund0 h_l_law_pick h_c_law_pick h_k_law_pick⟩
  · exact PySem.W.mg_of X G h_a_law_near
  · exact ⟨_, fund0 h_l_law_near h_c_law_near h_k_law_near⟩
  · exact PySem.W.mg_of X G h_g_Bucket
  · exact h_a_Bucket___eq__
  · exact h_i_Bucket___eq__
  · exact ⟨_, fund0 h_l_Bucket___eq__ h_c_Bucket___eq__ h_k_Bucket___eq__⟩
  · exact PySem.W.mg_none_of X G h_no_isinstance
  · exact ⟨h_pg_Bucket, h_hd_Bucket, h_po_Bucket, h_sa_Bucket⟩
  · exact ⟨⟨h_pg_Bucket, h_hd_Bucket, h_po_Bucket, h_sa_Bucket⟩, h_cc_Bucket, h_cg, h_ct, h_ob_Bucket⟩
  · exact ⟨h_ne_Bucket, h_ob_Bucket⟩
  · refine ⟨fun T hT => ?_⟩
    simp only [List.mem_cons, List.not_mem_nil, or_false] at hT
    rcases hT with rfl | rfl | rfl | rfl | rfl | rfl | rfl
    · exact h_bt_Bucket_NoneType
    · exact h_bt_Bucket_bool
    · exact h_bt_Bucket_int
    · exact h_bt_Bucket_str
    · exact h_bt_Bucket_list
    · exact h_bt_Bucket_tuple
    · exact h_bt_Bucket_dict
  · exact h_nf_Bucket_NoneType
  · exact h_nf_Bucket_bool
  · exact h_nf_Bucket_int
  · exact h_nf_Bucket_str
  · exact h_nf_Bucket_list
  · exact h_nf_Bucket_tuple
  · exact h_nf_Bucket_dict
  · exact PySem.W.mg_none_of X G h_no_max
  · exact PySem.W.mg_of X G h_a_law_pair_right
  · exact ⟨_, fund0 h_l_law_pair_right h_c_law_pair_right h_k_law_pair_right⟩
  · exact h_a_Bucket___init__
  · exact h_i_Bucket___init__
  · exact ⟨_, fund0 h_l_Bucket___init__ h_c_Bucket___init__ h_k_Bucket___init__⟩
  · exact PySem.W.mg_of X G h_a_is_between
  · exact ⟨_, fund0 h_l_is_between h_c_is_between h_k_is_between⟩
  · exact PySem.W.mg_of X G h_a_is_int
  · exact ⟨_, fund0 h_l_is_int h_c_is_int h_k_is_int⟩
  · exact PySem.W.mg_none_of X G h_no_bool
  · exact ⟨_, PySem.W.mg_of X G h_gv_MOST_BITS⟩
  · exact PySem.W.mg_of X G h_g_BadBucket
  · exact h_nx_BadBucket_part
  · exact PySem.W.mg_none_of X G h_no_super
  · exact ⟨⟨cc_BadBucket_init, cf_BadBucket_init, _, ⟨rfl, ⟨_, _, _, _, _, _, _, _, _, rfl, h_l_BadBucket_init⟩, h_c_BadBucket_init, ⟨_, _, _, _, _, _, h_f1_BadBucket_init, h_f2_BadBucket_init, h_f3_BadBucket_init⟩, ⟨_, _, _, h_ce_BadBucket_init⟩, h_top_super, PySem.W.mg_none_of X G h_no_super, h_st_any, h_su_BadBucket_init, h_sb_BadBucket_init, h_me_BadBucket_init, rfl, rfl, ⟨_, rfl, rfl⟩⟩, kbn_x fun us hl => match us, hl with | [_, _], _ => rfl⟩, h_a_BadBucket_init, h_ty_BadBucket_init, ⟨⟨_, _, _, _, _, _, _, _, _, _, _, _, _, _, _, h_oc_BadBucket_init, h_rv_BadBucket_init⟩, h_sa_BadBucket, h_bx_BadBucket, h_tc_BadBucket, h_kc_BadBucket⟩⟩
  · exact ⟨h_xg_BadBucket, h_xa_BadBucket, h_bx_BadBucket, h_xd_BadBucket, h_cc_BadBucket, h_cg, h_ct, h_ob_BadBucket⟩
  · exact ⟨⟨h_xg_BadBucket, h_xa_BadBucket, h_bx_BadBucket, h_xd_BadBucket, h_cc_BadBucket, h_cg, h_ct, h_ob_BadBucket⟩, h_nx_BadBucket_part⟩
  · exact ⟨_, PySem.W.mg_of X G h_gv_MOST_RATE⟩
  · exact ⟨⟨h_pg_Bucket, h_hd_Bucket, h_po_Bucket, h_sa_Bucket⟩, h_na_Bucket_burst⟩
  · exact ⟨⟨h_pg_Bucket, h_hd_Bucket, h_po_Bucket, h_sa_Bucket⟩, h_na_Bucket_rate⟩
  · exact ⟨⟨h_pg_Bucket, h_hd_Bucket, h_po_Bucket, h_sa_Bucket⟩, h_na_Bucket_every⟩
  · exact ⟨h_mk_Bucket, h_a_Bucket___init__, h_i_Bucket___init__, h_kc_Bucket⟩
  · exact PySem.W.mg_of X G h_a_law_is_below
  · exact ⟨_, fund0 h_l_law_is_below h_c_law_is_below h_k_law_is_below⟩
  · exact h_a_Bucket___gt__
  · exact h_i_Bucket___gt__
  · exact ⟨_, fund0 h_l_Bucket___gt__ h_c_Bucket___gt__ h_k_Bucket___gt__⟩
  · exact PySem.W.mg_of X G h_a_need_like
  · exact ⟨_, fund0 h_l_need_like h_c_need_like h_k_need_like⟩
  · exact h_a_Bucket___lt__
  · exact h_i_Bucket___lt__
  · exact ⟨_, fund0 h_l_Bucket___lt__ h_c_Bucket___lt__ h_k_Bucket___lt__⟩
  · exact h_a_Bucket___le__
  · exact h_i_Bucket___le__
  · exact ⟨_, fund0 h_l_Bucket___le__ h_c_Bucket___le__ h_k_Bucket___le__⟩
  · exact PySem.W.mg_of X G h_mo_gcd
  · exact PySem.W.mg_of X G h_a_bits_in
  · exact ⟨_, fund0 h_l_bits_in h_c_bits_in h_k_bits_in⟩
  · exact PySem.W.mg_none_of X G h_no_all
  · exact h_a_Bucket___ge__
  · exact h_i_Bucket___ge__
  · exact ⟨_, fund0 h_l_Bucket___ge__ h_c_Bucket___ge__ h_k_Bucket___ge__⟩
  · exact PySem.W.mg_none_of X G h_no_repr
  · exact h_a_Bucket_earliest
  · exact h_i_Bucket_earliest
  · exact ⟨_, fund0 h_l_Bucket_earliest h_c_Bucket_earliest h_k_Bucket_earliest⟩
  · exact PySem.W.mg_of X G h_a_need_number
  · exact ⟨_, fund0 h_l_need_number h_c_need_number h_k_need_number⟩
  · exact PySem.W.mg_of X G h_g_BadNumber
  · exact h_nx_BadNumber_value
  · exact ⟨⟨cc_BadNumber_init, cf_BadNumber_init, _, ⟨rfl, ⟨_, _, _, _, _, _, _, _, _, rfl, h_l_BadNumber_init⟩, h_c_BadNumber_init, ⟨_, _, _, _, _, _, h_f1_BadNumber_init, h_f2_BadNumber_init, h_f3_BadNumber_init⟩, ⟨_, _, _, h_ce_BadNumber_init⟩, h_top_super, PySem.W.mg_none_of X G h_no_super, h_st_any, h_su_BadNumber_init, h_sb_BadNumber_init, h_me_BadNumber_init, rfl, rfl, ⟨_, rfl, rfl⟩⟩, kbn_x fun us hl => match us, hl with | [_, _], _ => rfl⟩, h_a_BadNumber_init, h_ty_BadNumber_init, ⟨⟨_, _, _, _, _, _, _, _, _, _, _, _, _, _, _, h_oc_BadNumber_init, h_rv_BadNumber_init⟩, h_sa_BadNumber, h_bx_BadNumber, h_tc_BadNumber, h_kc_BadNumber⟩⟩
  · exact ⟨h_xg_BadNumber, h_xa_BadNumber, h_bx_BadNumber, h_xd_BadNumber, h_cc_BadNumber, h_cg, h_ct, h_ob_BadNumber⟩
  · exact ⟨⟨h_xg_BadNumber, h_xa_BadNumber, h_bx_BadNumber, h_xd_BadNumber, h_cc_BadNumber, h_cg, h_ct, h_ob_BadNumber⟩, h_nx_BadNumber_value⟩
  · exact PySem.W.mg_of X G h_a_law_heard
  · exact ⟨_, fund0 h_l_law_heard h_c_law_heard h_k_law_heard⟩
  · exact PySem.W.mg_of X G h_g_CreditError
  · exact lam_mk HT hnd h_l_law h_ld_law (by simp)
  · exact h_kt_NoneType_BadBucket
  · exact h_kt_bool_BadBucket
  · exact h_kt_int_BadBucket
  · exact h_kt_str_BadBucket
  · exact h_kt_list_BadBucket
  · exact h_kt_tuple_BadBucket
  · exact h_kt_dict_BadBucket
  · exact h_kt_c_Bucket_BadBucket
  · exact h_kt_c_BadBucket_BadBucket
  · exact h_kt_c_BadNumber_BadBucket
  · exact h_kt_NoneType_Bucket
  · exact h_kt_bool_Bucket
  · exact h_kt_int_Bucket
  · exact h_kt_str_Bucket
  · exact h_kt_list_Bucket
  · exact h_kt_tuple_Bucket
  · exact h_kt_dict_Bucket
  · exact h_kt_c_Bucket_Bucket
  · exact h_kt_c_BadBucket_Bucket
  · exact h_kt_c_BadNumber_Bucket
  · exact h_kt_NoneType_bool
  · exact h_kt_bool_bool
  · exact h_kt_int_bool
  · exact h_kt_str_bool
  · exact h_kt_list_bool
  · exact h_kt_tuple_bool
  · exact h_kt_dict_bool
  · exact h_kt_c_Bucket_bool
  · exact h_kt_c_BadBucket_bool
  · exact h_kt_c_BadNumber_bool
  · exact h_kt_NoneType_int
  · exact h_kt_bool_int
  · exact h_kt_int_int
  · exact h_kt_str_int
  · exact h_kt_list_int
  · exact h_kt_tuple_int
  · exact h_kt_dict_int
  · exact h_kt_c_Bucket_int
  · exact h_kt_c_BadBucket_int
  · exact h_kt_c_BadNumber_int
  · exact h_em_BadBucket_CreditError
  · exact h_em_BadNumber_CreditError
  · exact h_nf_Bucket_c_Bucket
end K53

namespace K53
open PySem L2 DL
set_option hygiene false
local macro_rules | `(tactic| get_elem_tactic_trivial) => `(tactic| simp (config := { failIfUnchanged := false }) only [↓e_iteT, ↓e_iteF, e_iteN, ↓e_tbk, ↓e_kz, ↓e_ke, ↓e_kst, ↓e_mkk, ↓e_C, ↓e_Nil, ↓e_Cons, ↓e_Tup, ↓e_Lst, ↓e_Bin, ↓e_BinE, ↓e_opz, ↓e_UnE, ↓e_unz, ↓e_CalE, ↓e_caz, ↓e_Bu, ↓e_TB, ↓e_And, ↓e_Or, ↓e_Not, ↓e_AndV, ↓e_OrV, ↓e_NotV, ↓e_If, ↓e_Next, ↓e_Seq, ↓e_sq_nx, ↓e_sq_rt, ↓e_sq_bk, ↓e_sq_ct, ↓e_sq_ex, ↓e_lp_nx, ↓e_lp_ct, ↓e_lp_bk, ↓e_lp_rt, ↓e_lp_ex, ↓e_wh_nx, ↓e_wh_ct, ↓e_wh_bk, ↓e_wh_rt, ↓e_wh_ex, ↓e_Drop, ↓e_Ret, ↓e_Ite, ↓e_Set, ↓e_Asg, ↓e_gN, ↓e_gZ, ↓e_gC, ↓e_gT, ↓e_Par, ↓e_park, ↓e_For, ↓e_ItL, ↓e_itk, ↓e_ItT, ↓e_itkT, ↓e_Rng1, ↓e_rngk, ↓e_Rng2, ↓e_rngk2, ↓e_Call, ↓e_clk, ↓e_Meth, ↓e_mek, ↓e_mec, ↓e_MethK, ↓e_mekK, ↓e_At, ↓e_atk, ↓e_atkX, ↓e_lkkS, ↓e_lkkN, ↓e_xkkS, ↓e_SelfSet, ↓e_ssk, ↓e_Own, ↓e_App, ↓e_Raise, ↓e_rai0, ↓e_rai1, ↓e_rai2, ↓e_Try, ↓e_try_nx, ↓e_try_rt, ↓e_try_bk, ↓e_try_ct, ↓e_try_ex, ↓e_trykT, ↓e_trykF, ↓e_Js0, ↓e_Js1, ↓e_jsk, ↓e_Fmt, ↓e_fmkS, ↓e_fmkI, ↓e_Chain, ↓e_chk, e_isB, ↓e_Sl, ↓e_None, ↓e_Part, ↓e_prk, ↓e_oSlL, ↓e_oSlT, ↓e_oSlS, ↓e_Ix, ↓e_oIxL, ↓e_oIxT, ↓e_oIxS, ↓e_ix0, ↓e_ix1, ↓e_ix2, ↓e_ix3, ↓e_ix4, ↓e_ix5, ↓e_Lam, ↓e_Act, ↓e_lamAct, e_fzF, e_clN, ↓e_fn_nx, ↓e_fn_rt, ↓e_fn_ex, ↓e_in_nx, ↓e_in_ex, ↓e_I, ↓e_AddI, ↓e_AddIB, ↓e_AddS, ↓e_AddL, ↓e_AddT, ↓e_Len0, ↓e_Len1, ↓e_Len2, ↓e_Int0, ↓e_Int1, ↓e_Abs, ↓e_Repr, ↓e_List0, ↓e_List1, ↓e_Tuple0, ↓e_Tuple1, ↓e_Gcd, ↓e_IsNN, ↓e_IsNB, ↓e_IsNI, ↓e_IsNS, ↓e_IsNX, ↓e_IsNC, ↓e_IsNL, ↓e_IsNT, ↓e_NegI, ↓e_NegC, ↓e_AbsI, ↓e_AbsC, ↓e_bok, ↓e_bno, ↓e_sok, ↓e_BoolI, ↓e_BoolB, ↓e_BoolC, ↓e_StrI, ↓e_StrS, ↓e_StrC, ↓e_dpt, ↓e_EqC, ↓e_EqI, ↓e_EqB, ↓e_EqS, ↓e_EqIC, ↓e_Eq0I, ↓e_Eq0B, ↓e_Eq0S, ↓e_Ne0I, ↓e_Ne0S, ↓e_NeI, ↓e_NeS, ↓e_NeC, ↓e_NeIC, ↓e_OrdI, ↓e_OrdC, ↓e_OrdIC, ↓e_BinI, ↓e_BinC, ↓e_BinIC, ↓e_BinS, ↓e_BinL, ↓e_InpC, ↓e_MulI, ↓e_MulL, e_okRi, e_okRC, ↓e_agk, ↓e_LC, ↓e_lck, ↓e_lcP, ↓e_ColN, ↓e_ColC, ↓e_colk, ↓e_Yes, e_clVN, ↓e_V0, ↓e_O0, ↓e_S0, ↓e_P0, ↓e_H0, ↓e_G0, ↓e_V1, ↓e_O1, ↓e_S1, ↓e_P1, ↓e_H1, ↓e_G1, ↓e_V2, ↓e_O2, ↓e_S2, ↓e_P2, ↓e_H2, ↓e_G2, ↓e_V3, ↓e_O3, ↓e_S3, ↓e_P3, ↓e_H3, ↓e_G3, ↓e_V4, ↓e_O4, ↓e_S4, ↓e_P4, ↓e_H4, ↓e_G4, ↓e_V5, ↓e_O5, ↓e_S5, ↓e_P5, ↓e_H5, ↓e_G5, ↓e_V6, ↓e_O6, ↓e_S6, ↓e_P6, ↓e_H6, ↓e_G6, ↓e_V7, ↓e_O7, ↓e_S7, ↓e_P7, ↓e_H7, ↓e_G7, ↓e_V8, ↓e_O8, ↓e_S8, ↓e_P8, ↓e_H8, ↓e_G8, ↓e_V9, ↓e_O9, ↓e_S9, ↓e_P9, ↓e_H9, ↓e_G9, ↓e_V10, ↓e_O10, ↓e_S10, ↓e_P10, ↓e_H10, ↓e_G10, ↓e_V11, ↓e_O11, ↓e_S11, ↓e_P11, ↓e_H11, ↓e_G11, ↓e_V12, ↓e_O12, ↓e_S12, ↓e_P12, ↓e_H12, ↓e_G12, ↓e_V13, ↓e_O13, ↓e_S13, ↓e_P13, ↓e_H13, ↓e_G13, ↓e_V14, ↓e_O14, ↓e_S14, ↓e_P14, ↓e_H14, ↓e_G14, ↓e_V15, ↓e_O15, ↓e_S15, ↓e_P15, ↓e_H15, ↓e_G15, ↓e_V16, ↓e_O16, ↓e_S16, ↓e_P16, ↓e_H16, ↓e_G16, ↓e_V17, ↓e_O17, ↓e_S17, ↓e_P17, ↓e_H17, ↓e_G17, ↓e_SF0, ↓e_Max2, ↓e_Min2, ↓e_NeB, ↓e_Ne0B, e_clA, e_clA2, e_cl1D, e_cl1U, e_cl1O, e_cl1K, true_and, and_true, List.length_cons, List.length_nil, Nat.reduceAdd, Nat.reduceLeDiff, Nat.reduceLT, Nat.zero_le, Bool.and_true, Bool.true_and, Bool.and_false, Bool.false_and, Bool.or_true, Bool.true_or, Bool.or_false, Bool.false_or, Bool.not_true, Bool.not_false, Bool.not_not, decide_true, decide_false, Int.reduceLT, Int.reduceLE, Int.reduceEq, Int.reduceNeg, Int.reduceAdd, Int.reduceSub, Int.reduceMul, List.cons_append, List.nil_append, beq_self_eq_true, reduceCtorEq, List.mem_cons, List.not_mem_nil, or_false, Nat.reduceEqDiff, Nat.succ_ne_zero, if_true, if_false, ↓reduceIte, cq_law_draw_2, cq_law_pick_2, cq_law_parts_1, cq_Bucket___eq___2, tq_eq_eq_Bucket, cq_law_near_2, cq_is_int_1, cq_is_between_3, cr_Bucket_Bucket___init___3, cq_need_like_1, cq_bits_in_2, cq_Bucket___le___2, tq_own_le_Bucket, cq_Bucket___lt___2, tq_own_lt_Bucket, cq_Bucket___gt___2, tq_own_gt_Bucket, tq_ordr_lt_Bucket, cq_law_is_below_2, cq_Bucket___ge___2, tq_ordr_ge_Bucket, tq_ordr_gt_Bucket, tq_own_ge_Bucket, tq_ordr_le_Bucket, cq_need_number_2, cq_Bucket_earliest_2, tq_meth_earliest_Bucket_2, cq_law_pair_right_2, isa_NoneType_BadBucket T, isa_bool_BadBucket T, isa_int_BadBucket T, isa_str_BadBucket T, isa_list_BadBucket T, isa_tuple_BadBucket T, isa_dict_BadBucket T, isa_c_Bucket_BadBucket T, isa_x_BadBucket_BadBucket T, isa_x_BadNumber_BadBucket T, isa_NoneType_Bucket T, isa_bool_Bucket T, isa_int_Bucket T, isa_str_Bucket T, isa_list_Bucket T, isa_tuple_Bucket T, isa_dict_Bucket T, isa_c_Bucket_Bucket T, isa_x_BadBucket_Bucket T, isa_x_BadNumber_Bucket T, isa_NoneType_bool T, isa_bool_bool T, isa_int_bool T, isa_str_bool T, isa_list_bool T, isa_tuple_bool T, isa_dict_bool T, isa_c_Bucket_bool T, isa_x_BadBucket_bool T, isa_x_BadNumber_bool T, isa_NoneType_int T, isa_bool_int T, isa_int_int T, isa_str_int T, isa_list_int T, isa_tuple_int T, isa_dict_int T, isa_c_Bucket_int T, isa_x_BadBucket_int T, isa_x_BadNumber_int T, T.em_BadBucket_CreditError, T.em_BadNumber_CreditError, np_Bucket_NoneType T, np_Bucket_bool T, np_Bucket_int T, np_Bucket_str T, np_Bucket_list T, np_Bucket_tuple T, np_Bucket_dict T, np_Bucket_c_Bucket T, lk_Bucket_burst, T.na_Bucket_burst, lk_Bucket_rate, T.na_Bucket_rate, lk_Bucket_every, T.na_Bucket_every, pd_Bucket_burst, pd_Bucket_rate, pd_Bucket_every, lx_BadBucket_part, T.xa_BadBucket_part, lx_BadNumber_value, T.xa_BadNumber_value, ml_Bucket_earliest, u_law_draw_8, u_law_draw_7, u_law_draw_6, u_law_draw_5, u_law_draw_4, u_law_draw_3, u_law_draw_2, u_law_draw_1, t_law_draw, t_law_pick, t_law_parts, u_Bucket___eq___1, t_Bucket___eq__, u_law_near_5, u_law_near_4, u_law_near_3, u_law_near_2, u_law_near_1, t_law_near, t_is_int, t_is_between, u_Bucket___init___5, u_Bucket___init___4, u_Bucket___init___3, u_Bucket___init___2, u_Bucket___init___1, t_Bucket___init__, t_need_like, t_bits_in, u_Bucket___le___3, u_Bucket___le___2, u_Bucket___le___1, t_Bucket___le__, t_Bucket___lt__, u_Bucket___gt___1, t_Bucket___gt__, u_law_is_below_2, u_law_is_below_1, t_law_is_below, u_Bucket___ge___1, t_Bucket___ge__, t_need_number, u_Bucket_earliest_2, u_Bucket_earliest_1, t_Bucket_earliest, u_law_pair_right_6, u_law_pair_right_5, u_law_pair_right_4, u_law_pair_right_3, u_law_pair_right_2, u_law_pair_right_1, t_law_pair_right, u_law_heard_2, u_law_heard_1, t_law_heard, u_law_4, u_law_3, u_law_2, u_law_1, t_law, xo_BadBucket, xo_BadNumber])
local macro_rules | `(tactic| decreasing_trivial) => `(tactic| simp (config := { failIfUnchanged := false }) only [↓e_iteT, ↓e_iteF, e_iteN, ↓e_tbk, ↓e_kz, ↓e_ke, ↓e_kst, ↓e_mkk, ↓e_C, ↓e_Nil, ↓e_Cons, ↓e_Tup, ↓e_Lst, ↓e_Bin, ↓e_BinE, ↓e_opz, ↓e_UnE, ↓e_unz, ↓e_CalE, ↓e_caz, ↓e_Bu, ↓e_TB, ↓e_And, ↓e_Or, ↓e_Not, ↓e_AndV, ↓e_OrV, ↓e_NotV, ↓e_If, ↓e_Next, ↓e_Seq, ↓e_sq_nx, ↓e_sq_rt, ↓e_sq_bk, ↓e_sq_ct, ↓e_sq_ex, ↓e_lp_nx, ↓e_lp_ct, ↓e_lp_bk, ↓e_lp_rt, ↓e_lp_ex, ↓e_wh_nx, ↓e_wh_ct, ↓e_wh_bk, ↓e_wh_rt, ↓e_wh_ex, ↓e_Drop, ↓e_Ret, ↓e_Ite, ↓e_Set, ↓e_Asg, ↓e_gN, ↓e_gZ, ↓e_gC, ↓e_gT, ↓e_Par, ↓e_park, ↓e_For, ↓e_ItL, ↓e_itk, ↓e_ItT, ↓e_itkT, ↓e_Rng1, ↓e_rngk, ↓e_Rng2, ↓e_rngk2, ↓e_Call, ↓e_clk, ↓e_Meth, ↓e_mek, ↓e_mec, ↓e_MethK, ↓e_mekK, ↓e_At, ↓e_atk, ↓e_atkX, ↓e_lkkS, ↓e_lkkN, ↓e_xkkS, ↓e_SelfSet, ↓e_ssk, ↓e_Own, ↓e_App, ↓e_Raise, ↓e_rai0, ↓e_rai1, ↓e_rai2, ↓e_Try, ↓e_try_nx, ↓e_try_rt, ↓e_try_bk, ↓e_try_ct, ↓e_try_ex, ↓e_trykT, ↓e_trykF, ↓e_Js0, ↓e_Js1, ↓e_jsk, ↓e_Fmt, ↓e_fmkS, ↓e_fmkI, ↓e_Chain, ↓e_chk, e_isB, ↓e_Sl, ↓e_None, ↓e_Part, ↓e_prk, ↓e_oSlL, ↓e_oSlT, ↓e_oSlS, ↓e_Ix, ↓e_oIxL, ↓e_oIxT, ↓e_oIxS, ↓e_ix0, ↓e_ix1, ↓e_ix2, ↓e_ix3, ↓e_ix4, ↓e_ix5, ↓e_Lam, ↓e_Act, ↓e_lamAct, e_fzF, e_clN, ↓e_fn_nx, ↓e_fn_rt, ↓e_fn_ex, ↓e_in_nx, ↓e_in_ex, ↓e_I, ↓e_AddI, ↓e_AddIB, ↓e_AddS, ↓e_AddL, ↓e_AddT, ↓e_Len0, ↓e_Len1, ↓e_Len2, ↓e_Int0, ↓e_Int1, ↓e_Abs, ↓e_Repr, ↓e_List0, ↓e_List1, ↓e_Tuple0, ↓e_Tuple1, ↓e_Gcd, ↓e_IsNN, ↓e_IsNB, ↓e_IsNI, ↓e_IsNS, ↓e_IsNX, ↓e_IsNC, ↓e_IsNL, ↓e_IsNT, ↓e_NegI, ↓e_NegC, ↓e_AbsI, ↓e_AbsC, ↓e_bok, ↓e_bno, ↓e_sok, ↓e_BoolI, ↓e_BoolB, ↓e_BoolC, ↓e_StrI, ↓e_StrS, ↓e_StrC, ↓e_dpt, ↓e_EqC, ↓e_EqI, ↓e_EqB, ↓e_EqS, ↓e_EqIC, ↓e_Eq0I, ↓e_Eq0B, ↓e_Eq0S, ↓e_Ne0I, ↓e_Ne0S, ↓e_NeI, ↓e_NeS, ↓e_NeC, ↓e_NeIC, ↓e_OrdI, ↓e_OrdC, ↓e_OrdIC, ↓e_BinI, ↓e_BinC, ↓e_BinIC, ↓e_BinS, ↓e_BinL, ↓e_InpC, ↓e_MulI, ↓e_MulL, e_okRi, e_okRC, ↓e_agk, ↓e_LC, ↓e_lck, ↓e_lcP, ↓e_ColN, ↓e_colk, ↓e_Yes, e_clVN, ↓e_V0, ↓e_O0, ↓e_S0, ↓e_P0, ↓e_H0, ↓e_G0, ↓e_V1, ↓e_O1, ↓e_S1, ↓e_P1, ↓e_H1, ↓e_G1, ↓e_V2, ↓e_O2, ↓e_S2, ↓e_P2, ↓e_H2, ↓e_G2, ↓e_V3, ↓e_O3, ↓e_S3, ↓e_P3, ↓e_H3, ↓e_G3, ↓e_V4, ↓e_O4, ↓e_S4, ↓e_P4, ↓e_H4, ↓e_G4, ↓e_V5, ↓e_O5, ↓e_S5, ↓e_P5, ↓e_H5, ↓e_G5, ↓e_V6, ↓e_O6, ↓e_S6, ↓e_P6, ↓e_H6, ↓e_G6, ↓e_V7, ↓e_O7, ↓e_S7, ↓e_P7, ↓e_H7, ↓e_G7, ↓e_V8, ↓e_O8, ↓e_S8, ↓e_P8, ↓e_H8, ↓e_G8, ↓e_V9, ↓e_O9, ↓e_S9, ↓e_P9, ↓e_H9, ↓e_G9, ↓e_V10, ↓e_O10, ↓e_S10, ↓e_P10, ↓e_H10, ↓e_G10, ↓e_V11, ↓e_O11, ↓e_S11, ↓e_P11, ↓e_H11, ↓e_G11, ↓e_V12, ↓e_O12, ↓e_S12, ↓e_P12, ↓e_H12, ↓e_G12, ↓e_V13, ↓e_O13, ↓e_S13, ↓e_P13, ↓e_H13, ↓e_G13, ↓e_V14, ↓e_O14, ↓e_S14, ↓e_P14, ↓e_H14, ↓e_G14, ↓e_V15, ↓e_O15, ↓e_S15, ↓e_P15, ↓e_H15, ↓e_G15, ↓e_V16, ↓e_O16, ↓e_S16, ↓e_P16, ↓e_H16, ↓e_G16, ↓e_V17, ↓e_O17, ↓e_S17, ↓e_P17, ↓e_H17, ↓e_G17, ↓e_SF0, ↓e_Max2, ↓e_Min2, ↓e_NeB, ↓e_Ne0B, e_clA, e_clA2, e_cl1D, e_cl1U, e_cl1O, e_cl1K, true_and, and_true, List.length_cons, List.length_nil, Nat.reduceAdd, Nat.reduceLeDiff, Nat.reduceLT, Nat.zero_le, Bool.and_true, Bool.true_and, Bool.and_false, Bool.false_and, Bool.or_true, Bool.true_or, Bool.or_false, Bool.false_or, Bool.not_true, Bool.not_false, Bool.not_not, decide_true, decide_false, Int.reduceLT, Int.reduceLE, Int.reduceEq, Int.reduceNeg, Int.reduceAdd, Int.reduceSub, Int.reduceMul, List.cons_append, List.nil_append, beq_self_eq_true, reduceCtorEq, List.mem_cons, List.not_mem_nil, or_false, Nat.reduceEqDiff, Nat.succ_ne_zero, if_true, if_false, ↓reduceIte, cq_law_draw_2, cq_law_pick_2, cq_law_parts_1, cq_Bucket___eq___2, tq_eq_eq_Bucket, cq_law_near_2, cq_is_int_1, cq_is_between_3, cr_Bucket_Bucket___init___3, cq_need_like_1, cq_bits_in_2, cq_Bucket___le___2, tq_own_le_Bucket, cq_Bucket___lt___2, tq_own_lt_Bucket, cq_Bucket___gt___2, tq_own_gt_Bucket, tq_ordr_lt_Bucket, cq_law_is_below_2, cq_Bucket___ge___2, tq_ordr_ge_Bucket, tq_ordr_gt_Bucket, tq_own_ge_Bucket, tq_ordr_le_Bucket, cq_need_number_2, cq_Bucket_earliest_2, tq_meth_earliest_Bucket_2, cq_law_pair_right_2, isa_NoneType_BadBucket T, isa_bool_BadBucket T, isa_int_BadBucket T, isa_str_BadBucket T, isa_list_BadBucket T, isa_tuple_BadBucket T, isa_dict_BadBucket T, isa_c_Bucket_BadBucket T, isa_x_BadBucket_BadBucket T, isa_x_BadNumber_BadBucket T, isa_NoneType_Bucket T, isa_bool_Bucket T, isa_int_Bucket T, isa_str_Bucket T, isa_list_Bucket T, isa_tuple_Bucket T, isa_dict_Bucket T, isa_c_Bucket_Bucket T, isa_x_BadBucket_Bucket T, isa_x_BadNumber_Bucket T, isa_NoneType_bool T, isa_bool_bool T, isa_int_bool T, isa_str_bool T, isa_list_bool T, isa_tuple_bool T, isa_dict_bool T, isa_c_Bucket_bool T, isa_x_BadBucket_bool T, isa_x_BadNumber_bool T, isa_NoneType_int T, isa_bool_int T, isa_int_int T, isa_str_int T, isa_list_int T, isa_tuple_int T, isa_dict_int T, isa_c_Bucket_int T, isa_x_BadBucket_int T, isa_x_BadNumber_int T, T.em_BadBucket_CreditError, T.em_BadNumber_CreditError, np_Bucket_NoneType T, np_Bucket_bool T, np_Bucket_int T, np_Bucket_str T, np_Bucket_list T, np_Bucket_tuple T, np_Bucket_dict T, np_Bucket_c_Bucket T, lk_Bucket_burst, T.na_Bucket_burst, lk_Bucket_rate, T.na_Bucket_rate, lk_Bucket_every, T.na_Bucket_every, pd_Bucket_burst, pd_Bucket_rate, pd_Bucket_every, lx_BadBucket_part, T.xa_BadBucket_part, lx_BadNumber_value, T.xa_BadNumber_value, ml_Bucket_earliest, u_law_draw_8, u_law_draw_7, u_law_draw_6, u_law_draw_5, u_law_draw_4, u_law_draw_3, u_law_draw_2, u_law_draw_1, t_law_draw, t_law_pick, t_law_parts, u_Bucket___eq___1, t_Bucket___eq__, u_law_near_5, u_law_near_4, u_law_near_3, u_law_near_2, u_law_near_1, t_law_near, t_is_int, t_is_between, u_Bucket___init___5, u_Bucket___init___4, u_Bucket___init___3, u_Bucket___init___2, u_Bucket___init___1, t_Bucket___init__, t_need_like, t_bits_in, u_Bucket___le___3, u_Bucket___le___2, u_Bucket___le___1, t_Bucket___le__, t_Bucket___lt__, u_Bucket___gt___1, t_Bucket___gt__, u_law_is_below_2, u_law_is_below_1, t_law_is_below, u_Bucket___ge___1, t_Bucket___ge__, t_need_number, u_Bucket_earliest_2, u_Bucket_earliest_1, t_Bucket_earliest, u_law_pair_right_6, u_law_pair_right_5, u_law_pair_right_4, u_law_pair_right_3, u_law_pair_right_2, u_law_pair_right_1, t_law_pair_right, u_law_heard_2, u_law_heard_1, t_law_heard, u_law_4, u_law_3, u_law_2, u_law_1, t_law, xo_BadBucket, xo_BadNumber])

section
variable {c : Wd} {A : Ad} {z : Z} {P : D → Z → Prop} {R : Er → Z → Prop} {f : Addr} {act : DAct}
theorem pick_ok (T : Txt c A) {xs : List D} (h0 : 0 < xs.length) (h1 : xs.length < 1000) (hz : 0 < z.fu) (h : ∀ d z', d ∈ xs → Zd 1 z z' → P d z') : sp_law_pick c A [.pen, .lst xs] z P R := by
  show 2 = 2 ∧ t_law_pick c A _ ⟨[.d .pen, .d (.lst xs)], z⟩
  simp only [t_law_pick, dMeth, dMethK, dChain, dSeq, dIte, dTB, dBin, dBinE, dUnE, dCalE, dPen, isPen, dC, dVar, dNil, dCons, dSet, dAsg, dRet, dNext, dAnd, dOr, dNot, dAndV, dOrV, dNotV, dBu, oLen, oInt, oAbs, oI, oAdd, oIx, dIx, gPen, gN, gC, gT, gZ, dLst, dTup, dPar, dSl, dNone, dPart, oSl, dCall, dIf, dDrop, fnN, inN, dAt, dSelfFld, dSelfSet, dOwn, dApp, dRaise, oNegA, oAbsA, oBoolA, oStrA, oIsN, oGcd, dFmt, dJs, dpt_one, oEq_ii, oEq_bb, oEq_ss, oNe_ii, oNe_ss, oEqA_ii, oEqA_bb, oEqA_ss, oEqA_in, oEqA_ri, oNeA_ii, oNeA_ss, oNeA_in, oBinA_ii, oBinA_in, oBinA_ri, oInpA_in, dAug, okR, okL, oNeB_ii, oNeB_ss, oNeB_in, oNeB_ri, List.getElem?_cons_zero, List.getElem?_cons_succ, List.set_cons_zero, List.set_cons_succ, true_and, and_true, if_true, if_false, Bool.false_eq_true, List.length_cons, List.length_nil, Option.some.injEq, Int.reduceEq, ↓reduceIte, Nat.reduceAdd, Nat.reduceLeDiff, Nat.zero_le, decide_true, decide_false, Bool.not_true, Bool.not_false, D.bl.injEq, D.int.injEq, D.str.injEq, exists_eq_left', exists_eq_left, cq_law_draw_2, cq_law_pick_2, cq_law_parts_1, cq_Bucket___eq___2, tq_eq_eq_Bucket, cq_law_near_2, cq_is_int_1, cq_is_between_3, cq_Bucket_Bucket___init___3, cq_need_like_1, cq_bits_in_2, cq_Bucket___le___2, tq_own_le_Bucket, cq_Bucket___lt___2, tq_own_lt_Bucket, cq_Bucket___gt___2, tq_own_gt_Bucket, tq_ordr_lt_Bucket, cq_law_is_below_2, cq_Bucket___ge___2, tq_ordr_ge_Bucket, tq_ordr_gt_Bucket, tq_own_ge_Bucket, tq_ordr_le_Bucket, cq_need_number_2, cq_Bucket_earliest_2, tq_meth_earliest_Bucket_2, cq_law_pair_right_2, isa_NoneType_BadBucket T, isa_bool_BadBucket T, isa_int_BadBucket T, isa_str_BadBucket T, isa_list_BadBucket T, isa_tuple_BadBucket T, isa_dict_BadBucket T, isa_c_Bucket_BadBucket T, isa_x_BadBucket_BadBucket T, isa_x_BadNumber_BadBucket T, isa_NoneType_Bucket T, isa_bool_Bucket T, isa_int_Bucket T, isa_str_Bucket T, isa_list_Bucket T, isa_tuple_Bucket T, isa_dict_Bucket T, isa_c_Bucket_Bucket T, isa_x_BadBucket_Bucket T, isa_x_BadNumber_Bucket T, isa_NoneType_bool T, isa_bool_bool T, isa_int_bool T, isa_str_bool T, isa_list_bool T, isa_tuple_bool T, isa_dict_bool T, isa_c_Bucket_bool T, isa_x_BadBucket_bool T, isa_x_BadNumber_bool T, isa_NoneType_int T, isa_bool_int T, isa_int_int T, isa_str_int T, isa_list_int T, isa_tuple_int T, isa_dict_int T, isa_c_Bucket_int T, isa_x_BadBucket_int T, isa_x_BadNumber_int T, T.em_BadBucket_CreditError, T.em_BadNumber_CreditError, np_Bucket_NoneType T, np_Bucket_bool T, np_Bucket_int T, np_Bucket_str T, np_Bucket_list T, np_Bucket_tuple T, np_Bucket_dict T, np_Bucket_c_Bucket T, lk_Bucket_burst, T.na_Bucket_burst, lk_Bucket_rate, T.na_Bucket_rate, lk_Bucket_every, T.na_Bucket_every, pd_Bucket_burst, pd_Bucket_rate, pd_Bucket_every, lx_BadBucket_part, T.xa_BadBucket_part, lx_BadNumber_value, T.xa_BadNumber_value]
  refine sDraw_ok (by omega) (by omega) hz fun v z' a b hzd => ?_
  obtain ⟨d, e, m⟩ := atI_in a b
  exact ⟨d, e, h d z' m hzd⟩
theorem cpw {k : Int} (h : 0 ≤ k) (h2 : k ≤ 1000000) : CPow 10 k := ⟨h, h2, by decide⟩
theorem is_int_i (T : Txt c A) {i : Int} (h : P (.bl true) z) : sp_is_int c A [.int i] z P R := by
  refine ⟨rfl, ?_⟩
  show t_is_int c A _ ⟨[.d (.int i)], z⟩
  get_elem_tactic_trivial
  exact h
theorem is_int_b (T : Txt c A) {b : Bool} (h : P (.bl false) z) : sp_is_int c A [.bl b] z P R := by
  refine ⟨rfl, ?_⟩
  show t_is_int c A _ ⟨[.d (.bl b)], z⟩
  get_elem_tactic_trivial
  exact h
theorem is_int_n (T : Txt c A) (h : P (.bl false) z) : sp_is_int c A [.non] z P R := by
  refine ⟨rfl, ?_⟩
  show t_is_int c A _ ⟨[.d (.non)], z⟩
  get_elem_tactic_trivial
  exact h
theorem is_int_s (T : Txt c A) {s : Str} (h : P (.bl false) z) : sp_is_int c A [.str s] z P R := by
  refine ⟨rfl, ?_⟩
  show t_is_int c A _ ⟨[.d (.str s)], z⟩
  get_elem_tactic_trivial
  exact h
theorem is_int_l (T : Txt c A) {xs : List D} (h : P (.bl false) z) : sp_is_int c A [.lst xs] z P R := by
  refine ⟨rfl, ?_⟩
  show t_is_int c A _ ⟨[.d (.lst xs)], z⟩
  get_elem_tactic_trivial
  exact h
theorem is_int_t (T : Txt c A) {xs : List D} (h : P (.bl false) z) : sp_is_int c A [.tup xs] z P R := by
  refine ⟨rfl, ?_⟩
  show t_is_int c A _ ⟨[.d (.tup xs)], z⟩
  get_elem_tactic_trivial
  exact h
theorem is_int_d (T : Txt c A) {xs : List (Key × D)} (h : P (.bl false) z) : sp_is_int c A [.dct xs] z P R := by
  refine ⟨rfl, ?_⟩
  show t_is_int c A _ ⟨[.d (.dct xs)], z⟩
  get_elem_tactic_trivial
  exact h

theorem between_ok (T : Txt c A) {i lo hi : Int} (h1 : lo ≤ i) (h2 : i ≤ hi) (h : P (.bl true) z) : sp_is_between c A [.int i, .int lo, .int hi] z P R := by
  refine ⟨rfl, ?_⟩
  show t_is_between c A _ ⟨[.d (.int i), .d (.int lo), .d (.int hi)], z⟩
  get_elem_tactic_trivial
  refine is_int_i T ?_
  get_elem_tactic_trivial
  rw [decide_eq_true h1]
  get_elem_tactic_trivial
  rw [decide_eq_true h2]
  exact h
abbrev Bk (A : Ad) (b r e : Int) : D := o_Bucket A (.int b) (.int r) (.int e)
structure Ok (b r e : Int) : Prop where
  b1 : 1 ≤ b
  b2 : b ≤ 1000000
  r1 : 1 ≤ r
  r2 : r ≤ 1000
  e1 : 1 ≤ e
  e2 : e ≤ 1000
theorem mk_ok (T : Txt c A) {b r e : Int} (k : Ok b r e) {PF : List (Str × D) → Z → Prop} (h : PF [(("burst" : Str), .int b), (("rate" : Str), .int r), (("every" : Str), .int e)] z) : si_Bucket___init__ c A [.int b, .int r, .int e] z PF R := by
  refine ⟨rfl, ?_⟩
  show t_Bucket___init__ c A _ ⟨[.self A.c_Bucket [], .d (.int b), .d (.int r), .d (.int e)], z⟩
  get_elem_tactic_trivial
  refine between_ok T k.b1 k.b2 ?_
  get_elem_tactic_trivial
  refine between_ok T k.r1 k.r2 ?_
  get_elem_tactic_trivial
  refine between_ok T k.e1 k.e2 ?_
  get_elem_tactic_trivial
  exact h
/-- no bucket -/
def NB (c : Wd) (A : Ad) (d : D) : Prop := ∀ z P R, R (xo_BadBucket A (.str ("other" : Str))) z → sp_need_like c A [d] z P R
theorem like_ok (T : Txt c A) {b r e : Int} (h : P .non z) : sp_need_like c A [Bk A b r e] z P R := by
  refine ⟨rfl, ?_⟩
  show t_need_like c A _ ⟨[.d (Bk A b r e)], z⟩
  get_elem_tactic_trivial
  exact h
theorem nb_n (T : Txt c A) : NB c A (.non) := by
  intro z P R h
  refine ⟨rfl, ?_⟩
  show t_need_like c A _ ⟨[.d (.non)], z⟩
  get_elem_tactic_trivial
  exact h
theorem nb_i (T : Txt c A) {i : Int} : NB c A (.int i) := by
  intro z P R h
  refine ⟨rfl, ?_⟩
  show t_need_like c A _ ⟨[.d (.int i)], z⟩
  get_elem_tactic_trivial
  exact h
theorem nb_b (T : Txt c A) {b : Bool} : NB c A (.bl b) := by
  intro z P R h
  refine ⟨rfl, ?_⟩
  show t_need_like c A _ ⟨[.d (.bl b)], z⟩
  get_elem_tactic_trivial
  exact h
theorem nb_s (T : Txt c A) {s : Str} : NB c A (.str s) := by
  intro z P R h
  refine ⟨rfl, ?_⟩
  show t_need_like c A _ ⟨[.d (.str s)], z⟩
  get_elem_tactic_trivial
  exact h
theorem nb_t (T : Txt c A) {xs : List D} : NB c A (.tup xs) := by
  intro z P R h
  refine ⟨rfl, ?_⟩
  show t_need_like c A _ ⟨[.d (.tup xs)], z⟩
  get_elem_tactic_trivial
  exact h
theorem nb_l (T : Txt c A) {xs : List D} : NB c A (.lst xs) := by
  intro z P R h
  refine ⟨rfl, ?_⟩
  show t_need_like c A _ ⟨[.d (.lst xs)], z⟩
  get_elem_tactic_trivial
  exact h
theorem nb_d (T : Txt c A) {xs : List (Key × D)} : NB c A (.dct xs) := by
  intro z P R h
  refine ⟨rfl, ?_⟩
  show t_need_like c A _ ⟨[.d (.dct xs)], z⟩
  get_elem_tactic_trivial
  exact h

theorem bits_ok (T : Txt c A) {b r e t : Int} (k : Ok b r e) (h : P (.int (fB b r e t)) z) : sp_bits_in c A [Bk A b r e, .int t] z P R := by
  refine ⟨rfl, ?_⟩
  show t_bits_in c A _ ⟨[.d (Bk A b r e), .d (.int t)], z⟩
  obtain ⟨k1, k2, k3, k4, k5, k6⟩ := k
  get_elem_tactic_trivial
  refine ⟨cdg_of 20 (by omega) (by omega), me_l (by omega), ?_⟩
  rw [Int.fdiv_eq_ediv_of_nonneg _ (by omega)]
  exact h
/-- a list comprehension over things that are told -/
theorem col_map {α : Type} {g : DTG} {te : DTE} {cl : List Sl} {PC : List D → Z → Prop} {h F : α → D} : ∀ (is : List α) (acc : List D), (∀ i ∈ is, ∀ k : D → S → Prop, (∀ l, k (F i) ⟨l, z⟩) → g (h i) ⟨cl, z⟩ (fun δ2 => te δ2 k (fun _ _ => False))) → acc.length + is.length < 100000 → PC (acc ++ is.map F) z → dCol g dYes te cl PC (is.map h) acc z
  | [], acc, hs, hl, hp => by simpa [dCol] using hp
  | i :: is, acc, hs, hl, hp => by
    rw [List.length_cons] at hl
    rw [List.map_cons, e_ColC]
    refine hs i (List.mem_cons_self ..) _ fun l => ?_
    rw [e_colk]
    refine ⟨by omega, col_map is (acc ++ [F i]) (fun j hj => hs j (List.mem_cons_of_mem _ hj)) (by simp; omega) ?_⟩
    simpa using hp
theorem le_ok (T : Txt c A) {b r e b2 r2 e2 : Int} (k : Ok b r e) (k2 : Ok b2 r2 e2) (h : P (.bl (leB b r e b2 r2 e2)) z) : sp_Bucket___le__ c A [Bk A b r e, Bk A b2 r2 e2] z P R := by
  refine ⟨rfl, ?_⟩
  show t_Bucket___le__ c A _ ⟨[.d (Bk A b r e), .d (Bk A b2 r2 e2), .un, .un], z⟩
  have kk := k
  have kk2 := k2
  obtain ⟨h1, h2, h3, h4, h5, h6⟩ := k
  obtain ⟨g1, g2, g3, g4, g5, g6⟩ := k2
  get_elem_tactic_trivial
  refine like_ok T ?_
  get_elem_tactic_trivial
  refine ⟨me_l (by omega), me_l (by omega), ?_⟩
  by_cases hc : r2 * e < r * e2
  · rw [decide_eq_true hc]
    get_elem_tactic_trivial
    have : leB b r e b2 r2 e2 = false := by unfold leB; rw [decide_eq_true hc]; rfl
    rw [this] at h
    exact h
  · rw [decide_eq_false hc]
    have e0 : leB b r e b2 r2 e2 = ((List.range (e2 / ((Nat.gcd e.natAbs e2.natAbs : Nat) : Int)).toNat).map (fun (s : Nat) => decide (fB b r e ((s : Int) * e) ≤ fB b2 r2 e2 ((s : Int) * e)))).all id := by unfold leB; rw [decide_eq_false hc]; rfl
    rw [e0] at h
    get_elem_tactic_trivial
    have gp : 0 < Nat.gcd e.natAbs e2.natAbs := Nat.gcd_pos_of_pos_left _ (by omega)
    have gl : Nat.gcd e.natAbs e2.natAbs ≤ e.natAbs := Nat.le_of_dvd (by omega) (Nat.gcd_dvd_left _ _)
    refine ⟨cdg_of 20 (by omega) (by omega), ?_⟩
    rw [Int.fdiv_eq_ediv_of_nonneg _ (by omega)]
    generalize hn : e2 / ((Nat.gcd e.natAbs e2.natAbs : Nat) : Int) = n at *
    have n1 : n.natAbs ≤ e2.natAbs := by rw [← hn]; exact Int.natAbs_ediv_le_natAbs _ _
    refine ⟨by omega, ?_⟩
    refine col_map (F := fun s : Nat => .bl (decide (fB b r e ((s : Int) * e) ≤ fB b2 r2 e2 ((s : Int) * e)))) _ _ (fun i hi K hK => ?_) (by simp; omega) ?_
    · have hi2 : i < n.toNat := by simpa using hi
      get_elem_tactic_trivial
      simp only [Int.zero_add]
      refine ⟨me_r (by omega), bits_ok T kk ?_⟩
      get_elem_tactic_trivial
      refine ⟨me_r (by omega), bits_ok T kk2 ?_⟩
      get_elem_tactic_trivial
      exact hK _
    · get_elem_tactic_trivial
      rw [show (List.map (fun s : Nat => D.bl (decide (fB b r e ((s : Int) * e) ≤ fB b2 r2 e2 ((s : Int) * e)))) (List.range n.toNat)) = (List.map (fun (s : Nat) => decide (fB b r e ((s : Int) * e) ≤ fB b2 r2 e2 ((s : Int) * e))) (List.range n.toNat)).map D.bl by rw [List.map_map]; rfl]
      exact oAll_of _ h
theorem le_no (T : Txt c A) {b r e : Int} {d : D} (hd : NB c A d) (h : R (xo_BadBucket A (.str ("other" : Str))) z) : sp_Bucket___le__ c A [Bk A b r e, d] z P R := by
  refine ⟨rfl, ?_⟩
  show t_Bucket___le__ c A _ ⟨[.d (Bk A b r e), .d d, .un, .un], z⟩
  get_elem_tactic_trivial
  refine hd _ _ _ ?_
  get_elem_tactic_trivial
  exact h
theorem eq_ok (T : Txt c A) {b r e b2 r2 e2 : Int} (h : P (.bl (decide (b = b2 ∧ r = r2 ∧ e = e2))) z) : sp_Bucket___eq__ c A [Bk A b r e, Bk A b2 r2 e2] z P R := by
  refine ⟨rfl, ?_⟩
  show t_Bucket___eq__ c A _ ⟨[.d (Bk A b r e), .d (Bk A b2 r2 e2)], z⟩
  get_elem_tactic_trivial
  refine ⟨⟨rfl, rfl⟩, ?_⟩
  have : eqD (.tup [.int b, .int r, .int e]) (.tup [.int b2, .int r2, .int e2]) = decide (b = b2 ∧ r = r2 ∧ e = e2) := by
    simp only [eqD, eqL, Bool.and_true]
    by_cases q1 : b = b2 <;> by_cases q2 : r = r2 <;> by_cases q3 : e = e2 <;> simp [q1, q2, q3]
  rw [this]
  exact h
theorem lt_ok (T : Txt c A) {b r e b2 r2 e2 : Int} (k : Ok b r e) (k2 : Ok b2 r2 e2) (h : P (.bl (leB b r e b2 r2 e2 && !decide (b = b2 ∧ r = r2 ∧ e = e2))) z) : sp_Bucket___lt__ c A [Bk A b r e, Bk A b2 r2 e2] z P R := by
  refine ⟨rfl, ?_⟩
  show t_Bucket___lt__ c A _ ⟨[.d (Bk A b r e), .d (Bk A b2 r2 e2)], z⟩
  get_elem_tactic_trivial
  refine le_ok T k k2 ?_
  get_elem_tactic_trivial
  cases q : leB b r e b2 r2 e2 with
  | false =>
    rw [q] at h
    get_elem_tactic_trivial
    exact h
  | true =>
    rw [q] at h
    get_elem_tactic_trivial
    refine eq_ok T ?_
    get_elem_tactic_trivial
    exact h
theorem lt_no (T : Txt c A) {b r e : Int} {d : D} (hn : notF c A.c_Bucket d) (hd : NB c A d) (h : R (xo_BadBucket A (.str ("other" : Str))) z) : sp_Bucket___lt__ c A [Bk A b r e, d] z P R := by
  refine ⟨rfl, ?_⟩
  show t_Bucket___lt__ c A _ ⟨[.d (Bk A b r e), .d d], z⟩
  get_elem_tactic_trivial
  refine ⟨hn, le_no T hd ?_⟩
  get_elem_tactic_trivial
  exact h
theorem ge_ok (T : Txt c A) {b r e b2 r2 e2 : Int} (k : Ok b r e) (k2 : Ok b2 r2 e2) (h : P (.bl (leB b2 r2 e2 b r e)) z) : sp_Bucket___ge__ c A [Bk A b r e, Bk A b2 r2 e2] z P R := by
  refine ⟨rfl, ?_⟩
  show t_Bucket___ge__ c A _ ⟨[.d (Bk A b r e), .d (Bk A b2 r2 e2)], z⟩
  get_elem_tactic_trivial
  refine like_ok T ?_
  get_elem_tactic_trivial
  refine le_ok T k2 k ?_
  get_elem_tactic_trivial
  exact h
theorem gt_ok (T : Txt c A) {b r e b2 r2 e2 : Int} (k : Ok b r e) (k2 : Ok b2 r2 e2) (h : P (.bl (leB b2 r2 e2 b r e && !decide (b2 = b ∧ r2 = r ∧ e2 = e))) z) : sp_Bucket___gt__ c A [Bk A b r e, Bk A b2 r2 e2] z P R := by
  refine ⟨rfl, ?_⟩
  show t_Bucket___gt__ c A _ ⟨[.d (Bk A b r e), .d (Bk A b2 r2 e2)], z⟩
  get_elem_tactic_trivial
  refine like_ok T ?_
  get_elem_tactic_trivial
  refine lt_ok T k2 k ?_
  get_elem_tactic_trivial
  exact h
theorem ge_no (T : Txt c A) {b r e : Int} {d : D} (hd : NB c A d) (h : R (xo_BadBucket A (.str ("other" : Str))) z) : sp_Bucket___ge__ c A [Bk A b r e, d] z P R := by
  refine ⟨rfl, ?_⟩
  show t_Bucket___ge__ c A _ ⟨[.d (Bk A b r e), .d d], z⟩
  get_elem_tactic_trivial
  refine hd _ _ _ ?_
  get_elem_tactic_trivial
  exact h
theorem gt_no (T : Txt c A) {b r e : Int} {d : D} (hd : NB c A d) (h : R (xo_BadBucket A (.str ("other" : Str))) z) : sp_Bucket___gt__ c A [Bk A b r e, d] z P R := by
  refine ⟨rfl, ?_⟩
  show t_Bucket___gt__ c A _ ⟨[.d (Bk A b r e), .d d], z⟩
  get_elem_tactic_trivial
  refine hd _ _ _ ?_
  get_elem_tactic_trivial
  exact h

theorem early_ok (T : Txt c A) {b r e C : Int} (k : Ok b r e) (hC : 0 ≤ C) (h : P (.int (early b r e C)) z) : sp_Bucket_earliest c A [Bk A b r e, .int C] z P R := by
  refine ⟨rfl, ?_⟩
  show t_Bucket_earliest c A _ ⟨[.d (Bk A b r e), .d (.int C)], z⟩
  obtain ⟨h1, h2, h3, h4, h5, h6⟩ := k
  get_elem_tactic_trivial
  have need : ∀ {P : D → Z → Prop} {R : Er → Z → Prop}, P .non z → sp_need_number c A [.int C, .int 0] z P R := fun {P R} hp => by
    refine ⟨rfl, ?_⟩
    show t_need_number c A _ ⟨[.d (.int C), .d (.int 0)], z⟩
    get_elem_tactic_trivial
    refine is_int_i T ?_
    get_elem_tactic_trivial
    rw [decide_eq_false (show ¬ C < 0 by omega)]
    get_elem_tactic_trivial
    exact hp
  refine need ?_
  get_elem_tactic_trivial
  unfold early at h
  by_cases q : C ≤ b
  · rw [decide_eq_true q]
    rw [if_pos q] at h
    get_elem_tactic_trivial
    exact h
  · rw [decide_eq_false q]
    rw [if_neg q] at h
    get_elem_tactic_trivial
    refine ⟨cdg_of 20 (by omega) (by omega), me_l (by omega), ?_⟩
    rw [Int.fdiv_eq_ediv_of_nonneg _ (by omega)]
    exact h
end
end K53

namespace K53
open PySem L2 DL
set_option hygiene false
local macro_rules | `(tactic| get_elem_tactic_trivial) => `(tactic| simp (config := { failIfUnchanged := false }) only [↓e_iteT, ↓e_iteF, e_iteN, ↓e_tbk, ↓e_kz, ↓e_ke, ↓e_kst, ↓e_mkk, ↓e_C, ↓e_Nil, ↓e_Cons, ↓e_Tup, ↓e_Lst, ↓e_Bin, ↓e_BinE, ↓e_opz, ↓e_UnE, ↓e_unz, ↓e_CalE, ↓e_caz, ↓e_Bu, ↓e_TB, ↓e_And, ↓e_Or, ↓e_Not, ↓e_AndV, ↓e_OrV, ↓e_NotV, ↓e_If, ↓e_Next, ↓e_Seq, ↓e_sq_nx, ↓e_sq_rt, ↓e_sq_bk, ↓e_sq_ct, ↓e_sq_ex, ↓e_lp_nx, ↓e_lp_ct, ↓e_lp_bk, ↓e_lp_rt, ↓e_lp_ex, ↓e_wh_nx, ↓e_wh_ct, ↓e_wh_bk, ↓e_wh_rt, ↓e_wh_ex, ↓e_Drop, ↓e_Ret, ↓e_Ite, ↓e_Set, ↓e_Asg, ↓e_gN, ↓e_gZ, ↓e_gC, ↓e_gT, ↓e_Par, ↓e_park, ↓e_For, ↓e_ItL, ↓e_itk, ↓e_ItT, ↓e_itkT, ↓e_Rng1, ↓e_rngk, ↓e_Rng2, ↓e_rngk2, ↓e_Call, ↓e_clk, ↓e_Meth, ↓e_mek, ↓e_mec, ↓e_MethK, ↓e_mekK, ↓e_At, ↓e_atk, ↓e_atkX, ↓e_lkkS, ↓e_lkkN, ↓e_xkkS, ↓e_SelfSet, ↓e_ssk, ↓e_Own, ↓e_App, ↓e_Raise, ↓e_rai0, ↓e_rai1, ↓e_rai2, ↓e_Try, ↓e_try_nx, ↓e_try_rt, ↓e_try_bk, ↓e_try_ct, ↓e_try_ex, ↓e_trykT, ↓e_trykF, ↓e_Js0, ↓e_Js1, ↓e_jsk, ↓e_Fmt, ↓e_fmkS, ↓e_fmkI, ↓e_Chain, ↓e_chk, e_isB, ↓e_Sl, ↓e_None, ↓e_Part, ↓e_prk, ↓e_oSlL, ↓e_oSlT, ↓e_oSlS, ↓e_Ix, ↓e_oIxL, ↓e_oIxT, ↓e_oIxS, ↓e_ix0, ↓e_ix1, ↓e_ix2, ↓e_ix3, ↓e_ix4, ↓e_ix5, ↓e_Lam, ↓e_Act, ↓e_lamAct, e_fzF, e_clN, ↓e_fn_nx, ↓e_fn_rt, ↓e_fn_ex, ↓e_in_nx, ↓e_in_ex, ↓e_I, ↓e_AddI, ↓e_AddIB, ↓e_AddS, ↓e_AddL, ↓e_AddT, ↓e_Len0, ↓e_Len1, ↓e_Len2, ↓e_Int0, ↓e_Int1, ↓e_Abs, ↓e_Repr, ↓e_List0, ↓e_List1, ↓e_Tuple0, ↓e_Tuple1, ↓e_Gcd, ↓e_IsNN, ↓e_IsNB, ↓e_IsNI, ↓e_IsNS, ↓e_IsNX, ↓e_IsNC, ↓e_IsNL, ↓e_IsNT, ↓e_NegI, ↓e_NegC, ↓e_AbsI, ↓e_AbsC, ↓e_bok, ↓e_bno, ↓e_sok, ↓e_BoolI, ↓e_BoolB, ↓e_BoolC, ↓e_StrI, ↓e_StrS, ↓e_StrC, ↓e_dpt, ↓e_EqC, ↓e_EqI, ↓e_EqB, ↓e_EqS, ↓e_EqIC, ↓e_Eq0I, ↓e_Eq0B, ↓e_Eq0S, ↓e_Ne0I, ↓e_Ne0S, ↓e_NeI, ↓e_NeS, ↓e_NeC, ↓e_NeIC, ↓e_OrdI, ↓e_OrdC, ↓e_OrdIC, ↓e_BinI, ↓e_BinC, ↓e_BinIC, ↓e_BinS, ↓e_BinL, ↓e_InpC, ↓e_MulI, ↓e_MulL, e_okRi, e_okRC, ↓e_agk, ↓e_LC, ↓e_lck, ↓e_lcP, ↓e_ColN, ↓e_ColC, ↓e_colk, ↓e_Yes, e_clVN, ↓e_V0, ↓e_O0, ↓e_S0, ↓e_P0, ↓e_H0, ↓e_G0, ↓e_V1, ↓e_O1, ↓e_S1, ↓e_P1, ↓e_H1, ↓e_G1, ↓e_V2, ↓e_O2, ↓e_S2, ↓e_P2, ↓e_H2, ↓e_G2, ↓e_V3, ↓e_O3, ↓e_S3, ↓e_P3, ↓e_H3, ↓e_G3, ↓e_V4, ↓e_O4, ↓e_S4, ↓e_P4, ↓e_H4, ↓e_G4, ↓e_V5, ↓e_O5, ↓e_S5, ↓e_P5, ↓e_H5, ↓e_G5, ↓e_V6, ↓e_O6, ↓e_S6, ↓e_P6, ↓e_H6, ↓e_G6, ↓e_V7, ↓e_O7, ↓e_S7, ↓e_P7, ↓e_H7, ↓e_G7, ↓e_V8, ↓e_O8, ↓e_S8, ↓e_P8, ↓e_H8, ↓e_G8, ↓e_V9, ↓e_O9, ↓e_S9, ↓e_P9, ↓e_H9, ↓e_G9, ↓e_V10, ↓e_O10, ↓e_S10, ↓e_P10, ↓e_H10, ↓e_G10, ↓e_V11, ↓e_O11, ↓e_S11, ↓e_P11, ↓e_H11, ↓e_G11, ↓e_V12, ↓e_O12, ↓e_S12, ↓e_P12, ↓e_H12, ↓e_G12, ↓e_V13, ↓e_O13, ↓e_S13, ↓e_P13, ↓e_H13, ↓e_G13, ↓e_V14, ↓e_O14, ↓e_S14, ↓e_P14, ↓e_H14, ↓e_G14, ↓e_V15, ↓e_O15, ↓e_S15, ↓e_P15, ↓e_H15, ↓e_G15, ↓e_V16, ↓e_O16, ↓e_S16, ↓e_P16, ↓e_H16, ↓e_G16, ↓e_V17, ↓e_O17, ↓e_S17, ↓e_P17, ↓e_H17, ↓e_G17, ↓e_SF0, ↓e_Max2, ↓e_Min2, ↓e_NeB, ↓e_Ne0B, e_clA, e_clA2, e_cl1D, e_cl1U, e_cl1O, e_cl1K, true_and, and_true, List.length_cons, List.length_nil, Nat.reduceAdd, Nat.reduceLeDiff, Nat.reduceLT, Nat.zero_le, Bool.and_true, Bool.true_and, Bool.and_false, Bool.false_and, Bool.or_true, Bool.true_or, Bool.or_false, Bool.false_or, Bool.not_true, Bool.not_false, Bool.not_not, decide_true, decide_false, Int.reduceLT, Int.reduceLE, Int.reduceEq, Int.reduceNeg, Int.reduceAdd, Int.reduceSub, Int.reduceMul, List.cons_append, List.nil_append, beq_self_eq_true, reduceCtorEq, List.mem_cons, List.not_mem_nil, or_false, Nat.reduceEqDiff, Nat.succ_ne_zero, if_true, if_false, ↓reduceIte, cq_law_draw_2, cq_law_pick_2, cq_law_parts_1, cq_Bucket___eq___2, tq_eq_eq_Bucket, cq_law_near_2, cq_is_int_1, cq_is_between_3, cr_Bucket_Bucket___init___3, cq_need_like_1, cq_bits_in_2, cq_Bucket___le___2, tq_own_le_Bucket, cq_Bucket___lt___2, tq_own_lt_Bucket, cq_Bucket___gt___2, tq_own_gt_Bucket, tq_ordr_lt_Bucket, cq_law_is_below_2, cq_Bucket___ge___2, tq_ordr_ge_Bucket, tq_ordr_gt_Bucket, tq_own_ge_Bucket, tq_ordr_le_Bucket, cq_need_number_2, cq_Bucket_earliest_2, tq_meth_earliest_Bucket_2, cq_law_pair_right_2, isa_NoneType_BadBucket T, isa_bool_BadBucket T, isa_int_BadBucket T, isa_str_BadBucket T, isa_list_BadBucket T, isa_tuple_BadBucket T, isa_dict_BadBucket T, isa_c_Bucket_BadBucket T, isa_x_BadBucket_BadBucket T, isa_x_BadNumber_BadBucket T, isa_NoneType_Bucket T, isa_bool_Bucket T, isa_int_Bucket T, isa_str_Bucket T, isa_list_Bucket T, isa_tuple_Bucket T, isa_dict_Bucket T, isa_c_Bucket_Bucket T, isa_x_BadBucket_Bucket T, isa_x_BadNumber_Bucket T, isa_NoneType_bool T, isa_bool_bool T, isa_int_bool T, isa_str_bool T, isa_list_bool T, isa_tuple_bool T, isa_dict_bool T, isa_c_Bucket_bool T, isa_x_BadBucket_bool T, isa_x_BadNumber_bool T, isa_NoneType_int T, isa_bool_int T, isa_int_int T, isa_str_int T, isa_list_int T, isa_tuple_int T, isa_dict_int T, isa_c_Bucket_int T, isa_x_BadBucket_int T, isa_x_BadNumber_int T, T.em_BadBucket_CreditError, T.em_BadNumber_CreditError, np_Bucket_NoneType T, np_Bucket_bool T, np_Bucket_int T, np_Bucket_str T, np_Bucket_list T, np_Bucket_tuple T, np_Bucket_dict T, np_Bucket_c_Bucket T, lk_Bucket_burst, T.na_Bucket_burst, lk_Bucket_rate, T.na_Bucket_rate, lk_Bucket_every, T.na_Bucket_every, pd_Bucket_burst, pd_Bucket_rate, pd_Bucket_every, lx_BadBucket_part, T.xa_BadBucket_part, lx_BadNumber_value, T.xa_BadNumber_value, ml_Bucket_earliest, u_law_draw_8, u_law_draw_7, u_law_draw_6, u_law_draw_5, u_law_draw_4, u_law_draw_3, u_law_draw_2, u_law_draw_1, t_law_draw, t_law_pick, t_law_parts, u_Bucket___eq___1, t_Bucket___eq__, u_law_near_5, u_law_near_4, u_law_near_3, u_law_near_2, u_law_near_1, t_law_near, t_is_int, t_is_between, u_Bucket___init___5, u_Bucket___init___4, u_Bucket___init___3, u_Bucket___init___2, u_Bucket___init___1, t_Bucket___init__, t_need_like, t_bits_in, u_Bucket___le___3, u_Bucket___le___2, u_Bucket___le___1, t_Bucket___le__, t_Bucket___lt__, u_Bucket___gt___1, t_Bucket___gt__, u_law_is_below_2, u_law_is_below_1, t_law_is_below, u_Bucket___ge___1, t_Bucket___ge__, t_need_number, u_Bucket_earliest_2, u_Bucket_earliest_1, t_Bucket_earliest, u_law_pair_right_6, u_law_pair_right_5, u_law_pair_right_4, u_law_pair_right_3, u_law_pair_right_2, u_law_pair_right_1, t_law_pair_right, u_law_heard_2, u_law_heard_1, t_law_heard, u_law_4, u_law_3, u_law_2, u_law_1, t_law, xo_BadBucket, xo_BadNumber])
local macro_rules | `(tactic| decreasing_trivial) => `(tactic| simp (config := { failIfUnchanged := false }) only [↓e_iteT, ↓e_iteF, e_iteN, ↓e_tbk, ↓e_kz, ↓e_ke, ↓e_kst, ↓e_mkk, ↓e_C, ↓e_Nil, ↓e_Cons, ↓e_Tup, ↓e_Lst, ↓e_Bin, ↓e_BinE, ↓e_opz, ↓e_UnE, ↓e_unz, ↓e_CalE, ↓e_caz, ↓e_Bu, ↓e_TB, ↓e_And, ↓e_Or, ↓e_Not, ↓e_AndV, ↓e_OrV, ↓e_NotV, ↓e_If, ↓e_Next, ↓e_Seq, ↓e_sq_nx, ↓e_sq_rt, ↓e_sq_bk, ↓e_sq_ct, ↓e_sq_ex, ↓e_lp_nx, ↓e_lp_ct, ↓e_lp_bk, ↓e_lp_rt, ↓e_lp_ex, ↓e_wh_nx, ↓e_wh_ct, ↓e_wh_bk, ↓e_wh_rt, ↓e_wh_ex, ↓e_Drop, ↓e_Ret, ↓e_Ite, ↓e_Set, ↓e_Asg, ↓e_gN, ↓e_gZ, ↓e_gC, ↓e_gT, ↓e_Par, ↓e_park, ↓e_For, ↓e_ItL, ↓e_itk, ↓e_ItT, ↓e_itkT, ↓e_Rng1, ↓e_rngk, ↓e_Rng2, ↓e_rngk2, ↓e_Call, ↓e_clk, ↓e_Meth, ↓e_mek, ↓e_mec, ↓e_MethK, ↓e_mekK, ↓e_At, ↓e_atk, ↓e_atkX, ↓e_lkkS, ↓e_lkkN, ↓e_xkkS, ↓e_SelfSet, ↓e_ssk, ↓e_Own, ↓e_App, ↓e_Raise, ↓e_rai0, ↓e_rai1, ↓e_rai2, ↓e_Try, ↓e_try_nx, ↓e_try_rt, ↓e_try_bk, ↓e_try_ct, ↓e_try_ex, ↓e_trykT, ↓e_trykF, ↓e_Js0, ↓e_Js1, ↓e_jsk, ↓e_Fmt, ↓e_fmkS, ↓e_fmkI, ↓e_Chain, ↓e_chk, e_isB, ↓e_Sl, ↓e_None, ↓e_Part, ↓e_prk, ↓e_oSlL, ↓e_oSlT, ↓e_oSlS, ↓e_Ix, ↓e_oIxL, ↓e_oIxT, ↓e_oIxS, ↓e_ix0, ↓e_ix1, ↓e_ix2, ↓e_ix3, ↓e_ix4, ↓e_ix5, ↓e_Lam, ↓e_Act, ↓e_lamAct, e_fzF, e_clN, ↓e_fn_nx, ↓e_fn_rt, ↓e_fn_ex, ↓e_in_nx, ↓e_in_ex, ↓e_I, ↓e_AddI, ↓e_AddIB, ↓e_AddS, ↓e_AddL, ↓e_AddT, ↓e_Len0, ↓e_Len1, ↓e_Len2, ↓e_Int0, ↓e_Int1, ↓e_Abs, ↓e_Repr, ↓e_List0, ↓e_List1, ↓e_Tuple0, ↓e_Tuple1, ↓e_Gcd, ↓e_IsNN, ↓e_IsNB, ↓e_IsNI, ↓e_IsNS, ↓e_IsNX, ↓e_IsNC, ↓e_IsNL, ↓e_IsNT, ↓e_NegI, ↓e_NegC, ↓e_AbsI, ↓e_AbsC, ↓e_bok, ↓e_bno, ↓e_sok, ↓e_BoolI, ↓e_BoolB, ↓e_BoolC, ↓e_StrI, ↓e_StrS, ↓e_StrC, ↓e_dpt, ↓e_EqC, ↓e_EqI, ↓e_EqB, ↓e_EqS, ↓e_EqIC, ↓e_Eq0I, ↓e_Eq0B, ↓e_Eq0S, ↓e_Ne0I, ↓e_Ne0S, ↓e_NeI, ↓e_NeS, ↓e_NeC, ↓e_NeIC, ↓e_OrdI, ↓e_OrdC, ↓e_OrdIC, ↓e_BinI, ↓e_BinC, ↓e_BinIC, ↓e_BinS, ↓e_BinL, ↓e_InpC, ↓e_MulI, ↓e_MulL, e_okRi, e_okRC, ↓e_agk, ↓e_LC, ↓e_lck, ↓e_lcP, ↓e_ColN, ↓e_colk, ↓e_Yes, e_clVN, ↓e_V0, ↓e_O0, ↓e_S0, ↓e_P0, ↓e_H0, ↓e_G0, ↓e_V1, ↓e_O1, ↓e_S1, ↓e_P1, ↓e_H1, ↓e_G1, ↓e_V2, ↓e_O2, ↓e_S2, ↓e_P2, ↓e_H2, ↓e_G2, ↓e_V3, ↓e_O3, ↓e_S3, ↓e_P3, ↓e_H3, ↓e_G3, ↓e_V4, ↓e_O4, ↓e_S4, ↓e_P4, ↓e_H4, ↓e_G4, ↓e_V5, ↓e_O5, ↓e_S5, ↓e_P5, ↓e_H5, ↓e_G5, ↓e_V6, ↓e_O6, ↓e_S6, ↓e_P6, ↓e_H6, ↓e_G6, ↓e_V7, ↓e_O7, ↓e_S7, ↓e_P7, ↓e_H7, ↓e_G7, ↓e_V8, ↓e_O8, ↓e_S8, ↓e_P8, ↓e_H8, ↓e_G8, ↓e_V9, ↓e_O9, ↓e_S9, ↓e_P9, ↓e_H9, ↓e_G9, ↓e_V10, ↓e_O10, ↓e_S10, ↓e_P10, ↓e_H10, ↓e_G10, ↓e_V11, ↓e_O11, ↓e_S11, ↓e_P11, ↓e_H11, ↓e_G11, ↓e_V12, ↓e_O12, ↓e_S12, ↓e_P12, ↓e_H12, ↓e_G12, ↓e_V13, ↓e_O13, ↓e_S13, ↓e_P13, ↓e_H13, ↓e_G13, ↓e_V14, ↓e_O14, ↓e_S14, ↓e_P14, ↓e_H14, ↓e_G14, ↓e_V15, ↓e_O15, ↓e_S15, ↓e_P15, ↓e_H15, ↓e_G15, ↓e_V16, ↓e_O16, ↓e_S16, ↓e_P16, ↓e_H16, ↓e_G16, ↓e_V17, ↓e_O17, ↓e_S17, ↓e_P17, ↓e_H17, ↓e_G17, ↓e_SF0, ↓e_Max2, ↓e_Min2, ↓e_NeB, ↓e_Ne0B, e_clA, e_clA2, e_cl1D, e_cl1U, e_cl1O, e_cl1K, true_and, and_true, List.length_cons, List.length_nil, Nat.reduceAdd, Nat.reduceLeDiff, Nat.reduceLT, Nat.zero_le, Bool.and_true, Bool.true_and, Bool.and_false, Bool.false_and, Bool.or_true, Bool.true_or, Bool.or_false, Bool.false_or, Bool.not_true, Bool.not_false, Bool.not_not, decide_true, decide_false, Int.reduceLT, Int.reduceLE, Int.reduceEq, Int.reduceNeg, Int.reduceAdd, Int.reduceSub, Int.reduceMul, List.cons_append, List.nil_append, beq_self_eq_true, reduceCtorEq, List.mem_cons, List.not_mem_nil, or_false, Nat.reduceEqDiff, Nat.succ_ne_zero, if_true, if_false, ↓reduceIte, cq_law_draw_2, cq_law_pick_2, cq_law_parts_1, cq_Bucket___eq___2, tq_eq_eq_Bucket, cq_law_near_2, cq_is_int_1, cq_is_between_3, cr_Bucket_Bucket___init___3, cq_need_like_1, cq_bits_in_2, cq_Bucket___le___2, tq_own_le_Bucket, cq_Bucket___lt___2, tq_own_lt_Bucket, cq_Bucket___gt___2, tq_own_gt_Bucket, tq_ordr_lt_Bucket, cq_law_is_below_2, cq_Bucket___ge___2, tq_ordr_ge_Bucket, tq_ordr_gt_Bucket, tq_own_ge_Bucket, tq_ordr_le_Bucket, cq_need_number_2, cq_Bucket_earliest_2, tq_meth_earliest_Bucket_2, cq_law_pair_right_2, isa_NoneType_BadBucket T, isa_bool_BadBucket T, isa_int_BadBucket T, isa_str_BadBucket T, isa_list_BadBucket T, isa_tuple_BadBucket T, isa_dict_BadBucket T, isa_c_Bucket_BadBucket T, isa_x_BadBucket_BadBucket T, isa_x_BadNumber_BadBucket T, isa_NoneType_Bucket T, isa_bool_Bucket T, isa_int_Bucket T, isa_str_Bucket T, isa_list_Bucket T, isa_tuple_Bucket T, isa_dict_Bucket T, isa_c_Bucket_Bucket T, isa_x_BadBucket_Bucket T, isa_x_BadNumber_Bucket T, isa_NoneType_bool T, isa_bool_bool T, isa_int_bool T, isa_str_bool T, isa_list_bool T, isa_tuple_bool T, isa_dict_bool T, isa_c_Bucket_bool T, isa_x_BadBucket_bool T, isa_x_BadNumber_bool T, isa_NoneType_int T, isa_bool_int T, isa_int_int T, isa_str_int T, isa_list_int T, isa_tuple_int T, isa_dict_int T, isa_c_Bucket_int T, isa_x_BadBucket_int T, isa_x_BadNumber_int T, T.em_BadBucket_CreditError, T.em_BadNumber_CreditError, np_Bucket_NoneType T, np_Bucket_bool T, np_Bucket_int T, np_Bucket_str T, np_Bucket_list T, np_Bucket_tuple T, np_Bucket_dict T, np_Bucket_c_Bucket T, lk_Bucket_burst, T.na_Bucket_burst, lk_Bucket_rate, T.na_Bucket_rate, lk_Bucket_every, T.na_Bucket_every, pd_Bucket_burst, pd_Bucket_rate, pd_Bucket_every, lx_BadBucket_part, T.xa_BadBucket_part, lx_BadNumber_value, T.xa_BadNumber_value, ml_Bucket_earliest, u_law_draw_8, u_law_draw_7, u_law_draw_6, u_law_draw_5, u_law_draw_4, u_law_draw_3, u_law_draw_2, u_law_draw_1, t_law_draw, t_law_pick, t_law_parts, u_Bucket___eq___1, t_Bucket___eq__, u_law_near_5, u_law_near_4, u_law_near_3, u_law_near_2, u_law_near_1, t_law_near, t_is_int, t_is_between, u_Bucket___init___5, u_Bucket___init___4, u_Bucket___init___3, u_Bucket___init___2, u_Bucket___init___1, t_Bucket___init__, t_need_like, t_bits_in, u_Bucket___le___3, u_Bucket___le___2, u_Bucket___le___1, t_Bucket___le__, t_Bucket___lt__, u_Bucket___gt___1, t_Bucket___gt__, u_law_is_below_2, u_law_is_below_1, t_law_is_below, u_Bucket___ge___1, t_Bucket___ge__, t_need_number, u_Bucket_earliest_2, u_Bucket_earliest_1, t_Bucket_earliest, u_law_pair_right_6, u_law_pair_right_5, u_law_pair_right_4, u_law_pair_right_3, u_law_pair_right_2, u_law_pair_right_1, t_law_pair_right, u_law_heard_2, u_law_heard_1, t_law_heard, u_law_4, u_law_3, u_law_2, u_law_1, t_law, xo_BadBucket, xo_BadNumber])

section
variable {c : Wd} {A : Ad} {z : Z} {P : D → Z → Prop} {R : Er → Z → Prop} {f : Addr} {act : DAct}

theorem parts_ok (T : Txt c A) (hz : 4 ≤ z.fu) (hp : ∀ b r e z', 1 ≤ b → b ≤ 90 → 1 ≤ r → r ≤ 12 → 1 ≤ e → e ≤ 12 → Zd 4 z z' → P (.lst [.int b, .int r, .int e]) z') : sp_law_parts c A [.pen] z P R := by
  refine ⟨rfl, ?_⟩
  show t_law_parts c A _ ⟨[.d .pen], z⟩
  get_elem_tactic_trivial
  refine pick_ok T ?_ ?_ ?_ fun d z1 hd z1d => ?_
  · simp
  · simp
  · omega
  obtain ⟨m, rfl, m0, m1⟩ : ∃ m : Int, d = .int m ∧ 0 < m ∧ m ≤ 90 := by
    simp only [List.mem_cons, List.not_mem_nil, or_false] at hd
    rcases hd with rfl | rfl | rfl <;> exact ⟨_, rfl, by decide⟩
  get_elem_tactic_trivial
  refine sDraw_ok m0 (by omega) (by have := z1d.2; omega) fun v z2 v0 v1 z2d => ?_
  get_elem_tactic_trivial
  refine sDraw_ok (by decide) (by decide) (by have := z1d.2; have := z2d.2; omega) fun v3 z3 w0 w1 z3d => ?_
  get_elem_tactic_trivial
  refine sDraw_ok (by decide) (by decide) (by have := z1d.2; have := z2d.2; have := z3d.2; omega) fun v4 z4 x0 x1 z4d => ?_
  get_elem_tactic_trivial
  exact hp _ _ _ _ (by omega) (by omega) (by omega) (by omega) (by omega) (by omega) (((z1d.trans z2d).trans z3d).trans z4d)
theorem near_ok (T : Txt c A) {b r e : Int} (hb1 : 1 ≤ b) (hb2 : b ≤ 90) (hr1 : 1 ≤ r) (hr2 : r ≤ 12) (he1 : 1 ≤ e) (he2 : e ≤ 12) (hz : 6 ≤ z.fu) (hp : ∀ b r e z', 1 ≤ b → b ≤ 200 → 1 ≤ r → r ≤ 40 → 1 ≤ e → e ≤ 40 → Zd 6 z z' → P (.lst [.int b, .int r, .int e]) z') : sp_law_near c A [.pen, .lst [.int b, .int r, .int e]] z P R := by
  refine ⟨rfl, ?_⟩
  show t_law_near c A _ ⟨[.d .pen, .d (.lst [.int b, .int r, .int e]), .un, .un, .un, .un, .un], z⟩
  get_elem_tactic_trivial
  refine sDraw_ok (by decide) (by decide) (by omega) fun v z1 v0 v1 z1d => ?_
  get_elem_tactic_trivial
  refine pick_ok T ?_ ?_ ?_ fun d z2 hd z2d => ?_
  · simp
  · simp
  · have := z1d.2; omega
  obtain ⟨m, rfl, m0, m1⟩ : ∃ m : Int, d = .int m ∧ 1 ≤ m ∧ m ≤ 3 := by
    simp only [List.mem_cons, List.not_mem_nil, or_false] at hd
    rcases hd with rfl | rfl | rfl <;> exact ⟨_, rfl, by decide⟩
  clear hd
  have u1 : r * m ≤ 12 * 3 := Int.mul_le_mul hr2 m1 (by omega) (by omega)
  have u2 : e * m ≤ 12 * 3 := Int.mul_le_mul he2 m1 (by omega) (by omega)
  have u3 : 0 < r * m := Int.mul_pos (by omega) (by omega)
  have u4 : 0 < e * m := Int.mul_pos (by omega) (by omega)
  have u5 : r * (m - 1) ≤ 12 * 2 := Int.mul_le_mul hr2 (by omega) (by omega) (by omega)
  have u6 : 0 ≤ r * (m - 1) := Int.mul_nonneg (by omega) (by omega)
  get_elem_tactic_trivial
  by_cases h0 : v = 0
  · rw [decide_eq_true h0]
    get_elem_tactic_trivial
    refine parts_ok T (by have := z1d.2; have := z2d.2; omega) fun b' r' e' z3 g1 g2 g3 g4 g5 g6 z3d => ?_
    get_elem_tactic_trivial
    exact hp _ _ _ _ (by omega) (by omega) (by omega) (by omega) (by omega) (by omega) ((z1d.trans z2d).trans z3d)
  · rw [decide_eq_false h0]
    get_elem_tactic_trivial
    by_cases h1 : v = 1
    · rw [decide_eq_true h1]
      get_elem_tactic_trivial
      refine ⟨me_l (by omega), me_l (by omega), ?_⟩
      exact hp _ _ _ _ (by omega) (by omega) (by omega) (by omega) (by omega) (by omega) ((z1d.trans z2d).le (by decide))
    · rw [decide_eq_false h1]
      get_elem_tactic_trivial
      by_cases h2 : v = 2
      · rw [decide_eq_true h2]
        get_elem_tactic_trivial
        refine ⟨me_l (by omega), me_l (by omega), me_l (by omega), ?_⟩
        exact hp _ _ _ _ (by omega) (by omega) (by omega) (by omega) (by omega) (by omega) ((z1d.trans z2d).le (by decide))
      · rw [decide_eq_false h2]
        get_elem_tactic_trivial
        refine sDraw_ok (by decide) (by decide) (by have := z1d.2; have := z2d.2; omega) fun w z3 w0 w1 z3d => ?_
        get_elem_tactic_trivial
        refine pick_ok T ?_ ?_ ?_ fun d z4 hd z4d => ?_
        · simp
        · simp
        · have := z1d.2; have := z2d.2; have := z3d.2; omega
        obtain ⟨q, rfl, q0, q1⟩ : ∃ m : Int, d = .int m ∧ -1 ≤ m ∧ m ≤ 2 := by
          simp only [List.mem_cons, List.not_mem_nil, or_false] at hd
          rcases hd with rfl | rfl | rfl | rfl <;> exact ⟨_, rfl, by decide⟩
        clear hd
        get_elem_tactic_trivial
        have e3 : (List.range (Int.toNat 3)).map (fun (i : Nat) => D.int (0 + (i : Int))) = [.int 0, .int 1, .int 2] := rfl
        refine ⟨by decide, ?_⟩
        rw [e3]
        get_elem_tactic_trivial
        have nm : ∀ (b : Bool), q * (if b = true then 1 else 0) ≤ 2 ∧ -1 ≤ q * (if b = true then 1 else 0) := fun b => by cases b <;> simp <;> omega
        have n1 := nm (decide (0 = w))
        have n2 := nm (decide (1 = w))
        have n3 := nm (decide (2 = w))
        refine ⟨me_l (by omega), me_l (by omega), me_l (by omega), ?_⟩
        exact hp _ _ _ _ (by split <;> omega) (by split <;> omega) (by split <;> omega) (by split <;> omega) (by split <;> omega) (by split <;> omega) ((((z1d.trans z2d).trans z3d).trans z4d).le (by decide))
theorem below_loop (T : Txt c A) {b r e b2 r2 e2 : Int} (k : Ok b r e) (k2 : Ok b2 r2 e2) {N : DN} : ∀ (is : List Nat) (s2 : Sl), ((∀ i ∈ is, fB b r e i ≤ fB b2 r2 e2 i) → ∀ s2, N.nx ⟨[.d (.lst [.int b, .int r, .int e]), .d (.lst [.int b2, .int r2, .int e2]), s2], z⟩) → ((∃ i ∈ is, ¬ fB b r e i ≤ fB b2 r2 e2 i) → ∀ s2, N.rt (.bl false) ⟨[.d (.lst [.int b, .int r, .int e]), .d (.lst [.int b2, .int r2, .int e2]), s2], z⟩) →
    dLoop (gN 2) (dIte (dTB (dBinE (oOrdA c (tq_own_gt_Bucket c A) (tq_ordr_lt_Bucket c A) fun i j => decide (j < i)) (dBin oAdd (dIx (dVar 0) (dC (.int 0))) (dBin (oI CMulE fun i j => .int (i * j)) (dIx (dVar 0) (dC (.int 1))) (dBin (oI CDivW fun i j => .int (i / j)) (dBu oInt (dCons (dVar 2) (dNil))) (dIx (dVar 0) (dC (.int 2)))))) (dBin oAdd (dIx (dVar 1) (dC (.int 0))) (dBin (oI CMulE fun i j => .int (i * j)) (dIx (dVar 1) (dC (.int 1))) (dBin (oI CDivW fun i j => .int (i / j)) (dBu oInt (dCons (dVar 2) (dNil))) (dIx (dVar 1) (dC (.int 2)))))))) (dRet (dC (.bl false))) (dNext)) N (is.map fun (i : Nat) => D.int (0 + (i : Int))) ⟨[.d (.lst [.int b, .int r, .int e]), .d (.lst [.int b2, .int r2, .int e2]), s2], z⟩
  | [], s2, hn, hr => hn (fun _ h => by cases h) s2
  | i :: is, s2, hn, hr => by
    have ih := below_loop T k k2 (N := N) is
    obtain ⟨h1, h2, h3, h4, h5, h6⟩ := k
    obtain ⟨g1, g2, g3, g4, g5, g6⟩ := k2
    rw [List.map_cons, loop_cons]
    get_elem_tactic_trivial
    simp only [Int.zero_add]
    refine ⟨cdw 20 (by omega) (by omega), me_l (by omega), cdw 20 (by omega) (by omega), me_l (by omega), ?_⟩
    by_cases hc : fB b r e i ≤ fB b2 r2 e2 i
    · rw [decide_eq_false (by unfold fB at hc; omega)]
      get_elem_tactic_trivial
      exact ih _ (fun h => hn fun j hj => by rcases List.mem_cons.mp hj with rfl | hj; exact hc; exact h j hj) (fun ⟨j, hj, h⟩ => hr ⟨j, List.mem_cons_of_mem _ hj, h⟩)
    · rw [decide_eq_true (by unfold fB at hc; omega)]
      get_elem_tactic_trivial
      exact hr ⟨i, List.mem_cons_self .., hc⟩ _
theorem below_ok (T : Txt c A) {b r e b2 r2 e2 : Int} (k : Ok b r e) (k2 : Ok b2 r2 e2) (h : P (.bl (leB b r e b2 r2 e2)) z) : sp_law_is_below c A [.lst [.int b, .int r, .int e], .lst [.int b2, .int r2, .int e2]] z P R := by
  refine ⟨rfl, ?_⟩
  show t_law_is_below c A _ ⟨[.d (.lst [.int b, .int r, .int e]), .d (.lst [.int b2, .int r2, .int e2]), .un], z⟩
  have kk := k
  have kk2 := k2
  obtain ⟨h1, h2, h3, h4, h5, h6⟩ := k
  obtain ⟨g1, g2, g3, g4, g5, g6⟩ := k2
  have ne := le_near (b := b) (r := r) (e := e) (b2 := b2) (r2 := r2) (e2 := e2) (by omega) (by omega) (by omega) (by omega)
  get_elem_tactic_trivial
  refine ⟨me_l (by omega), me_l (by omega), ?_⟩
  by_cases hc : r2 * e < r * e2
  · rw [decide_eq_true hc]
    get_elem_tactic_trivial
    have : leB b r e b2 r2 e2 = false := by
      cases q : leB b r e b2 r2 e2 with
      | false => rfl
      | true => have := (ne.mp q).1; omega
    rw [this] at h
    exact h
  · rw [decide_eq_false hc]
    get_elem_tactic_trivial
    have p1 : 0 < e * e2 := Int.mul_pos (by omega) (by omega)
    have p2 : e * e2 ≤ 1000 * 1000 := Int.mul_le_mul (by omega) (by omega) (by omega) (by omega)
    refine ⟨me_l (by omega), by omega, ?_⟩
    refine below_loop T kk kk2 _ _ (fun ha s2 => ?_) (fun ⟨i, hi, hx⟩ s2 => ?_)
    · get_elem_tactic_trivial
      have : leB b r e b2 r2 e2 = true := ne.mpr ⟨by omega, fun t t0 t1 => by
        have := ha t.toNat (by rw [List.mem_range]; omega)
        rw [Int.toNat_of_nonneg t0] at this
        exact this⟩
      rw [this] at h
      exact h
    · get_elem_tactic_trivial
      have : leB b r e b2 r2 e2 = false := by
        cases q : leB b r e b2 r2 e2 with
        | false => rfl
        | true =>
          rw [List.mem_range] at hi
          exact absurd ((ne.mp q).2 i (by omega) (by omega)) hx
      rw [this] at h
      exact h
end
end K53

namespace K53
open PySem L2 DL
set_option hygiene false
local macro_rules | `(tactic| get_elem_tactic_trivial) => `(tactic| simp (config := { failIfUnchanged := false }) only [↓e_iteT, ↓e_iteF, e_iteN, ↓e_tbk, ↓e_kz, ↓e_ke, ↓e_kst, ↓e_mkk, ↓e_C, ↓e_Nil, ↓e_Cons, ↓e_Tup, ↓e_Lst, ↓e_Bin, ↓e_BinE, ↓e_opz, ↓e_UnE, ↓e_unz, ↓e_CalE, ↓e_caz, ↓e_Bu, ↓e_TB, ↓e_And, ↓e_Or, ↓e_Not, ↓e_AndV, ↓e_OrV, ↓e_NotV, ↓e_If, ↓e_Next, ↓e_Seq, ↓e_sq_nx, ↓e_sq_rt, ↓e_sq_bk, ↓e_sq_ct, ↓e_sq_ex, ↓e_lp_nx, ↓e_lp_ct, ↓e_lp_bk, ↓e_lp_rt, ↓e_lp_ex, ↓e_wh_nx, ↓e_wh_ct, ↓e_wh_bk, ↓e_wh_rt, ↓e_wh_ex, ↓e_Drop, ↓e_Ret, ↓e_Ite, ↓e_Set, ↓e_Asg, ↓e_gN, ↓e_gZ, ↓e_gC, ↓e_gT, ↓e_Par, ↓e_park, ↓e_For, ↓e_ItL, ↓e_itk, ↓e_ItT, ↓e_itkT, ↓e_Rng1, ↓e_rngk, ↓e_Rng2, ↓e_rngk2, ↓e_Call, ↓e_clk, ↓e_Meth, ↓e_mek, ↓e_mec, ↓e_MethK, ↓e_mekK, ↓e_At, ↓e_atk, ↓e_atkX, ↓e_lkkS, ↓e_lkkN, ↓e_xkkS, ↓e_SelfSet, ↓e_ssk, ↓e_Own, ↓e_App, ↓e_Raise, ↓e_rai0, ↓e_rai1, ↓e_rai2, ↓e_Try, ↓e_try_nx, ↓e_try_rt, ↓e_try_bk, ↓e_try_ct, ↓e_try_ex, ↓e_trykT, ↓e_trykF, ↓e_Js0, ↓e_Js1, ↓e_jsk, ↓e_Fmt, ↓e_fmkS, ↓e_fmkI, ↓e_Chain, ↓e_chk, e_isB, ↓e_Sl, ↓e_None, ↓e_Part, ↓e_prk, ↓e_oSlL, ↓e_oSlT, ↓e_oSlS, ↓e_Ix, ↓e_oIxL, ↓e_oIxT, ↓e_oIxS, ↓e_ix0, ↓e_ix1, ↓e_ix2, ↓e_ix3, ↓e_ix4, ↓e_ix5, ↓e_Lam, ↓e_Act, ↓e_lamAct, e_fzF, e_clN, ↓e_fn_nx, ↓e_fn_rt, ↓e_fn_ex, ↓e_in_nx, ↓e_in_ex, ↓e_I, ↓e_AddI, ↓e_AddIB, ↓e_AddS, ↓e_AddL, ↓e_AddT, ↓e_Len0, ↓e_Len1, ↓e_Len2, ↓e_Int0, ↓e_Int1, ↓e_Abs, ↓e_Repr, ↓e_List0, ↓e_List1, ↓e_Tuple0, ↓e_Tuple1, ↓e_Gcd, ↓e_IsNN, ↓e_IsNB, ↓e_IsNI, ↓e_IsNS, ↓e_IsNX, ↓e_IsNC, ↓e_IsNL, ↓e_IsNT, ↓e_NegI, ↓e_NegC, ↓e_AbsI, ↓e_AbsC, ↓e_bok, ↓e_bno, ↓e_sok, ↓e_BoolI, ↓e_BoolB, ↓e_BoolC, ↓e_StrI, ↓e_StrS, ↓e_StrC, ↓e_dpt, ↓e_EqC, ↓e_EqI, ↓e_EqB, ↓e_EqS, ↓e_EqIC, ↓e_Eq0I, ↓e_Eq0B, ↓e_Eq0S, ↓e_Ne0I, ↓e_Ne0S, ↓e_NeI, ↓e_NeS, ↓e_NeC, ↓e_NeIC, ↓e_OrdI, ↓e_OrdC, ↓e_OrdIC, ↓e_BinI, ↓e_BinC, ↓e_BinIC, ↓e_BinS, ↓e_BinL, ↓e_InpC, ↓e_MulI, ↓e_MulL, e_okRi, e_okRC, ↓e_agk, ↓e_LC, ↓e_lck, ↓e_lcP, ↓e_ColN, ↓e_ColC, ↓e_colk, ↓e_Yes, e_clVN, ↓e_V0, ↓e_O0, ↓e_S0, ↓e_P0, ↓e_H0, ↓e_G0, ↓e_V1, ↓e_O1, ↓e_S1, ↓e_P1, ↓e_H1, ↓e_G1, ↓e_V2, ↓e_O2, ↓e_S2, ↓e_P2, ↓e_H2, ↓e_G2, ↓e_V3, ↓e_O3, ↓e_S3, ↓e_P3, ↓e_H3, ↓e_G3, ↓e_V4, ↓e_O4, ↓e_S4, ↓e_P4, ↓e_H4, ↓e_G4, ↓e_V5, ↓e_O5, ↓e_S5, ↓e_P5, ↓e_H5, ↓e_G5, ↓e_V6, ↓e_O6, ↓e_S6, ↓e_P6, ↓e_H6, ↓e_G6, ↓e_V7, ↓e_O7, ↓e_S7, ↓e_P7, ↓e_H7, ↓e_G7, ↓e_V8, ↓e_O8, ↓e_S8, ↓e_P8, ↓e_H8, ↓e_G8, ↓e_V9, ↓e_O9, ↓e_S9, ↓e_P9, ↓e_H9, ↓e_G9, ↓e_V10, ↓e_O10, ↓e_S10, ↓e_P10, ↓e_H10, ↓e_G10, ↓e_V11, ↓e_O11, ↓e_S11, ↓e_P11, ↓e_H11, ↓e_G11, ↓e_V12, ↓e_O12, ↓e_S12, ↓e_P12, ↓e_H12, ↓e_G12, ↓e_V13, ↓e_O13, ↓e_S13, ↓e_P13, ↓e_H13, ↓e_G13, ↓e_V14, ↓e_O14, ↓e_S14, ↓e_P14, ↓e_H14, ↓e_G14, ↓e_V15, ↓e_O15, ↓e_S15, ↓e_P15, ↓e_H15, ↓e_G15, ↓e_V16, ↓e_O16, ↓e_S16, ↓e_P16, ↓e_H16, ↓e_G16, ↓e_V17, ↓e_O17, ↓e_S17, ↓e_P17, ↓e_H17, ↓e_G17, ↓e_SF0, ↓e_Max2, ↓e_Min2, ↓e_NeB, ↓e_Ne0B, e_clA, e_clA2, e_cl1D, e_cl1U, e_cl1O, e_cl1K, true_and, and_true, List.length_cons, List.length_nil, Nat.reduceAdd, Nat.reduceLeDiff, Nat.reduceLT, Nat.zero_le, Bool.and_true, Bool.true_and, Bool.and_false, Bool.false_and, Bool.or_true, Bool.true_or, Bool.or_false, Bool.false_or, Bool.not_true, Bool.not_false, Bool.not_not, decide_true, decide_false, Int.reduceLT, Int.reduceLE, Int.reduceEq, Int.reduceNeg, Int.reduceAdd, Int.reduceSub, Int.reduceMul, List.cons_append, List.nil_append, beq_self_eq_true, reduceCtorEq, List.mem_cons, List.not_mem_nil, or_false, Nat.reduceEqDiff, Nat.succ_ne_zero, if_true, if_false, ↓reduceIte, cq_law_draw_2, cq_law_pick_2, cq_law_parts_1, cq_Bucket___eq___2, tq_eq_eq_Bucket, cq_law_near_2, cq_is_int_1, cq_is_between_3, cr_Bucket_Bucket___init___3, cq_need_like_1, cq_bits_in_2, cq_Bucket___le___2, tq_own_le_Bucket, cq_Bucket___lt___2, tq_own_lt_Bucket, cq_Bucket___gt___2, tq_own_gt_Bucket, tq_ordr_lt_Bucket, cq_law_is_below_2, cq_Bucket___ge___2, tq_ordr_ge_Bucket, tq_ordr_gt_Bucket, tq_own_ge_Bucket, tq_ordr_le_Bucket, cq_need_number_2, cq_Bucket_earliest_2, tq_meth_earliest_Bucket_2, cq_law_pair_right_2, isa_NoneType_BadBucket T, isa_bool_BadBucket T, isa_int_BadBucket T, isa_str_BadBucket T, isa_list_BadBucket T, isa_tuple_BadBucket T, isa_dict_BadBucket T, isa_c_Bucket_BadBucket T, isa_x_BadBucket_BadBucket T, isa_x_BadNumber_BadBucket T, isa_NoneType_Bucket T, isa_bool_Bucket T, isa_int_Bucket T, isa_str_Bucket T, isa_list_Bucket T, isa_tuple_Bucket T, isa_dict_Bucket T, isa_c_Bucket_Bucket T, isa_x_BadBucket_Bucket T, isa_x_BadNumber_Bucket T, isa_NoneType_bool T, isa_bool_bool T, isa_int_bool T, isa_str_bool T, isa_list_bool T, isa_tuple_bool T, isa_dict_bool T, isa_c_Bucket_bool T, isa_x_BadBucket_bool T, isa_x_BadNumber_bool T, isa_NoneType_int T, isa_bool_int T, isa_int_int T, isa_str_int T, isa_list_int T, isa_tuple_int T, isa_dict_int T, isa_c_Bucket_int T, isa_x_BadBucket_int T, isa_x_BadNumber_int T, T.em_BadBucket_CreditError, T.em_BadNumber_CreditError, np_Bucket_NoneType T, np_Bucket_bool T, np_Bucket_int T, np_Bucket_str T, np_Bucket_list T, np_Bucket_tuple T, np_Bucket_dict T, np_Bucket_c_Bucket T, lk_Bucket_burst, T.na_Bucket_burst, lk_Bucket_rate, T.na_Bucket_rate, lk_Bucket_every, T.na_Bucket_every, pd_Bucket_burst, pd_Bucket_rate, pd_Bucket_every, lx_BadBucket_part, T.xa_BadBucket_part, lx_BadNumber_value, T.xa_BadNumber_value, ml_Bucket_earliest, u_law_draw_8, u_law_draw_7, u_law_draw_6, u_law_draw_5, u_law_draw_4, u_law_draw_3, u_law_draw_2, u_law_draw_1, t_law_draw, t_law_pick, t_law_parts, u_Bucket___eq___1, t_Bucket___eq__, u_law_near_5, u_law_near_4, u_law_near_3, u_law_near_2, u_law_near_1, t_law_near, t_is_int, t_is_between, u_Bucket___init___5, u_Bucket___init___4, u_Bucket___init___3, u_Bucket___init___2, u_Bucket___init___1, t_Bucket___init__, t_need_like, t_bits_in, u_Bucket___le___3, u_Bucket___le___2, u_Bucket___le___1, t_Bucket___le__, t_Bucket___lt__, u_Bucket___gt___1, t_Bucket___gt__, u_law_is_below_2, u_law_is_below_1, t_law_is_below, u_Bucket___ge___1, t_Bucket___ge__, t_need_number, u_Bucket_earliest_2, u_Bucket_earliest_1, t_Bucket_earliest, u_law_pair_right_6, u_law_pair_right_5, u_law_pair_right_4, u_law_pair_right_3, u_law_pair_right_2, u_law_pair_right_1, t_law_pair_right, u_law_heard_2, u_law_heard_1, t_law_heard, u_law_4, u_law_3, u_law_2, u_law_1, t_law, xo_BadBucket, xo_BadNumber])
local macro_rules | `(tactic| decreasing_trivial) => `(tactic| simp (config := { failIfUnchanged := false }) only [↓e_iteT, ↓e_iteF, e_iteN, ↓e_tbk, ↓e_kz, ↓e_ke, ↓e_kst, ↓e_mkk, ↓e_C, ↓e_Nil, ↓e_Cons, ↓e_Tup, ↓e_Lst, ↓e_Bin, ↓e_BinE, ↓e_opz, ↓e_UnE, ↓e_unz, ↓e_CalE, ↓e_caz, ↓e_Bu, ↓e_TB, ↓e_And, ↓e_Or, ↓e_Not, ↓e_AndV, ↓e_OrV, ↓e_NotV, ↓e_If, ↓e_Next, ↓e_Seq, ↓e_sq_nx, ↓e_sq_rt, ↓e_sq_bk, ↓e_sq_ct, ↓e_sq_ex, ↓e_lp_nx, ↓e_lp_ct, ↓e_lp_bk, ↓e_lp_rt, ↓e_lp_ex, ↓e_wh_nx, ↓e_wh_ct, ↓e_wh_bk, ↓e_wh_rt, ↓e_wh_ex, ↓e_Drop, ↓e_Ret, ↓e_Ite, ↓e_Set, ↓e_Asg, ↓e_gN, ↓e_gZ, ↓e_gC, ↓e_gT, ↓e_Par, ↓e_park, ↓e_For, ↓e_ItL, ↓e_itk, ↓e_ItT, ↓e_itkT, ↓e_Rng1, ↓e_rngk, ↓e_Rng2, ↓e_rngk2, ↓e_Call, ↓e_clk, ↓e_Meth, ↓e_mek, ↓e_mec, ↓e_MethK, ↓e_mekK, ↓e_At, ↓e_atk, ↓e_atkX, ↓e_lkkS, ↓e_lkkN, ↓e_xkkS, ↓e_SelfSet, ↓e_ssk, ↓e_Own, ↓e_App, ↓e_Raise, ↓e_rai0, ↓e_rai1, ↓e_rai2, ↓e_Try, ↓e_try_nx, ↓e_try_rt, ↓e_try_bk, ↓e_try_ct, ↓e_try_ex, ↓e_trykT, ↓e_trykF, ↓e_Js0, ↓e_Js1, ↓e_jsk, ↓e_Fmt, ↓e_fmkS, ↓e_fmkI, ↓e_Chain, ↓e_chk, e_isB, ↓e_Sl, ↓e_None, ↓e_Part, ↓e_prk, ↓e_oSlL, ↓e_oSlT, ↓e_oSlS, ↓e_Ix, ↓e_oIxL, ↓e_oIxT, ↓e_oIxS, ↓e_ix0, ↓e_ix1, ↓e_ix2, ↓e_ix3, ↓e_ix4, ↓e_ix5, ↓e_Lam, ↓e_Act, ↓e_lamAct, e_fzF, e_clN, ↓e_fn_nx, ↓e_fn_rt, ↓e_fn_ex, ↓e_in_nx, ↓e_in_ex, ↓e_I, ↓e_AddI, ↓e_AddIB, ↓e_AddS, ↓e_AddL, ↓e_AddT, ↓e_Len0, ↓e_Len1, ↓e_Len2, ↓e_Int0, ↓e_Int1, ↓e_Abs, ↓e_Repr, ↓e_List0, ↓e_List1, ↓e_Tuple0, ↓e_Tuple1, ↓e_Gcd, ↓e_IsNN, ↓e_IsNB, ↓e_IsNI, ↓e_IsNS, ↓e_IsNX, ↓e_IsNC, ↓e_IsNL, ↓e_IsNT, ↓e_NegI, ↓e_NegC, ↓e_AbsI, ↓e_AbsC, ↓e_bok, ↓e_bno, ↓e_sok, ↓e_BoolI, ↓e_BoolB, ↓e_BoolC, ↓e_StrI, ↓e_StrS, ↓e_StrC, ↓e_dpt, ↓e_EqC, ↓e_EqI, ↓e_EqB, ↓e_EqS, ↓e_EqIC, ↓e_Eq0I, ↓e_Eq0B, ↓e_Eq0S, ↓e_Ne0I, ↓e_Ne0S, ↓e_NeI, ↓e_NeS, ↓e_NeC, ↓e_NeIC, ↓e_OrdI, ↓e_OrdC, ↓e_OrdIC, ↓e_BinI, ↓e_BinC, ↓e_BinIC, ↓e_BinS, ↓e_BinL, ↓e_InpC, ↓e_MulI, ↓e_MulL, e_okRi, e_okRC, ↓e_agk, ↓e_LC, ↓e_lck, ↓e_lcP, ↓e_ColN, ↓e_colk, ↓e_Yes, e_clVN, ↓e_V0, ↓e_O0, ↓e_S0, ↓e_P0, ↓e_H0, ↓e_G0, ↓e_V1, ↓e_O1, ↓e_S1, ↓e_P1, ↓e_H1, ↓e_G1, ↓e_V2, ↓e_O2, ↓e_S2, ↓e_P2, ↓e_H2, ↓e_G2, ↓e_V3, ↓e_O3, ↓e_S3, ↓e_P3, ↓e_H3, ↓e_G3, ↓e_V4, ↓e_O4, ↓e_S4, ↓e_P4, ↓e_H4, ↓e_G4, ↓e_V5, ↓e_O5, ↓e_S5, ↓e_P5, ↓e_H5, ↓e_G5, ↓e_V6, ↓e_O6, ↓e_S6, ↓e_P6, ↓e_H6, ↓e_G6, ↓e_V7, ↓e_O7, ↓e_S7, ↓e_P7, ↓e_H7, ↓e_G7, ↓e_V8, ↓e_O8, ↓e_S8, ↓e_P8, ↓e_H8, ↓e_G8, ↓e_V9, ↓e_O9, ↓e_S9, ↓e_P9, ↓e_H9, ↓e_G9, ↓e_V10, ↓e_O10, ↓e_S10, ↓e_P10, ↓e_H10, ↓e_G10, ↓e_V11, ↓e_O11, ↓e_S11, ↓e_P11, ↓e_H11, ↓e_G11, ↓e_V12, ↓e_O12, ↓e_S12, ↓e_P12, ↓e_H12, ↓e_G12, ↓e_V13, ↓e_O13, ↓e_S13, ↓e_P13, ↓e_H13, ↓e_G13, ↓e_V14, ↓e_O14, ↓e_S14, ↓e_P14, ↓e_H14, ↓e_G14, ↓e_V15, ↓e_O15, ↓e_S15, ↓e_P15, ↓e_H15, ↓e_G15, ↓e_V16, ↓e_O16, ↓e_S16, ↓e_P16, ↓e_H16, ↓e_G16, ↓e_V17, ↓e_O17, ↓e_S17, ↓e_P17, ↓e_H17, ↓e_G17, ↓e_SF0, ↓e_Max2, ↓e_Min2, ↓e_NeB, ↓e_Ne0B, e_clA, e_clA2, e_cl1D, e_cl1U, e_cl1O, e_cl1K, true_and, and_true, List.length_cons, List.length_nil, Nat.reduceAdd, Nat.reduceLeDiff, Nat.reduceLT, Nat.zero_le, Bool.and_true, Bool.true_and, Bool.and_false, Bool.false_and, Bool.or_true, Bool.true_or, Bool.or_false, Bool.false_or, Bool.not_true, Bool.not_false, Bool.not_not, decide_true, decide_false, Int.reduceLT, Int.reduceLE, Int.reduceEq, Int.reduceNeg, Int.reduceAdd, Int.reduceSub, Int.reduceMul, List.cons_append, List.nil_append, beq_self_eq_true, reduceCtorEq, List.mem_cons, List.not_mem_nil, or_false, Nat.reduceEqDiff, Nat.succ_ne_zero, if_true, if_false, ↓reduceIte, cq_law_draw_2, cq_law_pick_2, cq_law_parts_1, cq_Bucket___eq___2, tq_eq_eq_Bucket, cq_law_near_2, cq_is_int_1, cq_is_between_3, cr_Bucket_Bucket___init___3, cq_need_like_1, cq_bits_in_2, cq_Bucket___le___2, tq_own_le_Bucket, cq_Bucket___lt___2, tq_own_lt_Bucket, cq_Bucket___gt___2, tq_own_gt_Bucket, tq_ordr_lt_Bucket, cq_law_is_below_2, cq_Bucket___ge___2, tq_ordr_ge_Bucket, tq_ordr_gt_Bucket, tq_own_ge_Bucket, tq_ordr_le_Bucket, cq_need_number_2, cq_Bucket_earliest_2, tq_meth_earliest_Bucket_2, cq_law_pair_right_2, isa_NoneType_BadBucket T, isa_bool_BadBucket T, isa_int_BadBucket T, isa_str_BadBucket T, isa_list_BadBucket T, isa_tuple_BadBucket T, isa_dict_BadBucket T, isa_c_Bucket_BadBucket T, isa_x_BadBucket_BadBucket T, isa_x_BadNumber_BadBucket T, isa_NoneType_Bucket T, isa_bool_Bucket T, isa_int_Bucket T, isa_str_Bucket T, isa_list_Bucket T, isa_tuple_Bucket T, isa_dict_Bucket T, isa_c_Bucket_Bucket T, isa_x_BadBucket_Bucket T, isa_x_BadNumber_Bucket T, isa_NoneType_bool T, isa_bool_bool T, isa_int_bool T, isa_str_bool T, isa_list_bool T, isa_tuple_bool T, isa_dict_bool T, isa_c_Bucket_bool T, isa_x_BadBucket_bool T, isa_x_BadNumber_bool T, isa_NoneType_int T, isa_bool_int T, isa_int_int T, isa_str_int T, isa_list_int T, isa_tuple_int T, isa_dict_int T, isa_c_Bucket_int T, isa_x_BadBucket_int T, isa_x_BadNumber_int T, T.em_BadBucket_CreditError, T.em_BadNumber_CreditError, np_Bucket_NoneType T, np_Bucket_bool T, np_Bucket_int T, np_Bucket_str T, np_Bucket_list T, np_Bucket_tuple T, np_Bucket_dict T, np_Bucket_c_Bucket T, lk_Bucket_burst, T.na_Bucket_burst, lk_Bucket_rate, T.na_Bucket_rate, lk_Bucket_every, T.na_Bucket_every, pd_Bucket_burst, pd_Bucket_rate, pd_Bucket_every, lx_BadBucket_part, T.xa_BadBucket_part, lx_BadNumber_value, T.xa_BadNumber_value, ml_Bucket_earliest, u_law_draw_8, u_law_draw_7, u_law_draw_6, u_law_draw_5, u_law_draw_4, u_law_draw_3, u_law_draw_2, u_law_draw_1, t_law_draw, t_law_pick, t_law_parts, u_Bucket___eq___1, t_Bucket___eq__, u_law_near_5, u_law_near_4, u_law_near_3, u_law_near_2, u_law_near_1, t_law_near, t_is_int, t_is_between, u_Bucket___init___5, u_Bucket___init___4, u_Bucket___init___3, u_Bucket___init___2, u_Bucket___init___1, t_Bucket___init__, t_need_like, t_bits_in, u_Bucket___le___3, u_Bucket___le___2, u_Bucket___le___1, t_Bucket___le__, t_Bucket___lt__, u_Bucket___gt___1, t_Bucket___gt__, u_law_is_below_2, u_law_is_below_1, t_law_is_below, u_Bucket___ge___1, t_Bucket___ge__, t_need_number, u_Bucket_earliest_2, u_Bucket_earliest_1, t_Bucket_earliest, u_law_pair_right_6, u_law_pair_right_5, u_law_pair_right_4, u_law_pair_right_3, u_law_pair_right_2, u_law_pair_right_1, t_law_pair_right, u_law_heard_2, u_law_heard_1, t_law_heard, u_law_4, u_law_3, u_law_2, u_law_1, t_law, xo_BadBucket, xo_BadNumber])

section
variable {c : Wd} {A : Ad} {z : Z} {P : D → Z → Prop} {R : Er → Z → Prop} {f : Addr} {act : DAct}

theorem col_any {g : DTG} {tt : DTT} {te : DTE} {cl : List Sl} {PC : List D → Z → Prop} (hp : ∀ xs, xs.length ≤ 1000 → PC xs z) : ∀ (is : List Int) (acc : List D), (∀ i ∈ is, ∀ (k1 : D → S → Prop) (k0 : S → Prop), (∀ d l, k1 d ⟨l, z⟩) → (∀ l, k0 ⟨l, z⟩) → g (.int i) ⟨cl, z⟩ (fun δ2 => tt δ2 (fun b δ3 => iteB b (fun _ => te δ3 k1 (fun _ _ => False)) (fun _ => k0 δ3) .mk .mk) (fun _ _ => False))) → acc.length + is.length ≤ 1000 → dCol g tt te cl PC (is.map D.int) acc z
  | [], acc, hs, hl => hp acc (by simpa using hl)
  | i :: is, acc, hs, hl => by
    rw [List.length_cons] at hl
    rw [List.map_cons, e_ColC]
    refine hs i (List.mem_cons_self ..) _ _ (fun d l => ?_) fun l => ?_
    · rw [e_colk]
      exact ⟨by omega, col_any hp is _ (fun j hj => hs j (List.mem_cons_of_mem _ hj)) (by simp; omega)⟩
    · exact col_any hp is _ (fun j hj => hs j (List.mem_cons_of_mem _ hj)) (by omega)
theorem shw_6 : ∀ a b d e f g : Bool, shw (.lst [.bl a, .bl b, .bl d, .bl e, .bl f, .bl g]) := by unfold shw; decide +kernel
theorem eqL3 {b r e b2 r2 e2 : Int} : eqD (.lst [.int b, .int r, .int e]) (.lst [.int b2, .int r2, .int e2]) = decide (b = b2 ∧ r = r2 ∧ e = e2) := by
  simp only [eqD, eqL, Bool.and_true]
  by_cases q1 : b = b2 <;> by_cases q2 : r = r2 <;> by_cases q3 : e = e2 <;> simp [q1, q2, q3]
theorem pair_ok (T : Txt c A) {b r e b2 r2 e2 : Int} (k : Ok b r e) (k2 : Ok b2 r2 e2) (h : P (.bl true) z) : sp_law_pair_right c A [.lst [.int b, .int r, .int e], .lst [.int b2, .int r2, .int e2]] z P R := by
  refine ⟨rfl, ?_⟩
  show t_law_pair_right c A _ ⟨[.d (.lst [.int b, .int r, .int e]), .d (.lst [.int b2, .int r2, .int e2]), .un, .un, .un, .un, .un, .un, .un, .un], z⟩
  have kk := k
  have kk2 := k2
  obtain ⟨h1, h2, h3, h4, h5, h6⟩ := k
  obtain ⟨g1, g2, g3, g4, g5, g6⟩ := k2
  have bo := both (b := b) (r := r) (e := e) (b2 := b2) (r2 := r2) (e2 := e2) (by omega) (by omega) (by omega) (by omega)
  have mono := fun C : Int => early_mono (b := b) (r := r) (e := e) (b2 := b2) (r2 := r2) (e2 := e2) (C := C) (by omega) (by omega) (by omega) (by omega)
  have eqq : decide (b = b2 ∧ r = r2 ∧ e = e2) = (leB b r e b2 r2 e2 && leB b2 r2 e2 b r e) := by
    rw [Bool.eq_iff_iff, decide_eq_true_iff, Bool.and_eq_true]
    exact bo.symm
  have eqs : decide (b2 = b ∧ r2 = r ∧ e2 = e) = (leB b r e b2 r2 e2 && leB b2 r2 e2 b r e) := by
    rw [← eqq]
    exact decide_eq_decide.mpr ⟨fun ⟨x, y, z⟩ => ⟨x.symm, y.symm, z.symm⟩, fun ⟨x, y, z⟩ => ⟨x.symm, y.symm, z.symm⟩⟩
  get_elem_tactic_trivial
  refine mk_ok T kk ?_
  get_elem_tactic_trivial
  refine mk_ok T kk2 ?_
  get_elem_tactic_trivial
  refine below_ok T kk kk2 ?_
  get_elem_tactic_trivial
  refine below_ok T kk2 kk ?_
  get_elem_tactic_trivial
  refine le_ok T kk kk2 ?_
  get_elem_tactic_trivial
  refine lt_ok T kk kk2 ?_
  get_elem_tactic_trivial
  refine ge_ok T kk kk2 ?_
  get_elem_tactic_trivial
  refine gt_ok T kk kk2 ?_
  get_elem_tactic_trivial
  refine eq_ok T ?_
  get_elem_tactic_trivial
  refine eq_ok T ?_
  rw [eqq, eqs]
  clear bo eqs
  generalize hx : leB b r e b2 r2 e2 = x at *
  generalize hy : leB b2 r2 e2 b r e = y at *
  have oneC : ∀ (i : Int) {P : D → Z → Prop} {R : Er → Z → Prop}, 0 ≤ i → P (.int (early b r e i)) z → sp_Bucket_earliest c A [Bk A b r e, .int i] z P R := fun i _ _ hi hp => early_ok T kk hi hp
  have twoC : ∀ (i : Int) {P : D → Z → Prop} {R : Er → Z → Prop}, 0 ≤ i → P (.int (early b2 r2 e2 i)) z → sp_Bucket_earliest c A [Bk A b2 r2 e2, .int i] z P R := fun i _ _ hi hp => early_ok T kk2 hi hp
  cases x
  · cases y
    · get_elem_tactic_trivial
      refine ⟨shw_6 _ _ _ _ _ _, shw_6 _ _ _ _ _ _, ?_⟩
      get_elem_tactic_trivial
      rw [e_EqL, eqL3, eqq]
      refine ⟨⟨rfl, rfl⟩, ?_⟩
      decreasing_trivial
      refine ⟨cpw (by decide) (by decide), ?_⟩
      refine col_any (fun xs hx => ?_) [1, 5, 60, 200, 999, 10 ^ Int.toNat 20] [] (fun i hi k1 k0 q1 q0 => ?_) (by decide)
      · get_elem_tactic_trivial
        exact h
      · have i0 : 0 ≤ i := by
          simp only [List.mem_cons, List.not_mem_nil, or_false] at hi
          rcases hi with rfl | rfl | rfl | rfl | rfl | rfl <;> decide
        get_elem_tactic_trivial
        refine oneC i i0 ?_
        get_elem_tactic_trivial
        refine twoC i i0 ?_
        get_elem_tactic_trivial
        refine iteB_of (fun _ => ?_) (fun _ => ?_)
        · get_elem_tactic_trivial
          exact q1 _ _
        · get_elem_tactic_trivial
          exact q0 _
    · get_elem_tactic_trivial
      refine ⟨shw_6 _ _ _ _ _ _, shw_6 _ _ _ _ _ _, ?_⟩
      get_elem_tactic_trivial
      rw [e_EqL, eqL3, eqq]
      refine ⟨⟨rfl, rfl⟩, ?_⟩
      decreasing_trivial
      refine ⟨cpw (by decide) (by decide), ?_⟩
      refine col_any (fun xs hx => ?_) [1, 5, 60, 200, 999, 10 ^ Int.toNat 20] [] (fun i hi k1 k0 q1 q0 => ?_) (by decide)
      · get_elem_tactic_trivial
        exact h
      · have i0 : 0 ≤ i := by
          simp only [List.mem_cons, List.not_mem_nil, or_false] at hi
          rcases hi with rfl | rfl | rfl | rfl | rfl | rfl <;> decide
        get_elem_tactic_trivial
        refine oneC i i0 ?_
        get_elem_tactic_trivial
        refine twoC i i0 ?_
        get_elem_tactic_trivial
        refine iteB_of (fun _ => ?_) (fun _ => ?_)
        · get_elem_tactic_trivial
          exact q1 _ _
        · get_elem_tactic_trivial
          exact q0 _
  · cases y
    · get_elem_tactic_trivial
      refine ⟨shw_6 _ _ _ _ _ _, shw_6 _ _ _ _ _ _, ?_⟩
      get_elem_tactic_trivial
      rw [e_EqL, eqL3, eqq]
      refine ⟨⟨rfl, rfl⟩, ?_⟩
      get_elem_tactic_trivial
      refine ⟨cpw (by decide) (by decide), ?_⟩
      refine oneC 1 (by decide) ?_
      get_elem_tactic_trivial
      refine twoC 1 (by decide) ?_
      get_elem_tactic_trivial
      rw [decide_eq_false (Int.not_lt.mpr (mono _ rfl))]
      get_elem_tactic_trivial
      refine oneC 5 (by decide) ?_
      get_elem_tactic_trivial
      refine twoC 5 (by decide) ?_
      get_elem_tactic_trivial
      rw [decide_eq_false (Int.not_lt.mpr (mono _ rfl))]
      get_elem_tactic_trivial
      refine oneC 60 (by decide) ?_
      get_elem_tactic_trivial
      refine twoC 60 (by decide) ?_
      get_elem_tactic_trivial
      rw [decide_eq_false (Int.not_lt.mpr (mono _ rfl))]
      get_elem_tactic_trivial
      refine oneC 200 (by decide) ?_
      get_elem_tactic_trivial
      refine twoC 200 (by decide) ?_
      get_elem_tactic_trivial
      rw [decide_eq_false (Int.not_lt.mpr (mono _ rfl))]
      get_elem_tactic_trivial
      refine oneC 999 (by decide) ?_
      get_elem_tactic_trivial
      refine twoC 999 (by decide) ?_
      get_elem_tactic_trivial
      rw [decide_eq_false (Int.not_lt.mpr (mono _ rfl))]
      get_elem_tactic_trivial
      refine oneC (10 ^ Int.toNat 20) (by decide) ?_
      get_elem_tactic_trivial
      refine twoC (10 ^ Int.toNat 20) (by decide) ?_
      get_elem_tactic_trivial
      rw [decide_eq_false (Int.not_lt.mpr (mono _ rfl))]
      get_elem_tactic_trivial
      rw [e_EqL]
      refine ⟨⟨rfl, rfl⟩, ?_⟩
      get_elem_tactic_trivial
      exact h
    · get_elem_tactic_trivial
      refine ⟨shw_6 _ _ _ _ _ _, shw_6 _ _ _ _ _ _, ?_⟩
      get_elem_tactic_trivial
      rw [e_EqL, eqL3, eqq]
      refine ⟨⟨rfl, rfl⟩, ?_⟩
      get_elem_tactic_trivial
      refine ⟨cpw (by decide) (by decide), ?_⟩
      refine oneC 1 (by decide) ?_
      get_elem_tactic_trivial
      refine twoC 1 (by decide) ?_
      get_elem_tactic_trivial
      rw [decide_eq_false (Int.not_lt.mpr (mono _ rfl))]
      get_elem_tactic_trivial
      refine oneC 5 (by decide) ?_
      get_elem_tactic_trivial
      refine twoC 5 (by decide) ?_
      get_elem_tactic_trivial
      rw [decide_eq_false (Int.not_lt.mpr (mono _ rfl))]
      get_elem_tactic_trivial
      refine oneC 60 (by decide) ?_
      get_elem_tactic_trivial
      refine twoC 60 (by decide) ?_
      get_elem_tactic_trivial
      rw [decide_eq_false (Int.not_lt.mpr (mono _ rfl))]
      get_elem_tactic_trivial
      refine oneC 200 (by decide) ?_
      get_elem_tactic_trivial
      refine twoC 200 (by decide) ?_
      get_elem_tactic_trivial
      rw [decide_eq_false (Int.not_lt.mpr (mono _ rfl))]
      get_elem_tactic_trivial
      refine oneC 999 (by decide) ?_
      get_elem_tactic_trivial
      refine twoC 999 (by decide) ?_
      get_elem_tactic_trivial
      rw [decide_eq_false (Int.not_lt.mpr (mono _ rfl))]
      get_elem_tactic_trivial
      refine oneC (10 ^ Int.toNat 20) (by decide) ?_
      get_elem_tactic_trivial
      refine twoC (10 ^ Int.toNat 20) (by decide) ?_
      get_elem_tactic_trivial
      rw [decide_eq_false (Int.not_lt.mpr (mono _ rfl))]
      get_elem_tactic_trivial
      rw [e_EqL]
      refine ⟨⟨rfl, rfl⟩, ?_⟩
      get_elem_tactic_trivial
      exact h

end
end K53

namespace K53
open PySem L2 DL
set_option hygiene false
local macro_rules | `(tactic| get_elem_tactic_trivial) => `(tactic| simp (config := { failIfUnchanged := false }) only [↓e_iteT, ↓e_iteF, e_iteN, ↓e_tbk, ↓e_kz, ↓e_ke, ↓e_kst, ↓e_mkk, ↓e_C, ↓e_Nil, ↓e_Cons, ↓e_Tup, ↓e_Lst, ↓e_Bin, ↓e_BinE, ↓e_opz, ↓e_UnE, ↓e_unz, ↓e_CalE, ↓e_caz, ↓e_Bu, ↓e_TB, ↓e_And, ↓e_Or, ↓e_Not, ↓e_AndV, ↓e_OrV, ↓e_NotV, ↓e_If, ↓e_Next, ↓e_Seq, ↓e_sq_nx, ↓e_sq_rt, ↓e_sq_bk, ↓e_sq_ct, ↓e_sq_ex, ↓e_lp_nx, ↓e_lp_ct, ↓e_lp_bk, ↓e_lp_rt, ↓e_lp_ex, ↓e_wh_nx, ↓e_wh_ct, ↓e_wh_bk, ↓e_wh_rt, ↓e_wh_ex, ↓e_Drop, ↓e_Ret, ↓e_Ite, ↓e_Set, ↓e_Asg, ↓e_gN, ↓e_gZ, ↓e_gC, ↓e_gT, ↓e_Par, ↓e_park, ↓e_For, ↓e_ItL, ↓e_itk, ↓e_ItT, ↓e_itkT, ↓e_Rng1, ↓e_rngk, ↓e_Rng2, ↓e_rngk2, ↓e_Call, ↓e_clk, ↓e_Meth, ↓e_mek, ↓e_mec, ↓e_MethK, ↓e_mekK, ↓e_At, ↓e_atk, ↓e_atkX, ↓e_lkkS, ↓e_lkkN, ↓e_xkkS, ↓e_SelfSet, ↓e_ssk, ↓e_Own, ↓e_App, ↓e_Raise, ↓e_rai0, ↓e_rai1, ↓e_rai2, ↓e_Try, ↓e_try_nx, ↓e_try_rt, ↓e_try_bk, ↓e_try_ct, ↓e_try_ex, ↓e_trykT, ↓e_trykF, ↓e_Js0, ↓e_Js1, ↓e_jsk, ↓e_Fmt, ↓e_fmkS, ↓e_fmkI, ↓e_Chain, ↓e_chk, e_isB, ↓e_Sl, ↓e_None, ↓e_Part, ↓e_prk, ↓e_oSlL, ↓e_oSlT, ↓e_oSlS, ↓e_Ix, ↓e_oIxL, ↓e_oIxT, ↓e_oIxS, ↓e_ix0, ↓e_ix1, ↓e_ix2, ↓e_ix3, ↓e_ix4, ↓e_ix5, ↓e_Lam, ↓e_Act, ↓e_lamAct, e_fzF, e_clN, ↓e_fn_nx, ↓e_fn_rt, ↓e_fn_ex, ↓e_in_nx, ↓e_in_ex, ↓e_I, ↓e_AddI, ↓e_AddIB, ↓e_AddS, ↓e_AddL, ↓e_AddT, ↓e_Len0, ↓e_Len1, ↓e_Len2, ↓e_Int0, ↓e_Int1, ↓e_Abs, ↓e_Repr, ↓e_List0, ↓e_List1, ↓e_Tuple0, ↓e_Tuple1, ↓e_Gcd, ↓e_IsNN, ↓e_IsNB, ↓e_IsNI, ↓e_IsNS, ↓e_IsNX, ↓e_IsNC, ↓e_IsNL, ↓e_IsNT, ↓e_NegI, ↓e_NegC, ↓e_AbsI, ↓e_AbsC, ↓e_bok, ↓e_bno, ↓e_sok, ↓e_BoolI, ↓e_BoolB, ↓e_BoolC, ↓e_StrI, ↓e_StrS, ↓e_StrC, ↓e_dpt, ↓e_EqC, ↓e_EqI, ↓e_EqB, ↓e_EqS, ↓e_EqIC, ↓e_Eq0I, ↓e_Eq0B, ↓e_Eq0S, ↓e_Ne0I, ↓e_Ne0S, ↓e_NeI, ↓e_NeS, ↓e_NeC, ↓e_NeIC, ↓e_OrdI, ↓e_OrdC, ↓e_OrdIC, ↓e_BinI, ↓e_BinC, ↓e_BinIC, ↓e_BinS, ↓e_BinL, ↓e_InpC, ↓e_MulI, ↓e_MulL, e_okRi, e_okRC, ↓e_agk, ↓e_LC, ↓e_lck, ↓e_lcP, ↓e_ColN, ↓e_ColC, ↓e_colk, ↓e_Yes, e_clVN, ↓e_V0, ↓e_O0, ↓e_S0, ↓e_P0, ↓e_H0, ↓e_G0, ↓e_V1, ↓e_O1, ↓e_S1, ↓e_P1, ↓e_H1, ↓e_G1, ↓e_V2, ↓e_O2, ↓e_S2, ↓e_P2, ↓e_H2, ↓e_G2, ↓e_V3, ↓e_O3, ↓e_S3, ↓e_P3, ↓e_H3, ↓e_G3, ↓e_V4, ↓e_O4, ↓e_S4, ↓e_P4, ↓e_H4, ↓e_G4, ↓e_V5, ↓e_O5, ↓e_S5, ↓e_P5, ↓e_H5, ↓e_G5, ↓e_V6, ↓e_O6, ↓e_S6, ↓e_P6, ↓e_H6, ↓e_G6, ↓e_V7, ↓e_O7, ↓e_S7, ↓e_P7, ↓e_H7, ↓e_G7, ↓e_V8, ↓e_O8, ↓e_S8, ↓e_P8, ↓e_H8, ↓e_G8, ↓e_V9, ↓e_O9, ↓e_S9, ↓e_P9, ↓e_H9, ↓e_G9, ↓e_V10, ↓e_O10, ↓e_S10, ↓e_P10, ↓e_H10, ↓e_G10, ↓e_V11, ↓e_O11, ↓e_S11, ↓e_P11, ↓e_H11, ↓e_G11, ↓e_V12, ↓e_O12, ↓e_S12, ↓e_P12, ↓e_H12, ↓e_G12, ↓e_V13, ↓e_O13, ↓e_S13, ↓e_P13, ↓e_H13, ↓e_G13, ↓e_V14, ↓e_O14, ↓e_S14, ↓e_P14, ↓e_H14, ↓e_G14, ↓e_V15, ↓e_O15, ↓e_S15, ↓e_P15, ↓e_H15, ↓e_G15, ↓e_V16, ↓e_O16, ↓e_S16, ↓e_P16, ↓e_H16, ↓e_G16, ↓e_V17, ↓e_O17, ↓e_S17, ↓e_P17, ↓e_H17, ↓e_G17, ↓e_SF0, ↓e_Max2, ↓e_Min2, ↓e_NeB, ↓e_Ne0B, e_clA, e_clA2, e_cl1D, e_cl1U, e_cl1O, e_cl1K, true_and, and_true, and_false, false_and, not_true_eq_false, not_false_eq_true, List.length_cons, List.length_nil, Nat.reduceAdd, Nat.reduceLeDiff, Nat.reduceLT, Nat.zero_le, Bool.and_true, Bool.true_and, Bool.and_false, Bool.false_and, Bool.or_true, Bool.true_or, Bool.or_false, Bool.false_or, Bool.not_true, Bool.not_false, Bool.not_not, decide_true, decide_false, Int.reduceLT, Int.reduceLE, Int.reduceEq, Int.reduceNeg, Int.reduceAdd, Int.reduceSub, Int.reduceMul, List.cons_append, List.nil_append, beq_self_eq_true, reduceCtorEq, List.mem_cons, List.not_mem_nil, or_false, Nat.reduceEqDiff, Nat.succ_ne_zero, if_true, if_false, ↓reduceIte, cq_law_draw_2, cq_law_pick_2, cq_law_parts_1, cq_Bucket___eq___2, tq_eq_eq_Bucket, cq_law_near_2, cq_is_int_1, cq_is_between_3, cr_Bucket_Bucket___init___3, cq_need_like_1, cq_bits_in_2, cq_Bucket___le___2, tq_own_le_Bucket, cq_Bucket___lt___2, tq_own_lt_Bucket, cq_Bucket___gt___2, tq_own_gt_Bucket, tq_ordr_lt_Bucket, cq_law_is_below_2, cq_Bucket___ge___2, tq_ordr_ge_Bucket, tq_ordr_gt_Bucket, tq_own_ge_Bucket, tq_ordr_le_Bucket, cq_need_number_2, cq_Bucket_earliest_2, tq_meth_earliest_Bucket_2, cq_law_pair_right_2, isa_NoneType_BadBucket T, isa_bool_BadBucket T, isa_int_BadBucket T, isa_str_BadBucket T, isa_list_BadBucket T, isa_tuple_BadBucket T, isa_dict_BadBucket T, isa_c_Bucket_BadBucket T, isa_x_BadBucket_BadBucket T, isa_x_BadNumber_BadBucket T, isa_NoneType_Bucket T, isa_bool_Bucket T, isa_int_Bucket T, isa_str_Bucket T, isa_list_Bucket T, isa_tuple_Bucket T, isa_dict_Bucket T, isa_c_Bucket_Bucket T, isa_x_BadBucket_Bucket T, isa_x_BadNumber_Bucket T, isa_NoneType_bool T, isa_bool_bool T, isa_int_bool T, isa_str_bool T, isa_list_bool T, isa_tuple_bool T, isa_dict_bool T, isa_c_Bucket_bool T, isa_x_BadBucket_bool T, isa_x_BadNumber_bool T, isa_NoneType_int T, isa_bool_int T, isa_int_int T, isa_str_int T, isa_list_int T, isa_tuple_int T, isa_dict_int T, isa_c_Bucket_int T, isa_x_BadBucket_int T, isa_x_BadNumber_int T, T.em_BadBucket_CreditError, T.em_BadNumber_CreditError, np_Bucket_NoneType T, np_Bucket_bool T, np_Bucket_int T, np_Bucket_str T, np_Bucket_list T, np_Bucket_tuple T, np_Bucket_dict T, np_Bucket_c_Bucket T, lk_Bucket_burst, T.na_Bucket_burst, lk_Bucket_rate, T.na_Bucket_rate, lk_Bucket_every, T.na_Bucket_every, pd_Bucket_burst, pd_Bucket_rate, pd_Bucket_every, lx_BadBucket_part, T.xa_BadBucket_part, lx_BadNumber_value, T.xa_BadNumber_value, ml_Bucket_earliest, u_law_draw_8, u_law_draw_7, u_law_draw_6, u_law_draw_5, u_law_draw_4, u_law_draw_3, u_law_draw_2, u_law_draw_1, t_law_draw, t_law_pick, t_law_parts, u_Bucket___eq___1, t_Bucket___eq__, u_law_near_5, u_law_near_4, u_law_near_3, u_law_near_2, u_law_near_1, t_law_near, t_is_int, t_is_between, u_Bucket___init___5, u_Bucket___init___4, u_Bucket___init___3, u_Bucket___init___2, u_Bucket___init___1, t_Bucket___init__, t_need_like, t_bits_in, u_Bucket___le___3, u_Bucket___le___2, u_Bucket___le___1, t_Bucket___le__, t_Bucket___lt__, u_Bucket___gt___1, t_Bucket___gt__, u_law_is_below_2, u_law_is_below_1, t_law_is_below, u_Bucket___ge___1, t_Bucket___ge__, t_need_number, u_Bucket_earliest_2, u_Bucket_earliest_1, t_Bucket_earliest, u_law_pair_right_6, u_law_pair_right_5, u_law_pair_right_4, u_law_pair_right_3, u_law_pair_right_2, u_law_pair_right_1, t_law_pair_right, u_law_heard_2, u_law_heard_1, t_law_heard, u_law_4, u_law_3, u_law_2, u_law_1, t_law, xo_BadBucket, xo_BadNumber])
local macro_rules | `(tactic| decreasing_trivial) => `(tactic| simp (config := { failIfUnchanged := false }) only [↓e_iteT, ↓e_iteF, e_iteN, ↓e_tbk, ↓e_kz, ↓e_ke, ↓e_kst, ↓e_mkk, ↓e_C, ↓e_Nil, ↓e_Cons, ↓e_Tup, ↓e_Lst, ↓e_Bin, ↓e_BinE, ↓e_opz, ↓e_UnE, ↓e_unz, ↓e_CalE, ↓e_caz, ↓e_Bu, ↓e_TB, ↓e_And, ↓e_Or, ↓e_Not, ↓e_AndV, ↓e_OrV, ↓e_NotV, ↓e_If, ↓e_Next, ↓e_Seq, ↓e_sq_nx, ↓e_sq_rt, ↓e_sq_bk, ↓e_sq_ct, ↓e_sq_ex, ↓e_lp_nx, ↓e_lp_ct, ↓e_lp_bk, ↓e_lp_rt, ↓e_lp_ex, ↓e_wh_nx, ↓e_wh_ct, ↓e_wh_bk, ↓e_wh_rt, ↓e_wh_ex, ↓e_Drop, ↓e_Ret, ↓e_Ite, ↓e_Set, ↓e_Asg, ↓e_gN, ↓e_gZ, ↓e_gC, ↓e_gT, ↓e_Par, ↓e_park, ↓e_For, ↓e_ItL, ↓e_itk, ↓e_ItT, ↓e_itkT, ↓e_Rng1, ↓e_rngk, ↓e_Rng2, ↓e_rngk2, ↓e_Call, ↓e_clk, ↓e_Meth, ↓e_mek, ↓e_mec, ↓e_MethK, ↓e_mekK, ↓e_At, ↓e_atk, ↓e_atkX, ↓e_lkkS, ↓e_lkkN, ↓e_xkkS, ↓e_SelfSet, ↓e_ssk, ↓e_Own, ↓e_App, ↓e_Raise, ↓e_rai0, ↓e_rai1, ↓e_rai2, ↓e_Try, ↓e_try_nx, ↓e_try_rt, ↓e_try_bk, ↓e_try_ct, ↓e_try_ex, ↓e_trykT, ↓e_trykF, ↓e_Js0, ↓e_Js1, ↓e_jsk, ↓e_Fmt, ↓e_fmkS, ↓e_fmkI, ↓e_Chain, ↓e_chk, e_isB, ↓e_Sl, ↓e_None, ↓e_Part, ↓e_prk, ↓e_oSlL, ↓e_oSlT, ↓e_oSlS, ↓e_Ix, ↓e_oIxL, ↓e_oIxT, ↓e_oIxS, ↓e_ix0, ↓e_ix1, ↓e_ix2, ↓e_ix3, ↓e_ix4, ↓e_ix5, ↓e_Lam, ↓e_Act, ↓e_lamAct, e_fzF, e_clN, ↓e_fn_nx, ↓e_fn_rt, ↓e_fn_ex, ↓e_in_nx, ↓e_in_ex, ↓e_I, ↓e_AddI, ↓e_AddIB, ↓e_AddS, ↓e_AddL, ↓e_AddT, ↓e_Len0, ↓e_Len1, ↓e_Len2, ↓e_Int0, ↓e_Int1, ↓e_Abs, ↓e_Repr, ↓e_List0, ↓e_List1, ↓e_Tuple0, ↓e_Tuple1, ↓e_Gcd, ↓e_IsNN, ↓e_IsNB, ↓e_IsNI, ↓e_IsNS, ↓e_IsNX, ↓e_IsNC, ↓e_IsNL, ↓e_IsNT, ↓e_NegI, ↓e_NegC, ↓e_AbsI, ↓e_AbsC, ↓e_bok, ↓e_bno, ↓e_sok, ↓e_BoolI, ↓e_BoolB, ↓e_BoolC, ↓e_StrI, ↓e_StrS, ↓e_StrC, ↓e_dpt, ↓e_EqC, ↓e_EqI, ↓e_EqB, ↓e_EqS, ↓e_EqIC, ↓e_Eq0I, ↓e_Eq0B, ↓e_Eq0S, ↓e_Ne0I, ↓e_Ne0S, ↓e_NeI, ↓e_NeS, ↓e_NeC, ↓e_NeIC, ↓e_OrdI, ↓e_OrdC, ↓e_OrdIC, ↓e_BinI, ↓e_BinC, ↓e_BinIC, ↓e_BinS, ↓e_BinL, ↓e_InpC, ↓e_MulI, ↓e_MulL, e_okRi, e_okRC, ↓e_agk, ↓e_LC, ↓e_lck, ↓e_lcP, ↓e_ColN, ↓e_colk, ↓e_Yes, e_clVN, ↓e_V0, ↓e_O0, ↓e_S0, ↓e_P0, ↓e_H0, ↓e_G0, ↓e_V1, ↓e_O1, ↓e_S1, ↓e_P1, ↓e_H1, ↓e_G1, ↓e_V2, ↓e_O2, ↓e_S2, ↓e_P2, ↓e_H2, ↓e_G2, ↓e_V3, ↓e_O3, ↓e_S3, ↓e_P3, ↓e_H3, ↓e_G3, ↓e_V4, ↓e_O4, ↓e_S4, ↓e_P4, ↓e_H4, ↓e_G4, ↓e_V5, ↓e_O5, ↓e_S5, ↓e_P5, ↓e_H5, ↓e_G5, ↓e_V6, ↓e_O6, ↓e_S6, ↓e_P6, ↓e_H6, ↓e_G6, ↓e_V7, ↓e_O7, ↓e_S7, ↓e_P7, ↓e_H7, ↓e_G7, ↓e_V8, ↓e_O8, ↓e_S8, ↓e_P8, ↓e_H8, ↓e_G8, ↓e_V9, ↓e_O9, ↓e_S9, ↓e_P9, ↓e_H9, ↓e_G9, ↓e_V10, ↓e_O10, ↓e_S10, ↓e_P10, ↓e_H10, ↓e_G10, ↓e_V11, ↓e_O11, ↓e_S11, ↓e_P11, ↓e_H11, ↓e_G11, ↓e_V12, ↓e_O12, ↓e_S12, ↓e_P12, ↓e_H12, ↓e_G12, ↓e_V13, ↓e_O13, ↓e_S13, ↓e_P13, ↓e_H13, ↓e_G13, ↓e_V14, ↓e_O14, ↓e_S14, ↓e_P14, ↓e_H14, ↓e_G14, ↓e_V15, ↓e_O15, ↓e_S15, ↓e_P15, ↓e_H15, ↓e_G15, ↓e_V16, ↓e_O16, ↓e_S16, ↓e_P16, ↓e_H16, ↓e_G16, ↓e_V17, ↓e_O17, ↓e_S17, ↓e_P17, ↓e_H17, ↓e_G17, ↓e_SF0, ↓e_Max2, ↓e_Min2, ↓e_NeB, ↓e_Ne0B, e_clA, e_clA2, e_cl1D, e_cl1U, e_cl1O, e_cl1K, true_and, and_true, and_false, false_and, not_true_eq_false, not_false_eq_true, List.length_cons, List.length_nil, Nat.reduceAdd, Nat.reduceLeDiff, Nat.reduceLT, Nat.zero_le, Bool.and_true, Bool.true_and, Bool.and_false, Bool.false_and, Bool.or_true, Bool.true_or, Bool.or_false, Bool.false_or, Bool.not_true, Bool.not_false, Bool.not_not, decide_true, decide_false, Int.reduceLT, Int.reduceLE, Int.reduceEq, Int.reduceNeg, Int.reduceAdd, Int.reduceSub, Int.reduceMul, List.cons_append, List.nil_append, beq_self_eq_true, reduceCtorEq, List.mem_cons, List.not_mem_nil, or_false, Nat.reduceEqDiff, Nat.succ_ne_zero, if_true, if_false, ↓reduceIte, cq_law_draw_2, cq_law_pick_2, cq_law_parts_1, cq_Bucket___eq___2, tq_eq_eq_Bucket, cq_law_near_2, cq_is_int_1, cq_is_between_3, cr_Bucket_Bucket___init___3, cq_need_like_1, cq_bits_in_2, cq_Bucket___le___2, tq_own_le_Bucket, cq_Bucket___lt___2, tq_own_lt_Bucket, cq_Bucket___gt___2, tq_own_gt_Bucket, tq_ordr_lt_Bucket, cq_law_is_below_2, cq_Bucket___ge___2, tq_ordr_ge_Bucket, tq_ordr_gt_Bucket, tq_own_ge_Bucket, tq_ordr_le_Bucket, cq_need_number_2, cq_Bucket_earliest_2, tq_meth_earliest_Bucket_2, cq_law_pair_right_2, isa_NoneType_BadBucket T, isa_bool_BadBucket T, isa_int_BadBucket T, isa_str_BadBucket T, isa_list_BadBucket T, isa_tuple_BadBucket T, isa_dict_BadBucket T, isa_c_Bucket_BadBucket T, isa_x_BadBucket_BadBucket T, isa_x_BadNumber_BadBucket T, isa_NoneType_Bucket T, isa_bool_Bucket T, isa_int_Bucket T, isa_str_Bucket T, isa_list_Bucket T, isa_tuple_Bucket T, isa_dict_Bucket T, isa_c_Bucket_Bucket T, isa_x_BadBucket_Bucket T, isa_x_BadNumber_Bucket T, isa_NoneType_bool T, isa_bool_bool T, isa_int_bool T, isa_str_bool T, isa_list_bool T, isa_tuple_bool T, isa_dict_bool T, isa_c_Bucket_bool T, isa_x_BadBucket_bool T, isa_x_BadNumber_bool T, isa_NoneType_int T, isa_bool_int T, isa_int_int T, isa_str_int T, isa_list_int T, isa_tuple_int T, isa_dict_int T, isa_c_Bucket_int T, isa_x_BadBucket_int T, isa_x_BadNumber_int T, T.em_BadBucket_CreditError, T.em_BadNumber_CreditError, np_Bucket_NoneType T, np_Bucket_bool T, np_Bucket_int T, np_Bucket_str T, np_Bucket_list T, np_Bucket_tuple T, np_Bucket_dict T, np_Bucket_c_Bucket T, lk_Bucket_burst, T.na_Bucket_burst, lk_Bucket_rate, T.na_Bucket_rate, lk_Bucket_every, T.na_Bucket_every, pd_Bucket_burst, pd_Bucket_rate, pd_Bucket_every, lx_BadBucket_part, T.xa_BadBucket_part, lx_BadNumber_value, T.xa_BadNumber_value, ml_Bucket_earliest, u_law_draw_8, u_law_draw_7, u_law_draw_6, u_law_draw_5, u_law_draw_4, u_law_draw_3, u_law_draw_2, u_law_draw_1, t_law_draw, t_law_pick, t_law_parts, u_Bucket___eq___1, t_Bucket___eq__, u_law_near_5, u_law_near_4, u_law_near_3, u_law_near_2, u_law_near_1, t_law_near, t_is_int, t_is_between, u_Bucket___init___5, u_Bucket___init___4, u_Bucket___init___3, u_Bucket___init___2, u_Bucket___init___1, t_Bucket___init__, t_need_like, t_bits_in, u_Bucket___le___3, u_Bucket___le___2, u_Bucket___le___1, t_Bucket___le__, t_Bucket___lt__, u_Bucket___gt___1, t_Bucket___gt__, u_law_is_below_2, u_law_is_below_1, t_law_is_below, u_Bucket___ge___1, t_Bucket___ge__, t_need_number, u_Bucket_earliest_2, u_Bucket_earliest_1, t_Bucket_earliest, u_law_pair_right_6, u_law_pair_right_5, u_law_pair_right_4, u_law_pair_right_3, u_law_pair_right_2, u_law_pair_right_1, t_law_pair_right, u_law_heard_2, u_law_heard_1, t_law_heard, u_law_4, u_law_3, u_law_2, u_law_1, t_law, xo_BadBucket, xo_BadNumber])

section
variable {c : Wd} {A : Ad} {z : Z} {P : D → Z → Prop} {R : Er → Z → Prop} {f : Addr} {act : DAct}

theorem heard_raise (T : Txt c A) {s : D} (ha : ∀ PA RA, RA (xo_BadBucket A s) z → act z PA RA) (hp : P s z) : ga_law_heard c A f act z P := by
  show t_law_heard c A f act _ ⟨[.d (.ref f), .un, .un], z⟩
  get_elem_tactic_trivial
  refine ⟨rfl, ha _ _ ?_⟩
  get_elem_tactic_trivial
  exact hp
/-- not equal to any bucket -/
def NQ (c : Wd) (A : Ad) (d : D) : Prop := ∀ b r e z P R, P (.bl false) z → sp_Bucket___eq__ c A [Bk A b r e, d] z P R
theorem nq_n (T : Txt c A) : NQ c A (.non) := by
  intro b r e z P R h
  refine ⟨rfl, ?_⟩
  show t_Bucket___eq__ c A _ ⟨[.d (Bk A b r e), .d (.non)], z⟩
  get_elem_tactic_trivial
  exact h
theorem nq_i (T : Txt c A) {i : Int} : NQ c A (.int i) := by
  intro b r e z P R h
  refine ⟨rfl, ?_⟩
  show t_Bucket___eq__ c A _ ⟨[.d (Bk A b r e), .d (.int i)], z⟩
  get_elem_tactic_trivial
  exact h
theorem nq_b (T : Txt c A) {bb : Bool} : NQ c A (.bl bb) := by
  intro b r e z P R h
  refine ⟨rfl, ?_⟩
  show t_Bucket___eq__ c A _ ⟨[.d (Bk A b r e), .d (.bl bb)], z⟩
  get_elem_tactic_trivial
  exact h
theorem nq_s (T : Txt c A) {s : Str} : NQ c A (.str s) := by
  intro b r e z P R h
  refine ⟨rfl, ?_⟩
  show t_Bucket___eq__ c A _ ⟨[.d (Bk A b r e), .d (.str s)], z⟩
  get_elem_tactic_trivial
  exact h
theorem nq_t (T : Txt c A) {xs : List D} : NQ c A (.tup xs) := by
  intro b r e z P R h
  refine ⟨rfl, ?_⟩
  show t_Bucket___eq__ c A _ ⟨[.d (Bk A b r e), .d (.tup xs)], z⟩
  get_elem_tactic_trivial
  exact h
theorem nq_l (T : Txt c A) {xs : List D} : NQ c A (.lst xs) := by
  intro b r e z P R h
  refine ⟨rfl, ?_⟩
  show t_Bucket___eq__ c A _ ⟨[.d (Bk A b r e), .d (.lst xs)], z⟩
  get_elem_tactic_trivial
  exact h
theorem nq_d (T : Txt c A) {xs : List (Key × D)} : NQ c A (.dct xs) := by
  intro b r e z P R h
  refine ⟨rfl, ?_⟩
  show t_Bucket___eq__ c A _ ⟨[.d (Bk A b r e), .d (.dct xs)], z⟩
  get_elem_tactic_trivial
  exact h

theorem e_NeL {tbl : List (Addr × DSp2)} {xs ys : List D} {PZ : D → Z → Prop} {EZ : Er → Z → Prop} : oNeB c tbl (.lst xs) (.lst ys) z PZ EZ = ((noDic (.lst xs) 40 = true ∧ noDic (.lst ys) 40 = true) ∧ PZ (.bl (!eqD (.lst xs) (.lst ys))) z) := (rfl)
structure Ps (b r e : Int) : Prop where
  b1 : 1 ≤ b
  b2 : b ≤ 200
  r1 : 1 ≤ r
  r2 : r ≤ 40
  e1 : 1 ≤ e
  e2 : e ≤ 40
theorem Ps.ok {b r e : Int} (h : Ps b r e) : Ok b r e := ⟨h.b1, by have := h.b2; omega, h.r1, by have := h.r2; omega, h.e1, by have := h.e2; omega⟩
theorem law_laps (T : Txt c A) {N : DN} {s0 s11 s12 s13 : Sl} : ∀ (xs : List D) (z : Z) (s2 s3 s4 s5 s6 s7 s8 s9 s10 : Sl), 17 * xs.length ≤ z.fu → (∀ z' s2 s3 s4 s5 s6 s7 s8 s9 s10, N.nx ⟨[s0, .d .pen, s2, s3, s4, s5, s6, s7, s8, s9, s10, s11, s12, s13], z'⟩) →
    dLoop (gN 2) (dSeq (dSet 3 (dCall (fun ds zs n P R => zs = [] ∧ (cs_law_parts_1 c A) ds [] n P R) (dCons (dVar 1) (dNil)) dNil)) (dSeq (dPar 4 5 (dCons (dCall (fun ds zs n P R => zs = [] ∧ (cs_law_near_2 c A) ds [] n P R) (dCons (dVar 1) (dCons (dVar 3) (dNil))) dNil) (dCons (dCall (fun ds zs n P R => zs = [] ∧ (cs_law_near_2 c A) ds [] n P R) (dCons (dVar 1) (dCons (dVar 3) (dNil))) dNil) (dNil)))) (dSeq (dFor (dItL (dLst (dCons (dTup (dCons (dVar 3) (dCons (dVar 4) (dNil)))) (dCons (dTup (dCons (dVar 4) (dCons (dVar 3) (dNil)))) (dCons (dTup (dCons (dVar 4) (dCons (dVar 5) (dNil)))) (dCons (dTup (dCons (dVar 3) (dCons (dVar 3) (dNil)))) (dCons (dTup (dCons (dVar 5) (dCons (dVar 3) (dNil)))) (dNil)))))))) (gT 2 (gC (gN 6) (gC (gN 7) (gZ)))) (dIte (dNot (dTB (dCall (fun ds zs n P R => zs = [] ∧ (cs_law_pair_right_2 c A) ds [] n P R) (dCons (dVar 6) (dCons (dVar 7) (dNil))) dNil))) (dRet (dC (.bl false))) (dNext))) (dSeq (dSet 8 (dCall (fun ds zs n P R => zs = [] ∧ (cs_Bucket_Bucket___init___3 c A) ds [] n P R) (dCons (dIx (dVar 3) (dC (.int 0))) (dCons (dIx (dVar 3) (dC (.int 1))) (dCons (dIx (dVar 3) (dC (.int 2))) (dNil)))) dNil)) (dSeq (dSet 9 (dCall (fun ds zs n P R => zs = [] ∧ (cs_law_pick_2 c A) ds [] n P R) (dCons (dVar 1) (dCons (dLst (dCons (dC .non) (dCons (dC (.int 0)) (dCons (dC (.bl true)) (dCons (dC (.str ("2 1 6" : Str))) (dCons (dLst (dNil)) (dCons (dTup (dCons (dC (.int 2)) (dCons (dC (.int 1)) (dCons (dC (.int 6)) (dNil))))) (dCons (dC (.dct [])) (dCons (dVar 3) (dNil)))))))))) (dNil))) dNil)) (dSeq (dOwn 10 (dCons (dLam false (ga_law_heard c A) (dBinE (oOrdA c (tq_own_le_Bucket c A) (tq_ordr_ge_Bucket c A) fun i j => decide (i ≤ j)) (dVar 8) (dVar 9))) (dNil))) (dSeq (dApp 10 (dLam false (ga_law_heard c A) (dBinE (oOrdA c (tq_own_lt_Bucket c A) (tq_ordr_gt_Bucket c A) fun i j => decide (i < j)) (dVar 8) (dVar 9)))) (dSeq (dApp 10 (dLam false (ga_law_heard c A) (dBinE (oOrdA c (tq_own_ge_Bucket c A) (tq_ordr_le_Bucket c A) fun i j => decide (j ≤ i)) (dVar 8) (dVar 9)))) (dSeq (dApp 10 (dLam false (ga_law_heard c A) (dBinE (oOrdA c (tq_own_gt_Bucket c A) (tq_ordr_lt_Bucket c A) fun i j => decide (j < i)) (dVar 8) (dVar 9)))) (dIte (dOr (dTB (dBinE (oNeB c (tq_eq_eq_Bucket c A)) (dVar 10) (dBin oMulA (dLst (dCons (dC (.str ("other" : Str))) (dNil))) (dC (.int 4))))) (dTB (dBinE (oEqA c (tq_eq_eq_Bucket c A)) (dVar 8) (dVar 9)))) (dRet (dC (.bl false))) (dNext))))))))))) N xs ⟨[s0, .d .pen, s2, s3, s4, s5, s6, s7, s8, s9, s10, s11, s12, s13], z⟩
  | [], z, s2, s3, s4, s5, s6, s7, s8, s9, s10, hz, h => h z _ _ _ _ _ _ _ _ _
  | x :: xs, z, s2, s3, s4, s5, s6, s7, s8, s9, s10, hz, h => by
    rw [List.length_cons] at hz
    rw [loop_cons]
    get_elem_tactic_trivial
    refine parts_ok T (by omega) fun b r e z1 q1 q2 q3 q4 q5 q6 z1d => ?_
    get_elem_tactic_trivial
    refine near_ok T q1 q2 q3 q4 q5 q6 (by have := z1d.2; omega) fun b2 r2 e2 z2 g1 g2 g3 g4 g5 g6 z2d => ?_
    get_elem_tactic_trivial
    refine near_ok T q1 q2 q3 q4 q5 q6 (by have := z1d.2; have := z2d.2; omega) fun b3 r3 e3 z3 f1 f2 f3 f4 f5 f6 z3d => ?_
    have o1 : Ps b r e := ⟨q1, by omega, q3, by omega, q5, by omega⟩
    have o2 : Ps b2 r2 e2 := ⟨g1, g2, g3, g4, g5, g6⟩
    have o3 : Ps b3 r3 e3 := ⟨f1, f2, f3, f4, f5, f6⟩
    clear q1 q2 q3 q4 q5 q6 g1 g2 g3 g4 g5 g6 f1 f2 f3 f4 f5 f6
    get_elem_tactic_trivial
    rw [loop_cons]
    get_elem_tactic_trivial
    refine pair_ok T o1.ok o2.ok ?_
    get_elem_tactic_trivial
    rw [loop_cons]
    get_elem_tactic_trivial
    refine pair_ok T o2.ok o1.ok ?_
    get_elem_tactic_trivial
    rw [loop_cons]
    get_elem_tactic_trivial
    refine pair_ok T o2.ok o3.ok ?_
    get_elem_tactic_trivial
    rw [loop_cons]
    get_elem_tactic_trivial
    refine pair_ok T o1.ok o1.ok ?_
    get_elem_tactic_trivial
    rw [loop_cons]
    get_elem_tactic_trivial
    refine pair_ok T o3.ok o1.ok ?_
    get_elem_tactic_trivial
    rw [loop_nil]
    get_elem_tactic_trivial
    refine mk_ok T o1.ok ?_
    get_elem_tactic_trivial
    refine pick_ok T ?_ ?_ ?_ fun d z4 hd z4d => ?_
    · simp
    · simp
    · have := z1d.2; have := z2d.2; have := z3d.2; omega
    have nd : NB c A d ∧ notF c A.c_Bucket d ∧ NQ c A d := by
      simp only [List.mem_cons, List.not_mem_nil, or_false] at hd
      rcases hd with rfl | rfl | rfl | rfl | rfl | rfl | rfl | rfl
      · exact ⟨nb_n T, np_Bucket_NoneType T, nq_n T⟩
      · exact ⟨nb_i T, np_Bucket_int T, nq_i T⟩
      · exact ⟨nb_b T, np_Bucket_bool T, nq_b T⟩
      · exact ⟨nb_s T, np_Bucket_str T, nq_s T⟩
      · exact ⟨nb_l T, np_Bucket_list T, nq_l T⟩
      · exact ⟨nb_t T, np_Bucket_tuple T, nq_t T⟩
      · exact ⟨nb_d T, np_Bucket_dict T, nq_d T⟩
      · exact ⟨nb_l T, np_Bucket_list T, nq_l T⟩
    clear hd
    obtain ⟨nb, nf, nq⟩ := nd
    get_elem_tactic_trivial
    intro f0
    refine heard_raise T (s := .str ("other" : Str)) (fun PA RA h => ?_) ?_
    · get_elem_tactic_trivial
      refine ⟨nf, le_no T nb ?_⟩
      get_elem_tactic_trivial
      exact h
    get_elem_tactic_trivial
    intro f1
    refine heard_raise T (s := .str ("other" : Str)) (fun PA RA h => ?_) ?_
    · get_elem_tactic_trivial
      refine ⟨nf, lt_no T nf nb ?_⟩
      get_elem_tactic_trivial
      exact h
    get_elem_tactic_trivial
    intro f2
    refine heard_raise T (s := .str ("other" : Str)) (fun PA RA h => ?_) ?_
    · get_elem_tactic_trivial
      refine ⟨nf, ge_no T nb ?_⟩
      get_elem_tactic_trivial
      exact h
    get_elem_tactic_trivial
    intro f3
    refine heard_raise T (s := .str ("other" : Str)) (fun PA RA h => ?_) ?_
    · get_elem_tactic_trivial
      refine ⟨nf, gt_no T nb ?_⟩
      get_elem_tactic_trivial
      exact h
    get_elem_tactic_trivial

    refine ⟨by decide, ?_⟩
    rw [e_NeL]
    refine ⟨⟨by decide +kernel, by decide +kernel⟩, ?_⟩
    rw [show eqD (.lst [.str ("other" : Str), .str ("other" : Str), .str ("other" : Str), .str ("other" : Str)]) (.lst (List.replicate (Int.toNat 4) [D.str ("other" : Str)]).flatten) = true from rfl]
    get_elem_tactic_trivial
    refine ⟨nf, nq _ _ _ _ _ _ ?_⟩
    get_elem_tactic_trivial
    exact law_laps T xs z4 _ _ _ _ _ _ _ _ _ (by have := z1d.2; have := z2d.2; have := z3d.2; have := z4d.2; omega) h
end
theorem law_plain {c : Wd} {A : Ad} (T : Txt c A) (h : c.cs.length ≤ 63) : t_law c A lawN ⟨.un :: .d .pen :: List.replicate (N_law.length - 2) .un, z0⟩ := by
  have e : (Sl.un :: Sl.d .pen :: List.replicate (N_law.length - 2) Sl.un) = [.un, .d .pen, .un, .un, .un, .un, .un, .un, .un, .un, .un, .un, .un, .un] := rfl
  rw [e]
  have b1 : leB 60 500 1000 558 499 998 = true := by decide +kernel
  have b2 : leB 60 500 1000 557 499 998 = false := by decide +kernel
  have b3 : leB 999001 1 1 1000000 1000 1000 = true := by decide +kernel
  have b4 : leB 1000000 1000 1000 999001 1 1 = false := by decide +kernel
  have b5 : leB 1 1 1000 1000000 1000 1000 = true := by decide +kernel
  have b6 : leB 1 999 1 1 1000 1 = true := by decide +kernel
  have k1 : Ok 60 500 1000 := by constructor <;> decide
  have k2 : Ok 558 499 998 := by constructor <;> decide
  have k3 : Ok 557 499 998 := by constructor <;> decide
  have k4 : Ok 1000000 1000 1000 := by constructor <;> decide
  have k5 : Ok 999001 1 1 := by constructor <;> decide
  have k6 : Ok 1 1 1000 := by constructor <;> decide
  have k7 : Ok 1 1000 1 := by constructor <;> decide
  have k8 : Ok 1 999 1 := by constructor <;> decide
  have p6 : (10 : Int) ^ Int.toNat 6 = 1000000 := rfl
  get_elem_tactic_trivial
  refine ⟨by decide, ?_⟩
  refine law_laps T _ _ _ _ _ _ _ _ _ _ _ ?_ fun z' s2 s3 s4 s5 s6 s7 s8 s9 s10 => ?_
  · rw [List.length_map, List.length_range]
    decide
  get_elem_tactic_trivial
  refine mk_ok T k1 ?_
  get_elem_tactic_trivial
  refine mk_ok T k2 ?_
  get_elem_tactic_trivial
  refine le_ok T k1 k2 ?_
  rw [b1]
  get_elem_tactic_trivial
  refine mk_ok T k3 ?_
  get_elem_tactic_trivial
  refine le_ok T k1 k3 ?_
  rw [b2]
  get_elem_tactic_trivial
  refine ⟨cpw (by decide) (by decide), ?_⟩
  rw [p6]
  refine mk_ok T k4 ?_
  get_elem_tactic_trivial
  refine ⟨cpw (by decide) (by decide), ?_⟩
  rw [p6]
  get_elem_tactic_trivial
  refine mk_ok T k5 ?_
  get_elem_tactic_trivial
  refine le_ok T k5 k4 ?_
  rw [b3]
  get_elem_tactic_trivial
  refine le_ok T k4 k5 ?_
  rw [b4]
  get_elem_tactic_trivial
  refine mk_ok T k6 ?_
  get_elem_tactic_trivial
  refine lt_ok T k6 k4 ?_
  rw [b5]
  get_elem_tactic_trivial
  refine mk_ok T k7 ?_
  get_elem_tactic_trivial
  refine mk_ok T k8 ?_
  get_elem_tactic_trivial
  refine gt_ok T k7 k8 ?_
  rw [b6]
  get_elem_tactic_trivial
  rfl
end K53

namespace K53
open PySem L2 DL PySem.Spec PyProof.Rows
theorem law_fn {P : Program} {w : World} {K : PySem.W.Frag} {mg : Str → Option Value} {base : Heap} {A : Ad} {ts : List Tb} (T : ∀ p cs, Txt (lawWd P w K mg base p cs (tbs ts)) A) : ∃ fd, FunD K "law" "law" (defArgs s_law) (defBody s_law) (defScope s_law) [] [] A.f_law fd ∧ FnG (lawWd P w K mg base 0 [] (tbs ts)) 17 A.f_law fd ["_law_script"] (spLaw K (tbs ts)) := by
  obtain ⟨fdP, FP⟩ := (T 0 []).F_law_pen
  obtain ⟨fd, F⟩ := (T 0 []).F_law
  have GP : FnG (lawWd P w K mg base 0 [] (tbs ts)) 1 A.f_law_pen fdP ["_law_script"] (spPen K) := pen_ok (c := lawWd P w K mg base 0 [] (tbs ts)) FP ⟨rfl, rfl, rfl, by decide +kernel, rfl, by decide +kernel, by decide +kernel⟩ (.inl rfl) rfl (T 0 []).no_list
  exact ⟨fd, F, law_ok (N := N_law) (n := 12) (t := fun c => t_law c A) F sc_law rfl rfl rfl (.inl rfl) (by first | exact .inl rfl | exact .inr rfl) rfl GP FP.kp (T 0 []).mg_law_pen (kbn_f FP fun _ _ _ _ _ _ us hl => match us, hl with | [_], _ => rfl) (by decide) (fun env h => rfl)
    (fun X cf W hc B at_ => by
      obtain ⟨p, cs, e⟩ := hc
      exact dd_law (by rw [e]; exact T p cs) X cf W rfl B (by rw [e]; exact at_))
    (fun p ns hn => law_plain (T p ns) hn)⟩
theorem done {l : PySem.W.OpenLaw} {q : Program} {loose : List Str} {mean : ExcName → Option Value} {mb : Str → Option Value} {w : World} {K : PySem.W.Frag} {h : Heap} {mg : Str → Option Value} {fa : Addr} {f_law f_law_pen f_law_parts f_law_draw f_law_pick f_law_near f_Bucket___eq__ c_Bucket f_law_pair_right f_Bucket___init__ f_is_between f_is_int c_BadBucket f_BadBucket_init f_law_is_below f_Bucket___gt__ f_need_like f_Bucket___lt__ f_Bucket___le__ f_bits_in f_Bucket___ge__ f_Bucket_earliest f_need_number c_BadNumber f_BadNumber_init f_law_heard c_CreditError cc_law pt_law : Addr} (X : K.In h) (TP : Top q loose mean mg mb h) (hfa : mg "law" = some (.ref fa))
    {oc_law kV_law dc_law pm_law cd_law ct_law : Value} {od_law an_law : Option Addr} {sl_law : Array (Option Value)}
    {oc_law_pen kV_law_pen dc_law_pen pm_law_pen cd_law_pen ct_law_pen : Value} {od_law_pen an_law_pen : Option Addr} {sl_law_pen : Array (Option Value)}
    {oc_law_parts kV_law_parts dc_law_parts pm_law_parts cd_law_parts ct_law_parts : Value} {od_law_parts an_law_parts : Option Addr} {sl_law_parts : Array (Option Value)}
    {oc_law_draw kV_law_draw dc_law_draw pm_law_draw cd_law_draw ct_law_draw : Value} {od_law_draw an_law_draw : Option Addr} {sl_law_draw : Array (Option Value)}
    {oc_law_pick kV_law_pick dc_law_pick pm_law_pick cd_law_pick ct_law_pick : Value} {od_law_pick an_law_pick : Option Addr} {sl_law_pick : Array (Option Value)}
    {oc_law_near kV_law_near dc_law_near pm_law_near cd_law_near ct_law_near : Value} {od_law_near an_law_near : Option Addr} {sl_law_near : Array (Option Value)}
    {oc_Bucket___eq__ kV_Bucket___eq__ dc_Bucket___eq__ pm_Bucket___eq__ cd_Bucket___eq__ ct_Bucket___eq__ : Value} {od_Bucket___eq__ an_Bucket___eq__ : Option Addr} {sl_Bucket___eq__ : Array (Option Value)}
    {oc_law_pair_right kV_law_pair_right dc_law_pair_right pm_law_pair_right cd_law_pair_right ct_law_pair_right : Value} {od_law_pair_right an_law_pair_right : Option Addr} {sl_law_pair_right : Array (Option Value)}
    {oc_Bucket___init__ kV_Bucket___init__ dc_Bucket___init__ pm_Bucket___init__ cd_Bucket___init__ ct_Bucket___init__ : Value} {od_Bucket___init__ an_Bucket___init__ : Option Addr} {sl_Bucket___init__ : Array (Option Value)}
    {oc_is_between kV_is_between dc_is_between pm_is_between cd_is_between ct_is_between : Value} {od_is_between an_is_between : Option Addr} {sl_is_between : Array (Option Value)}
    {oc_is_int kV_is_int dc_is_int pm_is_int cd_is_int ct_is_int : Value} {od_is_int an_is_int : Option Addr} {sl_is_int : Array (Option Value)}
    {gt_MOST_BITS : Tok}
    {oc_BadBucket_init kV_BadBucket_init dc_BadBucket_init pm_BadBucket_init ct_BadBucket_init : Value} {od_BadBucket_init an_BadBucket_init : Option Addr} {sl_BadBucket_init : Array (Option Value)} {cc_BadBucket_init cf_BadBucket_init : Addr}
    {nm_BadBucket_init : Str} {q_BadBucket_init : Str} {N_BadBucket_init : Addr} {bs_BadBucket_init : List Value} {bm_BadBucket_init : List Value} {sn_BadBucket_init : List Str} {sub_BadBucket_init : List Value} {ab_BadBucket_init : Bool} {col_BadBucket_init : Option Bool} {dd_BadBucket_init : Option Addr} {k0_BadBucket_init : Option Value} {k1_BadBucket_init : Option Value} {k2_BadBucket_init : Option Value} {k3_BadBucket_init : Option Value} {k5_BadBucket_init : Option Value}
    {fc_BadBucket_init : Value} {fd_BadBucket_init : Option Addr} {fv_BadBucket_init : Array Value} {fs_BadBucket_init : Array (Option Value)} {ff_BadBucket_init : Str} {ft_BadBucket_init : Tok} {gc_BadBucket_init : Value} {gd_BadBucket_init : Option Addr} {gs_BadBucket_init : Array (Option Value)}
    {gt_MOST_RATE : Tok}
    {oc_law_is_below kV_law_is_below dc_law_is_below pm_law_is_below cd_law_is_below ct_law_is_below : Value} {od_law_is_below an_law_is_below : Option Addr} {sl_law_is_below : Array (Option Value)}
    {oc_Bucket___gt__ kV_Bucket___gt__ dc_Bucket___gt__ pm_Bucket___gt__ cd_Bucket___gt__ ct_Bucket___gt__ : Value} {od_Bucket___gt__ an_Bucket___gt__ : Option Addr} {sl_Bucket___gt__ : Array (Option Value)}
    {oc_need_like kV_need_like dc_need_like pm_need_like cd_need_like ct_need_like : Value} {od_need_like an_need_like : Option Addr} {sl_need_like : Array (Option Value)}
    {oc_Bucket___lt__ kV_Bucket___lt__ dc_Bucket___lt__ pm_Bucket___lt__ cd_Bucket___lt__ ct_Bucket___lt__ : Value} {od_Bucket___lt__ an_Bucket___lt__ : Option Addr} {sl_Bucket___lt__ : Array (Option Value)}
    {oc_Bucket___le__ kV_Bucket___le__ dc_Bucket___le__ pm_Bucket___le__ cd_Bucket___le__ ct_Bucket___le__ : Value} {od_Bucket___le__ an_Bucket___le__ : Option Addr} {sl_Bucket___le__ : Array (Option Value)}
    {oc_bits_in kV_bits_in dc_bits_in pm_bits_in cd_bits_in ct_bits_in : Value} {od_bits_in an_bits_in : Option Addr} {sl_bits_in : Array (Option Value)}
    {oc_Bucket___ge__ kV_Bucket___ge__ dc_Bucket___ge__ pm_Bucket___ge__ cd_Bucket___ge__ ct_Bucket___ge__ : Value} {od_Bucket___ge__ an_Bucket___ge__ : Option Addr} {sl_Bucket___ge__ : Array (Option Value)}
    {oc_Bucket_earliest kV_Bucket_earliest dc_Bucket_earliest pm_Bucket_earliest cd_Bucket_earliest ct_Bucket_earliest : Value} {od_Bucket_earliest an_Bucket_earliest : Option Addr} {sl_Bucket_earliest : Array (Option Value)}
    {oc_need_number kV_need_number dc_need_number pm_need_number cd_need_number ct_need_number : Value} {od_need_number an_need_number : Option Addr} {sl_need_number : Array (Option Value)}
    {oc_BadNumber_init kV_BadNumber_init dc_BadNumber_init pm_BadNumber_init ct_BadNumber_init : Value} {od_BadNumber_init an_BadNumber_init : Option Addr} {sl_BadNumber_init : Array (Option Value)} {cc_BadNumber_init cf_BadNumber_init : Addr}
    {nm_BadNumber_init : Str} {q_BadNumber_init : Str} {N_BadNumber_init : Addr} {bs_BadNumber_init : List Value} {bm_BadNumber_init : List Value} {sn_BadNumber_init : List Str} {sub_BadNumber_init : List Value} {ab_BadNumber_init : Bool} {col_BadNumber_init : Option Bool} {dd_BadNumber_init : Option Addr} {k0_BadNumber_init : Option Value} {k1_BadNumber_init : Option Value} {k2_BadNumber_init : Option Value} {k3_BadNumber_init : Option Value} {k5_BadNumber_init : Option Value}
    {fc_BadNumber_init : Value} {fd_BadNumber_init : Option Addr} {fv_BadNumber_init : Array Value} {fs_BadNumber_init : Array (Option Value)} {ff_BadNumber_init : Str} {ft_BadNumber_init : Tok} {gc_BadNumber_init : Value} {gd_BadNumber_init : Option Addr} {gs_BadNumber_init : Array (Option Value)}
    {oc_law_heard kV_law_heard dc_law_heard pm_law_heard cd_law_heard ct_law_heard : Value} {od_law_heard an_law_heard : Option Addr} {sl_law_heard : Array (Option Value)}
    {ko_law : Value} {kd_law : Option Addr} {kv_law : Array Value} {ks_law : Array (Option Value)}
    (h_a_law : PySem.W.nsIn K mainGlobals "law" = some (some (.ref f_law)))
    (h_l_law : K.lookup f_law = some ⟨oc_law, od_law, .func (PySem.W.fnOf "law" "law" (defArgs s_law) (defBody s_law) (defScope s_law) .none kV_law dc_law pm_law an_law cd_law ct_law), sl_law⟩)
    (h_c_law : PySem.W.codeIn K cd_law "law" = true)
    (h_k_law : PySem.W.keepIn K (.ref f_law) = true)
    (h_a_law_pen : PySem.W.nsIn K mainGlobals "_law_pen" = some (some (.ref f_law_pen)))
    (h_l_law_pen : K.lookup f_law_pen = some ⟨oc_law_pen, od_law_pen, .func (PySem.W.fnOf "_law_pen" "_law_pen" (defArgs s_law_pen) (defBody s_law_pen) (defScope s_law_pen) .none kV_law_pen dc_law_pen pm_law_pen an_law_pen cd_law_pen ct_law_pen), sl_law_pen⟩)
    (h_c_law_pen : PySem.W.codeIn K cd_law_pen "_law_pen" = true)
    (h_k_law_pen : PySem.W.keepIn K (.ref f_law_pen) = true)
    (h_no_list : PySem.W.nsIn K mainGlobals "list" = some none)
    (h_no_range : PySem.W.nsIn K mainGlobals "range" = some none)
    (h_a_law_parts : PySem.W.nsIn K mainGlobals "_law_parts" = some (some (.ref f_law_parts)))
    (h_l_law_parts : K.lookup f_law_parts = some ⟨oc_law_parts, od_law_parts, .func (PySem.W.fnOf "_law_parts" "_law_parts" (defArgs s_law_parts) (defBody s_law_parts) (defScope s_law_parts) .none kV_law_parts dc_law_parts pm_law_parts an_law_parts cd_law_parts ct_law_parts), sl_law_parts⟩)
    (h_c_law_parts : PySem.W.codeIn K cd_law_parts "_law_parts" = true)
    (h_k_law_parts : PySem.W.keepIn K (.ref f_law_parts) = true)
    (h_a_law_draw : PySem.W.nsIn K mainGlobals "_law_draw" = some (some (.ref f_law_draw)))
    (h_l_law_draw : K.lookup f_law_draw = some ⟨oc_law_draw, od_law_draw, .func (PySem.W.fnOf "_law_draw" "_law_draw" (defArgs s_law_draw) (defBody s_law_draw) (defScope s_law_draw) .none kV_law_draw dc_law_draw pm_law_draw an_law_draw cd_law_draw ct_law_draw), sl_law_draw⟩)
    (h_c_law_draw : PySem.W.codeIn K cd_law_draw "_law_draw" = true)
    (h_k_law_draw : PySem.W.keepIn K (.ref f_law_draw) = true)
    (h_no_int : PySem.W.nsIn K mainGlobals "int" = some none)
    (h_no_len : PySem.W.nsIn K mainGlobals "len" = some none)
    (h_no_abs : PySem.W.nsIn K mainGlobals "abs" = some none)
    (h_a_law_pick : PySem.W.nsIn K mainGlobals "_law_pick" = some (some (.ref f_law_pick)))
    (h_l_law_pick : K.lookup f_law_pick = some ⟨oc_law_pick, od_law_pick, .func (PySem.W.fnOf "_law_pick" "_law_pick" (defArgs s_law_pick) (defBody s_law_pick) (defScope s_law_pick) .none kV_law_pick dc_law_pick pm_law_pick an_law_pick cd_law_pick ct_law_pick), sl_law_pick⟩)
    (h_c_law_pick : PySem.W.codeIn K cd_law_pick "_law_pick" = true)
    (h_k_law_pick : PySem.W.keepIn K (.ref f_law_pick) = true)
    (h_a_law_near : PySem.W.nsIn K mainGlobals "_law_near" = some (some (.ref f_law_near)))
    (h_l_law_near : K.lookup f_law_near = some ⟨oc_law_near, od_law_near, .func (PySem.W.fnOf "_law_near" "_law_near" (defArgs s_law_near) (defBody s_law_near) (defScope s_law_near) .none kV_law_near dc_law_near pm_law_near an_law_near cd_law_near ct_law_near), sl_law_near⟩)
    (h_c_law_near : PySem.W.codeIn K cd_law_near "_law_near" = true)
    (h_k_law_near : PySem.W.keepIn K (.ref f_law_near) = true)
    (h_g_Bucket : PySem.W.nsIn K mainGlobals "Bucket" = some (some (.ref c_Bucket)))
    (h_a_Bucket___eq__ : PySem.W.findIn K (.ref c_Bucket) "__eq__" = some (some (.ref f_Bucket___eq__)))
    (h_i_Bucket___eq__ : PySem.W.isFn K (.ref f_Bucket___eq__) = true)
    (h_l_Bucket___eq__ : K.lookup f_Bucket___eq__ = some ⟨oc_Bucket___eq__, od_Bucket___eq__, .func (PySem.W.fnOf "__eq__" "Bucket.__eq__" (defArgs s_Bucket___eq__) (defBody s_Bucket___eq__) (defScope s_Bucket___eq__) .none kV_Bucket___eq__ dc_Bucket___eq__ pm_Bucket___eq__ an_Bucket___eq__ cd_Bucket___eq__ ct_Bucket___eq__), sl_Bucket___eq__⟩)
    (h_c_Bucket___eq__ : PySem.W.codeIn K cd_Bucket___eq__ "Bucket.__eq__" = true)
    (h_k_Bucket___eq__ : PySem.W.keepIn K (.ref f_Bucket___eq__) = true)
    (h_no_isinstance : PySem.W.nsIn K mainGlobals "isinstance" = some none)
    (h_pg_Bucket : PySem.W.plainGet K c_Bucket Str.empty = true)
    (h_hd_Bucket : PySem.W.hasDictIn K c_Bucket = true)
    (h_po_Bucket : PySem.W.plainOver K c_Bucket = true)
    (h_sa_Bucket : PySem.W.findIn K (.ref c_Bucket) "__setattr__" = some (some (.builtin "object.__setattr__")))
    (h_cg : PySem.W.specialIn K (.builtin "object.__class__") "__get__" = some (some (.builtin "getset_descriptor.__get__")))
    (h_ct : PySem.W.takesIn K (.builtin "object.__class__") = some true)
    (h_cc_Bucket : PySem.W.findIn K (.ref c_Bucket) "__class__" = some (some (.builtin "object.__class__")))
    (h_ob_Bucket : PySem.W.mroIn K c_Bucket (.type "object") = some true)
    (h_ne_Bucket : PySem.W.findIn K (.ref c_Bucket) "__ne__" = some (some (.builtin "object.__ne__")))
    (h_bt_Bucket_NoneType : PySem.W.mroIn K c_Bucket (.type "NoneType") = some false)
    (h_bt_Bucket_bool : PySem.W.mroIn K c_Bucket (.type "bool") = some false)
    (h_bt_Bucket_int : PySem.W.mroIn K c_Bucket (.type "int") = some false)
    (h_bt_Bucket_str : PySem.W.mroIn K c_Bucket (.type "str") = some false)
    (h_bt_Bucket_list : PySem.W.mroIn K c_Bucket (.type "list") = some false)
    (h_bt_Bucket_tuple : PySem.W.mroIn K c_Bucket (.type "tuple") = some false)
    (h_bt_Bucket_dict : PySem.W.mroIn K c_Bucket (.type "dict") = some false)
    (h_nf_Bucket_NoneType : PySem.W.notFirst K c_Bucket (.type "NoneType") = true)
    (h_nf_Bucket_bool : PySem.W.notFirst K c_Bucket (.type "bool") = true)
    (h_nf_Bucket_int : PySem.W.notFirst K c_Bucket (.type "int") = true)
    (h_nf_Bucket_str : PySem.W.notFirst K c_Bucket (.type "str") = true)
    (h_nf_Bucket_list : PySem.W.notFirst K c_Bucket (.type "list") = true)
    (h_nf_Bucket_tuple : PySem.W.notFirst K c_Bucket (.type "tuple") = true)
    (h_nf_Bucket_dict : PySem.W.notFirst K c_Bucket (.type "dict") = true)
    (h_no_max : PySem.W.nsIn K mainGlobals "max" = some none)
    (h_a_law_pair_right : PySem.W.nsIn K mainGlobals "_law_pair_right" = some (some (.ref f_law_pair_right)))
    (h_l_law_pair_right : K.lookup f_law_pair_right = some ⟨oc_law_pair_right, od_law_pair_right, .func (PySem.W.fnOf "_law_pair_right" "_law_pair_right" (defArgs s_law_pair_right) (defBody s_law_pair_right) (defScope s_law_pair_right) .none kV_law_pair_right dc_law_pair_right pm_law_pair_right an_law_pair_right cd_law_pair_right ct_law_pair_right), sl_law_pair_right⟩)
    (h_c_law_pair_right : PySem.W.codeIn K cd_law_pair_right "_law_pair_right" = true)
    (h_k_law_pair_right : PySem.W.keepIn K (.ref f_law_pair_right) = true)
    (h_a_Bucket___init__ : PySem.W.findIn K (.ref c_Bucket) "__init__" = some (some (.ref f_Bucket___init__)))
    (h_i_Bucket___init__ : PySem.W.isFn K (.ref f_Bucket___init__) = true)
    (h_l_Bucket___init__ : K.lookup f_Bucket___init__ = some ⟨oc_Bucket___init__, od_Bucket___init__, .func (PySem.W.fnOf "__init__" "Bucket.__init__" (defArgs s_Bucket___init__) (defBody s_Bucket___init__) (defScope s_Bucket___init__) .none kV_Bucket___init__ dc_Bucket___init__ pm_Bucket___init__ an_Bucket___init__ cd_Bucket___init__ ct_Bucket___init__), sl_Bucket___init__⟩)
    (h_c_Bucket___init__ : PySem.W.codeIn K cd_Bucket___init__ "Bucket.__init__" = true)
    (h_k_Bucket___init__ : PySem.W.keepIn K (.ref f_Bucket___init__) = true)
    (h_a_is_between : PySem.W.nsIn K mainGlobals "is_between" = some (some (.ref f_is_between)))
    (h_l_is_between : K.lookup f_is_between = some ⟨oc_is_between, od_is_between, .func (PySem.W.fnOf "is_between" "is_between" (defArgs s_is_between) (defBody s_is_between) (defScope s_is_between) .none kV_is_between dc_is_between pm_is_between an_is_between cd_is_between ct_is_between), sl_is_between⟩)
    (h_c_is_between : PySem.W.codeIn K cd_is_between "is_between" = true)
    (h_k_is_between : PySem.W.keepIn K (.ref f_is_between) = true)
    (h_a_is_int : PySem.W.nsIn K mainGlobals "is_int" = some (some (.ref f_is_int)))
    (h_l_is_int : K.lookup f_is_int = some ⟨oc_is_int, od_is_int, .func (PySem.W.fnOf "is_int" "is_int" (defArgs s_is_int) (defBody s_is_int) (defScope s_is_int) .none kV_is_int dc_is_int pm_is_int an_is_int cd_is_int ct_is_int), sl_is_int⟩)
    (h_c_is_int : PySem.W.codeIn K cd_is_int "is_int" = true)
    (h_k_is_int : PySem.W.keepIn K (.ref f_is_int) = true)
    (h_no_bool : PySem.W.nsIn K mainGlobals "bool" = some none)
    (h_gv_MOST_BITS : PySem.W.nsIn K mainGlobals "MOST_BITS" = some (some (.int 1000000 gt_MOST_BITS)))
    (h_g_BadBucket : PySem.W.nsIn K mainGlobals "BadBucket" = some (some (.ref c_BadBucket)))
    (h_oc_BadBucket_init : K.lookup c_BadBucket = some (excClassObj nm_BadBucket_init q_BadBucket_init c_BadBucket N_BadBucket_init bs_BadBucket_init bm_BadBucket_init true sn_BadBucket_init sub_BadBucket_init ab_BadBucket_init col_BadBucket_init dd_BadBucket_init k0_BadBucket_init k1_BadBucket_init k2_BadBucket_init k3_BadBucket_init k5_BadBucket_init "ValueError.__new__"))
    (h_rv_BadBucket_init : PySem.HandSPX.refsVE bm_BadBucket_init = true)
    (h_sa_BadBucket : PySem.W.findIn K (.ref c_BadBucket) "__setattr__" = some (some (.builtin "object.__setattr__")))
    (h_bx_BadBucket : PySem.W.subIn K (.ref c_BadBucket) (.type "BaseException") = some true)
    (h_tc_BadBucket : PySem.W.typeIn K (.ref c_BadBucket) = some (.type "type"))
    (h_kc_BadBucket : PySem.W.keepIn K (.ref c_BadBucket) = true)
    (h_a_BadBucket_init : PySem.W.findIn K (.ref c_BadBucket) "__init__" = some (some (.ref f_BadBucket_init)))
    (h_ty_BadBucket_init : PySem.W.typeIn K (.ref f_BadBucket_init) = some (.type "function"))
    (h_nx_BadBucket_part : PySem.W.findIn K (.ref c_BadBucket) "part" = some none)
    (h_l_BadBucket_init : K.lookup f_BadBucket_init = some ⟨oc_BadBucket_init, od_BadBucket_init, .func (PySem.W.fnX "__init__" "BadBucket.__init__" (defArgs s_BadBucket___init__) (defBody s_BadBucket___init__) (defScope s_BadBucket___init__) [(("__class__" : Str), cc_BadBucket_init)] .none kV_BadBucket_init dc_BadBucket_init pm_BadBucket_init an_BadBucket_init (.ref cf_BadBucket_init) ct_BadBucket_init), sl_BadBucket_init⟩)
    (h_c_BadBucket_init : PySem.W.codeIn K (.ref cf_BadBucket_init) "BadBucket.__init__" = true)
    (h_f1_BadBucket_init : K.lookup cf_BadBucket_init = some ⟨fc_BadBucket_init, fd_BadBucket_init, .fields fv_BadBucket_init, fs_BadBucket_init⟩)
    (h_f2_BadBucket_init : fv_BadBucket_init[2]? = some (.str ff_BadBucket_init ft_BadBucket_init))
    (h_f3_BadBucket_init : ((l.prog.main.file : Str) == ff_BadBucket_init) = true)
    (h_ce_BadBucket_init : K.lookup cc_BadBucket_init = some ⟨gc_BadBucket_init, gd_BadBucket_init, .cell (some (.ref c_BadBucket)), gs_BadBucket_init⟩)
    (h_top_super : (l.prog.main.scope.names.lookup ("super" : Str)).isSome = false)
    (h_no_super : PySem.W.nsIn K mainGlobals "super" = some none)
    (h_st_any : PySem.W.nsIn K cStatics "thirdparty.any" = some none)
    (h_su_BadBucket_init : PySem.W.ks_superIn K c_BadBucket c_BadBucket "__init__" = some (some (.builtin veI)))
    (h_sb_BadBucket_init : PySem.W.subIn K (.ref c_BadBucket) (.type "ValueError") = some true)
    (h_me_BadBucket_init : PySem.W.mroIn K c_BadBucket (.ref c_BadBucket) = some true)
    (h_xg_BadBucket : PySem.W.findIn K (.ref c_BadBucket) "__getattribute__" = some (some (.builtin "BaseException.__getattribute__")))
    (h_xa_BadBucket : PySem.W.findIn K (.ref c_BadBucket) "__getattr__" = some none)
    (h_xd_BadBucket : PySem.W.hasDictIn K c_BadBucket = true)
    (h_cc_BadBucket : PySem.W.findIn K (.ref c_BadBucket) "__class__" = some (some (.builtin "object.__class__")))
    (h_ob_BadBucket : PySem.W.mroIn K c_BadBucket (.type "object") = some true)
    (h_gv_MOST_RATE : PySem.W.nsIn K mainGlobals "MOST_RATE" = some (some (.int 1000 gt_MOST_RATE)))
    (h_na_Bucket_burst : PySem.W.findIn K (.ref c_Bucket) "burst" = some none)
    (h_na_Bucket_rate : PySem.W.findIn K (.ref c_Bucket) "rate" = some none)
    (h_na_Bucket_every : PySem.W.findIn K (.ref c_Bucket) "every" = some none)
    (h_mk_Bucket : PySem.W.makesIn K c_Bucket = true)
    (h_kc_Bucket : PySem.W.keepIn K (.ref c_Bucket) = true)
    (h_a_law_is_below : PySem.W.nsIn K mainGlobals "_law_is_below" = some (some (.ref f_law_is_below)))
    (h_l_law_is_below : K.lookup f_law_is_below = some ⟨oc_law_is_below, od_law_is_below, .func (PySem.W.fnOf "_law_is_below" "_law_is_below" (defArgs s_law_is_below) (defBody s_law_is_below) (defScope s_law_is_below) .none kV_law_is_below dc_law_is_below pm_law_is_below an_law_is_below cd_law_is_below ct_law_is_below), sl_law_is_below⟩)
    (h_c_law_is_below : PySem.W.codeIn K cd_law_is_below "_law_is_below" = true)
    (h_k_law_is_below : PySem.W.keepIn K (.ref f_law_is_below) = true)
    (h_a_Bucket___gt__ : PySem.W.findIn K (.ref c_Bucket) "__gt__" = some (some (.ref f_Bucket___gt__)))
    (h_i_Bucket___gt__ : PySem.W.isFn K (.ref f_Bucket___gt__) = true)
    (h_l_Bucket___gt__ : K.lookup f_Bucket___gt__ = some ⟨oc_Bucket___gt__, od_Bucket___gt__, .func (PySem.W.fnOf "__gt__" "Bucket.__gt__" (defArgs s_Bucket___gt__) (defBody s_Bucket___gt__) (defScope s_Bucket___gt__) .none kV_Bucket___gt__ dc_Bucket___gt__ pm_Bucket___gt__ an_Bucket___gt__ cd_Bucket___gt__ ct_Bucket___gt__), sl_Bucket___gt__⟩)
    (h_c_Bucket___gt__ : PySem.W.codeIn K cd_Bucket___gt__ "Bucket.__gt__" = true)
    (h_k_Bucket___gt__ : PySem.W.keepIn K (.ref f_Bucket___gt__) = true)
    (h_a_need_like : PySem.W.nsIn K mainGlobals "need_like" = some (some (.ref f_need_like)))
    (h_l_need_like : K.lookup f_need_like = some ⟨oc_need_like, od_need_like, .func (PySem.W.fnOf "need_like" "need_like" (defArgs s_need_like) (defBody s_need_like) (defScope s_need_like) .none kV_need_like dc_need_like pm_need_like an_need_like cd_need_like ct_need_like), sl_need_like⟩)
    (h_c_need_like : PySem.W.codeIn K cd_need_like "need_like" = true)
    (h_k_need_like : PySem.W.keepIn K (.ref f_need_like) = true)
    (h_a_Bucket___lt__ : PySem.W.findIn K (.ref c_Bucket) "__lt__" = some (some (.ref f_Bucket___lt__)))
    (h_i_Bucket___lt__ : PySem.W.isFn K (.ref f_Bucket___lt__) = true)
    (h_l_Bucket___lt__ : K.lookup f_Bucket___lt__ = some ⟨oc_Bucket___lt__, od_Bucket___lt__, .func (PySem.W.fnOf "__lt__" "Bucket.__lt__" (defArgs s_Bucket___lt__) (defBody s_Bucket___lt__) (defScope s_Bucket___lt__) .none kV_Bucket___lt__ dc_Bucket___lt__ pm_Bucket___lt__ an_Bucket___lt__ cd_Bucket___lt__ ct_Bucket___lt__), sl_Bucket___lt__⟩)
    (h_c_Bucket___lt__ : PySem.W.codeIn K cd_Bucket___lt__ "Bucket.__lt__" = true)
    (h_k_Bucket___lt__ : PySem.W.keepIn K (.ref f_Bucket___lt__) = true)
    (h_a_Bucket___le__ : PySem.W.findIn K (.ref c_Bucket) "__le__" = some (some (.ref f_Bucket___le__)))
    (h_i_Bucket___le__ : PySem.W.isFn K (.ref f_Bucket___le__) = true)
    (h_l_Bucket___le__ : K.lookup f_Bucket___le__ = some ⟨oc_Bucket___le__, od_Bucket___le__, .func (PySem.W.fnOf "__le__" "Bucket.__le__" (defArgs s_Bucket___le__) (defBody s_Bucket___le__) (defScope s_Bucket___le__) .none kV_Bucket___le__ dc_Bucket___le__ pm_Bucket___le__ an_Bucket___le__ cd_Bucket___le__ ct_Bucket___le__), sl_Bucket___le__⟩)
    (h_c_Bucket___le__ : PySem.W.codeIn K cd_Bucket___le__ "Bucket.__le__" = true)
    (h_k_Bucket___le__ : PySem.W.keepIn K (.ref f_Bucket___le__) = true)
    (h_mo_gcd : PySem.W.nsIn K mainGlobals "gcd" = some (some (.builtin "math.gcd")))
    (h_a_bits_in : PySem.W.nsIn K mainGlobals "bits_in" = some (some (.ref f_bits_in)))
    (h_l_bits_in : K.lookup f_bits_in = some ⟨oc_bits_in, od_bits_in, .func (PySem.W.fnOf "bits_in" "bits_in" (defArgs s_bits_in) (defBody s_bits_in) (defScope s_bits_in) .none kV_bits_in dc_bits_in pm_bits_in an_bits_in cd_bits_in ct_bits_in), sl_bits_in⟩)
    (h_c_bits_in : PySem.W.codeIn K cd_bits_in "bits_in" = true)
    (h_k_bits_in : PySem.W.keepIn K (.ref f_bits_in) = true)
    (h_no_all : PySem.W.nsIn K mainGlobals "all" = some none)
    (h_a_Bucket___ge__ : PySem.W.findIn K (.ref c_Bucket) "__ge__" = some (some (.ref f_Bucket___ge__)))
    (h_i_Bucket___ge__ : PySem.W.isFn K (.ref f_Bucket___ge__) = true)
    (h_l_Bucket___ge__ : K.lookup f_Bucket___ge__ = some ⟨oc_Bucket___ge__, od_Bucket___ge__, .func (PySem.W.fnOf "__ge__" "Bucket.__ge__" (defArgs s_Bucket___ge__) (defBody s_Bucket___ge__) (defScope s_Bucket___ge__) .none kV_Bucket___ge__ dc_Bucket___ge__ pm_Bucket___ge__ an_Bucket___ge__ cd_Bucket___ge__ ct_Bucket___ge__), sl_Bucket___ge__⟩)
    (h_c_Bucket___ge__ : PySem.W.codeIn K cd_Bucket___ge__ "Bucket.__ge__" = true)
    (h_k_Bucket___ge__ : PySem.W.keepIn K (.ref f_Bucket___ge__) = true)
    (h_no_repr : PySem.W.nsIn K mainGlobals "repr" = some none)
    (h_a_Bucket_earliest : PySem.W.findIn K (.ref c_Bucket) "earliest" = some (some (.ref f_Bucket_earliest)))
    (h_i_Bucket_earliest : PySem.W.isFn K (.ref f_Bucket_earliest) = true)
    (h_l_Bucket_earliest : K.lookup f_Bucket_earliest = some ⟨oc_Bucket_earliest, od_Bucket_earliest, .func (PySem.W.fnOf "earliest" "Bucket.earliest" (defArgs s_Bucket_earliest) (defBody s_Bucket_earliest) (defScope s_Bucket_earliest) .none kV_Bucket_earliest dc_Bucket_earliest pm_Bucket_earliest an_Bucket_earliest cd_Bucket_earliest ct_Bucket_earliest), sl_Bucket_earliest⟩)
    (h_c_Bucket_earliest : PySem.W.codeIn K cd_Bucket_earliest "Bucket.earliest" = true)
    (h_k_Bucket_earliest : PySem.W.keepIn K (.ref f_Bucket_earliest) = true)
    (h_a_need_number : PySem.W.nsIn K mainGlobals "need_number" = some (some (.ref f_need_number)))
    (h_l_need_number : K.lookup f_need_number = some ⟨oc_need_number, od_need_number, .func (PySem.W.fnOf "need_number" "need_number" (defArgs s_need_number) (defBody s_need_number) (defScope s_need_number) .none kV_need_number dc_need_number pm_need_number an_need_number cd_need_number ct_need_number), sl_need_number⟩)
    (h_c_need_number : PySem.W.codeIn K cd_need_number "need_number" = true)
    (h_k_need_number : PySem.W.keepIn K (.ref f_need_number) = true)
    (h_g_BadNumber : PySem.W.nsIn K mainGlobals "BadNumber" = some (some (.ref c_BadNumber)))
    (h_oc_BadNumber_init : K.lookup c_BadNumber = some (excClassObj nm_BadNumber_init q_BadNumber_init c_BadNumber N_BadNumber_init bs_BadNumber_init bm_BadNumber_init true sn_BadNumber_init sub_BadNumber_init ab_BadNumber_init col_BadNumber_init dd_BadNumber_init k0_BadNumber_init k1_BadNumber_init k2_BadNumber_init k3_BadNumber_init k5_BadNumber_init "ValueError.__new__"))
    (h_rv_BadNumber_init : PySem.HandSPX.refsVE bm_BadNumber_init = true)
    (h_sa_BadNumber : PySem.W.findIn K (.ref c_BadNumber) "__setattr__" = some (some (.builtin "object.__setattr__")))
    (h_bx_BadNumber : PySem.W.subIn K (.ref c_BadNumber) (.type "BaseException") = some true)
    (h_tc_BadNumber : PySem.W.typeIn K (.ref c_BadNumber) = some (.type "type"))
    (h_kc_BadNumber : PySem.W.keepIn K (.ref c_BadNumber) = true)
    (h_a_BadNumber_init : PySem.W.findIn K (.ref c_BadNumber) "__init__" = some (some (.ref f_BadNumber_init)))
    (h_ty_BadNumber_init : PySem.W.typeIn K (.ref f_BadNumber_init) = some (.type "function"))
    (h_nx_BadNumber_value : PySem.W.findIn K (.ref c_BadNumber) "value" = some none)
    (h_l_BadNumber_init : K.lookup f_BadNumber_init = some ⟨oc_BadNumber_init, od_BadNumber_init, .func (PySem.W.fnX "__init__" "BadNumber.__init__" (defArgs s_BadNumber___init__) (defBody s_BadNumber___init__) (defScope s_BadNumber___init__) [(("__class__" : Str), cc_BadNumber_init)] .none kV_BadNumber_init dc_BadNumber_init pm_BadNumber_init an_BadNumber_init (.ref cf_BadNumber_init) ct_BadNumber_init), sl_BadNumber_init⟩)
    (h_c_BadNumber_init : PySem.W.codeIn K (.ref cf_BadNumber_init) "BadNumber.__init__" = true)
    (h_f1_BadNumber_init : K.lookup cf_BadNumber_init = some ⟨fc_BadNumber_init, fd_BadNumber_init, .fields fv_BadNumber_init, fs_BadNumber_init⟩)
    (h_f2_BadNumber_init : fv_BadNumber_init[2]? = some (.str ff_BadNumber_init ft_BadNumber_init))
    (h_f3_BadNumber_init : ((l.prog.main.file : Str) == ff_BadNumber_init) = true)
    (h_ce_BadNumber_init : K.lookup cc_BadNumber_init = some ⟨gc_BadNumber_init, gd_BadNumber_init, .cell (some (.ref c_BadNumber)), gs_BadNumber_init⟩)
    (h_su_BadNumber_init : PySem.W.ks_superIn K c_BadNumber c_BadNumber "__init__" = some (some (.builtin veI)))
    (h_sb_BadNumber_init : PySem.W.subIn K (.ref c_BadNumber) (.type "ValueError") = some true)
    (h_me_BadNumber_init : PySem.W.mroIn K c_BadNumber (.ref c_BadNumber) = some true)
    (h_xg_BadNumber : PySem.W.findIn K (.ref c_BadNumber) "__getattribute__" = some (some (.builtin "BaseException.__getattribute__")))
    (h_xa_BadNumber : PySem.W.findIn K (.ref c_BadNumber) "__getattr__" = some none)
    (h_xd_BadNumber : PySem.W.hasDictIn K c_BadNumber = true)
    (h_cc_BadNumber : PySem.W.findIn K (.ref c_BadNumber) "__class__" = some (some (.builtin "object.__class__")))
    (h_ob_BadNumber : PySem.W.mroIn K c_BadNumber (.type "object") = some true)
    (h_a_law_heard : PySem.W.nsIn K mainGlobals "_law_heard" = some (some (.ref f_law_heard)))
    (h_l_law_heard : K.lookup f_law_heard = some ⟨oc_law_heard, od_law_heard, .func (PySem.W.fnOf "_law_heard" "_law_heard" (defArgs s_law_heard) (defBody s_law_heard) (defScope s_law_heard) .none kV_law_heard dc_law_heard pm_law_heard an_law_heard cd_law_heard ct_law_heard), sl_law_heard⟩)
    (h_c_law_heard : PySem.W.codeIn K cd_law_heard "_law_heard" = true)
    (h_k_law_heard : PySem.W.keepIn K (.ref f_law_heard) = true)
    (h_g_CreditError : PySem.W.nsIn K mainGlobals "CreditError" = some (some (.ref c_CreditError)))
    (h_ld_law : (PySem.W.fnOf "law" "law" (defArgs s_law) (defBody s_law) (defScope s_law) .none kV_law dc_law pm_law an_law cd_law ct_law).code = .ref cc_law)
    (h_lc_law : K.lookup cc_law = some ⟨ko_law, kd_law, .fields kv_law, ks_law⟩)
    (h_lp_law : kv_law[11]? = some (.ref pt_law))
    (h_lt_law : PySem.W.tabIn K "law" = some (cc_law, pt_law))
    (h_ln_law : K.lookup pt_law = none)
    (h_kt_NoneType_BadBucket : PySem.W.kitOne K (.type "NoneType") (.ref c_BadBucket) = some false)
    (h_kt_bool_BadBucket : PySem.W.kitOne K (.type "bool") (.ref c_BadBucket) = some false)
    (h_kt_int_BadBucket : PySem.W.kitOne K (.type "int") (.ref c_BadBucket) = some false)
    (h_kt_str_BadBucket : PySem.W.kitOne K (.type "str") (.ref c_BadBucket) = some false)
    (h_kt_list_BadBucket : PySem.W.kitOne K (.type "list") (.ref c_BadBucket) = some false)
    (h_kt_tuple_BadBucket : PySem.W.kitOne K (.type "tuple") (.ref c_BadBucket) = some false)
    (h_kt_dict_BadBucket : PySem.W.kitOne K (.type "dict") (.ref c_BadBucket) = some false)
    (h_kt_c_Bucket_BadBucket : PySem.W.kitOne K (.ref c_Bucket) (.ref c_BadBucket) = some false)
    (h_kt_c_BadBucket_BadBucket : PySem.W.kitOne K (.ref c_BadBucket) (.ref c_BadBucket) = some true)
    (h_kt_c_BadNumber_BadBucket : PySem.W.kitOne K (.ref c_BadNumber) (.ref c_BadBucket) = some false)
    (h_kt_NoneType_Bucket : PySem.W.kitOne K (.type "NoneType") (.ref c_Bucket) = some false)
    (h_kt_bool_Bucket : PySem.W.kitOne K (.type "bool") (.ref c_Bucket) = some false)
    (h_kt_int_Bucket : PySem.W.kitOne K (.type "int") (.ref c_Bucket) = some false)
    (h_kt_str_Bucket : PySem.W.kitOne K (.type "str") (.ref c_Bucket) = some false)
    (h_kt_list_Bucket : PySem.W.kitOne K (.type "list") (.ref c_Bucket) = some false)
    (h_kt_tuple_Bucket : PySem.W.kitOne K (.type "tuple") (.ref c_Bucket) = some false)
    (h_kt_dict_Bucket : PySem.W.kitOne K (.type "dict") (.ref c_Bucket) = some false)
    (h_kt_c_Bucket_Bucket : PySem.W.kitOne K (.ref c_Bucket) (.ref c_Bucket) = some true)
    (h_kt_c_BadBucket_Bucket : PySem.W.kitOne K (.ref c_BadBucket) (.ref c_Bucket) = some false)
    (h_kt_c_BadNumber_Bucket : PySem.W.kitOne K (.ref c_BadNumber) (.ref c_Bucket) = some false)
    (h_kt_NoneType_bool : PySem.W.kitOne K (.type "NoneType") (.type "bool") = some false)
    (h_kt_bool_bool : PySem.W.kitOne K (.type "bool") (.type "bool") = some true)
    (h_kt_int_bool : PySem.W.kitOne K (.type "int") (.type "bool") = some false)
    (h_kt_str_bool : PySem.W.kitOne K (.type "str") (.type "bool") = some false)
    (h_kt_list_bool : PySem.W.kitOne K (.type "list") (.type "bool") = some false)
    (h_kt_tuple_bool : PySem.W.kitOne K (.type "tuple") (.type "bool") = some false)
    (h_kt_dict_bool : PySem.W.kitOne K (.type "dict") (.type "bool") = some false)
    (h_kt_c_Bucket_bool : PySem.W.kitOne K (.ref c_Bucket) (.type "bool") = some false)
    (h_kt_c_BadBucket_bool : PySem.W.kitOne K (.ref c_BadBucket) (.type "bool") = some false)
    (h_kt_c_BadNumber_bool : PySem.W.kitOne K (.ref c_BadNumber) (.type "bool") = some false)
    (h_kt_NoneType_int : PySem.W.kitOne K (.type "NoneType") (.type "int") = some false)
    (h_kt_bool_int : PySem.W.kitOne K (.type "bool") (.type "int") = some true)
    (h_kt_int_int : PySem.W.kitOne K (.type "int") (.type "int") = some true)
    (h_kt_str_int : PySem.W.kitOne K (.type "str") (.type "int") = some false)
    (h_kt_list_int : PySem.W.kitOne K (.type "list") (.type "int") = some false)
    (h_kt_tuple_int : PySem.W.kitOne K (.type "tuple") (.type "int") = some false)
    (h_kt_dict_int : PySem.W.kitOne K (.type "dict") (.type "int") = some false)
    (h_kt_c_Bucket_int : PySem.W.kitOne K (.ref c_Bucket) (.type "int") = some false)
    (h_kt_c_BadBucket_int : PySem.W.kitOne K (.ref c_BadBucket) (.type "int") = some false)
    (h_kt_c_BadNumber_int : PySem.W.kitOne K (.ref c_BadNumber) (.type "int") = some false)
    (h_em_BadBucket_CreditError : PySem.W.exmOne K (.ref c_BadBucket) (.ref c_CreditError) = some true)
    (h_em_BadNumber_CreditError : PySem.W.exmOne K (.ref c_BadNumber) (.ref c_CreditError) = some true)
    (h_nf_Bucket_c_Bucket : PySem.W.notFirst K c_Bucket (.ref c_Bucket) = true)
    (hnd : (([(cc_law, pt_law, ("law" : Str) ++ ".<locals>." ++ "<lambda>")] : List Tb).map fun t => t.2.1).Nodup) {d_law : DefRec} (h_lr_law : (recsOf q).find? (fun e => e.name == ("law" : Str)) = some d_law) :
    ∃ (cs : List Tb) (fd : FuncData), TbOk K h cs ∧ (∀ (s : Shared) (u : Value), BindsTo s fd ⟨[u], []⟩ [("_law_script", u)]) ∧ ∀ base : Heap, K.In base → base.Ns mainGlobals mg → (∀ t ∈ cs, LamX.TabB base mg t.1 t.2.1) → FnG (lawWd l.prog w K mg base 0 [] (tbs cs)) 17 fa fd ["_law_script"] (spLaw K (tbs cs)) := by
  have G := TP.g
  have e : f_law = fa := by
    have e := (PySem.W.mg_of X G h_a_law).symm.trans hfa
    cases e
    rfl
  subst e
  have key : ∀ base : Heap, K.In base → base.Ns mainGlobals mg → (∀ t ∈ ([(cc_law, pt_law, ("law" : Str) ++ ".<locals>." ++ "<lambda>")] : List Tb), LamX.TabB base mg t.1 t.2.1) → ∃ fd, FunD K "law" "law" (defArgs s_law) (defBody s_law) (defScope s_law) [] [] f_law fd ∧ FnG (lawWd l.prog w K mg base 0 [] (tbs [(cc_law, pt_law, ("law" : Str) ++ ".<locals>." ++ "<lambda>")])) 17 f_law fd ["_law_script"] (spLaw K (tbs [(cc_law, pt_law, ("law" : Str) ++ ".<locals>." ++ "<lambda>")])) := fun base _ _ HT => law_fn (A := ⟨f_law, f_law_pen, f_law_parts, f_law_draw, f_law_pick, f_law_near, f_Bucket___eq__, c_Bucket, f_law_pair_right, f_Bucket___init__, f_is_between, f_is_int, c_BadBucket, f_BadBucket_init, f_law_is_below, f_Bucket___gt__, f_need_like, f_Bucket___lt__, f_Bucket___le__, f_bits_in, f_Bucket___ge__, f_Bucket_earliest, f_need_number, c_BadNumber, f_BadNumber_init, f_law_heard, c_CreditError, cc_law, pt_law⟩) fun p cs => txt X G h_a_law h_l_law h_c_law h_k_law h_a_law_pen h_l_law_pen h_c_law_pen h_k_law_pen h_no_list h_no_range h_a_law_parts h_l_law_parts h_c_law_parts h_k_law_parts h_a_law_draw h_l_law_draw h_c_law_draw h_k_law_draw h_no_int h_no_len h_no_abs h_a_law_pick h_l_law_pick h_c_law_pick h_k_law_pick h_a_law_near h_l_law_near h_c_law_near h_k_law_near h_g_Bucket h_a_Bucket___eq__ h_i_Bucket___eq__ h_l_Bucket___eq__ h_c_Bucket___eq__ h_k_Bucket___eq__ h_no_isinstance h_pg_Bucket h_hd_Bucket h_po_Bucket h_sa_Bucket h_cg h_ct h_cc_Bucket h_ob_Bucket h_ne_Bucket h_bt_Bucket_NoneType h_bt_Bucket_bool h_bt_Bucket_int h_bt_Bucket_str h_bt_Bucket_list h_bt_Bucket_tuple h_bt_Bucket_dict h_nf_Bucket_NoneType h_nf_Bucket_bool h_nf_Bucket_int h_nf_Bucket_str h_nf_Bucket_list h_nf_Bucket_tuple h_nf_Bucket_dict h_no_max h_a_law_pair_right h_l_law_pair_right h_c_law_pair_right h_k_law_pair_right h_a_Bucket___init__ h_i_Bucket___init__ h_l_Bucket___init__ h_c_Bucket___init__ h_k_Bucket___init__ h_a_is_between h_l_is_between h_c_is_between h_k_is_between h_a_is_int h_l_is_int h_c_is_int h_k_is_int h_no_bool h_gv_MOST_BITS h_g_BadBucket h_oc_BadBucket_init h_rv_BadBucket_init h_sa_BadBucket h_bx_BadBucket h_tc_BadBucket h_kc_BadBucket h_a_BadBucket_init h_ty_BadBucket_init h_nx_BadBucket_part h_l_BadBucket_init h_c_BadBucket_init h_f1_BadBucket_init h_f2_BadBucket_init h_f3_BadBucket_init h_ce_BadBucket_init h_top_super h_no_super h_st_any h_su_BadBucket_init h_sb_BadBucket_init h_me_BadBucket_init h_xg_BadBucket h_xa_BadBucket h_xd_BadBucket h_cc_BadBucket h_ob_BadBucket h_gv_MOST_RATE h_na_Bucket_burst h_na_Bucket_rate h_na_Bucket_every h_mk_Bucket h_kc_Bucket h_a_law_is_below h_l_law_is_below h_c_law_is_below h_k_law_is_below h_a_Bucket___gt__ h_i_Bucket___gt__ h_l_Bucket___gt__ h_c_Bucket___gt__ h_k_Bucket___gt__ h_a_need_like h_l_need_like h_c_need_like h_k_need_like h_a_Bucket___lt__ h_i_Bucket___lt__ h_l_Bucket___lt__ h_c_Bucket___lt__ h_k_Bucket___lt__ h_a_Bucket___le__ h_i_Bucket___le__ h_l_Bucket___le__ h_c_Bucket___le__ h_k_Bucket___le__ h_mo_gcd h_a_bits_in h_l_bits_in h_c_bits_in h_k_bits_in h_no_all h_a_Bucket___ge__ h_i_Bucket___ge__ h_l_Bucket___ge__ h_c_Bucket___ge__ h_k_Bucket___ge__ h_no_repr h_a_Bucket_earliest h_i_Bucket_earliest h_l_Bucket_earliest h_c_Bucket_earliest h_k_Bucket_earliest h_a_need_number h_l_need_number h_c_need_number h_k_need_number h_g_BadNumber h_oc_BadNumber_init h_rv_BadNumber_init h_sa_BadNumber h_bx_BadNumber h_tc_BadNumber h_kc_BadNumber h_a_BadNumber_init h_ty_BadNumber_init h_nx_BadNumber_value h_l_BadNumber_init h_c_BadNumber_init h_f1_BadNumber_init h_f2_BadNumber_init h_f3_BadNumber_init h_ce_BadNumber_init h_su_BadNumber_init h_sb_BadNumber_init h_me_BadNumber_init h_xg_BadNumber h_xa_BadNumber h_xd_BadNumber h_cc_BadNumber h_ob_BadNumber h_a_law_heard h_l_law_heard h_c_law_heard h_k_law_heard h_g_CreditError h_ld_law h_lc_law h_lp_law h_lt_law h_ln_law h_kt_NoneType_BadBucket h_kt_bool_BadBucket h_kt_int_BadBucket h_kt_str_BadBucket h_kt_list_BadBucket h_kt_tuple_BadBucket h_kt_dict_BadBucket h_kt_c_Bucket_BadBucket h_kt_c_BadBucket_BadBucket h_kt_c_BadNumber_BadBucket h_kt_NoneType_Bucket h_kt_bool_Bucket h_kt_int_Bucket h_kt_str_Bucket h_kt_list_Bucket h_kt_tuple_Bucket h_kt_dict_Bucket h_kt_c_Bucket_Bucket h_kt_c_BadBucket_Bucket h_kt_c_BadNumber_Bucket h_kt_NoneType_bool h_kt_bool_bool h_kt_int_bool h_kt_str_bool h_kt_list_bool h_kt_tuple_bool h_kt_dict_bool h_kt_c_Bucket_bool h_kt_c_BadBucket_bool h_kt_c_BadNumber_bool h_kt_NoneType_int h_kt_bool_int h_kt_int_int h_kt_str_int h_kt_list_int h_kt_tuple_int h_kt_dict_int h_kt_c_Bucket_int h_kt_c_BadBucket_int h_kt_c_BadNumber_int h_em_BadBucket_CreditError h_em_BadNumber_CreditError h_nf_Bucket_c_Bucket hnd HT
  refine ⟨[(cc_law, pt_law, ("law" : Str) ++ ".<locals>." ++ "<lambda>")], PySem.W.fnOf "law" "law" (defArgs s_law) (defBody s_law) (defScope s_law) .none kV_law dc_law pm_law an_law cd_law ct_law, (tbOk_cons TP X h_lr_law h_lt_law h_ln_law tbOk_nil), fun s v => .of_eq rfl, fun base hb gb HT => ?_⟩
  obtain ⟨fd, F, R⟩ := key base hb gb HT
  have e := DL.FunD.fd_eq F h_l_law
  subst e
  exact R
end K53
set_option maxRecDepth 100000 in
set_option maxHeartbeats 0 in
theorem PySem.Challenge.cw_creditturns_k53_buckets_compared_holds : PySem.Challenge.rw_creditturns_k53_buckets_compared.Holds := by
  w_on; o_law; k_head; (case hw => w_witness2)
  k_fill
  refine DL.lawWalk (l := PySem.Challenge.rw_creditturns_k53_buckets_compared) (k := 17) (x := "_law_script") rfl rfl ⟨rfl, by decide, by decide⟩ (fun w h Y => by first | exact PySem.W.kIn_of Y | exact PySem.W.km_in_of Y) ?F
  case F =>
    intro w mg mb mean fa h Y KX TP hmg
    refine' K53.done KX TP hmg ?h_a_law ?h_l_law ?h_c_law ?h_k_law ?h_a_law_pen ?h_l_law_pen ?h_c_law_pen ?h_k_law_pen ?h_no_list ?h_no_range ?h_a_law_parts ?h_l_law_parts ?h_c_law_parts ?h_k_law_parts ?h_a_law_draw ?h_l_law_draw ?h_c_law_draw ?h_k_law_draw ?h_no_int ?h_no_len ?h_no_abs ?h_a_law_pick ?h_l_law_pick ?h_c_law_pick ?h_k_law_pick ?h_a_law_near ?h_l_law_near ?h_c_law_near ?h_k_law_near ?h_g_Bucket ?h_a_Bucket___eq__ ?h_i_Bucket___eq__ ?h_l_Bucket___eq__ ?h_c_Bucket___eq__ ?h_k_Bucket___eq__ ?h_no_isinstance ?h_pg_Bucket ?h_hd_Bucket ?h_po_Bucket ?h_sa_Bucket ?h_cg ?h_ct ?h_cc_Bucket ?h_ob_Bucket ?h_ne_Bucket ?h_bt_Bucket_NoneType ?h_bt_Bucket_bool ?h_bt_Bucket_int ?h_bt_Bucket_str ?h_bt_Bucket_list ?h_bt_Bucket_tuple ?h_bt_Bucket_dict ?h_nf_Bucket_NoneType ?h_nf_Bucket_bool ?h_nf_Bucket_int ?h_nf_Bucket_str ?h_nf_Bucket_list ?h_nf_Bucket_tuple ?h_nf_Bucket_dict ?h_no_max ?h_a_law_pair_right ?h_l_law_pair_right ?h_c_law_pair_right ?h_k_law_pair_right ?h_a_Bucket___init__ ?h_i_Bucket___init__ ?h_l_Bucket___init__ ?h_c_Bucket___init__ ?h_k_Bucket___init__ ?h_a_is_between ?h_l_is_between ?h_c_is_between ?h_k_is_between ?h_a_is_int ?h_l_is_int ?h_c_is_int ?h_k_is_int ?h_no_bool ?h_gv_MOST_BITS ?h_g_BadBucket ?h_oc_BadBucket_init ?h_rv_BadBucket_init ?h_sa_BadBucket ?h_bx_BadBucket ?h_tc_BadBucket ?h_kc_BadBucket ?h_a_BadBucket_init ?h_ty_BadBucket_init ?h_nx_BadBucket_part ?h_l_BadBucket_init ?h_c_BadBucket_init ?h_f1_BadBucket_init ?h_f2_BadBucket_init ?h_f3_BadBucket_init ?h_ce_BadBucket_init ?h_top_super ?h_no_super ?h_st_any ?h_su_BadBucket_init ?h_sb_BadBucket_init ?h_me_BadBucket_init ?h_xg_BadBucket ?h_xa_BadBucket ?h_xd_BadBucket ?h_cc_BadBucket ?h_ob_BadBucket ?h_gv_MOST_RATE ?h_na_Bucket_burst ?h_na_Bucket_rate ?h_na_Bucket_every ?h_mk_Bucket ?h_kc_Bucket ?h_a_law_is_below ?h_l_law_is_below ?h_c_law_is_below ?h_k_law_is_below ?h_a_Bucket___gt__ ?h_i_Bucket___gt__ ?h_l_Bucket___gt__ ?h_c_Bucket___gt__ ?h_k_Bucket___gt__ ?h_a_need_like ?h_l_need_like ?h_c_need_like ?h_k_need_like ?h_a_Bucket___lt__ ?h_i_Bucket___lt__ ?h_l_Bucket___lt__ ?h_c_Bucket___lt__ ?h_k_Bucket___lt__ ?h_a_Bucket___le__ ?h_i_Bucket___le__ ?h_l_Bucket___le__ ?h_c_Bucket___le__ ?h_k_Bucket___le__ ?h_mo_gcd ?h_a_bits_in ?h_l_bits_in ?h_c_bits_in ?h_k_bits_in ?h_no_all ?h_a_Bucket___ge__ ?h_i_Bucket___ge__ ?h_l_Bucket___ge__ ?h_c_Bucket___ge__ ?h_k_Bucket___ge__ ?h_no_repr ?h_a_Bucket_earliest ?h_i_Bucket_earliest ?h_l_Bucket_earliest ?h_c_Bucket_earliest ?h_k_Bucket_earliest ?h_a_need_number ?h_l_need_number ?h_c_need_number ?h_k_need_number ?h_g_BadNumber ?h_oc_BadNumber_init ?h_rv_BadNumber_init ?h_sa_BadNumber ?h_bx_BadNumber ?h_tc_BadNumber ?h_kc_BadNumber ?h_a_BadNumber_init ?h_ty_BadNumber_init ?h_nx_BadNumber_value ?h_l_BadNumber_init ?h_c_BadNumber_init ?h_f1_BadNumber_init ?h_f2_BadNumber_init ?h_f3_BadNumber_init ?h_ce_BadNumber_init ?h_su_BadNumber_init ?h_sb_BadNumber_init ?h_me_BadNumber_init ?h_xg_BadNumber ?h_xa_BadNumber ?h_xd_BadNumber ?h_cc_BadNumber ?h_ob_BadNumber ?h_a_law_heard ?h_l_law_heard ?h_c_law_heard ?h_k_law_heard ?h_g_CreditError ?h_ld_law ?h_lc_law ?h_lp_law ?h_lt_law ?h_ln_law ?h_kt_NoneType_BadBucket ?h_kt_bool_BadBucket ?h_kt_int_BadBucket ?h_kt_str_BadBucket ?h_kt_list_BadBucket ?h_kt_tuple_BadBucket ?h_kt_dict_BadBucket ?h_kt_c_Bucket_BadBucket ?h_kt_c_BadBucket_BadBucket ?h_kt_c_BadNumber_BadBucket ?h_kt_NoneType_Bucket ?h_kt_bool_Bucket ?h_kt_int_Bucket ?h_kt_str_Bucket ?h_kt_list_Bucket ?h_kt_tuple_Bucket ?h_kt_dict_Bucket ?h_kt_c_Bucket_Bucket ?h_kt_c_BadBucket_Bucket ?h_kt_c_BadNumber_Bucket ?h_kt_NoneType_bool ?h_kt_bool_bool ?h_kt_int_bool ?h_kt_str_bool ?h_kt_list_bool ?h_kt_tuple_bool ?h_kt_dict_bool ?h_kt_c_Bucket_bool ?h_kt_c_BadBucket_bool ?h_kt_c_BadNumber_bool ?h_kt_NoneType_int ?h_kt_bool_int ?h_kt_int_int ?h_kt_str_int ?h_kt_list_int ?h_kt_tuple_int ?h_kt_dict_int ?h_kt_c_Bucket_int ?h_kt_c_BadBucket_int ?h_kt_c_BadNumber_int ?h_em_BadBucket_CreditError ?h_em_BadNumber_CreditError ?h_nf_Bucket_c_Bucket ?hnd ?h_lr_law
    (case h_a_law => k_is)
    (case h_l_law => k_is)
    (case h_c_law => k_is)
    (case h_k_law => k_is)
    (case h_a_law_pen => k_is)
    (case h_l_law_pen => k_is)
    (case h_c_law_pen => k_is)
    (case h_k_law_pen => k_is)
    (case h_no_list => k_is)
    (case h_no_range => k_is)
    (case h_a_law_parts => k_is)
    (case h_l_law_parts => k_is)
    (case h_c_law_parts => k_is)
    (case h_k_law_parts => k_is)
    (case h_a_law_draw => k_is)
    (case h_l_law_draw => k_is)
    (case h_c_law_draw => k_is)
    (case h_k_law_draw => k_is)
    (case h_no_int => k_is)
    (case h_no_len => k_is)
    (case h_no_abs => k_is)
    (case h_a_law_pick => k_is)
    (case h_l_law_pick => k_is)
    (case h_c_law_pick => k_is)
    (case h_k_law_pick => k_is)
    (case h_a_law_near => k_is)
    (case h_l_law_near => k_is)
    (case h_c_law_near => k_is)
    (case h_k_law_near => k_is)
    (case h_g_Bucket => k_is)
    (case h_a_Bucket___eq__ => k_is)
    (case h_i_Bucket___eq__ => k_is)
    (case h_l_Bucket___eq__ => k_is)
    (case h_c_Bucket___eq__ => k_is)
    (case h_k_Bucket___eq__ => k_is)
    (case h_no_isinstance => k_is)
    (case h_pg_Bucket => k_is)
    (case h_hd_Bucket => k_is)
    (case h_po_Bucket => k_is)
    (case h_sa_Bucket => k_is)
    (case h_cg => k_is)
    (case h_ct => k_is)
    (case h_cc_Bucket => k_is)
    (case h_ob_Bucket => k_is)
    (case h_ne_Bucket => k_is)
    (case h_bt_Bucket_NoneType => k_is)
    (case h_bt_Bucket_bool => k_is)
    (case h_bt_Bucket_int => k_is)
    (case h_bt_Bucket_str => k_is)
    (case h_bt_Bucket_list => k_is)
    (case h_bt_Bucket_tuple => k_is)
    (case h_bt_Bucket_dict => k_is)
    (case h_nf_Bucket_NoneType => k_is)
    (case h_nf_Bucket_bool => k_is)
    (case h_nf_Bucket_int => k_is)
    (case h_nf_Bucket_str => k_is)
    (case h_nf_Bucket_list => k_is)
    (case h_nf_Bucket_tuple => k_is)
    (case h_nf_Bucket_dict => k_is)
    (case h_no_max => k_is)
    (case h_a_law_pair_right => k_is)
    (case h_l_law_pair_right => k_is)
    (case h_c_law_pair_right => k_is)
    (case h_k_law_pair_right => k_is)
    (case h_a_Bucket___init__ => k_is)
    (case h_i_Bucket___init__ => k_is)
    (case h_l_Bucket___init__ => k_is)
    (case h_c_Bucket___init__ => k_is)
    (case h_k_Bucket___init__ => k_is)
    (case h_a_is_between => k_is)
    (case h_l_is_between => k_is)
    (case h_c_is_between => k_is)
    (case h_k_is_between => k_is)
    (case h_a_is_int => k_is)
    (case h_l_is_int => k_is)
    (case h_c_is_int => k_is)
    (case h_k_is_int => k_is)
    (case h_no_bool => k_is)
    (case h_gv_MOST_BITS => k_is)
    (case h_g_BadBucket => k_is)
    (case h_oc_BadBucket_init => k_is)
    (case h_rv_BadBucket_init => first | rfl | decide)
    (case h_sa_BadBucket => k_is)
    (case h_bx_BadBucket => k_is)
    (case h_tc_BadBucket => k_is)
    (case h_kc_BadBucket => k_is)
    (case h_a_BadBucket_init => k_is)
    (case h_ty_BadBucket_init => k_is)
    (case h_nx_BadBucket_part => k_is)
    (case h_l_BadBucket_init => k_is)
    (case h_c_BadBucket_init => k_is)
    (case h_f1_BadBucket_init => k_is)
    (case h_f2_BadBucket_init => rfl)
    (case h_f3_BadBucket_init => decide +kernel)
    (case h_ce_BadBucket_init => k_is)
    (case h_top_super => decide +kernel)
    (case h_no_super => k_is)
    (case h_st_any => k_is)
    (case h_su_BadBucket_init => first | ks_is | kernel_rfl)
    (case h_sb_BadBucket_init => k_is)
    (case h_me_BadBucket_init => k_is)
    (case h_xg_BadBucket => k_is)
    (case h_xa_BadBucket => k_is)
    (case h_xd_BadBucket => k_is)
    (case h_cc_BadBucket => k_is)
    (case h_ob_BadBucket => k_is)
    (case h_gv_MOST_RATE => k_is)
    (case h_na_Bucket_burst => k_is)
    (case h_na_Bucket_rate => k_is)
    (case h_na_Bucket_every => k_is)
    (case h_mk_Bucket => k_is)
    (case h_kc_Bucket => k_is)
    (case h_a_law_is_below => k_is)
    (case h_l_law_is_below => k_is)
    (case h_c_law_is_below => k_is)
    (case h_k_law_is_below => k_is)
    (case h_a_Bucket___gt__ => k_is)
    (case h_i_Bucket___gt__ => k_is)
    (case h_l_Bucket___gt__ => k_is)
    (case h_c_Bucket___gt__ => k_is)
    (case h_k_Bucket___gt__ => k_is)
    (case h_a_need_like => k_is)
    (case h_l_need_like => k_is)
    (case h_c_need_like => k_is)
    (case h_k_need_like => k_is)
    (case h_a_Bucket___lt__ => k_is)
    (case h_i_Bucket___lt__ => k_is)
    (case h_l_Bucket___lt__ => k_is)
    (case h_c_Bucket___lt__ => k_is)
    (case h_k_Bucket___lt__ => k_is)
    (case h_a_Bucket___le__ => k_is)
    (case h_i_Bucket___le__ => k_is)
    (case h_l_Bucket___le__ => k_is)
    (case h_c_Bucket___le__ => k_is)
    (case h_k_Bucket___le__ => k_is)
    (case h_mo_gcd => k_is)
    (case h_a_bits_in => k_is)
    (case h_l_bits_in => k_is)
    (case h_c_bits_in => k_is)
    (case h_k_bits_in => k_is)
    (case h_no_all => k_is)
    (case h_a_Bucket___ge__ => k_is)
    (case h_i_Bucket___ge__ => k_is)
    (case h_l_Bucket___ge__ => k_is)
    (case h_c_Bucket___ge__ => k_is)
    (case h_k_Bucket___ge__ => k_is)
    (case h_no_repr => k_is)
    (case h_a_Bucket_earliest => k_is)
    (case h_i_Bucket_earliest => k_is)
    (case h_l_Bucket_earliest => k_is)
    (case h_c_Bucket_earliest => k_is)
    (case h_k_Bucket_earliest => k_is)
    (case h_a_need_number => k_is)
    (case h_l_need_number => k_is)
    (case h_c_need_number => k_is)
    (case h_k_need_number => k_is)
    (case h_g_BadNumber => k_is)
    (case h_oc_BadNumber_init => k_is)
    (case h_rv_BadNumber_init => first | rfl | decide)
    (case h_sa_BadNumber => k_is)
    (case h_bx_BadNumber => k_is)
    (case h_tc_BadNumber => k_is)
    (case h_kc_BadNumber => k_is)
    (case h_a_BadNumber_init => k_is)
    (case h_ty_BadNumber_init => k_is)
    (case h_nx_BadNumber_value => k_is)
    (case h_l_BadNumber_init => k_is)
    (case h_c_BadNumber_init => k_is)
    (case h_f1_BadNumber_init => k_is)
    (case h_f2_BadNumber_init => rfl)
    (case h_f3_BadNumber_init => decide +kernel)
    (case h_ce_BadNumber_init => k_is)
    (case h_su_BadNumber_init => first | ks_is | kernel_rfl)
    (case h_sb_BadNumber_init => k_is)
    (case h_me_BadNumber_init => k_is)
    (case h_xg_BadNumber => k_is)
    (case h_xa_BadNumber => k_is)
    (case h_xd_BadNumber => k_is)
    (case h_cc_BadNumber => k_is)
    (case h_ob_BadNumber => k_is)
    (case h_a_law_heard => k_is)
    (case h_l_law_heard => k_is)
    (case h_c_law_heard => k_is)
    (case h_k_law_heard => k_is)
    (case h_g_CreditError => k_is)
    (case h_ld_law => exact rfl)
    (case h_lc_law => k_is)
    (case h_lp_law => exact rfl)
    (case h_lt_law => kernel_rfl)
    (case h_ln_law => kernel_rfl)
    (case h_kt_NoneType_BadBucket => kit_is)
    (case h_kt_bool_BadBucket => kit_is)
    (case h_kt_int_BadBucket => kit_is)
    (case h_kt_str_BadBucket => kit_is)
    (case h_kt_list_BadBucket => kit_is)
    (case h_kt_tuple_BadBucket => kit_is)
    (case h_kt_dict_BadBucket => kit_is)
    (case h_kt_c_Bucket_BadBucket => kit_is)
    (case h_kt_c_BadBucket_BadBucket => kit_is)
    (case h_kt_c_BadNumber_BadBucket => kit_is)
    (case h_kt_NoneType_Bucket => kit_is)
    (case h_kt_bool_Bucket => kit_is)
    (case h_kt_int_Bucket => kit_is)
    (case h_kt_str_Bucket => kit_is)
    (case h_kt_list_Bucket => kit_is)
    (case h_kt_tuple_Bucket => kit_is)
    (case h_kt_dict_Bucket => kit_is)
    (case h_kt_c_Bucket_Bucket => kit_is)
    (case h_kt_c_BadBucket_Bucket => kit_is)
    (case h_kt_c_BadNumber_Bucket => kit_is)
    (case h_kt_NoneType_bool => kit_is)
    (case h_kt_bool_bool => kit_is)
    (case h_kt_int_bool => kit_is)
    (case h_kt_str_bool => kit_is)
    (case h_kt_list_bool => kit_is)
    (case h_kt_tuple_bool => kit_is)
    (case h_kt_dict_bool => kit_is)
    (case h_kt_c_Bucket_bool => kit_is)
    (case h_kt_c_BadBucket_bool => kit_is)
    (case h_kt_c_BadNumber_bool => kit_is)
    (case h_kt_NoneType_int => kit_is)
    (case h_kt_bool_int => kit_is)
    (case h_kt_int_int => kit_is)
    (case h_kt_str_int => kit_is)
    (case h_kt_list_int => kit_is)
    (case h_kt_tuple_int => kit_is)
    (case h_kt_dict_int => kit_is)
    (case h_kt_c_Bucket_int => kit_is)
    (case h_kt_c_BadBucket_int => kit_is)
    (case h_kt_c_BadNumber_int => kit_is)
    (case h_em_BadBucket_CreditError => kernel_rfl)
    (case h_em_BadNumber_CreditError => kernel_rfl)
    (case h_nf_Bucket_c_Bucket => k_is)
    (case hnd => decide)
    (case h_lr_law => rfl)

