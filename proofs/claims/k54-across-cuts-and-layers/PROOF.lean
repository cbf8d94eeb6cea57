import PyProof.Rows.All
import HandS.ForMost
import HandS.Deep
import HandS.SortInts
import HandS.TupAny
import HandS.TupLe
import HandS.IsInst
import HandS.Conv
import HandS.DictComp
import KE.SortData
import HandS.TupMul
import HandS.TupLen
import PyProof.WalkInts
import KE.GoesMore
import PyProof.EnumMake
import PyProof.Draws
import HandS.Style
import HandS.DictTup
import HandS.Strs
import HandS.SetFor
import HandS.More
import PyProof.Transfer
import HandS.Zip
import HandS.ForDict
import KE.DataCmp
import KE.DataMinMax
import PyProof.DictUpdate
import PyProof.TupleOfSeq
import PyProof.SetRoads
import PySem.Challenge.RW_shavenets_k54_across_cuts_and_layers
set_option Elab.async false
set_option linter.all false
set_option maxRecDepth 100000
set_option maxHeartbeats 4000000
/-! VSA: values as data, what is hidden of the heap, the state of a def by its slots. -/
namespace VS
open PySem PySem.Spec PyProof.Rows L2

abbrev D := PyData
def keyD : Key → D
  | .inl i => .int i
  | .inr x => .str x

mutual
/-- the value v of the heap H is the datum d -/
inductive Rp (K : PySem.W.Frag) (H : Hp) : V → D → Prop
  | non : Rp K H .non .none
  | bl (b : Bool) : Rp K H (.bl b) (.bool b)
  | int (i : Int) : Rp K H (.int i) (.int i)
  | str (x : Str) : Rp K H (.str x) (.str x)
  | lst {a : Addr} {xs : List V} {ds : List D} : H a = some (.lst xs) → RpA K H xs ds → Rp K H (.ref a) (.list ds)
  | tup {a : Addr} {xs : List V} {ds : List D} : H a = some (.tup xs) → RpA K H xs ds → Rp K H (.ref a) (.tuple ds)
  | dK {a : Addr} {kvs : List (Key × V)} {ds : List (D × D)} : H a = some (.dK kvs) → RpK K H kvs ds → Rp K H (.ref a) (.dict ds)
  | dT {a : Addr} {kvs : List (List Key × V)} {ds : List (D × D)} : H a = some (.dT kvs) → RpT K H kvs ds → Rp K H (.ref a) (.dict ((.none, .none) :: ds))
inductive RpA (K : PySem.W.Frag) (H : Hp) : List V → List D → Prop
  | nil : RpA K H [] []
  | cons {v : V} {vs : List V} {d : D} {ds : List D} : Rp K H v d → RpA K H vs ds → RpA K H (v :: vs) (d :: ds)
inductive RpK (K : PySem.W.Frag) (H : Hp) : List (Key × V) → List (D × D) → Prop
  | nil : RpK K H [] []
  | cons {k : Key} {v : V} {kvs : List (Key × V)} {d : D} {ds : List (D × D)} : Rp K H v d → RpK K H kvs ds → RpK K H ((k, v) :: kvs) ((keyD k, d) :: ds)
inductive RpT (K : PySem.W.Frag) (H : Hp) : List (List Key × V) → List (D × D) → Prop
  | nil : RpT K H [] []
  | cons {k : List Key} {v : V} {kvs : List (List Key × V)} {d : D} {ds : List (D × D)} : Rp K H v d → RpT K H kvs ds → RpT K H ((k, v) :: kvs) ((.tuple (k.map keyD), d) :: ds)
end

section
variable {K : PySem.W.Frag} {H H' : Hp}
theorem _root_.L2.Same.seqT {a : Addr} {xs : List V} (e : Same H H') (h : SqT K H a xs) : SqT K H' a xs := by
  rcases h with (h | ⟨o, h⟩) | h
  · exact .inl (.inl (e _ _ h))
  · exact .inl (.inr ⟨o, e _ _ h⟩)
  · exact .inr h
mutual
theorem Rp.mono (e : Same H H') : ∀ {v : V} {d : D}, Rp K H v d → Rp K H' v d
  | _, _, .non => .non
  | _, _, .bl b => .bl b
  | _, _, .int i => .int i
  | _, _, .str x => .str x
  | _, _, .lst h t => .lst (e _ _ h) (RpA.mono e t)
  | _, _, .tup h t => .tup (e _ _ h) (RpA.mono e t)
  | _, _, .dK h t => .dK (e _ _ h) (RpK.mono e t)
  | _, _, .dT h t => .dT (e _ _ h) (RpT.mono e t)
theorem RpA.mono (e : Same H H') : ∀ {v : List V} {d : List D}, RpA K H v d → RpA K H' v d
  | _, _, .nil => .nil
  | _, _, .cons h t => .cons (Rp.mono e h) (RpA.mono e t)
theorem RpK.mono (e : Same H H') : ∀ {v : List (Key × V)} {d : List (D × D)}, RpK K H v d → RpK K H' v d
  | _, _, .nil => .nil
  | _, _, .cons h t => .cons (Rp.mono e h) (RpK.mono e t)
theorem RpT.mono (e : Same H H') : ∀ {v : List (List Key × V)} {d : List (D × D)}, RpT K H v d → RpT K H' v d
  | _, _, .nil => .nil
  | _, _, .cons h t => .cons (Rp.mono e h) (RpT.mono e t)
end
theorem RpA.len : ∀ {v : List V} {d : List D}, RpA K H v d → v.length = d.length
  | _, _, .nil => rfl
  | _, _, .cons _ t => by rw [List.length_cons, List.length_cons, RpA.len t]
theorem RpA.get : ∀ {v : List V} {d : List D} {i : Nat} {x : D}, RpA K H v d → d[i]? = some x → ∃ u, v[i]? = some u ∧ Rp K H u x
  | _, _, _, _, .nil, h => by simp at h
  | _, _, 0, _, .cons h _, e => by simp at e; subst e; exact ⟨_, rfl, h⟩
  | _, _, i + 1, _, .cons _ t, e => by
    obtain ⟨u, h1, h2⟩ := RpA.get t (by simpa using e)
    exact ⟨u, by simpa using h1, h2⟩
theorem RpA.append : ∀ {v : List V} {d : List D} {v' : List V} {d' : List D}, RpA K H v d → RpA K H v' d' → RpA K H (v ++ v') (d ++ d')
  | _, _, _, _, .nil, h => h
  | _, _, _, _, .cons h t, h' => .cons h (RpA.append t h')
theorem RpA.set {x : V} {y : D} (r : Rp K H x y) : ∀ {v : List V} {d : List D} (i : Nat), RpA K H v d → RpA K H (v.set i x) (d.set i y)
  | _, _, _, .nil => .nil
  | _, _, 0, .cons _ t => .cons r t
  | _, _, i + 1, .cons h t => .cons h (RpA.set r i t)
theorem RpA.take : ∀ {v : List V} {d : List D} (n : Nat), RpA K H v d → RpA K H (v.take n) (d.take n)
  | _, _, 0, _ => by simp; exact .nil
  | _, _, _ + 1, .nil => .nil
  | _, _, n + 1, .cons h t => .cons h (RpA.take n t)
theorem RpA.drop : ∀ {v : List V} {d : List D} (n : Nat), RpA K H v d → RpA K H (v.drop n) (d.drop n)
  | _, _, 0, h => h
  | _, _, _ + 1, .nil => .nil
  | _, _, n + 1, .cons _ t => RpA.drop n t
theorem RpA.rev : ∀ {v : List V} {d : List D}, RpA K H v d → RpA K H v.reverse d.reverse
  | _, _, .nil => .nil
  | _, _, .cons h t => by
    rw [List.reverse_cons, List.reverse_cons]
    exact (RpA.rev t).append (.cons h .nil)
theorem RpA.dropLast {v : List V} {d : List D} (h : RpA K H v d) : RpA K H v.dropLast d.dropLast := by
  rw [List.dropLast_eq_take, List.dropLast_eq_take, h.len]
  exact h.take _
end

/-! ### the heap less what is hidden -/
def hid (H : Hp) (p : Addr → Bool) : Hp := fun b => if p b = true then none else H b
theorem hid_le {H : Hp} {p : Addr → Bool} : Same (hid H p) H := fun b o e => by
  unfold hid at e
  split at e
  · cases e
  · exact e
theorem hid_some {H : Hp} {p : Addr → Bool} {b : Addr} {o : HO} : hid H p b = some o ↔ p b = false ∧ H b = some o := by
  unfold hid
  constructor
  · intro e
    split at e
    · cases e
    · rename_i h; exact ⟨by simpa using h, e⟩
  · rintro ⟨h, e⟩
    rw [h, if_neg (by decide), e]
theorem hid_same {H H' : Hp} {p p' : Addr → Bool} (h : ∀ b o, p b = false → H b = some o → p' b = false ∧ H' b = some o) : Same (hid H p) (hid H' p') := fun b o e => by
  obtain ⟨h1, h2⟩ := hid_some.mp e
  exact hid_some.mpr (h b o h1 h2)

/-- an object that may be one's own -/
def IsC : HO → Prop
  | .lst _ | .dK _ | .dT _ => True
  | _ => False
theorem IsC.notup {o : HO} (h : IsC o) (xs : List V) : o ≠ .tup xs := fun e => by subst e; exact h
theorem IsC.nofrz {o : HO} (h : IsC o) (ob : Obj) (u : HO) : o ≠ .frz ob u := fun e => by subst e; exact h
/-! ### the drawn row -/
/-- the script, known as it is -/
def ScrAt (K : PySem.W.Frag) (H : Hp) (a : Addr) (xs : List V) : Prop :=
  (∃ o, H a = some (.frz o (.lst xs))) ∨ ∃ (o : Obj) (its : Array Value) (n : Nat), K.lookup a = some o ∧ o.cls = .type "list" ∧ o.dict = none ∧ o.data = .seq its n ∧ its.size ≤ sizeLine ∧ Vals xs its.toList
theorem ScrAt.sq {K : PySem.W.Frag} {H : Hp} {a : Addr} {xs : List V} (h : ScrAt K H a xs) : SqL K H a xs := by
  rcases h with ⟨o, h⟩ | h
  · exact .inl (.inr ⟨o, h⟩)
  · exact .inr h
/-- [script, place, seed, rest] -/
def RowAt (K : PySem.W.Frag) (H : Hp) (r : Addr) : Prop :=
  ∃ (a : Addr) (ns : List Int) (i s c : Int), H r = some (.lst [.ref a, .int i, .int s, .int c]) ∧ ScrAt K H a (ns.map V.int) ∧ ns.length ≤ 63 ∧ 0 ≤ i

/-! ### what is fixed through a def's run -/
structure C where
  H0 : Hp
  S0 : Addr → Bool
  rp : Option Addr
abbrev Own := Addr → Option Nat
def hd (c : C) (own : Own) (row : Option Addr) (b : Addr) : Bool := c.S0 b || (own b).isSome || decide (row = some b)
theorem hd_false {c : C} {own : Own} {row : Option Addr} {b : Addr} : hd c own row b = false ↔ c.S0 b = false ∧ own b = none ∧ row ≠ some b := by
  unfold hd
  simp only [Bool.or_eq_false_iff, decide_eq_false_iff_not, Option.isSome_eq_false_iff, Option.isNone_iff_eq_none, and_assoc, ne_eq]

/-- how a slot is held: shared; a list or dict of its own; a list of lists of its own; the drawn row -/
inductive Ty where
  | fz | ow | oo | rw
  deriving DecidableEq
abbrev Env := List (Option D)
def eg : Env → Nat → Option D
  | [], _ => none
  | x :: _, 0 => x
  | _ :: r, i + 1 => eg r i
def put : Env → Nat → D → Env
  | [], _, _ => []
  | _ :: r, 0, d => some d :: r
  | x :: r, i + 1, d => x :: put r i d
def del : Env → Nat → Env
  | [], _ => []
  | _ :: r, 0 => none :: r
  | x :: r, i + 1 => x :: del r i
theorem put_len : ∀ (ρ : Env) (i : Nat) (d : D), (put ρ i d).length = ρ.length
  | [], _, _ => rfl
  | _ :: _, 0, _ => rfl
  | _ :: r, i + 1, d => by show (put r i d).length + 1 = r.length + 1; rw [put_len r i d]
theorem del_len : ∀ (ρ : Env) (i : Nat), (del ρ i).length = ρ.length
  | [], _ => rfl
  | _ :: _, 0 => rfl
  | _ :: r, i + 1 => by show (del r i).length + 1 = r.length + 1; rw [del_len r i]
theorem eg_put : ∀ (ρ : Env) (i j : Nat) (d : D), i < ρ.length → eg (put ρ i d) j = if j = i then some d else eg ρ j
  | [], _, _, _, h => by simp at h
  | x :: r, 0, 0, d, _ => by simp [put, eg]
  | x :: r, 0, j + 1, d, _ => by simp [put, eg]
  | x :: r, i + 1, 0, d, _ => by simp [put, eg]
  | x :: r, i + 1, j + 1, d, h => by
    show eg (put r i d) j = _
    rw [eg_put r i j d (by simpa using h)]
    simp [eg]
theorem eg_put_out : ∀ (ρ : Env) (i j : Nat) (d : D), j ≠ i → eg (put ρ i d) j = eg ρ j
  | [], _, _, _, _ => rfl
  | x :: r, 0, 0, d, h => absurd rfl h
  | x :: r, 0, j + 1, d, _ => rfl
  | x :: r, i + 1, 0, d, _ => rfl
  | x :: r, i + 1, j + 1, d, h => eg_put_out r i j d (fun e => h (by rw [e]))
theorem eg_del : ∀ (ρ : Env) (i j : Nat), eg (del ρ i) j = if j = i then none else eg ρ j
  | [], _, _ => by simp [del, eg]
  | x :: r, 0, 0 => by simp [del, eg]
  | x :: r, 0, j + 1 => by simp [del, eg]
  | x :: r, i + 1, 0 => by simp [del, eg]
  | x :: r, i + 1, j + 1 => by
    show eg (del r i) j = _
    rw [eg_del r i j]
    simp [eg]
theorem eg_some_lt : ∀ {ρ : Env} {i : Nat} {d : D}, eg ρ i = some d → i < ρ.length
  | [], _, _, h => by simp [eg] at h
  | _ :: _, 0, _, _ => by simp
  | _ :: r, i + 1, d, h => by
    have := eg_some_lt (ρ := r) (i := i) (d := d) h
    simpa using this

/-- a cell of its own: what it holds is shared -/
def Cell (K : PySem.W.Frag) (F H : Hp) (a : Addr) (d : D) : Prop :=
  (∃ xs ds, H a = some (.lst xs) ∧ RpA K F xs ds ∧ d = .list ds) ∨ (∃ kvs ds, H a = some (.dK kvs) ∧ RpK K F kvs ds ∧ d = .dict ds) ∨ (∃ kvs ds, H a = some (.dT kvs) ∧ RpT K F kvs ds ∧ d = .dict ((.none, .none) :: ds))
theorem Cell.mono {K : PySem.W.Frag} {F H F' H' : Hp} {a : Addr} {d : D} (h : Cell K F H a d) (e : Same F F') (k : ∀ o, H a = some o → H' a = some o) : Cell K F' H' a d := by
  rcases h with ⟨xs, ds, h1, h2, h3⟩ | ⟨xs, ds, h1, h2, h3⟩ | ⟨xs, ds, h1, h2, h3⟩
  · exact .inl ⟨xs, ds, k _ h1, h2.mono e, h3⟩
  · exact .inr (.inl ⟨xs, ds, k _ h1, h2.mono e, h3⟩)
  · exact .inr (.inr ⟨xs, ds, k _ h1, h2.mono e, h3⟩)
theorem Cell.rp {K : PySem.W.Frag} {F H : Hp} {a : Addr} {d : D} (h : Cell K F H a d) (e : Same F H) : Rp K H (.ref a) d := by
  rcases h with ⟨xs, ds, h1, h2, rfl⟩ | ⟨xs, ds, h1, h2, rfl⟩ | ⟨xs, ds, h1, h2, rfl⟩
  · exact .lst h1 (h2.mono e)
  · exact .dK h1 (h2.mono e)
  · exact .dT h1 (h2.mono e)
theorem Cell.some {K : PySem.W.Frag} {F H : Hp} {a : Addr} {d : D} (h : Cell K F H a d) : ∃ o, H a = some o ∧ IsC o := by
  rcases h with ⟨xs, ds, h1, h2, rfl⟩ | ⟨xs, ds, h1, h2, rfl⟩ | ⟨xs, ds, h1, h2, rfl⟩
  · exact ⟨_, h1, trivial⟩
  · exact ⟨_, h1, trivial⟩
  · exact ⟨_, h1, trivial⟩

/-- a list of lists of its own -/
def Cells (K : PySem.W.Frag) (F H : Hp) (own : Own) (i : Nat) (bs : List Addr) (dss : List D) : Prop :=
  Paired (fun b d => own b = some i ∧ Cell K F H b d) bs dss

def SlotP (K : PySem.W.Frag) (F H : Hp) (own : Own) (row : Option Addr) (i : Nat) : Ty → Option D → Option (Option V) → Prop
  | .fz, none, _ => True
  | .fz, some d, ov => ∃ v, ov = some (some v) ∧ Rp K F v d
  | .ow, none, _ => False
  | .ow, some d, ov => ∃ a, ov = some (some (.ref a)) ∧ own a = some i ∧ Cell K F H a d
  | .oo, none, _ => False
  | .oo, some d, ov => ∃ a bs dss, ov = some (some (.ref a)) ∧ own a = some i ∧ H a = some (.lst (bs.map V.ref)) ∧ a ∉ bs ∧ bs.Nodup ∧ Cells K F H own i bs dss ∧ d = .list dss
  | .rw, none, _ => False
  | .rw, some _, ov => ∃ r, ov = some (some (.ref r)) ∧ row = some r

structure RS (K : PySem.W.Frag) (n : Nat) (c : C) (own : Own) (row : Option Addr) (τ : List Ty) (ρ : Env) (σ : L2.St) (H : Hp) : Prop where
  lenσ : σ.length = n
  lenρ : ρ.length = n
  same : ∀ b o, c.H0 b = some o → c.rp ≠ some b → H b = some o
  fresh : ∀ a i, own a = some i → c.H0 a = none
  s0 : ∀ b, c.S0 b = true → ∃ o, c.H0 b = some o ∧ IsC o ∧ c.rp ≠ some b
  live : ∀ a i, own a = some i → ∃ o, H a = some o ∧ IsC o
  rowp : row = c.rp ∨ (c.rp = none ∧ ∀ r, row = some r → c.H0 r = none)
  rowat : ∀ r, row = some r → RowAt K H r ∧ own r = none ∧ c.S0 r = false
  slot : ∀ i, SlotP K (hid H (hd c own row)) H own row i (τ.getD i .fz) (eg ρ i) σ[i]?

/-- the heap behind an expression: all is kept but the row, which stays a row -/
structure Ex (K : PySem.W.Frag) (row : Option Addr) (H H' : Hp) : Prop where
  keep : ∀ b o, row ≠ some b → H b = some o → H' b = some o
  row : ∀ r, row = some r → RowAt K H r → RowAt K H' r
section
variable {K : PySem.W.Frag} {n : Nat} {c : C} {own : Own} {row : Option Addr} {τ : List Ty} {ρ : Env} {σ : L2.St} {H H' H1 H2 : Hp}
theorem Ex.refl : Ex K row H H := ⟨fun _ _ _ e => e, fun _ _ h => h⟩
theorem Ex.trans (a : Ex K row H H1) (b : Ex K row H1 H2) : Ex K row H H2 := ⟨fun x o hr e => b.keep x o hr (a.keep x o hr e), fun r hr h => b.row r hr (a.row r hr h)⟩
theorem RowAt.same {r : Addr} (h : RowAt K H r) (e : Same H H') : RowAt K H' r := by
  obtain ⟨a, ns, i, s, d, h1, h3, h4⟩ := h
  refine ⟨a, ns, i, s, d, e _ _ h1, ?_, h4⟩
  rcases h3 with ⟨o, h3⟩ | h3
  · exact .inl ⟨o, e _ _ h3⟩
  · exact .inr h3
theorem Ex.of_same (e : Same H H') : Ex K row H H' := ⟨fun b o _ h => e b o h, fun _ _ h => h.same e⟩
theorem Ex.vis (e : Ex K row H H') : Same (hid H (hd c own row)) (hid H' (hd c own row)) :=
  hid_same fun b o h1 h2 => ⟨h1, e.keep b o (hd_false.mp h1).2.2 h2⟩
theorem Ex.upd {p : Addr} {o : HO} (h : H p = none) : Ex K row H (upd H p o) := .of_same fun b x e => by
  rw [upd_ne (ne_of_none e h)]; exact e
theorem same_upd {p : Addr} {o : HO} (h : H p = none) : Same H (upd H p o) := fun b x e => by
  rw [upd_ne (ne_of_none e h)]; exact e

theorem Cells.mono {F F' : Hp} {i : Nat} {bs : List Addr} {dss : List D} (h : Cells K F H own i bs dss) (e : Same F F') (k : ∀ b, own b = some i → ∀ o, H b = some o → H' b = some o) : Cells K F' H' own i bs dss :=
  Paired.mapP h fun b d ⟨h1, h2⟩ => ⟨h1, h2.mono e (k b h1)⟩
theorem SlotP.mono {F F' : Hp} {i : Nat} {t : Ty} {od : Option D} {ov : Option (Option V)} (h : SlotP K F H own row i t od ov) (e : Same F F') (k : ∀ b, own b = some i → ∀ o, H b = some o → H' b = some o) : SlotP K F' H' own row i t od ov := by
  cases t with
  | fz =>
    cases od with
    | none => trivial
    | some d => obtain ⟨v, h1, h2⟩ := h; exact ⟨v, h1, h2.mono e⟩
  | ow =>
    cases od with
    | none => exact h
    | some d => obtain ⟨a, h1, h2, h3⟩ := h; exact ⟨a, h1, h2, h3.mono e (k a h2)⟩
  | oo =>
    cases od with
    | none => exact h
    | some d => obtain ⟨a, bs, dss, h1, h2, h3, h4, h5, h6, h7⟩ := h; exact ⟨a, bs, dss, h1, h2, k a h2 _ h3, h4, h5, h6.mono e k, h7⟩
  | rw =>
    cases od with
    | none => exact h
    | some d => exact h

theorem RS.notrow (R : RS K n c own row τ ρ σ H) {a : Addr} {i : Nat} (h : own a = some i) : row ≠ some a := fun e => by
  have := (R.rowat a e).2.1
  rw [h] at this; cases this
theorem RS.mono (R : RS K n c own row τ ρ σ H) (e : Ex K row H H') : RS K n c own row τ ρ σ H' where
  lenσ := R.lenσ
  lenρ := R.lenρ
  same := fun b o h h2 => by
    refine e.keep b o (fun z => ?_) (R.same b o h h2)
    rcases R.rowp with q | ⟨q, q2⟩
    · exact h2 (q.symm.trans z)
    · rw [q2 b z] at h; cases h
  fresh := R.fresh
  s0 := R.s0
  live := fun a i h => by
    obtain ⟨o, h1, h2⟩ := R.live a i h
    exact ⟨o, e.keep a o (R.notrow h) h1, h2⟩
  rowp := R.rowp
  rowat := fun r h => ⟨e.row r h (R.rowat r h).1, (R.rowat r h).2⟩
  slot := fun i => (R.slot i).mono e.vis fun b hb o ho => e.keep b o (R.notrow hb) ho
/-- a new address is not hidden -/
theorem RS.hd_new (R : RS K n c own row τ ρ σ H) {p : Addr} (h : H p = none) : hd c own row p = false := by
  refine hd_false.mpr ⟨?_, ?_, fun z => ?_⟩
  · cases e : c.S0 p with
    | false => rfl
    | true =>
      obtain ⟨o, h1, _, h3⟩ := R.s0 p e
      rw [R.same p o h1 h3] at h; cases h
  · cases e : own p with
    | none => rfl
    | some i =>
      obtain ⟨o, h1, _⟩ := R.live p i e
      rw [h1] at h; cases h
  · obtain ⟨_, _, _, _, _, h1, _⟩ := (R.rowat p z).1
    rw [h1] at h; cases h
/-- what is hidden is no tuple -/
theorem RS.notup (R : RS K n c own row τ ρ σ H) {b : Addr} {xs : List V} (h : H b = some (.tup xs)) : hd c own row b = false := by
  refine hd_false.mpr ⟨?_, ?_, fun z => ?_⟩
  · cases e : c.S0 b with
    | false => rfl
    | true =>
      obtain ⟨o, h1, h2, h3⟩ := R.s0 b e
      rw [R.same b o h1 h3] at h; cases h
      exact h2.elim
  · cases e : own b with
    | none => rfl
    | some i =>
      obtain ⟨o, h1, h2⟩ := R.live b i e
      rw [h1] at h; cases h
      exact h2.elim
  · obtain ⟨_, _, _, _, _, h1, _⟩ := (R.rowat b z).1
    rw [h1] at h; cases h
theorem hid_upd {p : Addr} {o : HO} {q : Addr → Bool} (h : q p = false) : hid (upd H p o) q p = some o := hid_some.mpr ⟨h, upd_same⟩
end
end VS
/-! VSB: expressions. -/
namespace VS
open PySem PySem.Spec PyProof.Rows L2

abbrev WE := Env → (D → Prop) → Prop
abbrev WA := Env → (List D → Prop) → Prop
abbrev WT := Env → (Bool → Prop) → Prop

theorem PE.imp {X : Cx} {e : Expr} {t t' : TE} (h : PE X e t) (k : ∀ σ H Q, t' σ H Q → t σ H Q) : PE X e t' := ⟨fun pins s σ H Q I q => h.run pins s σ H Q I (k σ H Q q)⟩
theorem PT.imp {X : Cx} {e : Expr} {t t' : TT} (h : PT X e t) (k : ∀ σ H Q, t' σ H Q → t σ H Q) : PT X e t' := ⟨fun pins s σ H Q I q => h.run pins s σ H Q I (k σ H Q q)⟩
theorem PW.imp {X : Cx} {e : Expr} {t t' : TT} (h : PW X e t) (k : ∀ σ H Q, t' σ H Q → t σ H Q) : PW X e t' := ⟨fun wh pins s σ H Q I q => h.run wh pins s σ H Q I (k σ H Q q)⟩
theorem PA.imp {X : Cx} {e : List Expr} {t t' : TA} (h : PA X e t) (k : ∀ σ H Q, t' σ H Q → t σ H Q) : PA X e t' := ⟨fun pos pins s σ H Q I q => h.run pos pins s σ H Q I (k σ H Q q)⟩
theorem PS.imp {X : Cx} {e : Stmt} {t t' : TS} (h : PS X e t) (k : ∀ Dd σ H, t' Dd σ H → t Dd σ H) : PS X e t' := ⟨fun pins s σ H Dd I q => h.run pins s σ H Dd I (k Dd σ H q)⟩
theorem PSs.imp {X : Cx} {e : List Stmt} {t t' : TS} (h : PSs X e t) (k : ∀ Dd σ H, t' Dd σ H → t Dd σ H) : PSs X e t' := ⟨fun pins s σ H Dd I q => h.run pins s σ H Dd I (k Dd σ H q)⟩

/-- a value that is shared, or a cell of one's own -/
def Bo (K : PySem.W.Frag) (row : Option Addr) (F H : Hp) (v : V) (d : D) : Prop := Rp K F v d ∨ ∃ a, v = .ref a ∧ row ≠ some a ∧ Cell K F H a d
/-- what is known of what is hidden -/
structure Vw (row : Option Addr) (p : Addr → Bool) (H : Hp) : Prop where
  new : ∀ q, H q = none → p q = false
  tup : ∀ q xs, H q = some (.tup xs) → p q = false
  row : ∀ r, row = some r → p r = true
section
variable {K : PySem.W.Frag} {n : Nat} {c : C} {own : Own} {row : Option Addr} {τ : List Ty} {ρ : Env} {σ : L2.St} {H H' H1 H2 F F' : Hp} {p : Addr → Bool} {v : V} {d : D}
theorem RS.vw (R : RS K n c own row τ ρ σ H) : Vw row (hd c own row) H := ⟨fun _ h => R.hd_new h, fun _ _ h => R.notup h, fun r h => by
  cases e : hd c own row r with
  | true => rfl
  | false => exact absurd h (hd_false.mp e).2.2⟩
theorem Ex.vis' (e : Ex K row H H') (w : Vw row p H) : Same (hid H p) (hid H' p) :=
  hid_same fun b o h1 h2 => ⟨h1, e.keep b o (fun z => by rw [w.row b z] at h1; cases h1) h2⟩
theorem Bo.mono (h : Bo K row F H v d) (e : Same F F') (x : Ex K row H H') : Bo K row F' H' v d := by
  rcases h with h | ⟨a, h1, h2, h3⟩
  · exact .inl (h.mono e)
  · exact .inr ⟨a, h1, h2, h3.mono e fun o ho => x.keep a o h2 ho⟩
theorem Bo.ex (h : Bo K row (hid H p) H v d) (w : Vw row p H) (x : Ex K row H H') : Bo K row (hid H' p) H' v d := h.mono (x.vis' w) x
theorem Bo.rp (h : Bo K row F H v d) (e : Same F H) : Rp K H v d := by
  rcases h with h | ⟨a, rfl, h2, h3⟩
  · exact h.mono e
  · exact h3.rp e
theorem Bo.int {i : Int} (h : Bo K row F H v (.int i)) : v = .int i := by
  rcases h with h | ⟨a, rfl, h2, ⟨_, _, _, _, e⟩ | ⟨_, _, _, _, e⟩ | ⟨_, _, _, _, e⟩⟩
  · cases h; rfl
  · cases e
  · cases e
  · cases e
theorem Bo.bl {b : Bool} (h : Bo K row F H v (.bool b)) : v = .bl b := by
  rcases h with h | ⟨a, rfl, h2, ⟨_, _, _, _, e⟩ | ⟨_, _, _, _, e⟩ | ⟨_, _, _, _, e⟩⟩
  · cases h; rfl
  · cases e
  · cases e
  · cases e
theorem Bo.str {b : Str} (h : Bo K row F H v (.str b)) : v = .str b := by
  rcases h with h | ⟨a, rfl, h2, ⟨_, _, _, _, e⟩ | ⟨_, _, _, _, e⟩ | ⟨_, _, _, _, e⟩⟩
  · cases h; rfl
  · cases e
  · cases e
  · cases e
theorem Bo.non (h : Bo K row F H v .none) : v = .non := by
  rcases h with h | ⟨a, rfl, h2, ⟨_, _, _, _, e⟩ | ⟨_, _, _, _, e⟩ | ⟨_, _, _, _, e⟩⟩
  · cases h; rfl
  · cases e
  · cases e
  · cases e
theorem Bo.lst {ds : List D} (h : Bo K row (hid H p) H v (.list ds)) : ∃ a xs, v = .ref a ∧ H a = some (.lst xs) ∧ RpA K (hid H p) xs ds := by
  rcases h with h | ⟨a, rfl, h2, ⟨xs, ds', h3, h4, e⟩ | ⟨_, _, _, _, e⟩ | ⟨_, _, _, _, e⟩⟩
  · cases h with
    | lst h1 h2 => exact ⟨_, _, rfl, hid_le _ _ h1, h2⟩
  · cases e; exact ⟨a, xs, rfl, h3, h4⟩
  · cases e
  · cases e
theorem Bo.tup {ds : List D} (h : Bo K row (hid H p) H v (.tuple ds)) : ∃ a xs, v = .ref a ∧ H a = some (.tup xs) ∧ hid H p a = some (.tup xs) ∧ RpA K (hid H p) xs ds := by
  rcases h with h | ⟨a, rfl, h2, ⟨xs, ds', h3, h4, e⟩ | ⟨_, _, _, _, e⟩ | ⟨_, _, _, _, e⟩⟩
  · cases h with
    | tup h1 h2 => exact ⟨_, _, rfl, hid_le _ _ h1, h1, h2⟩
  · cases e
  · cases e
  · cases e
theorem Bo.dic {ds : List (D × D)} (h : Bo K row (hid H p) H v (.dict ds)) : ∃ a, v = .ref a ∧ ((∃ kvs, H a = some (.dK kvs) ∧ RpK K (hid H p) kvs ds) ∨ ∃ kvs ds', H a = some (.dT kvs) ∧ ds = (.none, .none) :: ds' ∧ RpT K (hid H p) kvs ds') := by
  rcases h with h | ⟨a, rfl, h2, ⟨xs, ds', h3, h4, e⟩ | ⟨kvs, ds', h3, h4, e⟩ | ⟨kvs, ds', h3, h4, e⟩⟩
  · cases h with
    | dK h1 h2 => exact ⟨_, rfl, .inl ⟨_, hid_le _ _ h1, h2⟩⟩
    | dT h1 h2 => exact ⟨_, rfl, .inr ⟨_, _, hid_le _ _ h1, rfl, h2⟩⟩
  · cases e
  · cases e; exact ⟨a, rfl, .inl ⟨kvs, h3, h4⟩⟩
  · cases e; exact ⟨a, rfl, .inr ⟨kvs, _, h3, rfl, h4⟩⟩
end

/-! ### the judgements -/
def rdE (K : PySem.W.Frag) (n : Nat) (τ : List Ty) (w : WE) : TE := fun σ H Q => ∃ c own row ρ P, RS K n c own row τ ρ σ H ∧ w ρ P ∧
  ∀ d v H', P d → Ex K row H H' → Rp K (hid H' (hd c own row)) v d → Q v H'
def rdB (K : PySem.W.Frag) (n : Nat) (τ : List Ty) (w : WE) : TE := fun σ H Q => ∃ c own row ρ P, RS K n c own row τ ρ σ H ∧ w ρ P ∧
  ∀ d v H', P d → Ex K row H H' → Bo K row (hid H' (hd c own row)) H' v d → Q v H'
def rdT (K : PySem.W.Frag) (n : Nat) (τ : List Ty) (w : WT) : TT := fun σ H Q => ∃ c own row ρ P, RS K n c own row τ ρ σ H ∧ w ρ P ∧
  ∀ b H', P b → Ex K row H H' → Q b H'
abbrev BoA (K : PySem.W.Frag) (row : Option Addr) (F H : Hp) : List V → List D → Prop := Paired (Bo K row F H)
def rdA (K : PySem.W.Frag) (n : Nat) (τ : List Ty) (w : WA) : TA := fun σ H Q => ∃ c own row ρ P, RS K n c own row τ ρ σ H ∧ w ρ P ∧
  ∀ ds vs H', P ds → Ex K row H H' → BoA K row (hid H' (hd c own row)) H' vs ds → Q vs H'
def rdAs (K : PySem.W.Frag) (n : Nat) (τ : List Ty) (w : WA) : TA := fun σ H Q => ∃ c own row ρ P, RS K n c own row τ ρ σ H ∧ w ρ P ∧
  ∀ ds vs H', P ds → Ex K row H H' → RpA K (hid H' (hd c own row)) vs ds → Q vs H'
/-- a shared value -/
def VE (X : Cx) (n : Nat) (τ : List Ty) (e : Expr) (w : WE) : Prop := PE X e (rdE X.K n τ w)
/-- a value that is looked at, not kept -/
def VB (X : Cx) (n : Nat) (τ : List Ty) (e : Expr) (w : WE) : Prop := PE X e (rdB X.K n τ w)
def VT (X : Cx) (n : Nat) (τ : List Ty) (e : Expr) (w : WT) : Prop := PT X e (rdT X.K n τ w)
def VW (X : Cx) (n : Nat) (τ : List Ty) (e : Expr) (w : WT) : Prop := PW X e (rdT X.K n τ w)
def VA (X : Cx) (n : Nat) (τ : List Ty) (es : List Expr) (w : WA) : Prop := PA X es (rdA X.K n τ w)
def VAs (X : Cx) (n : Nat) (τ : List Ty) (es : List Expr) (w : WA) : Prop := PA X es (rdAs X.K n τ w)

section
variable {X : Cx} {n : Nat} {τ : List Ty} {e a b : Expr} {es : List Expr} {w wa wb : WE} {pos : Pos}
theorem VE.vb (h : VE X n τ e w) : VB X n τ e w := PE.imp h fun σ H Q ⟨c, own, row, ρ, P, R, hw, q⟩ => ⟨c, own, row, ρ, P, R, hw, fun d v H' p x r => q d v H' p x (.inl r)⟩

/-! names and constants -/
def wvar (i : Nat) : WE := fun ρ Q => ∃ d, eg ρ i = some d ∧ Q d
def wcst (d : D) : WE := fun _ Q => Q d
theorem ve_var {i : Nat} (h : PE X e (tVar i)) (ht : τ.getD i .fz = .fz := by rfl) : VE X n τ e (wvar i) := PE.imp h fun σ H Q ⟨c, own, row, ρ, P, R, hw, q⟩ => by
  obtain ⟨d, h1, h2⟩ := hw
  have s := R.slot i
  rw [ht, h1] at s
  obtain ⟨v, s1, s2⟩ := s
  exact ⟨v, s1, q d v H h2 .refl s2⟩
theorem vb_own {i : Nat} (h : PE X e (tVar i)) (ht : τ.getD i .fz = .ow := by rfl) : VB X n τ e (wvar i) := PE.imp h fun σ H Q ⟨c, own, row, ρ, P, R, hw, q⟩ => by
  obtain ⟨d, h1, h2⟩ := hw
  have s := R.slot i
  rw [ht, h1] at s
  obtain ⟨v, s1, s2, s3⟩ := s
  exact ⟨.ref v, s1, q d _ H h2 .refl (.inr ⟨v, rfl, R.notrow s2, s3⟩)⟩
theorem ve_cst {v : V} {d : D} (h : PE X e (tC v)) (r : ∀ H, Rp X.K H v d) : VE X n τ e (wcst d) := PE.imp h fun σ H Q ⟨c, own, row, ρ, P, R, hw, q⟩ => q d v H hw .refl (r _)
theorem ve_int {i : Int} {j : Nat} : VE X n τ (.Constant (.int i) j pos) (wcst (.int i)) := ve_cst pe_int fun _ => .int i
theorem ve_bl {i : Bool} {j : Nat} : VE X n τ (.Constant (.bool i) j pos) (wcst (.bool i)) := ve_cst pe_bl fun _ => .bl i
theorem ve_non {j : Nat} : VE X n τ (.Constant .none j pos) (wcst .none) := ve_cst pe_non fun _ => .non
theorem ve_str {i : Str} {j : Nat} : VE X n τ (.Constant (.str i) j pos) (wcst (.str i)) := ve_cst pe_str fun _ => .str i
/-- a module's int -/
theorem ve_glob {x : Str} {i : Int} {t : Tok} (hg : Gl X x) (hm : X.mg x = some (.int i t)) (hd : (x == ("__debug__" : Str)) = false := by decide) : VE X n τ (.Name x pos) (wcst (.int i)) :=
  ve_cst (pe_glob hg hm (v := .int i) ⟨t, rfl⟩ hd) fun _ => .int i

/-! by values -/
def G1 (K : PySem.W.Frag) (g : D → Option D) (r : V → Hp → VK → Prop) : Prop := ∀ row p H x dx d Q, Vw row p H → Bo K row (hid H p) H x dx → g dx = some d → (∀ v H', Ex K row H H' → Rp K (hid H' p) v d → Q v H') → r x H Q
def G2 (K : PySem.W.Frag) (g : D → D → Option D) (r : R2) : Prop := ∀ row p H x y dx dy d Q, Vw row p H → Bo K row (hid H p) H x dx → Bo K row (hid H p) H y dy → g dx dy = some d → (∀ v H', Ex K row H H' → Rp K (hid H' p) v d → Q v H') → r x y H Q
def GA (K : PySem.W.Frag) (g : List D → Option D) (r : List V → Hp → VK → Prop) : Prop := ∀ row p H xs dxs d Q, Vw row p H → BoA K row (hid H p) H xs dxs → g dxs = some d → (∀ v H', Ex K row H H' → Rp K (hid H' p) v d → Q v H') → r xs H Q
def w1 (g : D → Option D) (a : WE) : WE := fun ρ Q => a ρ fun x => ∃ d, g x = some d ∧ Q d
def w2 (g : D → D → Option D) (a b : WE) : WE := fun ρ Q => a ρ fun x => b ρ fun y => ∃ d, g x y = some d ∧ Q d
def wn (g : List D → Option D) (a : WA) : WE := fun ρ Q => a ρ fun xs => ∃ d, g xs = some d ∧ Q d
theorem rd2 {r : R2} {g : D → D → Option D} (hg : G2 X.K g r) {σ : L2.St} {H : Hp} {Q : VK} (h : rdE X.K n τ (w2 g wa wb) σ H Q) : tOp r (rdB X.K n τ wa) (rdB X.K n τ wb) σ H Q := by
  obtain ⟨c, own, row, ρ, P, R, hw, q⟩ := h
  refine ⟨c, own, row, ρ, _, R, hw, fun d v H1 h1 x1 r1 => ⟨c, own, row, ρ, _, R.mono x1, h1, fun d2 v2 H2 h2 x2 r2 => ?_⟩⟩
  obtain ⟨d3, e3, p3⟩ := h2
  exact hg row _ H2 v v2 d d2 d3 Q ((R.mono x1).mono x2).vw (r1.ex (R.mono x1).vw x2) r2 e3 fun v3 H3 x3 r3 => q d3 v3 H3 p3 (x1.trans (x2.trans x3)) r3
theorem rd1 {r : V → Hp → VK → Prop} {g : D → Option D} (hg : G1 X.K g r) {σ : L2.St} {H : Hp} {Q : VK} (h : rdE X.K n τ (w1 g wa) σ H Q) : tUn r (rdB X.K n τ wa) σ H Q := by
  obtain ⟨c, own, row, ρ, P, R, hw, q⟩ := h
  refine ⟨c, own, row, ρ, _, R, hw, fun d v H1 h1 x1 r1 => ?_⟩
  obtain ⟨d3, e3, p3⟩ := h1
  exact hg row _ H1 v d d3 Q (R.mono x1).vw r1 e3 fun v3 H3 x3 r3 => q d3 v3 H3 p3 (x1.trans x3) r3
theorem ve_op {op : Operator} {r : R2} {g : D → D → Option D} (ho : OpR X (binaryOp op) r) (hg : G2 X.K g r) (ha : VB X n τ a wa) (hb : VB X n τ b wb) : VE X n τ (.BinOp a op b pos) (w2 g wa wb) :=
  PE.imp (pe_op ho ha hb) fun _ _ _ h => rd2 hg h
theorem ve_un {op : UnaryOp} {r : V → Hp → VK → Prop} {g : D → Option D} (ho : UnR X (unaryOp op) r) (hg : G1 X.K g r) (ha : VB X n τ a wa) : VE X n τ (.UnaryOp op a pos) (w1 g wa) :=
  PE.imp (pe_un ho ha) fun _ _ _ h => rd1 hg h
theorem ve_cmp {op : CmpOp} {r : R2} {g : D → D → Option D} (ho : OpR X (compareOp op) r) (hg : G2 X.K g r) (ha : VB X n τ a wa) (hb : VB X n τ b wb) (hm : behindInMarks op b = false) : VE X n τ (.Compare a [op] [b] pos) (w2 g wa wb) :=
  PE.imp (pe_cmpR ho ha hb hm) fun _ _ _ h => rd2 hg h
theorem ve_ix {r : R2} {g : D → D → Option D} (ho : IxR X r) (hg : G2 X.K g r) (ha : VB X n τ a wa) (hb : VB X n τ b wb) (hs : PlainIx b) : VE X n τ (.Subscript a b pos) (w2 g wa wb) :=
  PE.imp (pe_ix ho ha hb hs) fun _ _ _ h => rd2 hg h

/-! tests -/
def wtest (w : WE) : WT := fun ρ Q => w ρ fun d => ∃ k, d = .bool k ∧ Q k
theorem vt_cmp {op : CmpOp} {r : R2} {g : D → D → Option D} (ho : OpR X (compareOp op) r) (hg : G2 X.K g r) (ha : VB X n τ a wa) (hb : VB X n τ b wb) (hm : behindInMarks op b = false) : VT X n τ (.Compare a [op] [b] pos) (wtest (w2 g wa wb)) :=
  PT.imp (pt_cmpR ho ha hb hm) fun σ H Q h => by
    obtain ⟨c, own, row, ρ, P, R, hw, q⟩ := h
    refine rd2 hg ⟨c, own, row, ρ, _, R, hw, fun d v H1 h1 x1 r1 => ?_⟩
    obtain ⟨k, rfl, h1⟩ := h1
    cases r1
    exact ⟨k, rfl, q k H1 h1 x1⟩
theorem vt_val (h : VE X n τ e w) (he : ∀ whole, isTrue e X.env whole = (do let v ← whole; standAt e.pos; holding [v] (truthy v)) := by intro _; rfl) : VT X n τ e (wtest w) :=
  PT.imp (pt_val h he) fun σ H Q h => by
    obtain ⟨c, own, row, ρ, P, R, hw, q⟩ := h
    refine ⟨c, own, row, ρ, _, R, hw, fun d v H1 h1 x1 r1 => ?_⟩
    obtain ⟨k, rfl, h1⟩ := h1
    cases r1
    exact ⟨k, rfl, q k H1 h1 x1⟩
def wand (t u : WT) : WT := fun ρ Q => t ρ fun k => if k = true then u ρ Q else Q false
def wor (t u : WT) : WT := fun ρ Q => t ρ fun k => if k = true then Q true else u ρ Q
def wnot (t : WT) : WT := fun ρ Q => t ρ fun k => Q (!k)
variable {ta tb : WT} {rest : List Expr}
theorem vw_and1 (h : VT X n τ a ta) : VW X n τ (.BoolOp .And [a] pos) ta := pw_and1 h
theorem vw_or1 (h : VT X n τ a ta) : VW X n τ (.BoolOp .Or [a] pos) ta := pw_or1 h
theorem vw_and (ha : VT X n τ a ta) (hb : VW X n τ (.BoolOp .And (b :: rest) pos) tb) : VW X n τ (.BoolOp .And (a :: b :: rest) pos) (wand ta tb) :=
  PW.imp (pw_and ha hb) fun σ H Q h => by
    obtain ⟨c, own, row, ρ, P, R, hw, q⟩ := h
    refine ⟨c, own, row, ρ, _, R, hw, fun k H1 h1 x1 => ?_⟩
    cases k with
    | true => rw [if_pos rfl] at h1 ⊢; exact ⟨c, own, row, ρ, _, R.mono x1, h1, fun k2 H2 h2 x2 => q k2 H2 h2 (x1.trans x2)⟩
    | false => rw [if_neg Bool.false_ne_true] at h1 ⊢; exact q false H1 h1 x1
theorem vw_or (ha : VT X n τ a ta) (hb : VW X n τ (.BoolOp .Or (b :: rest) pos) tb) : VW X n τ (.BoolOp .Or (a :: b :: rest) pos) (wor ta tb) :=
  PW.imp (pw_or ha hb) fun σ H Q h => by
    obtain ⟨c, own, row, ρ, P, R, hw, q⟩ := h
    refine ⟨c, own, row, ρ, _, R, hw, fun k H1 h1 x1 => ?_⟩
    cases k with
    | true => rw [if_pos rfl] at h1 ⊢; exact q true H1 h1 x1
    | false => rw [if_neg Bool.false_ne_true] at h1 ⊢; exact ⟨c, own, row, ρ, _, R.mono x1, h1, fun k2 H2 h2 x2 => q k2 H2 h2 (x1.trans x2)⟩
theorem VW.vt (h : VW X n τ e ta) : VT X n τ e ta := PW.pt h
theorem vt_not (h : VT X n τ a ta) : VT X n τ (.UnaryOp .Not a pos) (wnot ta) := PT.imp (pt_not h) fun σ H Q h => by
  obtain ⟨c, own, row, ρ, P, R, hw, q⟩ := h
  exact ⟨c, own, row, ρ, _, R, hw, fun k H1 h1 x1 => q (!k) H1 h1 x1⟩
/-- as values -/
def wandV (a b : WE) : WE := fun ρ Q => a ρ fun x => ∃ k, x = .bool k ∧ if k = true then b ρ Q else Q (.bool false)
def worV (a b : WE) : WE := fun ρ Q => a ρ fun x => ∃ k, x = .bool k ∧ if k = true then Q (.bool true) else b ρ Q
def wnotV (a : WE) : WE := fun ρ Q => a ρ fun x => ∃ k, x = .bool k ∧ Q (.bool (!k))
theorem ve_one {op : BoolOp} (h : VE X n τ a wa) : VE X n τ (.BoolOp op [a] pos) wa := pe_one h
theorem ve_and (ha : VE X n τ a wa) (hb : VE X n τ (.BoolOp .And (b :: rest) pos) wb) : VE X n τ (.BoolOp .And (a :: b :: rest) pos) (wandV wa wb) :=
  PE.imp (pe_and ha hb) fun σ H Q h => by
    obtain ⟨c, own, row, ρ, P, R, hw, q⟩ := h
    refine ⟨c, own, row, ρ, _, R, hw, fun d v H1 h1 x1 r1 => ?_⟩
    obtain ⟨k, rfl, h1⟩ := h1
    cases r1
    refine ⟨k, rfl, ?_⟩
    cases k with
    | true => rw [if_pos rfl] at h1 ⊢; exact ⟨c, own, row, ρ, _, R.mono x1, h1, fun k2 v2 H2 h2 x2 r2 => q k2 v2 H2 h2 (x1.trans x2) r2⟩
    | false => rw [if_neg Bool.false_ne_true] at h1 ⊢; exact q _ _ H1 h1 x1 (.bl false)
theorem ve_or (ha : VE X n τ a wa) (hb : VE X n τ (.BoolOp .Or (b :: rest) pos) wb) : VE X n τ (.BoolOp .Or (a :: b :: rest) pos) (worV wa wb) :=
  PE.imp (pe_or ha hb) fun σ H Q h => by
    obtain ⟨c, own, row, ρ, P, R, hw, q⟩ := h
    refine ⟨c, own, row, ρ, _, R, hw, fun d v H1 h1 x1 r1 => ?_⟩
    obtain ⟨k, rfl, h1⟩ := h1
    cases r1
    refine ⟨k, rfl, ?_⟩
    cases k with
    | true => rw [if_pos rfl] at h1 ⊢; exact q _ _ H1 h1 x1 (.bl true)
    | false => rw [if_neg Bool.false_ne_true] at h1 ⊢; exact ⟨c, own, row, ρ, _, R.mono x1, h1, fun k2 v2 H2 h2 x2 r2 => q k2 v2 H2 h2 (x1.trans x2) r2⟩
theorem ve_not (ha : VE X n τ a wa) : VE X n τ (.UnaryOp .Not a pos) (wnotV wa) := PE.imp (pe_not ha) fun σ H Q h => by
  obtain ⟨c, own, row, ρ, P, R, hw, q⟩ := h
  refine ⟨c, own, row, ρ, _, R, hw, fun d v H1 h1 x1 r1 => ?_⟩
  obtain ⟨k, rfl, h1⟩ := h1
  cases r1
  exact ⟨k, rfl, q _ _ H1 h1 x1 (.bl _)⟩
def wif (t : WT) (a b : WE) : WE := fun ρ Q => t ρ fun k => if k = true then a ρ Q else b ρ Q
theorem ve_if {t : Expr} {tt : WT} (ht : VT X n τ t tt) (ha : VE X n τ a wa) (hb : VE X n τ b wb) : VE X n τ (.IfExp t a b pos) (wif tt wa wb) := PE.imp (pe_ifExp ht ha hb) fun σ H Q h => by
  obtain ⟨c, own, row, ρ, P, R, hw, q⟩ := h
  refine ⟨c, own, row, ρ, _, R, hw, fun k H1 h1 x1 => ?_⟩
  cases k with
  | true => rw [if_pos rfl] at h1 ⊢; exact ⟨c, own, row, ρ, _, R.mono x1, h1, fun k2 v2 H2 h2 x2 r2 => q k2 v2 H2 h2 (x1.trans x2) r2⟩
  | false => rw [if_neg Bool.false_ne_true] at h1 ⊢; exact ⟨c, own, row, ρ, _, R.mono x1, h1, fun k2 v2 H2 h2 x2 r2 => q k2 v2 H2 h2 (x1.trans x2) r2⟩
/-- a < b < c as a value -/
def wchain (g g' : D → D → Option D) (a b c : WE) : WE := fun ρ Q => a ρ fun x => b ρ fun y => ∃ z, g x y = some z ∧ ∃ k, z = .bool k ∧ if k = true then c ρ fun u => ∃ d, g' y u = some d ∧ Q d else Q (.bool false)

/-! arguments, displays -/
def wnil : WA := fun _ Q => Q []
def wcons (a : WE) (r : WA) : WA := fun ρ Q => a ρ fun x => r ρ fun xs => Q (x :: xs)
theorem va_nil : VA X n τ [] wnil := PA.imp pa_nil fun σ H Q ⟨c, own, row, ρ, P, R, hw, q⟩ => q [] [] H hw .refl .nil
theorem va_cons {wr : WA} (ha : VB X n τ e wa) (hr : VA X n τ es wr) (hs : starEach (e :: es) X.env = (false, eval e X.env) :: starEach es X.env := by rfl) : VA X n τ (e :: es) (wcons wa wr) :=
  PA.imp (pa_cons ha hr hs) fun σ H Q h => by
    obtain ⟨c, own, row, ρ, P, R, hw, q⟩ := h
    refine ⟨c, own, row, ρ, _, R, hw, fun d v H1 h1 x1 r1 => ⟨c, own, row, ρ, _, R.mono x1, h1, fun ds vs H2 h2 x2 r2 => ?_⟩⟩
    exact q (d :: ds) (v :: vs) H2 h2 (x1.trans x2) (.cons (r1.ex (R.mono x1).vw x2) r2)
theorem vs_nil : VAs X n τ [] wnil := PA.imp pa_nil fun σ H Q ⟨c, own, row, ρ, P, R, hw, q⟩ => q [] [] H hw .refl .nil
theorem vs_cons {wr : WA} (ha : VE X n τ e wa) (hr : VAs X n τ es wr) (hs : starEach (e :: es) X.env = (false, eval e X.env) :: starEach es X.env := by rfl) : VAs X n τ (e :: es) (wcons wa wr) :=
  PA.imp (pa_cons ha hr hs) fun σ H Q h => by
    obtain ⟨c, own, row, ρ, P, R, hw, q⟩ := h
    refine ⟨c, own, row, ρ, _, R, hw, fun d v H1 h1 x1 r1 => ⟨c, own, row, ρ, _, R.mono x1, h1, fun ds vs H2 h2 x2 r2 => ?_⟩⟩
    exact q (d :: ds) (v :: vs) H2 h2 (x1.trans x2) (.cons (r1.mono (x2.vis' (R.mono x1).vw)) r2)
theorem ve_callB {x id : String} {r : List V → Hp → VK → Prop} {g : List D → Option D} {wr : WA} {p : Pos} (hc : CallR X (.builtin id) r) (hg : GA X.K g r) (hgl : Gl X x) (hm : X.mg x = none) (hv : bootBuiltins x = some (.builtin id)) (ha : VA X n τ (e :: es) wr) (hn : ((x : String) : Str) ≠ "__name__" := by decide) (hdb : (((x : String) : Str) == ("__debug__" : Str)) = false := by decide)
    (hs : starEach (e :: es) X.env = (false, eval e X.env) :: starEach es X.env := by rfl) (hs2 : ((backTo pos (starEach es X.env)).any fun x => x.fst) = false := by rfl) : VE X n τ (.Call (.Name x p) (e :: es) [] pos) (wn g wr) :=
  PE.imp (pe_callB hc hgl hm hv ha hn hdb hs hs2) fun σ H Q h => by
    obtain ⟨c, own, row, ρ, P, R, hw, q⟩ := h
    refine ⟨c, own, row, ρ, _, R, hw, fun ds vs H1 h1 x1 r1 => ?_⟩
    obtain ⟨d3, e3, p3⟩ := h1
    exact hg row _ H1 vs ds d3 Q (R.mono x1).vw r1 e3 fun v3 H3 x3 r3 => q d3 v3 H3 p3 (x1.trans x3) r3
theorem ve_callTy {x T : String} {r : List V → Hp → VK → Prop} {g : List D → Option D} {wr : WA} {p : Pos} (hc : CallR X (.type T) r) (hg : GA X.K g r) (hgl : Gl X x) (hm : X.mg x = none) (hv : bootBuiltins x = some (.type T)) (ha : VA X n τ (e :: es) wr) (hn : ((x : String) : Str) ≠ "__name__" := by decide) (hdb : (((x : String) : Str) == ("__debug__" : Str)) = false := by decide)
    (hs : starEach (e :: es) X.env = (false, eval e X.env) :: starEach es X.env := by rfl) (hs2 : ((backTo pos (starEach es X.env)).any fun x => x.fst) = false := by rfl) : VE X n τ (.Call (.Name x p) (e :: es) [] pos) (wn g wr) :=
  PE.imp (pe_callTy hc hgl hm hv ha hn hdb hs hs2) fun σ H Q h => by
    obtain ⟨c, own, row, ρ, P, R, hw, q⟩ := h
    refine ⟨c, own, row, ρ, _, R, hw, fun ds vs H1 h1 x1 r1 => ?_⟩
    obtain ⟨d3, e3, p3⟩ := h1
    exact hg row _ H1 vs ds d3 Q (R.mono x1).vw r1 e3 fun v3 H3 x3 r3 => q d3 v3 H3 p3 (x1.trans x3) r3
def wtup (a : WA) : WE := fun ρ Q => a ρ fun ds => ds.length ≤ sizeLine ∧ Q (.tuple ds)
def wlst (a : WA) : WE := fun ρ Q => a ρ fun ds => ds.length ≤ sizeLine ∧ Q (.list ds)
theorem ve_tup {wr : WA} {x1 : Nat} (h : VAs X n τ es wr) : VE X n τ (.Tuple es x1 pos) (wtup wr) := PE.imp (pe_tup h) fun σ H Q h => by
  obtain ⟨c, own, row, ρ, P, R, hw, q⟩ := h
  refine ⟨c, own, row, ρ, _, R, hw, fun ds vs H1 h1 x1 r1 => ?_⟩
  obtain ⟨hz, h1⟩ := h1
  refine ⟨by rw [r1.len]; exact hz, fun p hp => ?_⟩
  refine q _ _ _ h1 (x1.trans (.upd hp)) (.tup (hid_upd ((R.mono x1).hd_new hp)) (r1.mono ((Ex.upd (K := X.K) hp).vis' (R.mono x1).vw)))
theorem ve_lst {wr : WA} (h : VAs X n τ es wr) : VE X n τ (.List es pos) (wlst wr) := PE.imp (pe_lst h) fun σ H Q h => by
  obtain ⟨c, own, row, ρ, P, R, hw, q⟩ := h
  refine ⟨c, own, row, ρ, _, R, hw, fun ds vs H1 h1 x1 r1 => ?_⟩
  obtain ⟨hz, h1⟩ := h1
  refine ⟨by rw [r1.len]; exact hz, fun p hp => ?_⟩
  refine q _ _ _ h1 (x1.trans (.upd hp)) (.lst (hid_upd ((R.mono x1).hd_new hp)) (r1.mono ((Ex.upd (K := X.K) hp).vis' (R.mono x1).vw)))
end
end VS
/-! VSC: the operators and built-ins on data. -/
namespace VS
open PySem PySem.Spec PyProof.Rows L2

/-! ### data -/
def keyOf : D → Option Key
  | .int i => some (.inl i)
  | .str x => some (.inr x)
  | _ => none
theorem keyOf_some {d : D} {k : Key} (h : keyOf d = some k) : d = keyD k := by
  cases d <;> simp [keyOf] at h <;> subst h <;> rfl
def keysOfL : List D → Option (List Key)
  | [] => some []
  | d :: r => match keyOf d, keysOfL r with
    | some k, some ks => some (k :: ks)
    | _, _ => none
theorem keysOfL_some : ∀ {ds : List D} {ks : List Key}, keysOfL ds = some ks → ds = ks.map keyD
  | [], ks, h => by simp [keysOfL] at h; subst h; rfl
  | d :: r, ks, h => by
    unfold keysOfL at h
    split at h
    · rename_i k ks' h1 h2
      cases h
      rw [List.map_cons, keyOf_some h1, keysOfL_some h2]
    · cases h
def keysOf : D → Option (List Key)
  | .tuple ds => keysOfL ds
  | _ => none
theorem keysOf_some {d : D} {ks : List Key} (h : keysOf d = some ks) : d = .tuple (ks.map keyD) := by
  cases d <;> simp [keysOf] at h
  rw [keysOfL_some h]
theorem eqv_keyD (a b : Key) : PyData.eqv (keyD a) (keyD b) = decide (a = b) := by
  cases a with
  | inl i => cases b with
    | inl j => simp [keyD, PyData.eqv]; exact Bool.beq_eq_decide_eq i j
    | inr y => simp [keyD, PyData.eqv]
  | inr x => cases b with
    | inl j => simp [keyD, PyData.eqv]
    | inr y => simp [keyD, PyData.eqv]; exact Bool.beq_eq_decide_eq x y
theorem eqvAll_keyD : ∀ a b : List Key, PyData.eqvAll (a.map keyD) (b.map keyD) = decide (a = b)
  | [], [] => by simp [PyData.eqvAll]
  | [], _ :: _ => by simp [PyData.eqvAll]
  | _ :: _, [] => by simp [PyData.eqvAll]
  | x :: a, y :: b => by
    rw [List.map_cons, List.map_cons, PyData.eqvAll, eqv_keyD, eqvAll_keyD a b]
    by_cases h : x = y <;> simp [h]
theorem eqv_keyT (a b : List Key) : PyData.eqv (.tuple (a.map keyD)) (.tuple (b.map keyD)) = decide (a = b) := by
  rw [PyData.eqv, eqvAll_keyD]
/-- what the entries hold at a key -/
def dval (ds : List (D × D)) (k : D) : Option D := (ds.find? fun kv => PyData.eqv kv.1 k).map (·.2)
/-- the entries with a key set -/
def dput (ds : List (D × D)) (k v : D) : List (D × D) := if ds.any (fun kv => PyData.eqv kv.1 k) then ds.map fun kv => if PyData.eqv kv.1 k then (kv.1, v) else kv else ds ++ [(k, v)]
/-- entries for tuple keys begin with a mark -/
def dsplit : List (D × D) → Bool × List (D × D)
  | (.none, _) :: r => (true, r)
  | r => (false, r)
def dkeyOk (t : Bool) (k : D) : Bool := if t then (keysOf k).isSome else (keyOf k).isSome
def dlook (ds : List (D × D)) (k : D) : Option (Option D) := if dkeyOk (dsplit ds).1 k then some (dval (dsplit ds).2 k) else none
section
variable {K : PySem.W.Frag} {row : Option Addr} {p : Addr → Bool} {H : Hp} {F : Hp}
theorem RpK.nomark : ∀ {kvs : List (Key × V)} {ds : List (D × D)}, RpK K F kvs ds → dsplit ds = (false, ds)
  | _, _, .nil => rfl
  | _, _, .cons (k := k) _ _ => by cases k <;> rfl
theorem RpK.val {k : Key} : ∀ {kvs : List (Key × V)} {ds : List (D × D)}, RpK K F kvs ds → (valV kvs k = none ∧ dval ds (keyD k) = none) ∨ ∃ v d, valV kvs k = some v ∧ dval ds (keyD k) = some d ∧ Rp K F v d
  | _, _, .nil => .inl ⟨rfl, rfl⟩
  | _, _, .cons (k := j) (v := v) (kvs := kvs) (d := d) (ds := ds) h t => by
    unfold valV dval
    rw [List.find?_cons, List.find?_cons]
    show (_ = none ∧ Option.map _ (match PyData.eqv (keyD j) (keyD k) with | true => _ | false => _) = none) ∨ ∃ v d, _ ∧ Option.map _ (match PyData.eqv (keyD j) (keyD k) with | true => _ | false => _) = some d ∧ _
    rw [eqv_keyD]
    by_cases e : j = k
    · rw [decide_eq_true e]
      exact .inr ⟨v, d, rfl, rfl, h⟩
    · rw [decide_eq_false e]
      exact RpK.val t
theorem RpT.val {k : List Key} : ∀ {kvs : List (List Key × V)} {ds : List (D × D)}, RpT K F kvs ds → (valV kvs k = none ∧ dval ds (.tuple (k.map keyD)) = none) ∨ ∃ v d, valV kvs k = some v ∧ dval ds (.tuple (k.map keyD)) = some d ∧ Rp K F v d
  | _, _, .nil => .inl ⟨rfl, rfl⟩
  | _, _, .cons (k := j) (v := v) (kvs := kvs) (d := d) (ds := ds) h t => by
    unfold valV dval
    rw [List.find?_cons, List.find?_cons]
    show (_ = none ∧ Option.map _ (match PyData.eqv (.tuple (j.map keyD)) (.tuple (k.map keyD)) with | true => _ | false => _) = none) ∨ ∃ v d, _ ∧ Option.map _ (match PyData.eqv (.tuple (j.map keyD)) (.tuple (k.map keyD)) with | true => _ | false => _) = some d ∧ _
    rw [eqv_keyT]
    by_cases e : j = k
    · rw [decide_eq_true e]
      exact .inr ⟨v, d, rfl, rfl, h⟩
    · rw [decide_eq_false e]
      exact RpT.val t
theorem Bo.key {v : V} {k : Key} (h : Bo K row (hid H p) H v (keyD k)) : v = kV k := by
  cases k with
  | inl i => exact h.int
  | inr x => exact h.str
theorem RpA.keys : ∀ {ks : List Key} {xs : List V}, RpA K F xs (ks.map keyD) → xs = ks.map kV
  | [], _, h => by cases h; rfl
  | k :: ks, _, h => by
    cases h with
    | cons h t =>
      rw [RpA.keys t, List.map_cons]
      cases k <;> cases h <;> rfl
/-- a tuple of keys stands in the heap (tracked) -/
theorem Bo.keys {v : V} {ks : List Key} (h : Bo K row (hid H p) H v (.tuple (ks.map keyD))) : ∃ a, v = .ref a ∧ H a = some (.tup (ks.map kV)) := by
  obtain ⟨a, xs, rfl, h1, _, h2⟩ := h.tup
  rw [h2.keys] at h1
  exact ⟨a, rfl, h1⟩
end
end VS
/-! VSD: the operators and built-ins on data: their rules. -/
namespace VS
open PySem PySem.Spec PyProof.Rows L2

/-! ### data as PyData of the deep rules -/
mutual
theorem Rp.dp {K : PySem.W.Frag} {H : Hp} : ∀ {v : V} {d : D}, Rp K H v d → d.canLay0 = true → Dp K H v d
  | _, _, .non, _ => .non
  | _, _, .bl b, _ => .bl b
  | _, _, .int i, _ => .int i
  | _, _, .str x, _ => .str x
  | _, _, .lst h t, c => .lst (.of h) (RpA.dp t (by simpa [PyData.canLay0] using c))
  | _, _, .tup h t, c => .tup (.of h) (RpA.dp t (by simpa [PyData.canLay0] using c))
  | _, _, .dK h t, c => by simp [PyData.canLay0] at c
  | _, _, .dT h t, c => by simp [PyData.canLay0] at c
theorem RpA.dp {K : PySem.W.Frag} {H : Hp} : ∀ {v : List V} {d : List D}, RpA K H v d → PyData.canLayAll0 d = true → DpAll K H v d
  | _, _, .nil, _ => .nil
  | _, _, .cons h t, c => by
    rw [PyData.canLayAll0, Bool.and_eq_true] at c
    exact .cons (Rp.dp h c.1) (RpA.dp t c.2)
end
theorem Bo.dp {K : PySem.W.Frag} {row : Option Addr} {p : Addr → Bool} {H : Hp} {v : V} {d : D} (h : Bo K row (hid H p) H v d) (s : SeqAt.shaped d = true) : Dp K H v d := (h.rp hid_le).dp (SeqAt.canLay_of_shaped s)

section
variable {X : Cx} {K : PySem.W.Frag}
/-! ### + - * // % ** -/
def dAdd : D → D → Option D
  | .int i, .int j => some (.int (i + j))
  | .list xs, .list ys => if xs.length + ys.length ≤ sizeLine then some (.list (xs ++ ys)) else none
  | .tuple xs, .tuple ys => if xs.length + ys.length ≤ sizeLine then some (.tuple (xs ++ ys)) else none
  | .str x, .str y => if x.length + y.length ≤ sizeLine then some (.str (x ++ y)) else none
  | _, _ => none
def rAddA (K : PySem.W.Frag) : R2 := fun x y H Q => rI0 (fun i j => .int (i + j)) x y H Q ∨ (rCat x y H Q ∨ (rCatA K x y H Q ∨ ∃ i j, x = .str i ∧ y = .str j ∧ i.length + j.length ≤ sizeLine ∧ Q (.str (i ++ j)) H))
theorem o_add : OpR X (binaryOp .Add) (rAddA X.K) := op_add.or (op_cat.or (op_catA.or op_add_str))
theorem g_add : G2 K dAdd (rAddA K) := by
  intro row p H x y dx dy d Q w hx hy e q
  cases dx <;> cases dy <;> simp only [dAdd] at e <;> try (cases e; done)
  · cases e; exact .inl ⟨_, _, hx.int, hy.int, q _ H .refl (.int _)⟩
  · split at e
    · rename_i hz; cases e
      exact .inr (.inr (.inr ⟨_, _, hx.str, hy.str, hz, q _ H .refl (.str _)⟩))
    · cases e
  · split at e
    · rename_i hz; cases e
      obtain ⟨a, xs, rfl, h1, h2⟩ := hx.lst
      obtain ⟨b, ys, rfl, h3, h4⟩ := hy.lst
      refine .inr (.inl ⟨a, b, xs, ys, rfl, rfl, h1, h3, by rw [h2.len, h4.len]; exact hz, fun r hr => q _ _ (.upd hr) (.lst (hid_upd (w.new r hr)) ((h2.append h4).mono ((Ex.upd (K := K) hr).vis' w)))⟩)
    · cases e
  · split at e
    · rename_i hz; cases e
      obtain ⟨a, xs, rfl, h1, h1', h2⟩ := hx.tup
      obtain ⟨b, ys, rfl, h3, h3', h4⟩ := hy.tup
      refine .inr (.inr (.inl ⟨a, b, xs, ys, rfl, rfl, .of h1, .of h3, by rw [h2.len, h4.len]; exact hz, fun z => ?_, fun _ z => ?_, fun _ _ r hr => q _ _ (.upd hr) (.tup (hid_upd (w.new r hr)) ((h2.append h4).mono ((Ex.upd (K := K) hr).vis' w)))⟩))
      · subst z; cases h2; exact q _ H .refl (.tup h3' h4)
      · subst z; cases h4; rw [List.append_nil] at q; exact q _ H .refl (.tup h1' h2)
    · cases e
def dSub : D → D → Option D
  | .int i, .int j => some (.int (i - j))
  | _, _ => none
theorem g_sub : G2 K dSub (rI0 fun i j => .int (i - j)) := by
  intro row p H x y dx dy d Q w hx hy e q
  cases dx <;> cases dy <;> simp only [dSub] at e <;> try (cases e; done)
  cases e; exact ⟨_, _, hx.int, hy.int, q _ H .refl (.int _)⟩
def inB (i : Int) : Bool := decide (-(2 ^ 64) < i) && decide (i < 2 ^ 64)
def dMul : D → D → Option D
  | .int i, .int j => if inB i || inB j then some (.int (i * j)) else none
  | .list xs, .int k => if -(2 ^ 63) ≤ k ∧ k < 2 ^ 63 ∧ xs.length * k.toNat ≤ sizeLine then some (.list (List.replicate k.toNat xs).flatten) else none
  | .tuple xs, .int k => if xs ≠ [] ∧ 2 ≤ k ∧ k ≤ 1000 ∧ xs.length ≤ 1000 then some (.tuple (List.replicate k.toNat xs).flatten) else none
  | _, _ => none
theorem RpA.rep {F : Hp} {v : List V} {d : List D} (h : RpA K F v d) : ∀ k : Nat, RpA K F (List.replicate k v).flatten (List.replicate k d).flatten
  | 0 => .nil
  | k + 1 => by
    rw [List.replicate_succ, List.replicate_succ, List.flatten_cons, List.flatten_cons]
    exact h.append (RpA.rep h k)
def rMulA (K : PySem.W.Frag) : R2 := fun x y H Q => rI CMul (fun i j => .int (i * j)) x y H Q ∨ (rRep x y H Q ∨ rRepT K x y H Q)
theorem o_mul : OpR X (binaryOp .Mult) (rMulA X.K) := op_mul.or (op_rep.or op_repT)
theorem g_mul : G2 K dMul (rMulA K) := by
  intro row p H x y dx dy d Q w hx hy e q
  cases dx <;> cases dy <;> simp only [dMul] at e <;> try (cases e; done)
  · split at e
    · rename_i hz; cases e
      refine .inl ⟨_, _, hx.int, hy.int, ?_, q _ H .refl (.int _)⟩
      simp only [inB, Bool.or_eq_true, Bool.and_eq_true, decide_eq_true_eq] at hz
      exact hz
    · cases e
  · split at e
    · rename_i hz; cases e
      obtain ⟨a, xs, rfl, h1, h2⟩ := hx.lst
      refine .inr (.inl ⟨a, _, xs, rfl, hy.int, h1, hz.1, hz.2.1, by rw [h2.len]; exact hz.2.2, fun r hr => q _ _ (.upd hr) (.lst (hid_upd (w.new r hr)) ((h2.rep _).mono ((Ex.upd (K := K) hr).vis' w)))⟩)
    · cases e
  · split at e
    · rename_i hz; cases e
      obtain ⟨a, xs, rfl, h1, h1', h2⟩ := hx.tup
      refine .inr (.inr ⟨a, _, xs, rfl, hy.int, .of h1, fun z => ?_, hz.2.1, hz.2.2.1, by rw [h2.len]; exact hz.2.2.2, fun r hr => q _ _ (.upd hr) (.tup (hid_upd (w.new r hr)) ((h2.rep _).mono ((Ex.upd (K := K) hr).vis' w)))⟩)
      subst z; cases h2; exact hz.1 rfl
    · cases e
def dFdiv : D → D → Option D
  | .int i, .int j => if j ≠ 0 ∧ j.natAbs < 1073741824 then some (.int (i.fdiv j)) else none
  | _, _ => none
theorem g_fdiv : G2 K dFdiv (rI CDivN fun i j => .int (i.fdiv j)) := by
  intro row p H x y dx dy d Q w hx hy e q
  cases dx <;> cases dy <;> simp only [dFdiv] at e <;> try (cases e; done)
  split at e
  · rename_i hz; cases e; exact ⟨_, _, hx.int, hy.int, hz, q _ H .refl (.int _)⟩
  · cases e
def dMod : D → D → Option D
  | .int i, .int j => if j ≠ 0 then some (.int (i.fmod j)) else none
  | _, _ => none
theorem g_mod : G2 K dMod (rI (fun _ j => j ≠ 0) fun i j => .int (i.fmod j)) := by
  intro row p H x y dx dy d Q w hx hy e q
  cases dx <;> cases dy <;> simp only [dMod] at e <;> try (cases e; done)
  split at e
  · rename_i hz; cases e; exact ⟨_, _, hx.int, hy.int, hz, q _ H .refl (.int _)⟩
  · cases e
def dPow : D → D → Option D
  | .int i, .int j => if 0 ≤ j ∧ j ≤ 1000000 ∧ i.natAbs < 2 ^ 64 then some (.int (i ^ j.toNat)) else none
  | _, _ => none
theorem g_pow : G2 K dPow (rI CPow fun i j => .int (i ^ j.toNat)) := by
  intro row p H x y dx dy d Q w hx hy e q
  cases dx <;> cases dy <;> simp only [dPow] at e <;> try (cases e; done)
  split at e
  · rename_i hz; cases e; exact ⟨_, _, hx.int, hy.int, hz, q _ H .refl (.int _)⟩
  · cases e
def dNeg : D → Option D
  | .int i => some (.int (-i))
  | _ => none
theorem g_neg : G1 K dNeg (rU fun i => .int (-i)) := by
  intro row p H x dx d Q w hx e q
  cases dx <;> simp only [dNeg] at e <;> try (cases e; done)
  cases e; exact ⟨_, hx.int, q _ H .refl (.int _)⟩

/-! ### comparisons -/
def dEq (x y : D) : Option D := if SeqAt.shaped x = true ∧ SeqAt.shaped y = true then some (.bool (PyData.eqv x y)) else none
def dNe (x y : D) : Option D := if SeqAt.shaped x = true ∧ SeqAt.shaped y = true then some (.bool (!PyData.eqv x y)) else none
theorem g_eq : G2 K dEq (rEqD K) := by
  intro row p H x y dx dy d Q w hx hy e q
  unfold dEq at e
  split at e
  · rename_i hz; cases e; exact ⟨dx, dy, hx.dp hz.1, hy.dp hz.2, hz.1, hz.2, q _ H .refl (.bl _)⟩
  · cases e
theorem g_ne : G2 K dNe (rNeD K) := by
  intro row p H x y dx dy d Q w hx hy e q
  unfold dNe at e
  split at e
  · rename_i hz; cases e; exact ⟨dx, dy, hx.dp hz.1, hy.dp hz.2, hz.1, hz.2, q _ H .refl (.bl _)⟩
  · cases e
def dLt : D → D → Option D
  | .int i, .int j => some (.bool (decide (i < j)))
  | _, _ => none
def dGt : D → D → Option D
  | .int i, .int j => some (.bool (decide (j < i)))
  | _, _ => none
def dGe : D → D → Option D
  | .int i, .int j => some (.bool (decide (j ≤ i)))
  | _, _ => none
theorem g_lt : G2 K dLt (rI0 fun i j => .bl (decide (i < j))) := by
  intro row p H x y dx dy d Q w hx hy e q
  cases dx <;> cases dy <;> simp only [dLt] at e <;> try (cases e; done)
  cases e; exact ⟨_, _, hx.int, hy.int, q _ H .refl (.bl _)⟩
theorem g_gt : G2 K dGt (rI0 fun i j => .bl (decide (j < i))) := by
  intro row p H x y dx dy d Q w hx hy e q
  cases dx <;> cases dy <;> simp only [dGt] at e <;> try (cases e; done)
  cases e; exact ⟨_, _, hx.int, hy.int, q _ H .refl (.bl _)⟩
theorem g_ge : G2 K dGe (rI0 fun i j => .bl (decide (j ≤ i))) := by
  intro row p H x y dx dy d Q w hx hy e q
  cases dx <;> cases dy <;> simp only [dGe] at e <;> try (cases e; done)
  cases e; exact ⟨_, _, hx.int, hy.int, q _ H .refl (.bl _)⟩
def intsOf : List D → Option (List Int)
  | [] => some []
  | .int i :: r => (intsOf r).map (i :: ·)
  | _ :: _ => none
theorem intsOf_some : ∀ {ds : List D} {ns : List Int}, intsOf ds = some ns → ds = ns.map .int
  | [], ns, h => by simp [intsOf] at h; subst h; rfl
  | d :: r, ns, h => by
    cases d <;> simp [intsOf] at h
    obtain ⟨m, h1, rfl⟩ := h
    rw [intsOf_some h1]; rfl
theorem intsOf_map : ∀ ns : List Int, intsOf (ns.map .int) = some ns
  | [] => rfl
  | i :: r => by
    show (intsOf (r.map .int)).map (i :: ·) = _
    rw [intsOf_map r]; rfl
theorem RpA.ints {F : Hp} : ∀ {ns : List Int} {xs : List V}, RpA K F xs (ns.map .int) → xs = ns.map V.int
  | [], _, h => by cases h; rfl
  | k :: ks, _, h => by
    cases h with
    | cons h t => rw [RpA.ints t, List.map_cons]; cases h; rfl
theorem rpa_ints {F : Hp} : ∀ ns : List Int, RpA K F (ns.map V.int) (ns.map .int)
  | [] => .nil
  | i :: r => .cons (.int i) (rpa_ints r)
def tupLe (ns ms : List Int) : Bool := Ob.lexAt (fun j => decide (ns.getD j 0 = ms.getD j 0)) (fun j => decide (ns.getD j 0 ≤ ms.getD j 0)) (decide (ns.length ≤ ms.length)) 0 (min ns.length ms.length)
def dLe : D → D → Option D
  | .int i, .int j => some (.bool (decide (i ≤ j)))
  | .tuple xs, .tuple ys => match intsOf xs, intsOf ys with
    | some ns, some ms => some (.bool (tupLe ns ms))
    | _, _ => none
  | _, _ => none
def rLeA (K : PySem.W.Frag) : R2 := fun x y H Q => rI0 (fun i j => .bl (decide (i ≤ j))) x y H Q ∨ rLeT K x y H Q
theorem o_le (hu : X.A.units < cLine) : OpR X (compareOp .LtE) (rLeA X.K) := op_le.or (op_leT hu)
theorem g_le : G2 K dLe (rLeA K) := by
  intro row p H x y dx dy d Q w hx hy e q
  cases dx <;> cases dy <;> simp only [dLe] at e <;> try (cases e; done)
  · cases e; exact .inl ⟨_, _, hx.int, hy.int, q _ H .refl (.bl _)⟩
  · split at e
    · rename_i ns ms h1 h2
      cases e
      have h1 := intsOf_some h1
      have h2 := intsOf_some h2
      subst h1 h2
      obtain ⟨a, xs, rfl, k1, k1', k2⟩ := hx.tup
      obtain ⟨b, ys, rfl, k3, k3', k4⟩ := hy.tup
      rw [k2.ints] at k1
      rw [k4.ints] at k3
      exact .inr ⟨a, b, ns, ms, rfl, rfl, .of k1, .of k3, q _ H .refl (.bl _)⟩
    · cases e
/-- is None -/
def isNoD : D → Bool
  | .none => true
  | _ => false
def dIsN : D → D → Option D
  | x, .none => some (.bool (isNoD x))
  | _, _ => none
def dNotN : D → D → Option D
  | x, .none => some (.bool (!isNoD x))
  | _, _ => none
theorem Bo.isN {row : Option Addr} {F H : Hp} {v : V} {d : D} (h : Bo K row F H v d) : decide (v = .non) = isNoD d := by
  rcases h with h | ⟨a, rfl, h2, ⟨_, _, _, _, rfl⟩ | ⟨_, _, _, _, rfl⟩ | ⟨_, _, _, _, rfl⟩⟩
  · cases h <;> rfl
  · rfl
  · rfl
  · rfl
theorem g_isN : G2 K dIsN (fun x y H Q => y = .non ∧ Q (.bl (decide (x = .non))) H) := by
  intro row p H x y dx dy d Q w hx hy e q
  cases dy <;> simp only [dIsN] at e <;> try (cases e; done)
  cases e; exact ⟨hy.non, q _ H .refl (by rw [hx.isN]; exact .bl _)⟩
theorem g_notN : G2 K dNotN (fun x y H Q => y = .non ∧ Q (.bl (!decide (x = .non))) H) := by
  intro row p H x y dx dy d Q w hx hy e q
  cases dy <;> simp only [dNotN] at e <;> try (cases e; done)
  cases e; exact ⟨hy.non, q _ H .refl (by rw [hx.isN]; exact .bl _)⟩

/-! ### in -/
def flatD : D → Bool
  | .none | .bool _ | .int _ | .str _ => true
  | _ => false
theorem Bo.flat {row : Option Addr} {F H : Hp} {v : V} {d : D} (h : Bo K row F H v d) (f : flatD d = true) : Rp K F v d ∧ flatV v = true := by
  rcases h with h | ⟨a, rfl, h2, ⟨_, _, _, _, rfl⟩ | ⟨_, _, _, _, rfl⟩ | ⟨_, _, _, _, rfl⟩⟩
  · refine ⟨h, ?_⟩
    cases h <;> first | rfl | cases f
  · cases f
  · cases f
  · cases f
theorem flat_eqv {F : Hp} {v u : V} {d e : D} (h : Rp K F v d) (k : Rp K F u e) (fd : flatD d = true) (fe : flatD e = true) : eqV v u = PyData.eqv d e := by
  cases h <;> cases k <;> simp_all [flatD, eqV, PyData.eqv] <;> first | rfl | (exact (Bool.beq_eq_decide_eq _ _).symm) | skip
theorem RpA.flat {F : Hp} : ∀ {vs : List V} {ds : List D}, RpA K F vs ds → ds.all flatD = true → vs.all flatV = true
  | _, _, .nil, _ => rfl
  | _, _, .cons h t, f => by
    rw [List.all_cons, Bool.and_eq_true] at f ⊢
    exact ⟨(Bo.flat (row := none) (H := F) (.inl h) f.1).2, RpA.flat t f.2⟩
theorem RpA.inV {F : Hp} {x : V} {e : D} (hx : Rp K F x e) (fe : flatD e = true) : ∀ {vs : List V} {ds : List D}, RpA K F vs ds → ds.all flatD = true → L2.inV x vs = ds.any fun z => PyData.eqv z e
  | _, _, .nil, _ => rfl
  | _, _, .cons h t, f => by
    rw [List.all_cons, Bool.and_eq_true] at f
    show (eqV _ x || _) = (_ || _)
    rw [flat_eqv h hx f.1 fe]
    congr 1
    exact RpA.inV hx fe t f.2
def inD (x : D) : D → Option Bool
  | .list ds => if SeqAt.shaped x = true ∧ SeqAt.shaped (.list ds) = true then some (ds.any fun z => PyData.eqv z x) else none
  | .tuple ds => if flatD x = true ∧ ds.all flatD = true then some (ds.any fun z => PyData.eqv z x) else none
  | .dict ds => (dlook ds x).map Option.isSome
  | _ => none
def dIn (x y : D) : Option D := (inD x y).map .bool
def dNotIn (x y : D) : Option D := (inD x y).map fun b => .bool (!b)
theorem op_in_dict (hu : X.A.units + 1 < cLine) : OpR X (compareOp .In) (fun y x H Q => ∃ a o, x = .ref a ∧ DGet H a y o ∧ Q (.bl o.isSome) H) := by
  intro pins s σ H x y v u Q I rx ry h
  obtain ⟨a, o, rfl, g, q⟩ := h
  cases ry
  exact d_in hu I g rx fun s' I' => ⟨.bl _, H, I', rfl, q⟩
theorem op_notIn_dict (hu : X.A.units + 1 < cLine) : OpR X (compareOp .NotIn) (fun y x H Q => ∃ a o, x = .ref a ∧ DGet H a y o ∧ Q (.bl (!o.isSome)) H) := by
  intro pins s σ H x y v u Q I rx ry h
  obtain ⟨a, o, rfl, g, q⟩ := h
  cases ry
  exact d_notIn hu I g rx fun s' I' => ⟨.bl _, H, I', rfl, q⟩
/-- a look-up -/
theorem look_get {row : Option Addr} {p : Addr → Bool} {H : Hp} {x y : V} {k : D} {ds : List (D × D)} {o : Option D} (hx : Bo K row (hid H p) H x (.dict ds)) (hy : Bo K row (hid H p) H y k) (h : dlook ds k = some o) :
    ∃ a r, x = .ref a ∧ DGet H a y r ∧ ((r = none ∧ o = none) ∨ ∃ v d, r = some v ∧ o = some d ∧ Rp K (hid H p) v d) := by
  obtain ⟨a, rfl, h1⟩ := hx.dic
  unfold dlook at h
  split at h
  · rename_i hk
    cases h
    rcases h1 with ⟨kvs, h1, h2⟩ | ⟨kvs, ds', h1, rfl, h2⟩
    · rw [h2.nomark] at hk ⊢
      obtain ⟨kk, hkk⟩ := Option.isSome_iff_exists.mp (show (keyOf k).isSome = true from hk)
      have := keyOf_some hkk
      subst this
      rw [hy.key]
      refine ⟨a, _, rfl, DGet.k h1, ?_⟩
      rcases h2.val (k := kk) with ⟨e1, e2⟩ | ⟨v, d, e1, e2, e3⟩
      · exact .inl ⟨e1, e2⟩
      · exact .inr ⟨v, d, e1, e2, e3⟩
    · obtain ⟨kk, hkk⟩ := Option.isSome_iff_exists.mp (show (keysOf k).isSome = true from hk)
      have := keysOf_some hkk
      subst this
      obtain ⟨b, rfl, hb⟩ := hy.keys
      refine ⟨a, _, rfl, DGet.t h1 hb, ?_⟩
      rcases h2.val (k := kk) with ⟨e1, e2⟩ | ⟨v, d, e1, e2, e3⟩
      · exact .inl ⟨e1, e2⟩
      · exact .inr ⟨v, d, e1, e2, e3⟩
  · cases h
def rInA (K : PySem.W.Frag) : R2 := fun x y H Q => rInD K x y H Q ∨ (rIn K false x y H Q ∨ ∃ a o, y = .ref a ∧ DGet H a x o ∧ Q (.bl o.isSome) H)
def rNotInA (K : PySem.W.Frag) : R2 := fun x y H Q => rNotInD K x y H Q ∨ (rIn K true x y H Q ∨ ∃ a o, y = .ref a ∧ DGet H a x o ∧ Q (.bl (!o.isSome)) H)
theorem o_in (hu : X.A.units + 65 < cLine) : OpR X (compareOp .In) (rInA X.K) := (op_inD hu).or (op_in_seq.or (op_in_dict (by omega)))
theorem o_notIn (hu : X.A.units + 65 < cLine) : OpR X (compareOp .NotIn) (rNotInA X.K) := (op_notInD hu).or (op_notIn_seq.or (op_notIn_dict (by omega)))
theorem inD_cases {row : Option Addr} {p : Addr → Bool} {H : Hp} {x y : V} {dx dy : D} {b : Bool} (hx : Bo K row (hid H p) H x dx) (hy : Bo K row (hid H p) H y dy) (e : inD dx dy = some b) :
    (∃ d ds, Dp K H x d ∧ Dp K H y (.list ds) ∧ SeqAt.shaped d = true ∧ SeqAt.shaped (.list ds) = true ∧ b = (ds.any fun z => PyData.eqv z d)) ∨
    ((∃ q xs, y = .ref q ∧ SqT K H q xs ∧ flatV x = true ∧ xs.all flatV = true ∧ b = inV x xs) ∨ ∃ a o, y = .ref a ∧ DGet H a x o ∧ b = o.isSome) := by
  cases dy <;> simp only [inD] at e <;> try (cases e; done)
  · split at e
    · rename_i ds hz; cases e
      exact .inl ⟨dx, ds, hx.dp hz.1, hy.dp hz.2, hz.1, hz.2, rfl⟩
    · cases e
  · split at e
    · rename_i ds hz; cases e
      obtain ⟨a, xs, rfl, h1, h1', h2⟩ := hy.tup
      obtain ⟨r, f⟩ := hx.flat hz.1
      exact .inr (.inl ⟨a, xs, rfl, .of h1, f, h2.flat hz.2, (h2.inV r hz.1 hz.2).symm⟩)
    · cases e
  · obtain ⟨o, e1, e2⟩ := Option.map_eq_some_iff.mp e
    obtain ⟨a, r, rfl, g, z⟩ := look_get hy hx e1
    refine .inr (.inr ⟨a, r, rfl, g, ?_⟩)
    rcases z with ⟨rfl, rfl⟩ | ⟨v, d, rfl, rfl, _⟩ <;> exact e2.symm
theorem g_in : G2 K dIn (rInA K) := by
  intro row p H x y dx dy d Q w hx hy e q
  obtain ⟨b, e1, rfl⟩ := Option.map_eq_some_iff.mp e
  have q' := q _ H .refl (.bl b)
  rcases inD_cases hx hy e1 with ⟨d, ds, h1, h2, h3, h4, rfl⟩ | ⟨a, xs, rfl, h1, h2, h3, rfl⟩ | ⟨a, o, rfl, h1, rfl⟩
  · exact .inl ⟨d, ds, h1, h2, h3, h4, q'⟩
  · exact .inr (.inl ⟨a, xs, rfl, .inr h1, h2, h3, q'⟩)
  · exact .inr (.inr ⟨a, o, rfl, h1, q'⟩)
theorem g_notIn : G2 K dNotIn (rNotInA K) := by
  intro row p H x y dx dy d Q w hx hy e q
  obtain ⟨b, e1, rfl⟩ := Option.map_eq_some_iff.mp e
  have q' := q _ H .refl (.bl (!b))
  rcases inD_cases hx hy e1 with ⟨d, ds, h1, h2, h3, h4, rfl⟩ | ⟨a, xs, rfl, h1, h2, h3, rfl⟩ | ⟨a, o, rfl, h1, rfl⟩
  · exact .inl ⟨d, ds, h1, h2, h3, h4, q'⟩
  · exact .inr (.inl ⟨a, xs, rfl, .inr h1, h2, h3, q'⟩)
  · exact .inr (.inr ⟨a, o, rfl, h1, q'⟩)

/-! ### subscripts -/
def dIx : D → D → Option D
  | .list xs, .int i => atI xs i
  | .tuple xs, .int i => atI xs i
  | .dict ds, k => (dlook ds k).join
  | _, _ => none
theorem RpA.atI {F : Hp} {vs : List V} {ds : List D} {i : Int} {d : D} (h : RpA K F vs ds) (e : L2.atI ds i = some d) : ∃ v, L2.atI vs i = some v ∧ Rp K F v d := by
  unfold L2.atI at e ⊢
  rw [h.len]
  obtain ⟨j, e1, e2⟩ := Option.bind_eq_some_iff.mp e
  obtain ⟨v, h1, h2⟩ := h.get e2
  exact ⟨v, by rw [e1]; exact h1, h2⟩
theorem ix_dict (hu : X.A.units + 1 < cLine) : IxR X (fun x y H Q => ∃ a v, x = .ref a ∧ DGet H a y (some v) ∧ Q v H) := by
  intro value slice pins s σ H x y v u Q I rx ry h hs
  obtain ⟨a, z, rfl, g, q⟩ := h
  cases rx
  exact tail_any (dict_typeIs I g) PySem.F.slot_dict_getitem.lookup (d_getItem hu I g ry fun w' s3 I3 rw' => ⟨z, H, I3, rw', q⟩) hs
def rIxA (K : PySem.W.Frag) : R2 := fun x y H Q => rIx K x y H Q ∨ ∃ a v, x = .ref a ∧ DGet H a y (some v) ∧ Q v H
theorem o_ix (hu : X.A.units + 1 < cLine) : IxR X (rIxA X.K) := ix_seq.or (ix_dict hu)
theorem g_ix : G2 K dIx (rIxA K) := by
  intro row p H x y dx dy d Q w hx hy e q
  have dic : ∀ ds, dx = .dict ds → (dlook ds dy).join = some d → rIxA K x y H Q := fun ds h ee => by
    subst h
    obtain ⟨o, e1, e2⟩ : ∃ o, dlook ds dy = some o ∧ o = some d := by
      cases h : dlook ds dy with
      | none => rw [h] at ee; cases ee
      | some o => rw [h] at ee; exact ⟨o, rfl, ee⟩
    subst e2
    obtain ⟨a, r, rfl, g, z⟩ := look_get hx hy e1
    rcases z with ⟨_, z⟩ | ⟨v, d', rfl, z, rv⟩
    · cases z
    · cases z; exact .inr ⟨a, v, rfl, g, q v H .refl rv⟩
  cases dx with
  | dict ds => exact dic ds rfl (by cases dy <;> exact e)
  | list xs =>
    cases dy <;> simp only [dIx] at e <;> try (cases e; done)
    obtain ⟨a, vs, rfl, h1, h2⟩ := hx.lst
    obtain ⟨v, e1, e2⟩ := h2.atI e
    exact .inl (.inl ⟨a, vs, _, v, rfl, hy.int, .of h1, e1, q v H .refl e2⟩)
  | tuple xs =>
    cases dy <;> simp only [dIx] at e <;> try (cases e; done)
    obtain ⟨a, vs, rfl, h1, h1', h2⟩ := hx.tup
    obtain ⟨v, e1, e2⟩ := h2.atI e
    exact .inl (.inr (.inl ⟨a, vs, _, v, rfl, hy.int, .of h1, e1, q v H .refl e2⟩))
  | none => cases dy <;> cases e
  | bool b => cases dy <;> cases e
  | int i => cases dy <;> cases e
  | str x => cases dy <;> cases e
end
end VS
/-! VSE: built-ins called. -/
namespace VS
open PySem PySem.Spec PyProof.Rows L2

section
variable {X : Cx} {K : PySem.W.Frag} {row : Option Addr} {p : Addr → Bool} {H : Hp}
theorem BoA.one {F : Hp} {xs : List V} {d : D} (h : BoA K row F H xs [d]) : ∃ x, xs = [x] ∧ Bo K row F H x d := by
  cases h with
  | cons h t => cases t; exact ⟨_, rfl, h⟩
theorem BoA.two {F : Hp} {xs : List V} {d e : D} (h : BoA K row F H xs [d, e]) : ∃ x y, xs = [x, y] ∧ Bo K row F H x d ∧ Bo K row F H y e := by
  cases h with
  | cons h t => cases t with
    | cons h' t' => cases t'; exact ⟨_, _, rfl, h, h'⟩
/-! ### len -/
def lenD : D → Option Nat
  | .list xs => some xs.length
  | .tuple xs => some xs.length
  | .dict ds => some (dsplit ds).2.length
  | .str x => if x.length ≤ sizeLine then some x.length else none
  | _ => none
def dLen : List D → Option D
  | [d] => (lenD d).map fun n => .int (n : Int)
  | _ => none
theorem RpK.len {F : Hp} : ∀ {kvs : List (Key × V)} {ds : List (D × D)}, RpK K F kvs ds → kvs.length = ds.length
  | _, _, .nil => rfl
  | _, _, .cons _ t => by rw [List.length_cons, List.length_cons, RpK.len t]
theorem RpT.len {F : Hp} : ∀ {kvs : List (List Key × V)} {ds : List (D × D)}, RpT K F kvs ds → kvs.length = ds.length
  | _, _, .nil => rfl
  | _, _, .cons _ t => by rw [List.length_cons, List.length_cons, RpT.len t]
theorem call_len_dK : CallR X (.builtin "len") (fun xs H Q => ∃ a kvs, xs = [.ref a] ∧ Rd H a (.dK kvs) ∧ Q (.int ((kvs.length : Nat) : Int)) H) := by
  intro pins s σ H xs us Q I r h
  obtain ⟨a, kvs, rfl, hp, q⟩ := h
  obtain ⟨u, rfl, rx⟩ := vals1 r
  obtain rfl : u = .ref a := rx
  exact d_len I hp fun t s' I' => ⟨.int ((kvs.length : Nat) : Int), H, I', ⟨_, rfl⟩, q⟩
def rLenA (K : PySem.W.Frag) : List V → Hp → VK → Prop := fun xs H Q => (∃ x n, xs = [x] ∧ LenV K x H n ∧ Q (.int n) H) ∨ ((∃ a kvs, xs = [.ref a] ∧ Rd H a (.dK kvs) ∧ Q (.int ((kvs.length : Nat) : Int)) H) ∨ rLenT xs H Q)
theorem c_len : CallR X (.builtin "len") (rLenA X.K) := call_len.or (call_len_dK.or call_len_dT)
theorem g_len : GA K dLen (rLenA K) := by
  intro row p H xs dxs d Q w hx e q
  match dxs, hx, e with
  | [dx], hx0, e =>
    obtain ⟨x, rfl, hx⟩ := hx0.one
    clear hx0
    obtain ⟨n, e1, rfl⟩ := Option.map_eq_some_iff.mp (show (lenD dx).map (fun n => PyData.int (n : Int)) = some d from e)
    have q' := q _ H .refl (.int (n : Int))
    cases dx <;> simp only [lenD] at e1 <;> try (cases e1; done)
    · split at e1
      · rename_i hz; cases e1
        exact .inl ⟨x, _, rfl, by rw [hx.str]; exact ⟨hz, rfl⟩, q'⟩
      · cases e1
    · cases e1
      obtain ⟨a, vs, rfl, h1, h2⟩ := hx.lst
      exact .inl ⟨_, _, rfl, .inl ⟨vs, .of h1, h2.len.symm⟩, q'⟩
    · cases e1
      obtain ⟨a, vs, rfl, h1, _, h2⟩ := hx.tup
      exact .inl ⟨_, _, rfl, .inr ⟨vs, .of h1, h2.len.symm⟩, q'⟩
    · cases e1
      obtain ⟨a, rfl, ⟨kvs, h1, h2⟩ | ⟨kvs, ds', h1, rfl, h2⟩⟩ := hx.dic
      · rw [h2.nomark] at q'
        exact .inr (.inl ⟨a, kvs, rfl, .inl h1, by rw [h2.len]; exact q'⟩)
      · exact .inr (.inr ⟨a, kvs, rfl, h1, by rw [h2.len]; exact q'⟩)
/-! ### sorted -/
def dle (a b : D) : Bool := PySem.W.dataLe false id a b
def tupNE : D → Bool
  | .tuple (_ :: _) => true
  | _ => false
def notNT : D → Bool
  | .none => false
  | .tuple _ => false
  | _ => true
def sortable (ds : List D) : Bool := ds.all (fun a => ds.all fun b => PySem.W.alike a b) && (ds.all tupNE || ds.all notNT) && ds.all (fun d => d.canLay0 && decide (d.depth ≤ 60))
def seqD : D → Option (List D)
  | .list xs => some xs
  | .tuple xs => some xs
  | _ => none
def dSorted : List D → Option D
  | [.list ds] => if sortable ds = true then some (.list (ds.mergeSort dle)) else none
  | _ => none
def REach (K : PySem.W.Frag) (F : Hp) (u : Value) (p : V × D) : Prop := RelV p.1 u ∧ Rp K F p.1 p.2 ∧ p.2.canLay0 = true
theorem each_of {F : Hp} : ∀ {xs : List V} {us : List Value} {ds : List D}, Vals xs us → RpA K F xs ds → (∀ d ∈ ds, d.canLay0 = true) → PySem.W.EachIs (REach K F) us (xs.zip ds)
  | _, _, _, .nil, .nil, _ => .nil
  | _, _, _, .cons r t, .cons h k, c => .cons ⟨r, h, c _ (List.mem_cons_self ..)⟩ (each_of t k fun d hd => c d (List.mem_cons_of_mem _ hd))
theorem of_each {F : Hp} : ∀ {us : List Value} {ps : List (V × D)}, PySem.W.EachIs (REach K F) us ps → Vals (ps.map (·.1)) us ∧ RpA K F (ps.map (·.1)) (ps.map (·.2))
  | _, _, .nil => ⟨.nil, .nil⟩
  | _, _, .cons h t => ⟨.cons h.1 (of_each t).1, .cons h.2.1 (of_each t).2⟩
theorem map_snd_zip {F : Hp} : ∀ {xs : List V} {ds : List D}, RpA K F xs ds → (xs.zip ds).map Prod.snd = ds
  | _, _, .nil => rfl
  | _, _, .cons _ t => by rw [List.zip_cons_cons, List.map_cons, map_snd_zip t]
def rSortA (K : PySem.W.Frag) : List V → Hp → VK → Prop := fun vs H Q => ∃ a xs ds F, vs = [.ref a] ∧ H a = some (.lst xs) ∧ RpA K F xs ds ∧ Same F H ∧ sortable ds = true ∧
  ∀ ys q, RpA K F ys (ds.mergeSort dle) → H q = none → Q (.ref q) (upd H q (.lst ys))
theorem c_sorted (hu : X.A.units + 64 < cLine) : CallR X (.builtin "sorted") (rSortA X.K) := by
  intro pins s σ H vs us Q I r h
  obtain ⟨a, xs, ds, F, rfl, hs, hr, hF, so, q⟩ := h
  obtain ⟨its, rv, hl, hz⟩ := I.list (.of hs)
  rw [Vals.ref1 r]
  simp only [sortable, Bool.and_eq_true, Bool.or_eq_true, List.all_eq_true, decide_eq_true_eq] at so
  obtain ⟨⟨s1, s2⟩, s3⟩ := so
  have hm := map_snd_zip hr
  have mem : ∀ b, b ∈ xs.zip ds → b.2 ∈ ds := fun b hb => by
    rw [← hm]; exact List.mem_map.mpr ⟨b, hb, rfl⟩
  have e := each_of rv hr fun d hd => (s3 d hd).1
  refine PySem.W.sorted_data (enc := Prod.snd) (bs := xs.zip ds) hl.isList e (PySem.W.EachIs.mono (fun u b h => ?_) e) (by rw [hm]; exact fun d hd d' hd' => s1 d hd d' hd') ?_ ?_ (fun b hb => ?_) fun out hlen ho => ?_
  · exact Dp.reads I b.2 b.1 u ((h.2.1.mono hF).dp h.2.2) h.1
  · rw [hm]
    rcases s2 with s2 | s2
    · refine .inl fun d hd => ?_
      have := s2 d hd
      cases d <;> try (cases this; done)
      rename_i ys
      cases ys with
      | nil => cases this
      | cons y ys => exact ⟨y, ys, rfl⟩
    · refine .inr fun d hd => ?_
      have := s2 d hd
      cases d <;> first | (cases this; done) | exact ⟨fun z => (nomatch z), fun _ z => (nomatch z)⟩
  · rw [List.length_zip, hr.len, Nat.min_self, ← hr.len]; exact hz
  · have := (s3 _ (mem b hb)).2
    omega
  · obtain ⟨v1, v2⟩ := of_each ho
    have e1 : ((xs.zip ds).mergeSort (PySem.W.dataLe false Prod.snd)).map Prod.snd = ds.mergeSort dle := by
      exact (PySem.W.sort_maps (r := PySem.W.dataLe false Prod.snd) (s := dle) (l := xs.zip ds) Prod.snd (fun _ _ _ _ => rfl)).trans (by rw [hm])
    obtain ⟨ep, he'⟩ := PyProof.Rows.sortedAll_at s.heap its out.toArray
    have v2' : RpA X.K F (((xs.zip ds).mergeSort (PySem.W.dataLe false Prod.snd)).map (·.1)) (ds.mergeSort dle) := by rw [← e1]; exact v2
    have hlen' : (((xs.zip ds).mergeSort (PySem.W.dataLe false Prod.snd)).map (·.1)).length ≤ sizeLine := by
      rw [List.length_map, List.length_mergeSort, List.length_zip, hr.len, Nat.min_self, ← hr.len]
      exact hz
    exact ⟨.ref _, upd H (s.heap.objs.size + 1) (.lst _), I.laid (t' := s.toks) (fun _ _ => PyProof.Rows.sortedAll_old) (Nat.le_succ _) ⟨hlen', out, ep, v1, he'⟩, rfl, q _ _ v2' (I.hok.fresh (Nat.le_succ _))⟩
theorem g_sorted : GA K dSorted (rSortA K) := by
  intro row p H xs dxs d Q w hx e q
  match dxs, hx, e with
  | [.list ds], hx0, e =>
    obtain ⟨x, rfl, hb⟩ := hx0.one
    simp only [dSorted] at e
    split at e
    · rename_i hz; cases e
      obtain ⟨a, vs, rfl, h1, h2⟩ := hb.lst
      exact ⟨a, vs, ds, _, rfl, h1, h2, hid_le, hz, fun ys r h3 hr => q _ _ (.upd hr) (.lst (hid_upd (w.new r hr)) (h3.mono ((Ex.upd (K := K) hr).vis' w)))⟩
    · cases e
end
end VS
/-! VSF: more built-ins called. -/
namespace VS
open PySem PySem.Spec PyProof.Rows L2

section
variable {X : Cx} {K : PySem.W.Frag} {row : Option Addr} {p : Addr → Bool} {H : Hp}
/-! ### list(x), tuple(x) -/
def dList : List D → Option D
  | [d] => (seqD d).map .list
  | _ => none
def dTuple : List D → Option D
  | [d] => (seqD d).map .tuple
  | _ => none
theorem g_list : GA K dList (fun xs H Q => ∃ p ys, xs = [.ref p] ∧ (SqL K H p ys ∨ SqT K H p ys) ∧ ∀ l, H l = none → Q (.ref l) (upd H l (.lst ys))) := by
  intro row p H xs dxs d Q w hx e q
  match dxs, hx, e with
  | [dx], hx0, e =>
    obtain ⟨x, rfl, hb⟩ := hx0.one
    obtain ⟨ds, e1, rfl⟩ := Option.map_eq_some_iff.mp (show (seqD dx).map PyData.list = some d from e)
    cases dx <;> simp only [seqD] at e1 <;> try (cases e1; done)
    · cases e1
      obtain ⟨a, vs, rfl, h1, h2⟩ := hb.lst
      exact ⟨a, vs, rfl, .inl (.of h1), fun r hr => q _ _ (.upd hr) (.lst (hid_upd (w.new r hr)) (h2.mono ((Ex.upd (K := K) hr).vis' w)))⟩
    · cases e1
      obtain ⟨a, vs, rfl, h1, h1', h2⟩ := hb.tup
      exact ⟨a, vs, rfl, .inr (.of h1), fun r hr => q _ _ (.upd hr) (.lst (hid_upd (w.new r hr)) (h2.mono ((Ex.upd (K := K) hr).vis' w)))⟩
theorem g_tuple : GA K dTuple (fun xs H Q => ∃ p ys, xs = [.ref p] ∧ ((SqL K H p ys ∧ ∀ l, H l = none → Q (.ref l) (upd H l (.tup ys))) ∨ (SqT K H p ys ∧ Q (.ref p) H))) := by
  intro row p H xs dxs d Q w hx e q
  match dxs, hx, e with
  | [dx], hx0, e =>
    obtain ⟨x, rfl, hb⟩ := hx0.one
    obtain ⟨ds, e1, rfl⟩ := Option.map_eq_some_iff.mp (show (seqD dx).map PyData.tuple = some d from e)
    cases dx <;> simp only [seqD] at e1 <;> try (cases e1; done)
    · cases e1
      obtain ⟨a, vs, rfl, h1, h2⟩ := hb.lst
      exact ⟨a, vs, rfl, .inl ⟨.of h1, fun r hr => q _ _ (.upd hr) (.tup (hid_upd (w.new r hr)) (h2.mono ((Ex.upd (K := K) hr).vis' w)))⟩⟩
    · cases e1
      obtain ⟨a, vs, rfl, h1, h1', h2⟩ := hb.tup
      exact ⟨a, vs, rfl, .inr ⟨.of h1, q _ _ .refl (.tup h1' h2)⟩⟩

/-! ### sum, max, min, abs, all, any, int -/
def mx : List Int → Int
  | [] => 0
  | [x] => x
  | x :: r => max x (mx r)
def mn : List Int → Int
  | [] => 0
  | [x] => x
  | x :: r => min x (mn r)
theorem mx_spec : ∀ (ns : List Int), ns ≠ [] → mx ns ∈ ns ∧ ∀ y ∈ ns, y ≤ mx ns
  | [], h => absurd rfl h
  | [x], _ => ⟨List.mem_singleton.mpr rfl, fun y hy => by rw [List.mem_singleton.mp hy]; exact Int.le_refl _⟩
  | x :: y :: r, _ => by
    obtain ⟨h1, h2⟩ := mx_spec (y :: r) (List.cons_ne_nil _ _)
    show max x (mx (y :: r)) ∈ _ ∧ _
    constructor
    · rcases Int.le_total x (mx (y :: r)) with h | h
      · rw [Int.max_eq_right h]; exact List.mem_cons_of_mem _ h1
      · rw [Int.max_eq_left h]; exact List.mem_cons_self ..
    · intro z hz
      show z ≤ max x (mx (y :: r))
      rcases List.mem_cons.mp hz with rfl | hz
      · exact Int.le_max_left _ _
      · exact Int.le_trans (h2 z hz) (Int.le_max_right _ _)
theorem mn_spec : ∀ (ns : List Int), ns ≠ [] → mn ns ∈ ns ∧ ∀ y ∈ ns, mn ns ≤ y
  | [], h => absurd rfl h
  | [x], _ => ⟨List.mem_singleton.mpr rfl, fun y hy => by rw [List.mem_singleton.mp hy]; exact Int.le_refl _⟩
  | x :: y :: r, _ => by
    obtain ⟨h1, h2⟩ := mn_spec (y :: r) (List.cons_ne_nil _ _)
    show min x (mn (y :: r)) ∈ _ ∧ _
    constructor
    · rcases Int.le_total x (mn (y :: r)) with h | h
      · rw [Int.min_eq_left h]; exact List.mem_cons_self ..
      · rw [Int.min_eq_right h]; exact List.mem_cons_of_mem _ h1
    · intro z hz
      show min x (mn (y :: r)) ≤ z
      rcases List.mem_cons.mp hz with rfl | hz
      · exact Int.min_le_left _ _
      · exact Int.le_trans (Int.min_le_right _ _) (h2 z hz)
theorem mx_eq {ns : List Int} {m : Int} (h1 : m ∈ ns) (h2 : ∀ y ∈ ns, y ≤ m) : m = mx ns := by
  obtain ⟨k1, k2⟩ := mx_spec ns (List.ne_nil_of_mem h1)
  exact Int.le_antisymm (k2 m h1) (h2 _ k1)
theorem mn_eq {ns : List Int} {m : Int} (h1 : m ∈ ns) (h2 : ∀ y ∈ ns, m ≤ y) : m = mn ns := by
  obtain ⟨k1, k2⟩ := mn_spec ns (List.ne_nil_of_mem h1)
  exact Int.le_antisymm (h2 _ k1) (k2 m h1)
section raw
variable {prog : Program} {w : World} {A : Around} {E : Value → Shared → Prop} {s : Shared} {l : Addr} {its : List Value} {ns : List Int}
theorem iter_intTup {xs : Array (Int × Tok)} {Q : Value → Shared → Prop} (hl : s.heap.IsTuple l (intItems xs))
    (h : ∀ s₂ : Shared, s₂ = { s with heap := s.heap.push { cls := .type "tuple_iterator", data := .fields #[.ref l, .int 0 0] } } →
      (s₂.heap.IsTupleIter s.heap.objs.size l 0 ∧ s₂.heap.IsTuple l (intItems xs)) → (∀ b ∈ [s.heap.objs.size, l], b < s₂.heap.objs.size) → l ≠ s.heap.objs.size → Q (.ref s.heap.objs.size) s₂) :
    wpAny (model prog w) A (pyIter (.ref l)) Q E s := by
  have hlt : l < s.heap.objs.size := by obtain ⟨_, e, _⟩ := hl; exact Heap.lt_size e
  refine wpAny_pyIter_tuple hl (h _ rfl ⟨⟨_, Heap.get?_push_size _ rfl, rfl, rfl⟩, ?_⟩ (fun b hb => ?_) (Nat.ne_of_lt hlt))
  · obtain ⟨o, e, r⟩ := hl
    exact ⟨o, Heap.get?_push_of_some _ e, r⟩
  show b < (s.heap.push _).objs.size
  rw [Heap.size_push]
  rcases List.mem_cons.mp hb with rfl | hb
  · exact Nat.lt_succ_self _
  · rcases List.mem_cons.mp hb with rfl | hb
    · exact Nat.lt_succ_of_lt hlt
    · cases hb
theorem old_keptT {h' : Heap} (hk : ∀ b o, b ∉ [s.heap.objs.size] → (s.heap.push { cls := .type "tuple_iterator", data := .fields #[.ref l, .int 0 0] }).get? b = some o → h'.get? b = some o) :
    ∀ b o, s.heap.get? b = some o → h'.get? b = some o := fun b o e => by
  refine hk b o (fun hm => ?_) (Heap.get?_push_of_some _ e)
  rcases List.mem_cons.mp hm with e1 | hm
  · exact absurd (e1 ▸ Heap.lt_size e) (Nat.lt_irrefl _)
  · cases hm
theorem max_rawT {Q : Value → Shared → Prop} (hh : A.handled = none) (hl : s.heap.IsTuple l its.toArray) (hi : IntsAre its ns) (hne : 0 < ns.length)
    (h : ∀ h' tk M t', (∀ b o, s.heap.get? b = some o → h'.get? b = some o) → M ∈ ns → (∀ a, a ∈ ns → a ≤ M) → Q (.int M t') { s with heap := h', toks := tk }) : wpAny (model prog w) A (call (.builtin "max") [.ref l]) Q E s := by
  obtain ⟨xs, e⟩ := hi.allInts.items
  have hn : numsOf (intItems xs).toList = ns := by rw [← e]; exact hi.numsOf
  rw [nums_intItems] at hn
  subst hn
  rw [e] at hl
  have hsz : 0 < xs.size := by simpa using hne
  refine PySem.call_max_walk (iter_intTup hl fun s₂ e2 st hfp hlI => ?_)
  subst e2
  refine ⟨_, _, _, _, _, _, _, rfl, Walks.tuple (A := A.in1) hh _ l hlI (intItems xs), st, hfp, by simpa [intItems] using hsz, CmpOf.ints_gt (numAt xs) (fun _ _ => intItems_at), fun v h' tk hP hk => ?_⟩
  have hv : (intItems xs)[argBest (fun i j => decide (numAt xs i > numAt xs j)) (xs.size - 1)]? = some v := by simpa [intItems] using hP
  obtain ⟨t, rfl⟩ := intItems_at hv
  obtain ⟨h1, h2⟩ := argBest_gt (numAt xs) (xs.size - 1)
  refine h h' tk _ t (old_keptT hk) ?_ fun a ha => ?_
  · rw [numAt_eq]; exact PySem.getD_mem (by rw [List.length_map, Array.length_toList]; omega)
  · obtain ⟨j, hj, rfl⟩ := mem_getD ha
    rw [List.length_map, Array.length_toList] at hj
    rw [← numAt_eq]; exact h2 j (by omega)
theorem min_rawT {Q : Value → Shared → Prop} (hh : A.handled = none) (hl : s.heap.IsTuple l its.toArray) (hi : IntsAre its ns) (hne : 0 < ns.length)
    (h : ∀ h' tk M t', (∀ b o, s.heap.get? b = some o → h'.get? b = some o) → M ∈ ns → (∀ a, a ∈ ns → M ≤ a) → Q (.int M t') { s with heap := h', toks := tk }) : wpAny (model prog w) A (call (.builtin "min") [.ref l]) Q E s := by
  obtain ⟨xs, e⟩ := hi.allInts.items
  have hn : numsOf (intItems xs).toList = ns := by rw [← e]; exact hi.numsOf
  rw [nums_intItems] at hn
  subst hn
  rw [e] at hl
  have hsz : 0 < xs.size := by simpa using hne
  refine PySem.call_min_walk (iter_intTup hl fun s₂ e2 st hfp hlI => ?_)
  subst e2
  refine ⟨_, _, _, _, _, _, _, rfl, Walks.tuple (A := A.in1) hh _ l hlI (intItems xs), st, hfp, by simpa [intItems] using hsz, CmpOf.ints_lt (numAt xs) (fun _ _ => intItems_at), fun v h' tk hP hk => ?_⟩
  have hv : (intItems xs)[argBest (fun i j => decide (numAt xs i < numAt xs j)) (xs.size - 1)]? = some v := by simpa [intItems] using hP
  obtain ⟨t, rfl⟩ := intItems_at hv
  obtain ⟨h1, h2⟩ := argBest_lt (numAt xs) (xs.size - 1)
  refine h h' tk _ t (old_keptT hk) ?_ fun a ha => ?_
  · rw [numAt_eq]; exact PySem.getD_mem (by rw [List.length_map, Array.length_toList]; omega)
  · obtain ⟨j, hj, rfl⟩ := mem_getD ha
    rw [List.length_map, Array.length_toList] at hj
    rw [← numAt_eq]; exact h2 j (by omega)
end raw
def rMaxT (K : PySem.W.Frag) : List V → Hp → VK → Prop := fun vs H Q => ∃ (a : Addr) (ns : List Int), vs = [V.ref a] ∧ SqT K H a (ns.map V.int) ∧ 0 < ns.length ∧ ∀ m, m ∈ ns → (∀ y, y ∈ ns → y ≤ m) → Q (.int m) H
def rMinT (K : PySem.W.Frag) : List V → Hp → VK → Prop := fun vs H Q => ∃ (a : Addr) (ns : List Int), vs = [V.ref a] ∧ SqT K H a (ns.map V.int) ∧ 0 < ns.length ∧ ∀ m, m ∈ ns → (∀ y, y ∈ ns → m ≤ y) → Q (.int m) H
theorem cr_maxT (hc : X.calm = true) : CallR X (.builtin "max") (rMaxT X.K) := by
  intro pins s σ H vs us Q I r h
  obtain ⟨a, ns, rfl, hs, hne, q⟩ := h
  obtain ⟨its, rv, hl, _⟩ := I.tuple hs
  rw [Vals.ref1 r]
  exact max_rawT (I.ok.hd hc) (show s.heap.IsTuple a its.toArray from hl) rv.ints hne fun h' tk m t' hk h1 h2 => ⟨.int _, H, I.kept hk, ⟨_, rfl⟩, q m h1 h2⟩
theorem cr_minT (hc : X.calm = true) : CallR X (.builtin "min") (rMinT X.K) := by
  intro pins s σ H vs us Q I r h
  obtain ⟨a, ns, rfl, hs, hne, q⟩ := h
  obtain ⟨its, rv, hl, _⟩ := I.tuple hs
  rw [Vals.ref1 r]
  exact min_rawT (I.ok.hd hc) (show s.heap.IsTuple a its.toArray from hl) rv.ints hne fun h' tk m t' hk h1 h2 => ⟨.int _, H, I.kept hk, ⟨_, rfl⟩, q m h1 h2⟩
def numsD (d : D) : Option (List Int) := (seqD d).bind intsOf
theorem nums_bo {x : V} {d : D} {ns : List Int} (h : Bo K row (hid H p) H x d) (e : numsD d = some ns) : ∃ a, x = .ref a ∧ (SqL K H a (ns.map V.int) ∨ SqT K H a (ns.map V.int)) := by
  obtain ⟨ds, e1, e2⟩ := Option.bind_eq_some_iff.mp e
  have := intsOf_some e2
  subst this
  cases d <;> simp only [seqD] at e1 <;> try (cases e1; done)
  · cases e1
    obtain ⟨a, vs, rfl, h1, h2⟩ := h.lst
    rw [h2.ints] at h1
    exact ⟨a, rfl, .inl (.of h1)⟩
  · cases e1
    obtain ⟨a, vs, rfl, h1, h1', h2⟩ := h.tup
    rw [h2.ints] at h1
    exact ⟨a, rfl, .inr (.of h1)⟩
def dMax : List D → Option D
  | [d] => match numsD d with
    | some ns => if ns.isEmpty = true then none else some (.int (mx ns))
    | none => none
  | [.int i, .int j] => some (.int (if j > i then j else i))
  | _ => none
def dMin : List D → Option D
  | [d] => match numsD d with
    | some ns => if ns.isEmpty = true then none else some (.int (mn ns))
    | none => none
  | [.int i, .int j] => some (.int (if j < i then j else i))
  | _ => none
def rMaxA (K : PySem.W.Frag) : List V → Hp → VK → Prop := fun xs H Q => rMax K xs H Q ∨ (rMaxT K xs H Q ∨ ∃ i j, xs = [.int i, .int j] ∧ Q (.int (if j > i then j else i)) H)
def rMinA (K : PySem.W.Frag) : List V → Hp → VK → Prop := fun xs H Q => rMin K xs H Q ∨ (rMinT K xs H Q ∨ ∃ i j, xs = [.int i, .int j] ∧ Q (.int (if j < i then j else i)) H)
theorem c_max (hc : X.calm = true) : CallR X (.builtin "max") (rMaxA X.K) := (cr_max hc).or ((cr_maxT hc).or (call_max2 hc))
theorem c_min (hc : X.calm = true) : CallR X (.builtin "min") (rMinA X.K) := (cr_min hc).or ((cr_minT hc).or (call_min2 hc))
theorem g_max : GA K dMax (rMaxA K) := by
  intro row p H xs dxs d Q w hx e q
  unfold dMax at e
  split at e
  · rename_i dx
    obtain ⟨x, rfl, hb⟩ := hx.one
    split at e
    · rename_i ns hn
      split at e
      · cases e
      · rename_i hne; cases e
        have hl : 0 < ns.length := by cases ns with | nil => exact absurd rfl hne | cons _ _ => exact Nat.succ_pos _
        obtain ⟨a, rfl, hs | hs⟩ := nums_bo hb hn
        · exact .inl ⟨a, ns, rfl, hs, hl, fun m h1 h2 => by rw [mx_eq h1 h2]; exact q _ H .refl (.int _)⟩
        · exact .inr (.inl ⟨a, ns, rfl, hs, hl, fun m h1 h2 => by rw [mx_eq h1 h2]; exact q _ H .refl (.int _)⟩)
    · cases e
  · cases e
    obtain ⟨x, y, rfl, h1, h2⟩ := hx.two
    exact .inr (.inr ⟨_, _, by rw [h1.int, h2.int], q _ H .refl (.int _)⟩)
  · cases e
theorem g_min : GA K dMin (rMinA K) := by
  intro row p H xs dxs d Q w hx e q
  unfold dMin at e
  split at e
  · rename_i dx
    obtain ⟨x, rfl, hb⟩ := hx.one
    split at e
    · rename_i ns hn
      split at e
      · cases e
      · rename_i hne; cases e
        have hl : 0 < ns.length := by cases ns with | nil => exact absurd rfl hne | cons _ _ => exact Nat.succ_pos _
        obtain ⟨a, rfl, hs | hs⟩ := nums_bo hb hn
        · exact .inl ⟨a, ns, rfl, hs, hl, fun m h1 h2 => by rw [mn_eq h1 h2]; exact q _ H .refl (.int _)⟩
        · exact .inr (.inl ⟨a, ns, rfl, hs, hl, fun m h1 h2 => by rw [mn_eq h1 h2]; exact q _ H .refl (.int _)⟩)
    · cases e
  · cases e
    obtain ⟨x, y, rfl, h1, h2⟩ := hx.two
    exact .inr (.inr ⟨_, _, by rw [h1.int, h2.int], q _ H .refl (.int _)⟩)
  · cases e
/-- sum of a list of ints -/
def dSum : List D → Option D
  | [.list ds] => (intsOf ds).map fun ns => .int ns.sum
  | _ => none
theorem g_sum : GA K dSum (rSum K) := by
  intro row p H xs dxs d Q w hx e q
  unfold dSum at e
  split at e
  · obtain ⟨x, rfl, hb⟩ := hx.one
    obtain ⟨ns, e1, rfl⟩ := Option.map_eq_some_iff.mp e
    have := intsOf_some e1
    subst this
    obtain ⟨a, vs, rfl, h1, h2⟩ := hb.lst
    rw [h2.ints] at h1
    exact ⟨a, ns, rfl, .of h1, q _ H .refl (.int _)⟩
  · cases e
def dAbs : List D → Option D
  | [.int i] => some (.int (if i < 0 then -i else i))
  | _ => none
theorem g_abs : GA K dAbs (fun xs H Q => ∃ i, xs = [.int i] ∧ Q (.int (if i < 0 then -i else i)) H) := by
  intro row p H xs dxs d Q w hx e q
  unfold dAbs at e
  split at e
  · obtain ⟨x, rfl, hb⟩ := hx.one
    cases e
    exact ⟨_, by rw [hb.int], q _ H .refl (.int _)⟩
  · cases e
def dInt : List D → Option D
  | [.int i] => some (.int i)
  | [.bool b] => some (.int (if b then 1 else 0))
  | _ => none
theorem g_int : GA K dInt (fun xs H Q => (∃ i, xs = [.int i] ∧ Q (.int i) H) ∨ ∃ k, xs = [.bl k] ∧ Q (.int (if k then 1 else 0)) H) := by
  intro row p H xs dxs d Q w hx e q
  unfold dInt at e
  split at e
  · obtain ⟨x, rfl, hb⟩ := hx.one
    cases e
    exact .inl ⟨_, by rw [hb.int], q _ H .refl (.int _)⟩
  · obtain ⟨x, rfl, hb⟩ := hx.one
    cases e
    exact .inr ⟨_, by rw [hb.bl], q _ H .refl (.int _)⟩
  · cases e
def blsOf : List D → Option (List Bool)
  | [] => some []
  | .bool i :: r => (blsOf r).map (i :: ·)
  | _ :: _ => none
theorem blsOf_some : ∀ {ds : List D} {ns : List Bool}, blsOf ds = some ns → ds = ns.map .bool
  | [], ns, h => by simp [blsOf] at h; subst h; rfl
  | d :: r, ns, h => by
    cases d <;> simp [blsOf] at h
    obtain ⟨m, h1, rfl⟩ := h
    rw [blsOf_some h1]; rfl
theorem blsOf_map : ∀ ns : List Bool, blsOf (ns.map .bool) = some ns
  | [] => rfl
  | i :: r => by
    show (blsOf (r.map .bool)).map (i :: ·) = _
    rw [blsOf_map r]; rfl
theorem RpA.bls {F : Hp} : ∀ {ns : List Bool} {xs : List V}, RpA K F xs (ns.map .bool) → xs = ns.map V.bl
  | [], _, h => by cases h; rfl
  | k :: ks, _, h => by
    cases h with
    | cons h t => rw [RpA.bls t, List.map_cons]; cases h; rfl
def dAll : List D → Option D
  | [.list ds] => (blsOf ds).map fun bs => .bool (bs.all id)
  | _ => none
def dAny : List D → Option D
  | [.list ds] => (blsOf ds).map fun bs => .bool (bs.any id)
  | _ => none
theorem g_all : GA K dAll (rAll K) := by
  intro row p H xs dxs d Q w hx e q
  unfold dAll at e
  split at e
  · obtain ⟨x, rfl, hb⟩ := hx.one
    obtain ⟨ns, e1, rfl⟩ := Option.map_eq_some_iff.mp e
    have := blsOf_some e1
    subst this
    obtain ⟨a, vs, rfl, h1, h2⟩ := hb.lst
    rw [h2.bls] at h1
    exact ⟨a, ns, rfl, .of h1, q _ H .refl (.bl _)⟩
  · cases e
theorem g_any : GA K dAny (rAny K) := by
  intro row p H xs dxs d Q w hx e q
  unfold dAny at e
  split at e
  · obtain ⟨x, rfl, hb⟩ := hx.one
    obtain ⟨ns, e1, rfl⟩ := Option.map_eq_some_iff.mp e
    have := blsOf_some e1
    subst this
    obtain ⟨a, vs, rfl, h1, h2⟩ := hb.lst
    rw [h2.bls] at h1
    exact ⟨a, ns, rfl, .of h1, q _ H .refl (.bl _)⟩
  · cases e

/-! ### isinstance -/
def tyD : D → String
  | .none => "NoneType"
  | .bool _ => "bool"
  | .int _ => "int"
  | .str _ => "str"
  | .list _ => "list"
  | .tuple _ => "tuple"
  | .dict _ => "dict"
def isiN (T t : String) : Bool := t == T || (T == "int" && t == "bool")
def isiOk (T : String) : Bool := ["NoneType", "bool", "int", "str", "list", "tuple", "dict"].all fun t => kitB t T == some (isiN T t)
theorem isiOk_d {T : String} (h : isiOk T = true) (d : D) : kitB (tyD d) T = some (isiN T (tyD d)) := by
  have := List.all_eq_true.mp h (tyD d) (by cases d <;> simp [tyD])
  exact beq_iff_eq.mp this
theorem Bo.tyX {x : V} {d : D} (h : Bo K row (hid H p) H x d) : TyX K H x (.type (tyD d)) := by
  cases d with
  | none => rw [h.non]; exact .base .non
  | bool b => rw [h.bl]; exact .base (.bl _)
  | int b => rw [h.int]; exact .base (.int _)
  | str b => rw [h.str]; exact .base (.str _)
  | list b => obtain ⟨a, xs, rfl, h1, _⟩ := h.lst; exact .base (.lst h1)
  | tuple b => obtain ⟨a, xs, rfl, h1, _⟩ := h.tup; exact .base (.tup h1)
  | dict b =>
    obtain ⟨a, rfl, ⟨kvs, h1, h2⟩ | ⟨kvs, ds', h1, e, h2⟩⟩ := h.dic
    · exact .base (.dK h1)
    · exact .base (.dT h1)
def dIsi (T : String) (d : D) : Option D := some (.bool (isiN T (tyD d)))
def dIsi2 (T U : String) (d : D) : Option D := some (.bool (isiN T (tyD d) || isiN U (tyD d)))
variable {n : Nat} {τ : List Ty} {a : Expr} {w : WE} {pos p1 p2 pt : Pos}
theorem ve_isi {T : String} (hgi : Gl X "isinstance") (hmi : X.mg "isinstance" = none) (hg : Gl X T) (hm : X.mg T = none) (hv : bootBuiltins T = some (.type T)) (hT : isiOk T = true) (ha : VB X n τ a w)
    (hn : (T : Str) ≠ "__name__" := by decide) (hd : ((T : Str) == ("__debug__" : Str)) = false := by decide) (hs : starEach (a :: [.Name T p2]) X.env = (false, eval a X.env) :: starEach [.Name T p2] X.env := by rfl)
    (hs1 : starEach [.Name T p2] X.env = (false, eval (.Name T p2) X.env) :: starEach [] X.env := by rfl) (hs2 : ((backTo pos (starEach [.Name (T : Str) p2] X.env)).any fun x => x.fst) = false := by rfl) : VE X n τ (.Call (.Name "isinstance" p1) [a, .Name T p2] [] pos) (w1 (dIsi T) w) :=
  PE.imp (pe_callB call_isi hgi hmi (by decide +kernel) (pa_cons ha (pa_cons (pe_bltn (v := .ty T) hg hm hv rfl hn hd) pa_nil hs1) hs) (by decide) (by decide) hs hs2) fun σ H Q h => by
    obtain ⟨c, own, row, ρ, P, R, hw, q⟩ := h
    refine ⟨c, own, row, ρ, _, R, hw, fun d v H1 h1 x1 r1 => ?_⟩
    obtain ⟨d3, e3, p3⟩ := h1
    cases e3
    exact ⟨v, .ty T, _, _, _, rfl, .ty T, r1.tyX, kit_ty (isiOk_d hT d), q _ _ H1 p3 x1 (.bl _)⟩
theorem ve_isi2 {T U : String} {k : Nat} (hgi : Gl X "isinstance") (hmi : X.mg "isinstance" = none) (hg : Gl X T) (hm : X.mg T = none) (hv : bootBuiltins T = some (.type T)) (hT : isiOk T = true) (hgU : Gl X U) (hmU : X.mg U = none) (hvU : bootBuiltins U = some (.type U)) (hU : isiOk U = true) (ha : VB X n τ a w)
    (hn : (T : Str) ≠ "__name__" := by decide) (hd : ((T : Str) == ("__debug__" : Str)) = false := by decide) (hnU : (U : Str) ≠ "__name__" := by decide) (hdU : ((U : Str) == ("__debug__" : Str)) = false := by decide)
    (hs : starEach (a :: [.Tuple [.Name T p2, .Name U pt] k p1]) X.env = (false, eval a X.env) :: starEach [.Tuple [.Name T p2, .Name U pt] k p1] X.env := by rfl)
    (hs1 : starEach [.Tuple [.Name T p2, .Name U pt] k p1] X.env = (false, eval (.Tuple [.Name T p2, .Name U pt] k p1) X.env) :: starEach [] X.env := by rfl)
    (hs3 : starEach [.Name T p2, .Name U pt] X.env = (false, eval (.Name T p2) X.env) :: starEach [.Name U pt] X.env := by rfl) (hs4 : starEach [.Name U pt] X.env = (false, eval (.Name U pt) X.env) :: starEach [] X.env := by rfl)
    (hs2 : ((backTo pos (starEach [.Tuple [.Name (T : Str) p2, .Name U pt] k p1] X.env)).any fun x => x.fst) = false := by rfl) {p0 : Pos} : VE X n τ (.Call (.Name "isinstance" p0) [a, .Tuple [.Name T p2, .Name U pt] k p1] [] pos) (w1 (dIsi2 T U) w) :=
  PE.imp (pe_callB call_isiT hgi hmi (by decide +kernel) (pa_cons ha (pa_cons (pe_tup (pa_cons (pe_bltn (v := .ty T) hg hm hv rfl hn hd) (pa_cons (pe_bltn (v := .ty U) hgU hmU hvU rfl hnU hdU) pa_nil hs4) hs3)) pa_nil hs1) hs) (by decide) (by decide) hs hs2) fun σ H Q h => by
    obtain ⟨c, own, row, ρ, P, R, hw, q⟩ := h
    refine ⟨c, own, row, ρ, _, R, hw, fun d v H1 h1 x1 r1 => ?_⟩
    obtain ⟨d3, e3, p3⟩ := h1
    cases e3
    refine ⟨by show 2 ≤ sizeLine; decide, fun q0 hq => ?_⟩
    have x2 : Ex X.K row H1 (upd H1 q0 (.tup [.ty T, .ty U])) := .upd hq
    refine ⟨v, q0, _, _, [.type T, .type U], _, rfl, upd_same, .cons (.ty T) (.cons (.ty U) .nil), (r1.ex (R.mono x1).vw x2).tyX, kitAny_cons (kit_ty (isiOk_d hT d)) (fun e => kitAny_cons (r := isiN T (tyD d) || isiN U (tyD d)) (kit_ty (isiOk_d hU d)) (fun e2 => ?_) fun e2 => ?_) fun e => ?_, q _ _ _ p3 (x1.trans x2) (.bl _)⟩
    · rw [e, e2]; rfl
    · rw [e2, Bool.or_true]
    · rw [e, Bool.true_or]
end
end VS
/-! VSG: what is walked; own defs called. -/
namespace PySem
open Sem (wp)
open AutoSeq1 (wpAny_loadPart')
theorem vs_enumerate_newT (l : Addr) (items : Array Value) (n : Nat) (dct : Option Addr) (sl : Array (Option Value)) :
    Meets (Builtin.«enumerate.__new__» ⟨[.type "enumerate", .ref l], []⟩) (fun _ R s => s.heap.get? l = some { cls := .type "tuple", dict := dct, data := .seq items n, slots := sl } ∧
      R (.ok (.ret (.ref (s.heap.push { cls := .type "tuple_iterator", data := .fields #[.ref l, .int 0 0] }).objs.size)))
        { s with heap := (s.heap.push { cls := .type "tuple_iterator", data := .fields #[.ref l, .int 0 0] }).push { cls := .type "enumerate", data := .fields #[.none, .bool false, .ref s.heap.objs.size, rawInt 0, .none, .none] } }) :=
  .of_wp fun prog w A R s h => by
    obtain ⟨hp, g, d, tk, os⟩ := s; obtain ⟨hl, h⟩ := h
    have hsub := sub_enumerate
    have hL : Heap.IsTuple (Shared.heap ⟨hp, g, d, tk, os⟩) l items := ⟨_, hl, rfl, n, rfl⟩
    wp_walk using wpAny_loadPart' hl
    refine wpAny_stack_any fun st => wpAny_pure ?_
    split
    · rename_i c _ _ _ _ _
      cases (c == Value.type "enumerate")
      · wp_walk using wpAny_loadPart' hl, wpAny_pyIter_tuple hL
        exact ⟨_, rfl, h⟩
      · wp_walk using wpAny_loadPart' hl, wpAny_pyIter_tuple hL
        exact ⟨_, rfl, h⟩
    · wp_walk using wpAny_loadPart' hl, wpAny_pyIter_tuple hL
      exact ⟨_, rfl, h⟩
theorem vs_call_enumerate_tuple {prog : Program} {w : World} {A : Around} {E : Value → Shared → Prop} {s : Shared} {l : Addr} {items : Array Value} {Q : Value → Shared → Prop} (hL : s.heap.IsTuple l items)
    (h : ∀ h', IsEnum h' (s.heap.objs.size + 1) s.heap.objs.size 0 .none → h'.IsTupleIter s.heap.objs.size l 0 → h'.objs.size = s.heap.objs.size + 2 →
      (∀ b o, s.heap.get? b = some o → h'.get? b = some o) → Q (.ref (s.heap.objs.size + 1)) { s with heap := h' }) :
    wpAny (model prog w) A (call (.type "enumerate") [.ref l]) Q E s := by
  obtain ⟨⟨c, dct, dt, sl⟩, hl, hc, n, hd⟩ := hL
  replace hc : c = .type "tuple" := hc
  replace hd : dt = .seq items n := hd
  subst hc hd
  refine callType_new F.called_enumerate (by decide) (F.typeCall_enumerate_1 _) (F.newCall_enumerate_1 _) (fun obj => F.args_object_init_2 obj _) F.entry_enumerate_new
    (vs_enumerate_newT l items n dct sl) ⟨hl, ?_⟩
  have hz : (s.heap.push { cls := .type "tuple_iterator", data := .fields #[.ref l, .int 0 0] }).objs.size = s.heap.objs.size + 1 := Heap.size_push ..
  show _ ∧ _
  rw [hz]
  have he : IsEnum ((s.heap.push { cls := .type "tuple_iterator", data := .fields #[.ref l, .int 0 0] }).push
      { cls := .type "enumerate", data := .fields #[.none, .bool false, .ref s.heap.objs.size, rawInt 0, .none, .none] }) (s.heap.objs.size + 1) s.heap.objs.size 0 .none := by
    have := Heap.get?_push_size (s.heap.push { cls := .type "tuple_iterator", data := .fields #[.ref l, .int 0 0] })
      (o := { cls := .type "enumerate", data := .fields #[.none, .bool false, .ref s.heap.objs.size, rawInt 0, .none, .none] }) rfl
    rw [hz] at this; exact this
  refine ⟨⟨_, he, rfl⟩, h _ he ⟨_, Heap.get?_push_of_some _ (Heap.get?_push_size _ rfl), rfl, rfl⟩ (by rw [Heap.size_push, hz]) fun b o x => Heap.get?_push_of_some _ (Heap.get?_push_of_some _ x)⟩
end PySem

namespace VS
open PySem PySem.Spec PyProof.Rows L2
/-- the tuple at a, each item in a new pair -/
def Itet (K : PySem.W.Frag) (a : Addr) : It :=
  ⟨fun i H => ∃ (xs : List V) (x : V), SqT K H a xs ∧ xs[i]? = some x, fun i H v H' => ∃ T x, v = .ref T ∧ H T = none ∧ H' = upd H T (.tup [.int (i : Nat), x]) ∧ ∀ xs, SqT K H a xs → xs[i]? = some x, fun i H => ∃ xs : List V, SqT K H a xs ∧ xs.length ≤ i⟩
theorem turn_enumT {P : Program} {w : World} {K : PySem.W.Frag} {elts : List Expr} {kk : Nat} {tpos : Pos} (a e it : Addr) :
    Turn P w K (.Tuple elts kk tpos) (Itet K a) [e, it] e (fun i h => (∃ old, IsEnum h e it ((i : Nat) : Int) old) ∧ h.IsTupleIter it a i ∧ e ≠ it ∧ a ≠ it ∧ a ≠ e) where
  mem := by simp
  obj := fun i h st b hb => by
    obtain ⟨⟨old, he⟩, ⟨o, ho, hc, hd⟩, _⟩ := st
    have e' : b = e ∨ b = it := by simpa using hb
    rcases e' with z | z
    · rw [z]; exact ⟨_, he, fun v q => nomatch q⟩
    · rw [z]; exact ⟨o, ho, fun v q => by rw [hd] at q; cases q⟩
  keep := fun i h h' st k => let ⟨⟨old, he⟩, hi, hne⟩ := st; ⟨⟨old, k e (by simp) _ he⟩, hi.at fun o q => k it (by simp) o q, hne⟩
  item := by
    intro X hP hw hK hc i pins s σ H E I hf st hg
    subst hP hw hK
    obtain ⟨⟨old, he⟩, hit, hne, hai, hae⟩ := st
    obtain ⟨xs, x, hq, hx⟩ := hg
    obtain ⟨its, rv, p, hz⟩ := I.tuple hq
    obtain ⟨u, hu, ru⟩ := rv.get hx
    have hel : e < s.heap.objs.size := Heap.lt_size he
    have hil : it < s.heap.objs.size := by obtain ⟨_, q, _⟩ := hit; exact Heap.lt_size q
    have hlt : i < its.toArray.size := by
      rw [List.size_toArray]
      obtain ⟨h1, _⟩ := List.getElem?_eq_some_iff.mp hu
      exact h1
    have D := Draws.tuple (prog := X.prog) (w := X.w) (A := X.A.in1) (I.ok.hd hc) it a hai its.toArray
    refine wpAny_pyNext_enum_itemD D he ⟨hit, (show s.heap.IsTuple a its.toArray from p)⟩ hlt hne (by simp [hne, Ne.symm hae]) fun y h' tk hy ho hit' hT hsz hk => ?_
    have ey : y = u := by
      have hy' : its.toArray[i]? = some y := hy
      rw [List.getElem?_toArray, hu] at hy'
      exact (Option.some.inj hy').symm
    subst ey
    refine ⟨_, rfl, wpAny_letOwnedTupleGo_enum (s := { s with heap := h', toks := tk + 1 }) ho fun h'' he' sb => ?_⟩
    have hT2 : h''.get? s.heap.objs.size = some { cls := .type "tuple", data := .seq #[.int i tk, y] } := (sb.2 _ (Nat.ne_of_gt hel)).trans hT
    have new : ObjOk X.prog X.w (upd H s.heap.objs.size (.tup [.int (i : Nat), x])) h'' s.heap.objs.size (.tup [.int (i : Nat), x]) :=
      ⟨by show 2 ≤ sizeLine; decide, [.int i tk, y], .cons ⟨_, rfl⟩ (.cons ru .nil), ⟨_, hT2, rfl, _, rfl⟩⟩
    have I1 : Inv X pins σ (upd H s.heap.objs.size (.tup [.int (i : Nat), x])) { s with heap := h'', toks := tk + 1 } :=
      I.turnedNew (ch := [e, it]) (fun b ob hb q => (sb.2 b (fun z => hb (by simp [z]))).trans (hk b ob (fun z => hb (by simp [z])) (fun z => hb (by simp [z])) q)) hf (Nat.le_refl _) new
    refine ⟨.ref s.heap.objs.size, _, I1, rfl, ⟨_, x, rfl, I.hok.fresh (Nat.le_refl _), rfl, fun ys hy => by rw [I.tuple_inj hy hq]; exact hx⟩, ⟨⟨y, ?_⟩, hit'.1.at fun o q => (sb.2 it (Ne.symm hne)).trans q, hne, hai, hae⟩, fun b hb => ?_⟩
    · have e1 : ((i + 1 : Nat) : Int) = (i : Int) + 1 := by omega
      rw [e1]; exact he'
    · have hb' : b < s.heap.objs.size := by
        have e' : b = e ∨ b = it := by simpa using hb
        rcases e' with z | z
        · rw [z]; exact hel
        · rw [z]; exact hil
      rw [upd_ne (Nat.ne_of_lt hb')]
      exact (hf b hb).1
  done := by
    intro X hP hw hK hc i pins s σ H E I hf st hg
    subst hP hw hK
    obtain ⟨⟨old, he⟩, hit, hne, hai, hae⟩ := st
    obtain ⟨xs, hq, hx⟩ := hg
    obtain ⟨its, rv, p, hz⟩ := I.tuple hq
    obtain ⟨f0, f1, f2, f3, f4, f5⟩ := hf it (by simp)
    have hl := rv.length
    have hit2 : s.heap.IsTupleIter it a i := hit
    have hT : s.TypeIs (.ref e) "enumerate" := ⟨_, he, rfl⟩
    have hsz : its.toArray[i]? = none := by simp; omega
    unfold pyNext
    refine wpAny_bind (wpAny_attempt (wpAny_callSpecial?_slot (name := Str.ofString "__next__") hT F.slot_enumerate_next
      (wpAny_call_entry F.slot_enumerate_next hT F.entry_enumerate_next ?_ (F.args_enumerate_next_1 _))))
    show wpAny _ _ (field (.ref e) 2 >>= _) _ _ _
    refine wpAny_bind (wpAny_field he rfl (x := .ref it) rfl ?_)
    refine wpAny_bind (wpAny_nextOf_tuple_end (I.ok.hd hc) hit (show s.heap.IsTuple a its.toArray from p) hsz fun h' x he' hx' => ?_)
    obtain ⟨o, ho, hc'⟩ := hx'
    refine wpAny_bind (wpAny_isInstance (T := "StopIteration") (b := true) ⟨o, ho, hc'⟩ isSubtype_stop ?_)
    exact wpAny_pure ⟨rfl, I.turned (t' := s.toks) (fun b o hb q => he' b o hb q) f0 f1 f3 f4 f5⟩
  self := fun A i s Q E st h => let ⟨⟨_, he⟩, _⟩ := st; wpAny_pyIter_enum he h
end VS
/-! VSH: walks, comprehensions, calls of own defs. -/
namespace VS
open PySem PySem.Spec PyProof.Rows L2

/-- the iterator J yields ds, whatever else happens to the heap -/
def Walk (K : PySem.W.Frag) (F : Hp) (J : It) (ds : List D) : Prop := ∀ (H2 : Hp) (p : Addr → Bool), Same F (hid H2 p) → (∀ b, H2 b = none → p b = false) → (∀ b xs, H2 b = some (.tup xs) → p b = false) →
  ∀ i, (∀ d, ds[i]? = some d → J.go i H2 ∧ ∀ x H3, J.yld i H2 x H3 → Same H2 H3 ∧ Rp K (hid H3 p) x d) ∧ (ds.length ≤ i → J.stop i H2)
abbrev WI := Env → (List D → Prop) → Prop
def rdI (K : PySem.W.Frag) (n : Nat) (τ : List Ty) (w : WI) : TI := fun σ H R => ∃ c own row ρ P, RS K n c own row τ ρ σ H ∧ w ρ P ∧
  ∀ ds J H', P ds → Ex K row H H' → Walk K (hid H' (hd c own row)) J ds → R J H'
def VI (X : Cx) (n : Nat) (τ : List Ty) (tg e : Expr) (w : WI) : Prop := PI X tg e (rdI X.K n τ w)

section
variable {K : PySem.W.Frag} {F H : Hp} {a : Addr} {xs : List V} {ds : List D} {p : Addr → Bool}
theorem walk_list (h : F a = some (.lst xs)) (r : RpA K F xs ds) : Walk K F (Itl K a) ds := by
  intro H2 p hs hn ht i
  have e : H2 a = some (.lst xs) := hid_le _ _ (hs _ _ h)
  refine ⟨fun d hd => ?_, fun hi => ⟨xs, .of e, by rw [r.len]; exact hi⟩⟩
  obtain ⟨v, h1, h2⟩ := r.get hd
  refine ⟨⟨xs, v, .of e, h1⟩, fun x H3 y => ?_⟩
  obtain ⟨rfl, y2⟩ := y
  have := y2 xs (.of e)
  rw [h1] at this
  cases this
  exact ⟨.refl _, h2.mono hs⟩
theorem walk_tup (h : F a = some (.tup xs)) (r : RpA K F xs ds) : Walk K F (Itt K a) ds := by
  intro H2 p hs hn ht i
  have e : H2 a = some (.tup xs) := hid_le _ _ (hs _ _ h)
  refine ⟨fun d hd => ?_, fun hi => ⟨xs, .of e, by rw [r.len]; exact hi⟩⟩
  obtain ⟨v, h1, h2⟩ := r.get hd
  refine ⟨⟨xs, v, .of e, h1⟩, fun x H3 y => ?_⟩
  obtain ⟨rfl, y2⟩ := y
  have := y2 xs (.of e)
  rw [h1] at this
  cases this
  exact ⟨.refl _, h2.mono hs⟩
/-- lo, lo + 1, .. -/
def rngD (lo : Int) (n : Nat) : List D := (List.range n).map fun i => .int (lo + (i : Nat))
theorem rngD_len (lo : Int) (n : Nat) : (rngD lo n).length = n := by unfold rngD; rw [List.length_map, List.length_range]
theorem walk_rng {lo : Int} {n : Nat} : Walk K F (Itr lo n) (rngD lo n) := by
  intro H2 p hs hn ht i
  refine ⟨fun d hd => ?_, fun hi => by rw [rngD_len] at hi; exact hi⟩
  have hi : i < n := by
    obtain ⟨h1, _⟩ := List.getElem?_eq_some_iff.mp hd
    rw [rngD_len] at h1; exact h1
  have e : d = .int (lo + (i : Nat)) := by
    unfold rngD at hd
    rw [List.getElem?_map, List.getElem?_range hi] at hd
    exact (Option.some.inj hd).symm
  subst e
  refine ⟨hi, fun x H3 y => ?_⟩
  obtain ⟨rfl, rfl⟩ := y
  exact ⟨.refl _, .int _⟩
/-- (0, x0), (1, x1), .. -/
def enumD (ds : List D) : List D := ds.zipIdx.map fun p => .tuple [.int (p.2 : Nat), p.1]
theorem enumD_get (ds : List D) (i : Nat) : (enumD ds)[i]? = ds[i]?.map fun d => .tuple [.int (i : Nat), d] := by
  unfold enumD
  rw [List.getElem?_map, List.getElem?_zipIdx, Nat.zero_add]
  cases ds[i]? <;> rfl
theorem enumD_len (ds : List D) : (enumD ds).length = ds.length := by unfold enumD; rw [List.length_map, List.length_zipIdx]
theorem tup_new {q : Addr} {H2 : Hp} (hs : Same F (hid H2 p)) (hn : ∀ b, H2 b = none → p b = false) (hq : H2 q = none) {vs : List V} {es : List D} (r : RpA K F vs es) : Rp K (hid (upd H2 q (.tup vs)) p) (.ref q) (.tuple es) := by
  refine .tup (hid_upd (hn q hq)) (r.mono ?_)
  intro b o e
  obtain ⟨h1, h2⟩ := hid_some.mp (hs b o e)
  exact hid_some.mpr ⟨h1, by rw [upd_ne (ne_of_none h2 hq)]; exact h2⟩
theorem walk_enumL (h : F a = some (.lst xs)) (r : RpA K F xs ds) : Walk K F (Ite K a) (enumD ds) := by
  intro H2 p hs hn ht i
  have e : H2 a = some (.lst xs) := hid_le _ _ (hs _ _ h)
  refine ⟨fun d hd => ?_, fun hi => ⟨xs, .of e, by rw [r.len]; rw [enumD_len] at hi; exact hi⟩⟩
  rw [enumD_get] at hd
  obtain ⟨d', h1, rfl⟩ := Option.map_eq_some_iff.mp hd
  obtain ⟨v, h1, h2⟩ := r.get h1
  refine ⟨⟨xs, v, .of e, h1⟩, fun x H3 y => ?_⟩
  obtain ⟨T, z, rfl, hT, rfl, y2⟩ := y
  have := y2 xs (.of e)
  rw [h1] at this
  cases this
  exact ⟨same_upd hT, tup_new hs hn hT (.cons (.int _) (.cons h2 .nil))⟩
theorem walk_enumT (h : F a = some (.tup xs)) (r : RpA K F xs ds) : Walk K F (Itet K a) (enumD ds) := by
  intro H2 p hs hn ht i
  have e : H2 a = some (.tup xs) := hid_le _ _ (hs _ _ h)
  refine ⟨fun d hd => ?_, fun hi => ⟨xs, .of e, by rw [r.len]; rw [enumD_len] at hi; exact hi⟩⟩
  rw [enumD_get] at hd
  obtain ⟨d', h1, rfl⟩ := Option.map_eq_some_iff.mp hd
  obtain ⟨v, h1, h2⟩ := r.get h1
  refine ⟨⟨xs, v, .of e, h1⟩, fun x H3 y => ?_⟩
  obtain ⟨T, z, rfl, hT, rfl, y2⟩ := y
  have := y2 xs (.of e)
  rw [h1] at this
  cases this
  exact ⟨same_upd hT, tup_new hs hn hT (.cons (.int _) (.cons h2 .nil))⟩
end

section
variable {X : Cx} {n : Nat} {τ : List Ty} {e tg : Expr} {es : List Expr} {w : WE} {pos p1 : Pos}
/-! ### the walks -/
def wiSeq (w : WE) : WI := fun ρ R => w ρ fun d => ∃ ds, seqD d = some ds ∧ (ds.length ≤ sizeLine → R ds)
theorem vi_seq (h : VE X n τ e w) : VI X n τ tg e (wiSeq w) := by
  refine ⟨fun pins s σ H R I q => ?_⟩
  obtain ⟨c, own, row, ρ, P, RSt, hw, q⟩ := q
  refine thn (h.run pins s σ H (fun x H1 => ∃ d ds, seqD d = some ds ∧ (ds.length ≤ sizeLine → P ds) ∧ Ex X.K row H H1 ∧ Rp X.K (hid H1 (hd c own row)) x d) I ⟨c, own, row, ρ, _, RSt, hw, fun d v H' pd x r => ?_⟩) fun v s1 ⟨x, H1, I1, r1, d, ds, e1, e2, x1, rp⟩ => ?_
  · obtain ⟨ds, e1, e2⟩ := pd
    exact ⟨d, ds, e1, e2, x, r⟩
  · cases d <;> simp only [seqD] at e1 <;> try (cases e1; done)
    · cases e1
      cases rp with
      | lst h1 h2 =>
        cases r1
        obtain ⟨its, rv, p, hz⟩ := I1.list (.of (hid_le _ _ h1))
        refine wpAny_pyIter_list p.isList ?_
        refine ⟨s1.heap.objs.size, [s1.heap.objs.size], _, _, H1, rfl, I1.kept (t' := s1.toks) fun b o e => Heap.get?_push_of_some _ e, turn_list _ _, ⟨_, Heap.get?_push_size _ rfl, rfl, rfl⟩, fun b hb => ?_, q _ _ _ (e2 (by rw [← h2.len]; exact hz)) x1 (walk_list h1 h2)⟩
        have e : b = s1.heap.objs.size := by simpa using hb
        subst e
        exact I1.fpOk (Nat.le_refl _) (I1.hok.fresh (Nat.le_refl _))
    · cases e1
      cases rp with
      | tup h1 h2 =>
        cases r1
        obtain ⟨its, rv, p, hz⟩ := I1.tuple (.of (hid_le _ _ h1))
        refine wpAny_pyIter_tuple (show s1.heap.IsTuple _ its.toArray from p) ?_
        refine ⟨s1.heap.objs.size, [s1.heap.objs.size], _, _, H1, rfl, I1.kept (t' := s1.toks) fun b o e => Heap.get?_push_of_some _ e, turn_tuple _ _, ⟨_, Heap.get?_push_size _ rfl, rfl, rfl⟩, fun b hb => ?_, q _ _ _ (e2 (by rw [← h2.len]; exact hz)) x1 (walk_tup h1 h2)⟩
        have e : b = s1.heap.objs.size := by simpa using hb
        subst e
        exact I1.fpOk (Nat.le_refl _) (I1.hok.fresh (Nat.le_refl _))
def b62 (i : Int) : Prop := -(2 ^ 62) ≤ i ∧ i < 2 ^ 62
def wiRng1 (w : WA) : WI := fun ρ R => w ρ fun ds => ∃ j, ds = [.int j] ∧ b62 j ∧ R (rngD 0 j.toNat)
def wiRng2 (w : WA) : WI := fun ρ R => w ρ fun ds => ∃ i j, ds = [.int i, .int j] ∧ b62 i ∧ b62 j ∧ R (rngD i (j - i).toNat)
variable {wr : WA}
theorem PI.imp {t t' : TI} (h : PI X tg e t) (k : ∀ σ H R, t' σ H R → t σ H R) : PI X tg e t' := ⟨fun pins s σ H R I q => h.run pins s σ H R I (k σ H R q)⟩
theorem vi_rng1 {a : Expr} {p : Pos} (hg : Gl X "range") (hm : X.mg "range" = none) (ha : VA X n τ [a] wr) (hs : starEach [a] X.env = [(false, eval a X.env)] := by rfl) : VI X n τ tg (.Call (.Name "range" p) [a] [] pos) (wiRng1 wr) :=
  PI.imp (pi_range1 hg hm ha hs) fun σ H R ⟨c, own, row, ρ, P, RSt, hw, q⟩ => by
    refine ⟨c, own, row, ρ, _, RSt, hw, fun ds vs H' pd x r => ?_⟩
    obtain ⟨j, rfl, ⟨b1, b2⟩, h⟩ := pd
    obtain ⟨v, rfl, h1⟩ := r.one
    exact ⟨j, by rw [h1.int], b1, b2, q _ _ _ h x walk_rng⟩
theorem vi_rng2 {a b : Expr} {p : Pos} (hg : Gl X "range") (hm : X.mg "range" = none) (ha : VA X n τ [a, b] wr) (hs : starEach [a, b] X.env = [(false, eval a X.env), (false, eval b X.env)] := by rfl) (hs2 : starEach [b] X.env = [(false, eval b X.env)] := by rfl) : VI X n τ tg (.Call (.Name "range" p) [a, b] [] pos) (wiRng2 wr) :=
  PI.imp (pi_range2 hg hm ha hs hs2) fun σ H R ⟨c, own, row, ρ, P, RSt, hw, q⟩ => by
    refine ⟨c, own, row, ρ, _, RSt, hw, fun ds vs H' pd x r => ?_⟩
    obtain ⟨i, j, rfl, ⟨b1, b2⟩, ⟨b3, b4⟩, h⟩ := pd
    obtain ⟨v, u, rfl, h1, h2⟩ := r.two
    exact ⟨i, j, by rw [h1.int, h2.int], ⟨b1, b2, b3, b4⟩, q _ _ _ h x walk_rng⟩
def wiEnum (w : WA) : WI := fun ρ R => w ρ fun ds => ∃ d es, ds = [d] ∧ seqD d = some es ∧ (es.length ≤ sizeLine → R (enumD es))
theorem vi_enum {p tpos : Pos} {elts : List Expr} {kk : Nat} (hg : Gl X "enumerate") (hm : X.mg "enumerate" = none) (ha : VAs X n τ [e] wr) (hs : starEach [e] X.env = [(false, eval e X.env)] := by rfl) :
    VI X n τ (.Tuple elts kk tpos) (.Call (.Name "enumerate" p) [e] [] pos) (wiEnum wr) := by
  refine ⟨fun pins s σ H R I q => ?_⟩
  obtain ⟨c, own, row, ρ, P, RSt, hw, q⟩ := q
  refine Call_ (ld_blt I hg hm boot_enumerate (PyProof.Rows.callWith_type1 (thn (ha.run pos pins s σ H (fun vs H1 => ∃ x d es, vs = [x] ∧ seqD d = some es ∧ (es.length ≤ sizeLine → P (enumD es)) ∧ Ex X.K row H H1 ∧ Rp X.K (hid H1 (hd c own row)) x d) I ⟨c, own, row, ρ, _, RSt, hw, fun ds vs H' pd x r => ?_⟩) fun us s1 ⟨vs, H1, I1, r1, x, d, es, ev, e1, e2, x1, rp⟩ => ?_) hs rfl))
  · obtain ⟨d, es, rfl, e1, e2⟩ := pd
    cases r with
    | cons r t => cases t; exact ⟨_, d, es, rfl, e1, e2, x, r⟩
  · subst ev
    obtain ⟨u, rfl, ru⟩ := Vals.one r1
    cases d <;> simp only [seqD] at e1 <;> try (cases e1; done)
    · cases e1
      cases rp with
      | lst h1 h2 =>
        rename_i a' xs'
        obtain rfl : u = Value.ref a' := ru
        obtain ⟨its, rv, p', hz⟩ := I1.list (.of (hid_le _ _ h1))
        refine call_enumerate_list p'.isList fun h' he hit hsz hk => wpAny_pyIter_enum he ?_
        have I2 : Inv X pins σ H1 { s1 with heap := h' } := I1.kept (t' := s1.toks) hk
        refine ⟨s1.heap.objs.size + 1, [s1.heap.objs.size + 1, s1.heap.objs.size], _, _, H1, rfl, I2, turn_enum a' (s1.heap.objs.size + 1) s1.heap.objs.size, ⟨⟨.none, he⟩, hit, Nat.succ_ne_self _⟩, fun b hb => ?_, q _ _ _ (e2 (by rw [← h2.len]; exact hz)) x1 (walk_enumL h1 h2)⟩
        have e' : b = s1.heap.objs.size + 1 ∨ b = s1.heap.objs.size := by simpa using hb
        have hle : s1.heap.objs.size ≤ b := by
          rcases e' with z | z
          · rw [z]; exact Nat.le_add_right _ _
          · rw [z]; exact Nat.le_refl _
        exact I1.fpOk hle (I1.hok.fresh hle)
    · cases e1
      cases rp with
      | tup h1 h2 =>
        rename_i a' xs'
        obtain rfl : u = Value.ref a' := ru
        obtain ⟨its, rv, p', hz⟩ := I1.tuple (.of (hid_le _ _ h1))
        have hlt : a' < s1.heap.objs.size := I1.hok.lt (hid_le _ _ h1)
        refine PySem.vs_call_enumerate_tuple (show s1.heap.IsTuple _ its.toArray from p') fun h' he hit hsz hk => wpAny_pyIter_enum he ?_
        have I2 : Inv X pins σ H1 { s1 with heap := h' } := I1.kept (t' := s1.toks) hk
        refine ⟨s1.heap.objs.size + 1, [s1.heap.objs.size + 1, s1.heap.objs.size], _, _, H1, rfl, I2, turn_enumT a' (s1.heap.objs.size + 1) s1.heap.objs.size, ⟨⟨.none, he⟩, hit, Nat.succ_ne_self _, Nat.ne_of_lt hlt, Nat.ne_of_lt (Nat.lt_succ_of_lt hlt)⟩, fun b hb => ?_, q _ _ _ (e2 (by rw [← h2.len]; exact hz)) x1 (walk_enumT h1 h2)⟩
        have e' : b = s1.heap.objs.size + 1 ∨ b = s1.heap.objs.size := by simpa using hb
        have hle : s1.heap.objs.size ≤ b := by
          rcases e' with z | z
          · rw [z]; exact Nat.le_add_right _ _
          · rw [z]; exact Nat.le_refl _
        exact I1.fpOk hle (I1.hok.fresh hle)
end
end VS
/-! VSI: targets, comprehensions. -/
namespace VS
open PySem PySem.Spec PyProof.Rows L2

section
variable {K : PySem.W.Frag} {n : Nat} {c : C} {own : Own} {row : Option Addr} {τ : List Ty} {ρ : Env} {σ : L2.St} {H H' H1 H2 : Hp}
/-- a slot is set -/
theorem RS.put (R : RS K n c own row τ ρ σ H) {i : Nat} {v : V} {d : D} (ht : τ.getD i .fz = .fz) (hi : i < n) (h : Rp K (hid H (hd c own row)) v d) : RS K n c own row τ (VS.put ρ i d) (σ.set i (some v)) H where
  lenσ := by rw [List.length_set]; exact R.lenσ
  lenρ := by rw [put_len]; exact R.lenρ
  same := R.same
  fresh := R.fresh
  s0 := R.s0
  live := R.live
  rowp := R.rowp
  rowat := R.rowat
  slot := fun j => by
    rw [eg_put _ _ _ _ (by rw [R.lenρ]; exact hi)]
    by_cases e : j = i
    · subst e
      rw [if_pos rfl, ht, List.getElem?_set_self (by rw [R.lenσ]; exact hi)]
      exact ⟨v, rfl, h⟩
    · rw [if_neg e, List.getElem?_set_ne (Ne.symm e)]
      exact R.slot j
def dels (ρ : Env) : List Nat → Env
  | [] => ρ
  | i :: r => del (dels ρ r) i
theorem dels_len (ρ : Env) : ∀ L : List Nat, (dels ρ L).length = ρ.length
  | [] => rfl
  | i :: r => by show (del (dels ρ r) i).length = _; rw [del_len, dels_len ρ r]
theorem eg_dels (ρ : Env) (j : Nat) : ∀ L : List Nat, eg (dels ρ L) j = if j ∈ L then none else eg ρ j
  | [] => by simp [dels]
  | i :: r => by
    show eg (del (dels ρ r) i) j = _
    rw [eg_del, eg_dels ρ j r]
    by_cases e : j = i
    · simp [e]
    · by_cases e2 : j ∈ r <;> simp [e, e2]
theorem RS.wipe (R : RS K n c own row τ ρ σ H) {L : List Nat} (hL : ∀ i ∈ L, τ.getD i .fz = .fz) : RS K n c own row τ (dels ρ L) (L2.wipe σ L) H where
  lenσ := by rw [wipe_length]; exact R.lenσ
  lenρ := by rw [dels_len]; exact R.lenρ
  same := R.same
  fresh := R.fresh
  s0 := R.s0
  live := R.live
  rowp := R.rowp
  rowat := R.rowat
  slot := fun j => by
    rw [eg_dels]
    by_cases e : j ∈ L
    · rw [if_pos e, hL j e]; trivial
    · rw [if_neg e, wipe_out e]; exact R.slot j
theorem wipe_get (σ : L2.St) : ∀ (L : List Nat) (j : Nat), (L2.wipe σ L)[j]? = if j ∈ L then (if j < σ.length then some none else none) else σ[j]?
  | [], j => by simp [L2.wipe]
  | i :: r, j => by
    unfold L2.wipe
    by_cases e : i = j
    · subst e
      by_cases hl : i < σ.length
      · rw [List.getElem?_set_self (by rw [wipe_length]; exact hl), if_pos (List.mem_cons_self ..), if_pos hl]
      · rw [List.getElem?_eq_none (by rw [List.length_set, wipe_length]; omega), if_pos (List.mem_cons_self ..), if_neg hl]
    · rw [List.getElem?_set_ne e, wipe_get σ r j]
      by_cases e2 : j ∈ r <;> simp [e2, Ne.symm e]
theorem wipe_set {L : List Nat} {i : Nat} {v : Option V} (h : i ∈ L) : L2.wipe (σ.set i v) L = L2.wipe σ L := by
  apply List.ext_getElem?
  intro j
  rw [wipe_get, wipe_get, List.length_set]
  by_cases e : j ∈ L
  · rw [if_pos e, if_pos e]
  · rw [if_neg e, if_neg e, List.getElem?_set_ne (fun z => e (by rw [← z]; exact h))]
theorem wipe_wipe {L : List Nat} : L2.wipe (L2.wipe σ L) L = L2.wipe σ L := by
  apply List.ext_getElem?
  intro j
  rw [wipe_get, wipe_get, wipe_length]
  by_cases e : j ∈ L
  · rw [if_pos e, if_pos e]
  · rw [if_neg e, if_neg e]
theorem hid_upd_hidden {a : Addr} {o : HO} {p : Addr → Bool} (h : p a = true) : hid (upd H a o) p = hid H p := by
  funext b
  unfold hid
  by_cases e : b = a
  · subst e; rw [if_pos h, if_pos h]
  · rw [upd_ne e]
theorem RS.hd_own (R : RS K n c own row τ ρ σ H) {a : Addr} {i : Nat} (h : own a = some i) : hd c own row a = true := by
  unfold hd; rw [h]; simp
/-- a cell of its own is written -/
theorem RS.write (R : RS K n c own row τ ρ σ H) {a : Addr} {i : Nat} {o : HO} {ρ' : Env} (ha : own a = some i) (ho : IsC o) (hl : ρ'.length = n) (hρ : ∀ j, j ≠ i → eg ρ' j = eg ρ j)
    (hs : SlotP K (hid H (hd c own row)) (upd H a o) own row i (τ.getD i .fz) (eg ρ' i) σ[i]?) : RS K n c own row τ ρ' σ (upd H a o) where
  lenσ := R.lenσ
  lenρ := hl
  same := fun b u h1 h2 => by
    rw [upd_ne (fun z => by subst z; rw [R.fresh _ _ ha] at h1; cases h1)]
    exact R.same b u h1 h2
  fresh := R.fresh
  s0 := R.s0
  live := fun b j h => by
    by_cases e : b = a
    · subst e; exact ⟨o, upd_same, ho⟩
    · rw [upd_ne e]; exact R.live b j h
  rowp := R.rowp
  rowat := fun r h => by
    obtain ⟨h1, h2, h3⟩ := R.rowat r h
    refine ⟨?_, h2, h3⟩
    obtain ⟨b, ns, k, s, d, k1, k3, k4⟩ := h1
    have ne : r ≠ a := fun z => by rw [z, ha] at h2; cases h2
    refine ⟨b, ns, k, s, d, by rw [upd_ne ne]; exact k1, ?_, k4⟩
    rcases k3 with ⟨ob, k3⟩ | k3
    · refine .inl ⟨ob, ?_⟩
      rw [upd_ne (fun z => ?_)]
      · exact k3
      · obtain ⟨u, e1, e2⟩ := R.live a i ha
        rw [← z, k3] at e1
        cases e1
        exact e2
    · exact .inr k3
  slot := fun j => by
    rw [hid_upd_hidden (R.hd_own ha)]
    by_cases e : j = i
    · subst e; exact hs
    · rw [hρ j e]
      exact (R.slot j).mono (.refl _) fun b hb u hu => by
        rw [upd_ne (fun z => by rw [z, ha] at hb; exact e (Option.some.inj hb).symm)]
        exact hu
end
end VS
/-! VSJ: targets, list comprehensions, own defs called. -/
namespace VS
open PySem PySem.Spec PyProof.Rows L2

/-! ### targets -/
abbrev WG := D → Env → (Env → Prop) → Prop
abbrev WGs := List D → Env → (Env → Prop) → Prop
def wgn (i : Nat) : WG := fun d ρ Q => Q (put ρ i d)
def wgt (k : Nat) (g : WGs) : WG := fun d ρ Q => ∃ ds, d = .tuple ds ∧ ds.length = k ∧ g ds ρ Q
def wgnil : WGs := fun ds ρ Q => ds = [] ∧ Q ρ
def wgcons (g : WG) (r : WGs) : WGs := fun ds ρ Q => ∃ d es, ds = d :: es ∧ g d ρ fun ρ' => r es ρ' Q
def rdG (K : PySem.W.Frag) (n : Nat) (τ : List Ty) (L : List Nat) (w : WG) : TG := fun v σ H Q => ∃ c own row ρ d P, RS K n c own row τ ρ σ H ∧ Rp K (hid H (hd c own row)) v d ∧ w d ρ P ∧
  ∀ ρ' σ', P ρ' → RS K n c own row τ ρ' σ' H → wipe σ' L = wipe σ L → Q σ' H
def rdGs (K : PySem.W.Frag) (n : Nat) (τ : List Ty) (L : List Nat) (w : WGs) : TGs := fun vs σ H Q => ∃ c own row ρ ds P, RS K n c own row τ ρ σ H ∧ RpA K (hid H (hd c own row)) vs ds ∧ w ds ρ P ∧
  ∀ ρ' σ', P ρ' → RS K n c own row τ ρ' σ' H → wipe σ' L = wipe σ L → Q σ' H
def VG (X : Cx) (n : Nat) (τ : List Ty) (L : List Nat) (tg : Expr) (w : WG) : Prop := PG X tg (rdG X.K n τ L w)
def VGs (X : Cx) (n : Nat) (τ : List Ty) (L : List Nat) (tgs : List Expr) (w : WGs) : Prop := PGs X tgs (rdGs X.K n τ L w)
theorem PG.imp {X : Cx} {tg : Expr} {t t' : TG} (h : PG X tg t) (k : ∀ v σ H Q, t' v σ H Q → t v σ H Q) : PG X tg t' := ⟨fun pins s σ H v u Q I r q => h.run pins s σ H v u Q I r (k v σ H Q q)⟩
theorem PGs.imp {X : Cx} {tg : List Expr} {t t' : TGs} (h : PGs X tg t) (k : ∀ v σ H Q, t' v σ H Q → t v σ H Q) : PGs X tg t' := ⟨fun pins s σ H v u Q I r q => h.run pins s σ H v u Q I r (k v σ H Q q)⟩
section
variable {X : Cx} {n : Nat} {τ : List Ty} {L : List Nat} {e tg : Expr} {es : List Expr} {pos : Pos}
theorem vg_name {i : Nat} {x : Str} (hN : X.N.Nodup) (hi : X.N[i]? = some x) (hx : Loc X.env.scope x) (ht : τ.getD i .fz = .fz := by rfl) (hn : i < n := by decide) (hL : i ∈ L := by decide) (hf : X.fn x = true ∨ X.env.scope.names.lookup x = some .local := by first | exact .inl rfl | exact .inr rfl | assumption) : VG X n τ L (.Name x pos) (wgn i) :=
  PG.imp (pg_name hN hi hx hf) fun v σ H Q ⟨c, own, row, ρ, d, P, R, r, hw, q⟩ => q _ _ hw (R.put ht hn r) (wipe_set hL)
theorem vgs_nil : VGs X n τ L [] wgnil := PGs.imp pgs_nil fun v σ H Q ⟨c, own, row, ρ, ds, P, R, r, hw, q⟩ => by
  obtain ⟨rfl, hw⟩ := hw
  cases r
  exact ⟨rfl, q _ _ hw R rfl⟩
theorem vgs_cons {g : WG} {r : WGs} (h1 : VG X n τ L e g) (h2 : VGs X n τ L es r)
    (hs : (assignEach (e :: es) X.env).map (·.2) = assign e X.env :: (assignEach es X.env).map (·.2) := by rfl) : VGs X n τ L (e :: es) (wgcons g r) :=
  PGs.imp (pgs_cons h1 h2 hs) fun v σ H Q ⟨c, own, row, ρ, ds, P, R, rr, hw, q⟩ => by
    obtain ⟨d, es', rfl, hw⟩ := hw
    cases rr with
    | cons r1 r2 =>
      refine ⟨_, _, rfl, c, own, row, ρ, d, _, R, r1, hw, fun ρ' σ' h3 R' e1 => ⟨c, own, row, ρ', es', P, R', r2, h3, fun ρ2 σ2 h4 R2 e2 => q ρ2 σ2 h4 R2 (e2.trans e1)⟩⟩
theorem vg_tup {g : WGs} {k m : Nat} (hc : X.calm = true) (h : VGs X n τ L es g) (hn : (assignEach es X.env).length = m := by rfl) (hst : (assignEach es X.env).findIdx? (·.1) = none := by rfl) : VG X n τ L (.Tuple es k pos) (wgt m g) :=
  PG.imp (pg_tup hc h hn hst) fun v σ H Q ⟨c, own, row, ρ, d, P, R, r, hw, q⟩ => by
    obtain ⟨ds, rfl, hl, hw⟩ := hw
    cases r with
    | tup h1 h2 => exact ⟨_, _, rfl, .of (hid_le _ _ h1), by rw [h2.len]; exact hl, c, own, row, ρ, ds, P, R, h2, hw, q⟩

/-! ### list comprehensions -/
def VTs (X : Cx) (n : Nat) (τ : List Ty) (ifs : List Expr) (w : WT) : Prop := PTs X ifs (rdT X.K n τ w)
def wyes : WT := fun _ Q => Q true
theorem vts_nil : VTs X n τ [] wyes := ⟨fun pins s σ H Q I ⟨c, own, row, ρ, P, R, hw, q⟩ => pts_nil.run pins s σ H Q I (q true H hw .refl)⟩
theorem vts_one {w : WT} (h : VT X n τ e w) : VTs X n τ [e] w := pts_one h
def wcl (g : WG) (wt : WT) (we : WE) (ρ : Env) : List D → List D → (List D → Prop) → Prop
  | [], acc, Q => Q acc
  | x :: xs, acc, Q => g x ρ fun ρ' => wt ρ' fun b => if b = true then we ρ' fun y => wcl g wt we ρ xs (acc ++ [y]) Q else wcl g wt we ρ xs acc Q
def wlc (wi : WI) (g : WG) (wt : WT) (we : WE) (L : List Nat) : WE := fun ρ Q => wi ρ fun ds => ds.length ≤ sizeLine ∧ wcl g wt we (dels ρ L) ds [] fun acc => Q (.list acc)
/-- the owner of a list that a comprehension makes -/
def ownC (own : Own) (a : Addr) (m : Nat) : Own := fun b => if b = a then some m else own b
theorem ownC_same {own : Own} {a : Addr} {m : Nat} : ownC own a m a = some m := if_pos rfl
theorem ownC_ne {own : Own} {a b : Addr} {m : Nat} (h : b ≠ a) : ownC own a m b = own b := if_neg h
theorem hd_ownC {c : C} {own : Own} {row : Option Addr} {a b : Addr} {m : Nat} (h : hd c (ownC own a m) row b = false) : hd c own row b = false := by
  obtain ⟨h1, h2, h3⟩ := hd_false.mp h
  refine hd_false.mpr ⟨h1, ?_, h3⟩
  by_cases e : b = a
  · subst e; rw [ownC_same] at h2; cases h2
  · rw [ownC_ne e] at h2; exact h2
theorem hd_ownC_ne {c : C} {own : Own} {row : Option Addr} {a b : Addr} {m : Nat} (e : b ≠ a) (h : hd c own row b = false) : hd c (ownC own a m) row b = false := by
  obtain ⟨h1, h2, h3⟩ := hd_false.mp h
  exact hd_false.mpr ⟨h1, by rw [ownC_ne e]; exact h2, h3⟩
theorem RS.h0new {K : PySem.W.Frag} {c : C} {own : Own} {row : Option Addr} {ρ : Env} {σ : L2.St} {H : Hp} (R : RS K n c own row τ ρ σ H) {a : Addr} (h : H a = none) : c.H0 a = none := by
  cases e : c.H0 a with
  | none => rfl
  | some o =>
    by_cases hr : c.rp = some a
    · rcases R.rowp with q | ⟨q, _⟩
      · obtain ⟨_, _, _, _, _, h1, _⟩ := (R.rowat a (q.trans hr)).1
        rw [h1] at h; cases h
      · rw [q] at hr; cases hr
    · rw [R.same a o e hr] at h; cases h
/-- a new list, of one's own, for a slot beyond all -/
theorem RS.newC {K : PySem.W.Frag} {c : C} {own : Own} {row : Option Addr} {ρ : Env} {σ : L2.St} {H : Hp} (R : RS K n c own row τ ρ σ H) {a : Addr} {m : Nat} {o : HO} (h : H a = none) (ho : IsC o) (hm : τ.length ≤ m) (hn : n ≤ m) : RS K n c (ownC own a m) row τ ρ σ (upd H a o) := by
  have hx : Ex K row H (upd H a o) := .upd h
  have sub : Same (hid H (hd c own row)) (hid (upd H a o) (hd c (ownC own a m) row)) := hid_same fun b u h1 h2 => by
    have ne : b ≠ a := ne_of_none h2 h
    exact ⟨hd_ownC_ne ne h1, by rw [upd_ne ne]; exact h2⟩
  have keepOwn : ∀ b i, own b = some i → ownC own a m b = some i := fun b i hb => by
    have ne : b ≠ a := fun z => by
      obtain ⟨u, e1, _⟩ := R.live b i hb
      rw [z, h] at e1; cases e1
    rw [ownC_ne ne]; exact hb
  refine ⟨R.lenσ, R.lenρ, (R.mono hx).same, fun b i hb => ?_, R.s0, fun b i hb => ?_, R.rowp, fun r hr => ?_, fun i => ?_⟩
  · by_cases e : b = a
    · subst e; exact R.h0new h
    · rw [ownC_ne e] at hb; exact R.fresh b i hb
  · by_cases e : b = a
    · subst e; exact ⟨o, upd_same, ho⟩
    · rw [ownC_ne e] at hb
      obtain ⟨u, e1, e2⟩ := R.live b i hb
      exact ⟨u, by rw [upd_ne e]; exact e1, e2⟩
  · obtain ⟨h1, h2, h3⟩ := R.rowat r hr
    refine ⟨hx.row r hr h1, ?_, h3⟩
    have ne : r ≠ a := fun z => by
      obtain ⟨_, _, _, _, _, k, _⟩ := h1
      rw [z, h] at k; cases k
    rw [ownC_ne ne]; exact h2
  · have s := R.slot i
    cases e : τ.getD i .fz with
    | fz =>
      rw [e] at s
      cases ed : eg ρ i with
      | none => trivial
      | some d =>
        rw [ed] at s
        obtain ⟨v, s1, s2⟩ := s
        exact ⟨v, s1, s2.mono sub⟩
    | ow =>
      rw [e] at s
      cases ed : eg ρ i with
      | none => rw [ed] at s; exact s
      | some d =>
        rw [ed] at s
        obtain ⟨b, s1, s2, s3⟩ := s
        exact ⟨b, s1, keepOwn b i s2, s3.mono sub fun u hu => by rw [upd_ne (ne_of_none hu h)]; exact hu⟩
    | oo =>
      rw [e] at s
      cases ed : eg ρ i with
      | none => rw [ed] at s; exact s
      | some d =>
        rw [ed] at s
        obtain ⟨b, bs, dss, s1, s2, s3, s4, s5, s6, s7⟩ := s
        exact ⟨b, bs, dss, s1, keepOwn b i s2, by rw [upd_ne (ne_of_none s3 h)]; exact s3, s4, s5, Paired.mapP s6 fun x d ⟨q1, q2⟩ => ⟨keepOwn x i q1, q2.mono sub fun u hu => by rw [upd_ne (ne_of_none hu h)]; exact hu⟩, s7⟩
    | rw =>
      rw [e] at s
      cases ed : eg ρ i with
      | none => rw [ed] at s; exact s
      | some d => rw [ed] at s; exact s
theorem RS.far {K : PySem.W.Frag} {c : C} {own : Own} {row : Option Addr} {ρ : Env} {σ : L2.St} {H : Hp} (R : RS K n c own row τ ρ σ H) {m : Nat} (hn : n ≤ m) : eg ρ m = none := by
  cases e : eg ρ m with
  | none => rfl
  | some d =>
    have := eg_some_lt e
    rw [R.lenρ] at this; omega
def bigSlot : Nat := 100000
theorem far_ty {τ : List Ty} {m : Nat} (h : τ.length ≤ m) : τ.getD m .fz = .fz := by
  rw [List.getD_eq_getElem?_getD, List.getElem?_eq_none h]; rfl
/-- a new list or dict of one's own -/
def rdF (K : PySem.W.Frag) (n : Nat) (τ : List Ty) (w : WE) : TE := fun σ H Q => ∃ c own row ρ P, RS K n c own row τ ρ σ H ∧ w ρ P ∧
  ∀ d v H', P d → Ex K row H H' → (∃ a, v = .ref a ∧ H a = none ∧ Cell K (hid H' (hd c (ownC own a bigSlot) row)) H' a d) → Q v H'
def VF (X : Cx) (n : Nat) (τ : List Ty) (e : Expr) (w : WE) : Prop := PE X e (rdF X.K n τ w)
theorem Cell.ve {K : PySem.W.Frag} {F F' H : Hp} {a : Addr} {d : D} (h : Cell K F H a d) (e : Same F F') (k : ∀ o, H a = Option.some o → F' a = Option.some o) : Rp K F' (.ref a) d := by
  rcases h with ⟨xs, ds, h1, h2, rfl⟩ | ⟨xs, ds, h1, h2, rfl⟩ | ⟨xs, ds, h1, h2, rfl⟩
  · exact .lst (k _ h1) (h2.mono e)
  · exact .dK (k _ h1) (h2.mono e)
  · exact .dT (k _ h1) (h2.mono e)
theorem hid_ownC {c : C} {own : Own} {row : Option Addr} {H : Hp} {a : Addr} {m : Nat} : Same (hid H (hd c (ownC own a m) row)) (hid H (hd c own row)) := hid_same fun b o h1 h2 => ⟨hd_ownC h1, h2⟩
theorem rdF_E {we : WE} (σ : L2.St) (H : Hp) (Q : VK) (h : rdE X.K n τ we σ H Q) : rdF X.K n τ we σ H Q := by
  obtain ⟨c, own, row, ρ, P, R, hw, q⟩ := h
  exact ⟨c, own, row, ρ, P, R, hw, fun d v H' p x ⟨a, ev, ha, hc⟩ => q d v H' p x (by
    subst ev
    exact hc.ve hid_ownC fun o ho => hid_some.mpr ⟨R.hd_new ha, ho⟩)⟩
theorem VF.ve {we : WE} (h : VF X n τ e we) : VE X n τ e we := PE.imp h rdF_E
theorem psF_E {st : Stmt} {we : WE} {g : TG} (h : PS X st (tAsg (rdF X.K n τ we) g)) : PS X st (tAsg (rdE X.K n τ we) g) := PS.imp h fun _ σ H q => rdF_E σ H _ q
theorem Ex.new {K : PySem.W.Frag} {c : C} {own : Own} {row : Option Addr} {ρ : Env} {σ : L2.St} {H H' : Hp} (x : Ex K row H H') (R : RS K n c own row τ ρ σ H) {a : Addr} (h : H' a = none) : H a = none := by
  cases e : H a with
  | none => rfl
  | some o =>
    by_cases hr : row = some a
    · obtain ⟨_, _, _, _, _, k, _⟩ := x.row a hr (R.rowat a hr).1
      rw [k] at h; cases h
    · rw [x.keep a o hr e] at h; cases h
theorem lc_imp {wi : WI} {g : WG} {wt : WT} {we : WE} (hL : ∀ i ∈ L, τ.getD i .fz = .fz) (hb : τ.length ≤ bigSlot ∧ n ≤ bigSlot) (σ : L2.St) (H : Hp) (Q : VK) (h : rdF X.K n τ (wlc wi g wt we L) σ H Q) :
    tLc (rdI X.K n τ wi) (rdG X.K n τ L g) (rdT X.K n τ wt) (rdE X.K n τ we) L σ H Q := by
  obtain ⟨c, own, row, ρ, P, R, hw, q⟩ := h
  refine ⟨c, own, row, ρ, _, R, hw, fun ds J H1 pd x1 W => ?_⟩
  obtain ⟨hz, pd⟩ := pd
  intro A hA
  have R1 := R.mono x1
  refine ⟨fun i m H2 => m = ds.length - i ∧ i ≤ ds.length ∧ ∃ acc vs, RS X.K n c (ownC own A bigSlot) row τ (dels ρ L) (L2.wipe σ L) H2 ∧ H2 A = some (.lst vs) ∧ RpA X.K (hid H2 (hd c (ownC own A bigSlot) row)) vs acc ∧ acc.length ≤ i ∧ Ex X.K row H1 H2 ∧
    wcl g wt we (dels ρ L) (ds.drop i) acc (fun acc => P (.list acc)), ⟨ds.length, by simp, Nat.zero_le _, [], [], (R1.newC hA (o := .lst []) trivial hb.1 hb.2).wipe hL, upd_same, .nil, Nat.le_refl _, .upd hA, by simpa using pd⟩, ?_⟩
  rintro i m H2 ⟨rfl, hi, acc, vs, R2, hAv, hr, hlen, x2, hw2⟩
  have W2 := W H2 (hd c (ownC own A bigSlot) row) (hid_same fun b o h1 h2 => by
    have ne : b ≠ A := ne_of_none h2 hA
    exact ⟨hd_ownC_ne ne h1, x2.keep b o (hd_false.mp h1).2.2 h2⟩) (fun b hb => R2.hd_new hb) (fun b xs hb => R2.notup hb) i
  by_cases hlt : i < ds.length
  · obtain ⟨go, yld⟩ := W2.1 ds[i] (List.getElem?_eq_getElem hlt)
    rw [List.drop_eq_getElem_cons hlt] at hw2
    refine .inr ⟨go, fun H' => ∃ acc vs, RS X.K n c (ownC own A bigSlot) row τ (dels ρ L) (L2.wipe σ L) H' ∧ H' A = some (.lst vs) ∧ RpA X.K (hid H' (hd c (ownC own A bigSlot) row)) vs acc ∧ acc.length ≤ i + 1 ∧ Ex X.K row H1 H' ∧
      wcl g wt we (dels ρ L) (ds.drop (i + 1)) acc (fun acc => P (.list acc)), fun H' ⟨acc', vs', a1, a2, a3, a4, a5, a6⟩ => ⟨ds.length - (i + 1), by omega, rfl, hlt, acc', vs', a1, a2, a3, a4, a5, a6⟩, fun x H3 hy => ?_⟩
    obtain ⟨s3, rp3⟩ := yld x H3 hy
    have x3 : Ex X.K row H2 H3 := .of_same s3
    refine ⟨c, _, row, dels ρ L, ds[i], _, R2.mono x3, rp3, hw2, fun ρ' σ' hb' R3 ew => ⟨by rw [ew, wipe_wipe], c, _, row, ρ', _, R3, hb', fun b H4 hb2 x4 => ?_⟩⟩
    have base4 : RS X.K n c (ownC own A bigSlot) row τ (dels ρ L) (L2.wipe σ L) H4 := R2.mono (x3.trans x4)
    have keepA : ∀ H5, Ex X.K row H2 H5 → H5 A = some (.lst vs) := fun H5 x5 => x5.keep A _ (R2.notrow ownC_same) hAv
    cases b with
    | false =>
      rw [if_neg Bool.false_ne_true] at hb2
      refine iteF ?_
      exact ⟨acc, vs, base4, keepA _ (x3.trans x4), hr.mono ((x3.trans x4).vis' R2.vw), Nat.le_succ_of_le hlen, x2.trans (x3.trans x4), hb2⟩
    | true =>
      rw [if_pos rfl] at hb2
      refine iteT ?_
      refine ⟨c, _, row, ρ', _, R3.mono x4, hb2, fun d y H5 hd5 x5 r5 => ?_⟩
      have x25 : Ex X.K row H2 H5 := x3.trans (x4.trans x5)
      have R5 := R2.mono x25
      have hA5 := keepA _ x25
      have hl5 : vs.length < sizeLine := by
        rw [hr.len]
        omega
      refine ⟨vs, hA5, hl5, acc ++ [d], vs ++ [y], R5.write ownC_same trivial R5.lenρ (fun _ _ => rfl) ?_, upd_same, ?_, ?_, ⟨fun b o hb ho => ?_, fun r hr' hR => ?_⟩, hd5⟩
      · rw [R5.far hb.2, far_ty hb.1]; trivial
      · rw [hid_upd_hidden (R5.hd_own ownC_same)]
        exact (hr.mono (x25.vis' R2.vw)).append (.cons r5 .nil)
      · rw [List.length_append]; exact Nat.succ_le_succ hlen
      · rw [upd_ne (ne_of_none ho hA)]
        exact (x2.trans x25).keep b o hb ho
      · exact ((R5.write (ρ' := dels ρ L) (o := .lst (vs ++ [y])) ownC_same trivial R5.lenρ (fun _ _ => rfl) (by rw [R5.far hb.2, far_ty hb.1]; trivial)).rowat r hr').1
  · have e : i = ds.length := by omega
    subst e
    refine .inl ⟨W2.2 (Nat.le_refl _), ?_⟩
    rw [List.drop_length] at hw2
    exact q _ _ _ hw2 (x1.trans x2) ⟨A, rfl, x1.new R hA, .inl ⟨vs, acc, hAv, hr, rfl⟩⟩
theorem vf_lc {elt iter : Expr} {ifs : List Expr} {scope : Scope} {ownN : List (Str × Nat)} {wi : WI} {g : WG} {wt : WT} {we : WE} (hc : X.calm = true) (hN : X.N.Nodup) (hi : VI X n τ tg iter wi) (ok : BlkOk X.N X.env.scope scope ownN)
    (hg : ∀ (s : Shared) (H : Hp) (C : Addr) (cl : List (Str × Addr)) (fp : List Addr), VG (X.blk s H scope (compEnvC scope cl C X.env) fp) n τ L tg g) (ht : ∀ (s : Shared) (H : Hp) (C : Addr) (cl : List (Str × Addr)) (fp : List Addr), VTs (X.blk s H scope (compEnvC scope cl C X.env) fp) n τ ifs wt)
    (he : ∀ (s : Shared) (H : Hp) (C : Addr) (cl : List (Str × Addr)) (fp : List Addr), VE (X.blk s H scope (compEnvC scope cl C X.env) fp) n τ elt we) (hLL : ownN.map (·.2) = L := by rfl) (hL : ∀ i ∈ L, τ.getD i .fz = .fz := by decide) (hb : τ.length ≤ bigSlot ∧ n ≤ bigSlot := by decide) (hs : ∀ x, foldedSetIterable iter X.env x = pure x := by intro _; rfl) :
    VF X n τ (.ListComp elt [⟨tg, iter, ifs, 0⟩] scope pos) (wlc wi g wt we L) := by
  have hpe : PE X (.ListComp elt [⟨tg, iter, ifs, 0⟩] scope pos) (tLc (rdI X.K n τ wi) (rdG X.K n τ L g) (rdT X.K n τ wt) (rdE X.K n τ we) L) := by
    rw [← hLL]
    exact pe_lc (g := rdG X.K n τ (ownN.map (·.2)) g) (tt := rdT X.K n τ wt) (te := rdE X.K n τ we) hc hN hi ok (fun s H C cl fp => by rw [hLL]; exact hg s H C cl fp) (fun s H C cl fp => ht s H C cl fp) (fun s H C cl fp => he s H C cl fp) hs
  exact PE.imp hpe fun σ H Q h => lc_imp hL hb σ H Q h
theorem ps_setLcF {i : Nat} {y : Str} {py spos : Pos} {elt iter : Expr} {ifs : List Expr} {scope : Scope} {ownN : List (Str × Nat)} {wi : WI} {g : WG} {wt : WT} {we : WE} (hc : X.calm = true) (hN : X.N.Nodup) (hy : X.N[i]? = some y) (hyl : X.env.scope.names.lookup y = some .local)
    (hsw : swapsWith (.ListComp elt [⟨tg, iter, ifs, 0⟩] scope pos) (some (.Name y py)) spos.line X.env = pure true) (hi : VI X n τ tg iter wi) (ok : BlkOk X.N X.env.scope scope ownN)
    (hg : ∀ (s : Shared) (H : Hp) (C : Addr) (cl : List (Str × Addr)) (fp : List Addr), VG (X.blk s H scope (compEnvC scope cl C X.env) fp) n τ L tg g) (ht : ∀ (s : Shared) (H : Hp) (C : Addr) (cl : List (Str × Addr)) (fp : List Addr), VTs (X.blk s H scope (compEnvC scope cl C X.env) fp) n τ ifs wt)
    (he : ∀ (s : Shared) (H : Hp) (C : Addr) (cl : List (Str × Addr)) (fp : List Addr), VE (X.blk s H scope (compEnvC scope cl C X.env) fp) n τ elt we) (hLL : ownN.map (·.2) = L := by rfl) (hL : ∀ i ∈ L, τ.getD i .fz = .fz := by decide) (hb : τ.length ≤ bigSlot ∧ n ≤ bigSlot := by decide) (hs : ∀ x, foldedSetIterable iter X.env x = pure x := by intro _; rfl) :
    PS X (.Assign [.Name y py] (.ListComp elt [⟨tg, iter, ifs, 0⟩] scope pos) spos) (tAsg (rdF X.K n τ (wlc wi g wt we L)) (gName i)) := by
  have h : PS X (.Assign [.Name y py] (.ListComp elt [⟨tg, iter, ifs, 0⟩] scope pos) spos) (tAsg (tLc (rdI X.K n τ wi) (rdG X.K n τ L g) (rdT X.K n τ wt) (rdE X.K n τ we) L) (gName i)) := by
    rw [← hLL]
    exact ps_setLc (g := rdG X.K n τ (ownN.map (·.2)) g) (tt := rdT X.K n τ wt) (te := rdE X.K n τ we) hc hN hy hyl hsw hi ok (fun s H C cl fp => by rw [hLL]; exact hg s H C cl fp) (fun s H C cl fp => ht s H C cl fp) (fun s H C cl fp => he s H C cl fp) hs
  exact ⟨fun pins s σ H Dd I q => h.run pins s σ H Dd I (lc_imp hL hb σ H _ q)⟩
end
end VS
/-! VSK: own defs called; statements. -/
namespace VS
open PySem PySem.Spec PyProof.Rows L2

abbrev WF := List D → (D → Prop) → Prop
/-- the promise of a def that reads its arguments and gives a value -/
def spF (K : PySem.W.Frag) (m : Nat) (f : WF) : Sp := fun vs H Q _ => ∃ (p : Addr → Bool) (ds : List D) (P : D → Prop), (∀ b, p b = true → ∃ o, H b = some o ∧ IsC o) ∧ RpA K (hid H p) vs ds ∧ ds.length = m ∧ f ds P ∧
  ∀ d v H', P d → Same H H' → Rp K (hid H' p) v d → Q v H'
/-- .. of a def whose first argument is the drawn row -/
def spR (K : PySem.W.Frag) (m : Nat) (f : WF) : Sp := fun vs H Q _ => ∃ (r : Addr) (vs' : List V) (p : Addr → Bool) (ds : List D) (P : D → Prop), vs = .ref r :: vs' ∧ RowAt K H r ∧ p r = false ∧ (∀ b, p b = true → ∃ o, H b = some o ∧ IsC o) ∧ RpA K (hid H fun b => p b || decide (r = b)) vs' ds ∧ ds.length = m ∧ f ds P ∧
  ∀ d v H', P d → (∀ b o, b ≠ r → H b = some o → H' b = some o) → RowAt K H' r → Rp K (hid H' fun b => p b || decide (r = b)) v d → Q v H'
/-- a def that keeps a promise, found by its name -/
def FnG (Pg : Program) (w : World) (K : PySem.W.Frag) (mg : Str → Option Value) (base : Heap) (k : Nat) (x : Str) (ps : List Str) (sp : Sp) : Prop :=
  ∃ f fd, FnOk Pg w K mg base CX0 k f fd ps sp ∧ mg x = some (.ref f) ∧ PySem.W.keepIn K (.ref f) = true ∧ Binds K fd ps []
section
variable {X : Cx} {n : Nat} {τ : List Ty} {e : Expr} {es : List Expr} {wa : WA} {pos p : Pos} {x : Str} {ps : List Str} {k m : Nat} {f : WF}
def wcall (m : Nat) (f : WF) (a : WA) : WE := fun ρ Q => a ρ fun ds => ds.length = m ∧ f ds Q
theorem ve_call (G : FnG X.prog X.w X.K X.mg X.base k x ps (spF X.K m f)) (hr : Room k X.A) (hg : Gl X x) (ha : VAs X n τ (e :: es) wa) (hdb : (x == ("__debug__" : Str)) = false := by decide)
    (hs : starEach (e :: es) X.env = (false, eval e X.env) :: starEach es X.env := by rfl) (hs2 : ((backTo pos (starEach es X.env)).any fun x => x.fst) = false := by rfl) : VE X n τ (.Call (.Name x p) (e :: es) [] pos) (wcall m f wa) := by
  obtain ⟨fa, fd, F, hm, hk, hb⟩ := G
  refine PE.imp (pe_call (dvs := []) F hr hg hm hk hb .nil pass0 ha hdb hs hs2) fun σ H Q h => ?_
  obtain ⟨c, own, row, ρ, P, R, hw, q⟩ := h
  refine ⟨c, own, row, ρ, _, R, hw, fun ds vs H1 h1 x1 r1 => ?_⟩
  obtain ⟨hl, h1⟩ := h1
  have R1 := R.mono x1
  rw [List.append_nil]
  refine ⟨hd c own row, ds, P, fun b hb => ?_, r1, hl, h1, fun d v H' pd sm rv => q d v H' pd (x1.trans (.of_same sm)) rv⟩
  unfold hd at hb
  simp only [Bool.or_eq_true, decide_eq_true_eq] at hb
  rcases hb with (hb | hb) | hb
  · obtain ⟨o, h1, h2, h3⟩ := R1.s0 b hb
    exact ⟨o, R1.same b o h1 h3, h2⟩
  · obtain ⟨i, hi⟩ := Option.isSome_iff_exists.mp hb
    exact R1.live b i hi
  · obtain ⟨⟨_, _, _, _, _, h1, _⟩, _⟩ := R1.rowat b hb
    exact ⟨_, h1, trivial⟩
theorem ve_callR {i : Nat} {e0 : Expr} (G : FnG X.prog X.w X.K X.mg X.base k x ps (spR X.K m f)) (hr : Room k X.A) (hg : Gl X x) (h0 : PE X e0 (tVar i)) (ha : VAs X n τ es wa) (ht : τ.getD i .fz = .rw := by rfl) (hdb : (x == ("__debug__" : Str)) = false := by decide)
    (hs : starEach (e0 :: es) X.env = (false, eval e0 X.env) :: starEach es X.env := by rfl) (hs2 : ((backTo pos (starEach es X.env)).any fun x => x.fst) = false := by rfl) : VE X n τ (.Call (.Name x p) (e0 :: es) [] pos) (wcall m f wa) := by
  obtain ⟨fa, fd, F, hm, hk, hb⟩ := G
  refine PE.imp (pe_call (dvs := []) F hr hg hm hk hb .nil pass0 (pa_cons h0 ha hs) hdb hs hs2) fun σ H Q h => ?_
  obtain ⟨c, own, row, ρ, P, R, hw, q⟩ := h
  have s := R.slot i
  rw [ht] at s
  cases ed : eg ρ i with
  | none => rw [ed] at s; exact s.elim
  | some d0 =>
    rw [ed] at s
    obtain ⟨r, s1, s2⟩ := s
    refine ⟨.ref r, s1, c, own, row, ρ, _, R, hw, fun ds vs H1 h1 x1 r1 => ?_⟩
    obtain ⟨hl, h1⟩ := h1
    have R1 := R.mono x1
    obtain ⟨k1, k2, k3⟩ := R1.rowat r s2
    have ehd : (fun b => (c.S0 b || (own b).isSome) || decide (r = b)) = hd c own row := by
      funext b
      unfold hd
      rw [s2]
      congr 1
      by_cases hrb : r = b
      · subst hrb; simp
      · have : ¬ (some r = some b) := fun z => hrb (Option.some.inj z)
        rw [decide_eq_false hrb, decide_eq_false this]
    rw [List.append_nil]
    refine ⟨r, vs, fun b => c.S0 b || (own b).isSome, ds, P, rfl, k1, by simp [k2, k3], fun b hb => ?_, by rw [ehd]; exact r1, hl, h1, fun d v H' pd sm ra rv => ?_⟩
    · simp only [Bool.or_eq_true] at hb
      rcases hb with hb | hb
      · obtain ⟨o, h1, h2, h3⟩ := R1.s0 b hb
        exact ⟨o, R1.same b o h1 h3, h2⟩
      · obtain ⟨i, hi⟩ := Option.isSome_iff_exists.mp hb
        exact R1.live b i hi
    · rw [ehd] at rv
      refine q d v H' pd (x1.trans ⟨fun b o hb ho => sm b o (fun z => hb (by rw [z]; exact s2)) ho, fun r' hr' _ => ?_⟩) rv
      rw [s2] at hr'
      cases hr'
      exact ra
end

/-! ### statements -/
structure Kt where
  nx : Env → Prop
  rt : D → Prop
  bk : Env → Prop := fun _ => False
  ct : Env → Prop := fun _ => False
abbrev WS := Kt → Env → Prop
/-- what holds where a def gives back v -/
structure RT (K : PySem.W.Frag) (c : C) (H' : Hp) (v : V) (d : D) : Prop where
  same : ∀ b o, c.H0 b = some o → c.rp ≠ some b → H' b = some o
  row : ∀ r, c.rp = some r → RowAt K H' r
  val : Rp K (hid H' fun b => c.S0 b || decide (c.rp = some b)) v d
/-- what is visible stays -/
abbrev Vis2 (c : C) (own : Own) (row : Option Addr) (H : Hp) (own' : Own) (row' : Option Addr) (H' : Hp) : Prop := Same (hid H (hd c own row)) (hid H' (hd c own' row'))
def rdS (K : PySem.W.Frag) (n : Nat) (τ τ' τb : List Ty) (w : WS) : TS := fun Dd σ H => ∃ c own row ρ k, RS K n c own row τ ρ σ H ∧ w k ρ ∧
  (∀ ρ' own' row' σ' H', k.nx ρ' → RS K n c own' row' τ' ρ' σ' H' → Vis2 c own row H own' row' H' → Dd.nx σ' H') ∧
  (∀ d v H', k.rt d → RT K c H' v d → Dd.rt v H') ∧
  (∀ ρ' own' row' σ' H', k.bk ρ' → RS K n c own' row' τb ρ' σ' H' → Vis2 c own row H own' row' H' → Dd.bk σ' H') ∧
  (∀ ρ' own' row' σ' H', k.ct ρ' → RS K n c own' row' τb ρ' σ' H' → Vis2 c own row H own' row' H' → Dd.ct σ' H')
def VS1 (X : Cx) (n : Nat) (τ τ' τb : List Ty) (st : Stmt) (w : WS) : Prop := PS X st (rdS X.K n τ τ' τb w)
def VSs (X : Cx) (n : Nat) (τ τ' τb : List Ty) (st : List Stmt) (w : WS) : Prop := PSs X st (rdS X.K n τ τ' τb w)
section
variable {X : Cx} {n : Nat} {τ τ' τ1 τb : List Ty} {e : Expr} {st : Stmt} {rest : List Stmt} {we : WE} {pos : Pos} {a b : WS}
def wskip : WS := fun k ρ => k.nx ρ
def wseq (a b : WS) : WS := fun k ρ => a { k with nx := fun ρ' => b k ρ' } ρ
theorem vss_nil : VSs X n τ τ τb [] wskip := PSs.imp pss_nil fun Dd σ H ⟨c, own, row, ρ, k, R, hw, q1, _⟩ => q1 ρ own row σ H hw R (.refl _)
theorem vss_cons (h1 : VS1 X n τ τ1 τb st a) (h2 : VSs X n τ1 τ' τb rest b) : VSs X n τ τ' τb (st :: rest) (wseq a b) := PSs.imp (pss_cons h1 h2) fun Dd σ H ⟨c, own, row, ρ, k, R, hw, q1, q2, q3, q4⟩ =>
  ⟨c, own, row, ρ, _, R, hw, fun ρ' own' row' σ' H' h3 R' v' => ⟨c, own', row', ρ', k, R', h3, fun ρ2 own2 row2 σ2 H2 h4 R2 v2 => q1 ρ2 own2 row2 σ2 H2 h4 R2 (v'.trans v2), q2,
    fun ρ2 own2 row2 σ2 H2 h4 R2 v2 => q3 ρ2 own2 row2 σ2 H2 h4 R2 (v'.trans v2), fun ρ2 own2 row2 σ2 H2 h4 R2 v2 => q4 ρ2 own2 row2 σ2 H2 h4 R2 (v'.trans v2)⟩, q2, q3, q4⟩
theorem vss_one (h1 : VS1 X n τ τ' τb st a) : VSs X n τ τ' τb [st] a := pss_one h1
/-- expression statements -/
def wexpr (e : WE) : WS := fun k ρ => e ρ fun _ => k.nx ρ
theorem vs_expr (he : VE X n τ e we) (hs : swapsWith e none pos.line X.env = pure false := by rfl) : VS1 X n τ τ τb (.Expr e pos) (wexpr we) := PS.imp (ps_expr he hs) fun Dd σ H ⟨c, own, row, ρ, k, R, hw, q1, _⟩ =>
  ⟨c, own, row, ρ, _, R, hw, fun d v H' h1 x1 _ => q1 ρ own row σ H' h1 (R.mono x1) x1.vis⟩
theorem vs_doc {x : Str} {j : Nat} {pos' : Pos} : VS1 X n τ τ τb (.Expr (.Constant (.str x) j pos) pos') wskip := PS.imp ps_doc fun Dd σ H ⟨c, own, row, ρ, k, R, hw, q1, _⟩ => q1 ρ own row σ H hw R (.refl _)
theorem vs_pass : VS1 X n τ τ τb (.Pass pos) wskip := PS.imp ps_pass fun Dd σ H ⟨c, own, row, ρ, k, R, hw, q1, _⟩ => q1 ρ own row σ H hw R (.refl _)
def wbreak : WS := fun k ρ => k.bk ρ
def wcont : WS := fun k ρ => k.ct ρ
theorem vs_break : VS1 X n τ τ' τ (.Break pos) wbreak := PS.imp ps_break fun Dd σ H ⟨c, own, row, ρ, k, R, hw, q1, q2, q3, q4⟩ => q3 ρ own row σ H hw R (.refl _)
theorem vs_cont : VS1 X n τ τ' τ (.Continue pos) wcont := PS.imp ps_continue fun Dd σ H ⟨c, own, row, ρ, k, R, hw, q1, q2, q3, q4⟩ => q4 ρ own row σ H hw R (.refl _)
/-- a statement that is never reached -/
def wnever : WS := fun _ _ => False
theorem vs_never {st : Stmt} : VS1 X n τ τ' τb st wnever := ⟨fun pins s σ H Dd I ⟨c, own, row, ρ, k, R, hw, _⟩ => hw.elim⟩
/-- return -/
theorem RS.ret {K : PySem.W.Frag} {c : C} {own : Own} {row : Option Addr} {ρ : Env} {σ : L2.St} {H : Hp} {v : V} {d : D} (R : RS K n c own row τ ρ σ H) (h : Rp K (hid H (hd c own row)) v d) : RT K c H v d where
  same := R.same
  row := fun r hr => by
    rcases R.rowp with q | ⟨q, _⟩
    · exact (R.rowat r (q.trans hr)).1
    · rw [q] at hr; cases hr
  val := h.mono (hid_same fun b o h1 h2 => by
    obtain ⟨k1, k2, k3⟩ := hd_false.mp h1
    refine ⟨?_, h2⟩
    rw [k1, Bool.false_or, decide_eq_false_iff_not]
    intro z
    rcases R.rowp with q | ⟨q, _⟩
    · exact k3 (q.trans z)
    · rw [q] at z; cases z)
def wret (e : WE) : WS := fun k ρ => e ρ k.rt
theorem vs_ret (he : VE X n τ e we) : VS1 X n τ τ' τb (.Return (some e) pos) (wret we) := PS.imp (ps_ret he) fun Dd σ H ⟨c, own, row, ρ, k, R, hw, q1, q2, _⟩ =>
  ⟨c, own, row, ρ, _, R, hw, fun d v H' h1 x1 r => q2 d v H' h1 ((R.mono x1).ret r)⟩
def wretN : WS := fun k _ => k.rt .none
theorem vs_retN : VS1 X n τ τ' τb (.Return none pos) wretN := PS.imp ps_retN fun Dd σ H ⟨c, own, row, ρ, k, R, hw, q1, q2, _⟩ => q2 .none .non H hw (R.ret .non)
end
end VS
/-! VSL: if, for, while, assignments, the weakening of types. -/
namespace VS
open PySem PySem.Spec PyProof.Rows L2
section
variable {X : Cx} {n : Nat} {τ τ' τ1 τ2 τb : List Ty} {e : Expr} {st : Stmt} {rest : List Stmt} {we : WE} {pos : Pos} {a b : WS}
def wifs (t : WT) (a b : WS) : WS := fun k ρ => t ρ fun c => if c = true then a k ρ else b k ρ
theorem Ex.then {K : PySem.W.Frag} {c : C} {own own' : Own} {row row' : Option Addr} {H H1 H2 : Hp} (x : Ex K row H H1) (v : Vis2 c own row H1 own' row' H2) : Vis2 c own row H own' row' H2 := x.vis.trans v
theorem vs_if {t : Expr} {tt : WT} {as bs : List Stmt} (ht : VT X n τ t tt) (ha : VSs X n τ τ' τb as a) (hb : VSs X n τ τ' τb bs b) : VS1 X n τ τ' τb (.If t as bs pos) (wifs tt a b) := PS.imp (ps_if ht ha hb) fun Dd σ H ⟨c, own, row, ρ, k, R, hw, q1, q2, q3, q4⟩ => by
  refine ⟨c, own, row, ρ, _, R, hw, fun d H1 h1 x1 => ?_⟩
  have go : ∀ {w : WS}, w k ρ → rdS X.K n τ τ' τb w Dd σ H1 := fun {w} h1 => ⟨c, own, row, ρ, k, R.mono x1, h1, fun ρ2 own2 row2 σ2 H2 h4 R2 v2 => q1 ρ2 own2 row2 σ2 H2 h4 R2 (Ex.then x1 v2), q2,
    fun ρ2 own2 row2 σ2 H2 h4 R2 v2 => q3 ρ2 own2 row2 σ2 H2 h4 R2 (Ex.then x1 v2), fun ρ2 own2 row2 σ2 H2 h4 R2 v2 => q4 ρ2 own2 row2 σ2 H2 h4 R2 (Ex.then x1 v2)⟩
  cases d with
  | true => rw [if_pos rfl] at h1; exact iteT (go h1)
  | false => rw [if_neg Bool.false_ne_true] at h1; exact iteF (go h1)

/-! ### weakening: what is one's own becomes shared -/
def leTy (τ τ' : List Ty) (n : Nat) : Bool := decide (τ'.length ≤ n) && (List.range n).all fun i => τ'.getD i .fz == τ.getD i .fz || (τ'.getD i .fz == .fz && τ.getD i .fz != .rw)
theorem leTy_get {τ τ' : List Ty} {n i : Nat} (h : leTy τ τ' n = true) (hi : i < n) : τ'.getD i .fz = τ.getD i .fz ∨ (τ'.getD i .fz = .fz ∧ τ.getD i .fz ≠ .rw) := by
  have := List.all_eq_true.mp (Bool.and_eq_true_iff.mp h).2 i (List.mem_range.mpr hi)
  simp only [Bool.or_eq_true, Bool.and_eq_true, beq_iff_eq, bne_iff_ne] at this
  exact this
def thaw (τ τ' : List Ty) (own : Own) : Own := fun a => match own a with
  | some i => if τ'.getD i .fz = τ.getD i .fz then some i else none
  | none => none
theorem thaw_some {τ τ' : List Ty} {own : Own} {a : Addr} {i : Nat} (h : thaw τ τ' own a = some i) : own a = some i ∧ τ'.getD i .fz = τ.getD i .fz := by
  unfold thaw at h
  split at h
  · rename_i j e
    split at h
    · rename_i e2; cases h; exact ⟨e, e2⟩
    · cases h
  · cases h
theorem thaw_none {τ τ' : List Ty} {own : Own} {a : Addr} {i : Nat} (h : own a = some i) (h2 : τ'.getD i .fz ≠ τ.getD i .fz) : thaw τ τ' own a = none := by
  unfold thaw; rw [h]; exact if_neg h2
theorem thaw_keep {τ τ' : List Ty} {own : Own} {a : Addr} {i : Nat} (h : own a = some i) (h2 : τ'.getD i .fz = τ.getD i .fz) : thaw τ τ' own a = some i := by
  unfold thaw; rw [h]; exact if_pos h2
theorem RS.hid0 {K : PySem.W.Frag} {c : C} {own : Own} {row : Option Addr} {ρ : Env} {σ : L2.St} {H : Hp} (R : RS K n c own row τ ρ σ H) {a : Addr} {i : Nat} (h : own a = some i) : c.S0 a = false ∧ row ≠ some a := by
  refine ⟨?_, R.notrow h⟩
  cases e : c.S0 a with
  | false => rfl
  | true =>
    obtain ⟨o, h1, _⟩ := R.s0 a e
    rw [R.fresh a i h] at h1; cases h1
theorem RS.weak {K : PySem.W.Frag} {c : C} {own : Own} {row : Option Addr} {ρ : Env} {σ : L2.St} {H : Hp} (R : RS K n c own row τ ρ σ H) (h : leTy τ τ' n = true) :
    RS K n c (thaw τ τ' own) row τ' ρ σ H ∧ Vis2 c own row H (thaw τ τ' own) row H := by
  have sub : Vis2 c own row H (thaw τ τ' own) row H := hid_same fun b o h1 h2 => by
    obtain ⟨k1, k2, k3⟩ := hd_false.mp h1
    refine ⟨hd_false.mpr ⟨k1, ?_, k3⟩, h2⟩
    cases e : thaw τ τ' own b with
    | none => rfl
    | some i => rw [(thaw_some e).1] at k2; cases k2
  have vis : ∀ {a : Addr} {i : Nat} {o : HO}, own a = some i → τ'.getD i .fz ≠ τ.getD i .fz → H a = some o → hid H (hd c (thaw τ τ' own) row) a = some o := fun h1 h2 h3 =>
    hid_some.mpr ⟨hd_false.mpr ⟨(R.hid0 h1).1, thaw_none h1 h2, (R.hid0 h1).2⟩, h3⟩
  have cellV : ∀ {a : Addr} {i : Nat} {d : D}, own a = some i → τ'.getD i .fz ≠ τ.getD i .fz → Cell K (hid H (hd c own row)) H a d → Rp K (hid H (hd c (thaw τ τ' own) row)) (.ref a) d := fun {a i d} h1 h2 h3 => by
    rcases h3 with ⟨xs, ds, k1, k2, rfl⟩ | ⟨xs, ds, k1, k2, rfl⟩ | ⟨xs, ds, k1, k2, rfl⟩
    · exact .lst (vis h1 h2 k1) (k2.mono sub)
    · exact .dK (vis h1 h2 k1) (k2.mono sub)
    · exact .dT (vis h1 h2 k1) (k2.mono sub)
  refine ⟨⟨R.lenσ, R.lenρ, R.same, fun a i h => R.fresh a i (thaw_some h).1, R.s0, fun a i h => R.live a i (thaw_some h).1, R.rowp, fun r hr => ?_, fun i => ?_⟩, sub⟩
  · obtain ⟨h1, h2, h3⟩ := R.rowat r hr
    exact ⟨h1, by unfold thaw; rw [h2], h3⟩
  · have s := R.slot i
    by_cases hi : i < n
    · rcases leTy_get h hi with e | ⟨e, e2⟩
      · rw [e]
        cases et : τ.getD i .fz with
        | fz =>
          rw [et] at s
          cases ed : eg ρ i with
          | none => trivial
          | some d =>
            rw [ed] at s
            obtain ⟨v, s1, s2⟩ := s
            exact ⟨v, s1, s2.mono sub⟩
        | ow =>
          rw [et] at s
          cases ed : eg ρ i with
          | none => rw [ed] at s; exact s
          | some d =>
            rw [ed] at s
            obtain ⟨b, s1, s2, s3⟩ := s
            exact ⟨b, s1, thaw_keep s2 e, s3.mono sub fun u hu => hu⟩
        | oo =>
          rw [et] at s
          cases ed : eg ρ i with
          | none => rw [ed] at s; exact s
          | some d =>
            rw [ed] at s
            obtain ⟨b, bs, dss, s1, s2, s3, s4, s5, s6, s7⟩ := s
            exact ⟨b, bs, dss, s1, thaw_keep s2 e, s3, s4, s5, Paired.mapP s6 fun x d ⟨q1, q2⟩ => ⟨thaw_keep q1 e, q2.mono sub fun u hu => hu⟩, s7⟩
        | rw =>
          rw [et] at s
          cases ed : eg ρ i with
          | none => rw [ed] at s; exact s
          | some d => rw [ed] at s; exact s
      · rw [e]
        cases et : τ.getD i .fz with
        | fz =>
          rw [et] at s
          cases ed : eg ρ i with
          | none => trivial
          | some d =>
            rw [ed] at s
            obtain ⟨v, s1, s2⟩ := s
            exact ⟨v, s1, s2.mono sub⟩
        | ow =>
          have ne : τ'.getD i .fz ≠ τ.getD i .fz := by rw [e, et]; decide
          rw [et] at s
          cases ed : eg ρ i with
          | none => trivial
          | some d =>
            rw [ed] at s
            obtain ⟨b, s1, s2, s3⟩ := s
            exact ⟨.ref b, s1, cellV s2 ne s3⟩
        | oo =>
          have ne : τ'.getD i .fz ≠ τ.getD i .fz := by rw [e, et]; decide
          rw [et] at s
          cases ed : eg ρ i with
          | none => trivial
          | some d =>
            rw [ed] at s
            obtain ⟨b, bs, dss, s1, s2, s3, s4, s5, s6, rfl⟩ := s
            refine ⟨.ref b, s1, .lst (vis s2 ne s3) ?_⟩
            clear s3 s4 s5 ed
            induction s6 with
            | nil => exact .nil
            | cons q t ih => exact .cons (cellV q.1 ne q.2) ih
        | rw => exact absurd et e2
    · have e1 : eg ρ i = none := R.far (Nat.le_of_not_lt hi)
      have e2 : τ'.getD i .fz = .fz := far_ty (Nat.le_trans (of_decide_eq_true (Bool.and_eq_true_iff.mp h).1) (Nat.le_of_not_lt hi))
      rw [e1, e2]
      trivial
theorem vs_weak (h : leTy τ τ1 n = true) (hs : VS1 X n τ1 τ' τb st a) : VS1 X n τ τ' τb st a := PS.imp hs fun Dd σ H ⟨c, own, row, ρ, k, R, hw, q1, q2, q3, q4⟩ => by
  obtain ⟨R', v⟩ := R.weak h
  exact ⟨c, _, row, ρ, k, R', hw, fun ρ2 own2 row2 σ2 H2 h4 R2 v2 => q1 ρ2 own2 row2 σ2 H2 h4 R2 (v.trans v2), q2, fun ρ2 own2 row2 σ2 H2 h4 R2 v2 => q3 ρ2 own2 row2 σ2 H2 h4 R2 (v.trans v2), fun ρ2 own2 row2 σ2 H2 h4 R2 v2 => q4 ρ2 own2 row2 σ2 H2 h4 R2 (v.trans v2)⟩
theorem vss_weak (h : leTy τ τ1 n = true) (hs : VSs X n τ1 τ' τb rest a) : VSs X n τ τ' τb rest a := PSs.imp hs fun Dd σ H ⟨c, own, row, ρ, k, R, hw, q1, q2, q3, q4⟩ => by
  obtain ⟨R', v⟩ := R.weak h
  exact ⟨c, _, row, ρ, k, R', hw, fun ρ2 own2 row2 σ2 H2 h4 R2 v2 => q1 ρ2 own2 row2 σ2 H2 h4 R2 (v.trans v2), q2, fun ρ2 own2 row2 σ2 H2 h4 R2 v2 => q3 ρ2 own2 row2 σ2 H2 h4 R2 (v.trans v2), fun ρ2 own2 row2 σ2 H2 h4 R2 v2 => q4 ρ2 own2 row2 σ2 H2 h4 R2 (v.trans v2)⟩
theorem vss_end (h : leTy τ τ' n = true) : VSs X n τ τ' τb [] wskip := vss_weak h vss_nil
/-- behind a statement what is one's own becomes shared -/
theorem vs_post (h : leTy τ1 τ' n = true) (hs : VS1 X n τ τ1 τb st a) : VS1 X n τ τ' τb st a := PS.imp hs fun Dd σ H ⟨c, own, row, ρ, k, R, hw, q1, q2, q3, q4⟩ => by
  refine ⟨c, own, row, ρ, k, R, hw, fun ρ2 own2 row2 σ2 H2 h4 R2 v2 => ?_, q2, q3, q4⟩
  obtain ⟨R', v⟩ := R2.weak h
  exact q1 ρ2 _ row2 σ2 H2 h4 R' (v2.trans v)
theorem vs_breakW (h : leTy τ τb n = true) : VS1 X n τ τ' τb (.Break pos) wbreak := vs_weak h vs_break
theorem vs_contW (h : leTy τ τb n = true) : VS1 X n τ τ' τb (.Continue pos) wcont := vs_weak h vs_cont
end
end VS
/-! VSM: loops, plain assignments. -/
namespace VS
open PySem PySem.Spec PyProof.Rows L2
section
variable {X : Cx} {n : Nat} {τ τ' τ1 τ2 τb : List Ty} {e tg iter : Expr} {st : Stmt} {body rest : List Stmt} {we : WE} {pos : Pos} {a b : WS}
def wfl (g : WG) (body : WS) (k : Kt) : List D → Env → Prop
  | [], ρ => k.nx ρ
  | x :: xs, ρ => g x ρ fun ρ' => body { nx := wfl g body k xs, ct := wfl g body k xs, bk := k.nx, rt := k.rt } ρ'
def wfor (wi : WI) (g : WG) (body : WS) : WS := fun k ρ => wi ρ fun ds => wfl g body k ds ρ
theorem vs_for {wi : WI} {g : WG} {L : List Nat} (hp : PassesOwn (model X.prog X.w) X.A X.env X.xe) (hc : X.calm = true) (hi : VI X n τ tg iter wi) (hg : VG X n τ L tg g) (hb : VSs X n τ τ τ body a)
    (hs : ∀ x, foldedSetIterable iter X.env x = pure x := by intro _; rfl) : VS1 X n τ τ τb (.For tg iter body [] pos) (wfor wi g a) := PS.imp (ps_for hp hc hi hg hb hs) fun Dd σ H ⟨c, own, row, ρ, k, R, hw, q1, q2, q3, q4⟩ => by
  refine ⟨c, own, row, ρ, _, R, hw, fun ds J H1 pd x1 W => ?_⟩
  have R1 := R.mono x1
  refine ⟨fun i m σ2 H2 => m = ds.length - i ∧ i ≤ ds.length ∧ ∃ own2 row2 ρ2, RS X.K n c own2 row2 τ ρ2 σ2 H2 ∧ Vis2 c own row H1 own2 row2 H2 ∧ wfl g a k (ds.drop i) ρ2, ⟨ds.length, by simp, Nat.zero_le _, own, row, ρ, R1, .refl _, by simpa using pd⟩, ?_⟩
  rintro i m σ2 H2 ⟨rfl, hi, own2, row2, ρ2, R2, v2, hw2⟩
  have W2 := W H2 (hd c own2 row2) v2 (fun b hb => R2.hd_new hb) (fun b xs hb => R2.notup hb) i
  by_cases hlt : i < ds.length
  · obtain ⟨go, yld⟩ := W2.1 ds[i] (List.getElem?_eq_getElem hlt)
    rw [List.drop_eq_getElem_cons hlt] at hw2
    refine .inr ⟨go, fun σ' H' => ∃ own2 row2 ρ2, RS X.K n c own2 row2 τ ρ2 σ' H' ∧ Vis2 c own row H1 own2 row2 H' ∧ wfl g a k (ds.drop (i + 1)) ρ2, fun σ' H' ⟨own', row', ρ', a1, a2, a3⟩ => ⟨ds.length - (i + 1), by omega, rfl, hlt, own', row', ρ', a1, a2, a3⟩, fun x H3 hy => ?_⟩
    obtain ⟨s3, rp3⟩ := yld x H3 hy
    have x3 : Ex X.K row2 H2 H3 := .of_same s3
    refine ⟨c, own2, row2, ρ2, ds[i], _, R2.mono x3, rp3, hw2, fun ρ' σ' hb' R3 ew => ⟨c, own2, row2, ρ', _, R3, hb', fun ρ4 own4 row4 σ4 H4 h4 R4 v4 => ?_, q2, fun ρ4 own4 row4 σ4 H4 h4 R4 v4 => ?_, fun ρ4 own4 row4 σ4 H4 h4 R4 v4 => ?_⟩⟩
    · exact ⟨own4, row4, ρ4, R4, v2.trans (Ex.then x3 v4), h4⟩
    · exact q1 ρ4 own4 row4 σ4 H4 h4 R4 (Ex.then x1 (v2.trans (Ex.then x3 v4)))
    · exact ⟨own4, row4, ρ4, R4, v2.trans (Ex.then x3 v4), h4⟩
  · have ei : i = ds.length := by omega
    subst ei
    rw [List.drop_length] at hw2
    exact .inl ⟨W2.2 (Nat.le_refl _), q1 ρ2 own2 row2 σ2 H2 hw2 R2 (Ex.then x1 v2)⟩
def wwh (t : WT) (body : WS) (k : Kt) : Nat → Env → Prop
  | 0, _ => False
  | m + 1, ρ => t ρ fun b => if b = true then body { nx := wwh t body k m, ct := wwh t body k m, bk := k.nx, rt := k.rt } ρ else k.nx ρ
def wwhile (t : WT) (body : WS) : WS := fun k ρ => ∃ m, wwh t body k m ρ
theorem vs_while {t : Expr} {tt : WT} (hp : PassesOwn (model X.prog X.w) X.A X.env X.xe) (ht : VT X n τ t tt) (hb : VSs X n τ τ τ body a) : VS1 X n τ τ τb (.While t body [] pos) (wwhile tt a) := PS.imp (ps_while hp ht hb) fun Dd σ H ⟨c, own, row, ρ, k, R, hw, q1, q2, q3, q4⟩ => by
  obtain ⟨m0, hw⟩ := hw
  refine ⟨fun m σ2 H2 => ∃ own2 row2 ρ2, RS X.K n c own2 row2 τ ρ2 σ2 H2 ∧ Vis2 c own row H own2 row2 H2 ∧ wwh tt a k m ρ2, ⟨m0, own, row, ρ, R, .refl _, hw⟩, ?_⟩
  rintro m σ2 H2 ⟨own2, row2, ρ2, R2, v2, hw2⟩
  cases m with
  | zero => exact hw2.elim
  | succ m =>
    refine ⟨c, own2, row2, ρ2, _, R2, hw2, fun d H3 h3 x3 => ?_⟩
    cases d with
    | true =>
      rw [if_pos rfl] at h3
      refine iteT ⟨fun σ' H' => ∃ own2 row2 ρ2, RS X.K n c own2 row2 τ ρ2 σ' H' ∧ Vis2 c own row H own2 row2 H' ∧ wwh tt a k m ρ2, fun σ' H' h => ⟨m, Nat.lt_succ_self _, h⟩, c, own2, row2, ρ2, _, R2.mono x3, h3,
        fun ρ4 own4 row4 σ4 H4 h4 R4 v4 => ⟨own4, row4, ρ4, R4, v2.trans (Ex.then x3 v4), h4⟩, q2, fun ρ4 own4 row4 σ4 H4 h4 R4 v4 => q1 ρ4 own4 row4 σ4 H4 h4 R4 (v2.trans (Ex.then x3 v4)), fun ρ4 own4 row4 σ4 H4 h4 R4 v4 => ⟨own4, row4, ρ4, R4, v2.trans (Ex.then x3 v4), h4⟩⟩
    | false =>
      rw [if_neg Bool.false_ne_true] at h3
      exact iteF (q1 ρ2 own2 row2 σ2 H3 h3 (R2.mono x3) (v2.trans x3.vis))

/-! ### x = e -/
/-- the types with one set -/
def tset (τ : List Ty) (i : Nat) (t : Ty) : List Ty := τ.set i t
theorem tset_get {τ : List Ty} {i j : Nat} {t : Ty} (hi : i < τ.length) : (tset τ i t).getD j .fz = if j = i then t else τ.getD j .fz := by
  unfold tset
  rw [List.getD_eq_getElem?_getD, List.getD_eq_getElem?_getD]
  by_cases e : j = i
  · subst e; rw [List.getElem?_set_self hi, if_pos rfl]; rfl
  · rw [List.getElem?_set_ne (Ne.symm e), if_neg e]
/-- a slot is set, whatever it held -/
theorem RS.set {K : PySem.W.Frag} {c : C} {own : Own} {row : Option Addr} {ρ : Env} {σ : L2.St} {H : Hp} (R : RS K n c own row τ ρ σ H) {i : Nat} {v : V} {d : D} {t : Ty} (hi : i < n) (ht : i < τ.length) (h : SlotP K (hid H (hd c own row)) H own row i t (some d) (some (some v))) :
    RS K n c own row (tset τ i t) (VS.put ρ i d) (σ.set i (some v)) H where
  lenσ := by rw [List.length_set]; exact R.lenσ
  lenρ := by rw [put_len]; exact R.lenρ
  same := R.same
  fresh := R.fresh
  s0 := R.s0
  live := R.live
  rowp := R.rowp
  rowat := R.rowat
  slot := fun j => by
    rw [eg_put _ _ _ _ (by rw [R.lenρ]; exact hi), tset_get ht]
    by_cases e : j = i
    · subst e
      rw [if_pos rfl, if_pos rfl, List.getElem?_set_self (by rw [R.lenσ]; exact hi)]
      exact h
    · rw [if_neg e, if_neg e, List.getElem?_set_ne (Ne.symm e)]
      exact R.slot j
def wset (i : Nat) (e : WE) : WS := fun k ρ => e ρ fun d => k.nx (put ρ i d)
/-- an assignment by its expression's and target's reading -/
theorem vs_setP {i : Nat} (h : PS X st (tAsg (rdE X.K n τ we) (gName i))) (hi : i < n := by decide) (ht : i < τ.length := by decide) : VS1 X n τ (tset τ i .fz) τb st (wset i we) := PS.imp h fun Dd σ H ⟨c, own, row, ρ, k, R, hw, q1, _⟩ =>
  ⟨c, own, row, ρ, _, R, hw, fun d v H' h1 x1 r => q1 _ own row _ H' h1 ((R.mono x1).set hi ht ⟨v, rfl, r⟩) x1.vis⟩
end
end VS
/-! VSN: lists and dicts of one's own: made, changed. -/
namespace VS
open PySem PySem.Spec PyProof.Rows L2
section
variable {X : Cx} {n : Nat} {τ τ' τ1 τ2 τb : List Ty} {e o : Expr} {es : List Expr} {st : Stmt} {we w1' : WE} {wr : WA} {pos apos cpos : Pos}
/-- a new cell becomes one's own -/
theorem RS.adopt {K : PySem.W.Frag} {c : C} {own : Own} {row : Option Addr} {ρ : Env} {σ : L2.St} {H H' : Hp} (R : RS K n c own row τ ρ σ H) (x : Ex K row H H') {a : Addr} {m : Nat} {u : HO} (h : H a = none) (hu : H' a = some u) (ho : IsC u) : RS K n c (ownC own a m) row τ ρ σ H' ∧ Vis2 c own row H (ownC own a m) row H' := by
  have sub : Same (hid H (hd c own row)) (hid H' (hd c (ownC own a m) row)) := hid_same fun b u h1 h2 => by
    have ne : b ≠ a := ne_of_none h2 h
    exact ⟨hd_ownC_ne ne h1, x.keep b u (hd_false.mp h1).2.2 h2⟩
  have keepOwn : ∀ b i, own b = some i → ownC own a m b = some i := fun b i hb => by
    have ne : b ≠ a := fun z => by
      obtain ⟨u, e1, _⟩ := R.live b i hb
      rw [z, h] at e1; cases e1
    rw [ownC_ne ne]; exact hb
  have R' := R.mono x
  refine ⟨⟨R.lenσ, R.lenρ, R'.same, fun b i hb => ?_, R.s0, fun b i hb => ?_, R.rowp, fun r hr => ?_, fun i => ?_⟩, sub⟩
  · by_cases e : b = a
    · subst e; exact R.h0new h
    · rw [ownC_ne e] at hb; exact R.fresh b i hb
  · by_cases e : b = a
    · subst e; exact ⟨u, hu, ho⟩
    · rw [ownC_ne e] at hb; exact R'.live b i hb
  · obtain ⟨h1, h2, h3⟩ := R'.rowat r hr
    refine ⟨h1, ?_, h3⟩
    have ne : r ≠ a := fun z => by
      obtain ⟨_, _, _, _, _, k, _⟩ := (R.rowat r hr).1
      rw [z, h] at k; cases k
    rw [ownC_ne ne]; exact h2
  · have s := R.slot i
    have kp : ∀ b j, own b = some j → ∀ u, H b = some u → H' b = some u := fun b j hb u hu => x.keep b u (R.notrow hb) hu
    cases e : τ.getD i .fz with
    | fz =>
      rw [e] at s
      cases ed : eg ρ i with
      | none => trivial
      | some d =>
        rw [ed] at s
        obtain ⟨v, s1, s2⟩ := s
        exact ⟨v, s1, s2.mono sub⟩
    | ow =>
      rw [e] at s
      cases ed : eg ρ i with
      | none => rw [ed] at s; exact s
      | some d =>
        rw [ed] at s
        obtain ⟨b, s1, s2, s3⟩ := s
        exact ⟨b, s1, keepOwn b i s2, s3.mono sub (kp b i s2)⟩
    | oo =>
      rw [e] at s
      cases ed : eg ρ i with
      | none => rw [ed] at s; exact s
      | some d =>
        rw [ed] at s
        obtain ⟨b, bs, dss, s1, s2, s3, s4, s5, s6, s7⟩ := s
        exact ⟨b, bs, dss, s1, keepOwn b i s2, kp b i s2 _ s3, s4, s5, Paired.mapP s6 fun x d ⟨q1, q2⟩ => ⟨keepOwn x i q1, q2.mono sub (kp x i q1)⟩, s7⟩
    | rw =>
      rw [e] at s
      cases ed : eg ρ i with
      | none => rw [ed] at s; exact s
      | some d => rw [ed] at s; exact s
/-! ### new cells -/
theorem cell_new {K : PySem.W.Frag} {c : C} {own : Own} {row : Option Addr} {ρ : Env} {σ : L2.St} {H : Hp} (R : RS K n c own row τ ρ σ H) {p : Addr} {vs : List V} {ds : List D} (hp : H p = none) (r : RpA K (hid H (hd c own row)) vs ds) : Cell K (hid (upd H p (.lst vs)) (hd c (ownC own p bigSlot) row)) (upd H p (.lst vs)) p (.list ds) :=
  .inl ⟨vs, ds, upd_same, r.mono (hid_same fun b o h1 h2 => by
    have ne : b ≠ p := ne_of_none h2 hp
    exact ⟨hd_ownC_ne ne h1, by rw [upd_ne ne]; exact h2⟩), rfl⟩
theorem vf_lst (h : VAs X n τ es wr) : VF X n τ (.List es pos) (wlst wr) := PE.imp (pe_lst h) fun σ H Q h => by
  obtain ⟨c, own, row, ρ, P, R, hw, q⟩ := h
  refine ⟨c, own, row, ρ, _, R, hw, fun ds vs H1 h1 x1 r1 => ?_⟩
  obtain ⟨hz, h1⟩ := h1
  exact ⟨by rw [r1.len]; exact hz, fun p hp => q _ _ _ h1 (x1.trans (.upd hp)) ⟨p, rfl, x1.new R hp, cell_new (R.mono x1) hp r1⟩⟩
def wdict0 : WE := fun _ Q => Q (.dict [])
def wdictT0 : WE := fun _ Q => Q (.dict [(.none, .none)])
theorem vf_dict0 : VF X n τ (.Dict [] [] pos) wdict0 := PE.imp pe_dnewK fun σ H Q h => by
  obtain ⟨c, own, row, ρ, P, R, hw, q⟩ := h
  exact fun p hp => q _ _ _ hw (.upd hp) ⟨p, rfl, hp, .inr (.inl ⟨[], [], upd_same, .nil, rfl⟩)⟩
theorem vf_dictT0 : VF X n τ (.Dict [] [] pos) wdictT0 := PE.imp pe_dnewT fun σ H Q h => by
  obtain ⟨c, own, row, ρ, P, R, hw, q⟩ := h
  exact fun p hp => q _ _ _ hw (.upd hp) ⟨p, rfl, hp, .inr (.inr ⟨[], [], upd_same, .nil, rfl⟩)⟩
/-- [x] * k -/
theorem vf_rep {a b : Expr} {wa wb : WE} (ha : VB X n τ a wa) (hb : VB X n τ b wb) : VF X n τ (.BinOp a .Mult b pos) (w2 (fun x y => match x with | .list _ => dMul x y | _ => none) wa wb) := PE.imp (pe_op op_rep ha hb) fun σ H Q h => by
  obtain ⟨c, own, row, ρ, P, R, hw, q⟩ := h
  refine ⟨c, own, row, ρ, _, R, hw, fun d v H1 h1 x1 r1 => ⟨c, own, row, ρ, _, R.mono x1, h1, fun d2 v2 H2 h2 x2 r2 => ?_⟩⟩
  obtain ⟨d3, e3, p3⟩ := h2
  have R2 := (R.mono x1).mono x2
  have r1' := r1.ex (R.mono x1).vw x2
  cases d <;> simp only at e3 <;> try (cases e3; done)
  cases d2 <;> simp only [dMul] at e3 <;> try (cases e3; done)
  split at e3
  · rename_i hz; cases e3
    obtain ⟨a, xs, rfl, k1, k2⟩ := r1'.lst
    exact ⟨a, _, xs, rfl, r2.int, k1, hz.1, hz.2.1, by rw [k2.len]; exact hz.2.2, fun p hp => q _ _ _ p3 (x1.trans (x2.trans (.upd hp))) ⟨p, rfl, x1.new R (x2.new (R.mono x1) hp), cell_new R2 hp (k2.rep _)⟩⟩
  · cases e3
/-- xs + ys, lists -/
theorem vf_add {a b : Expr} {wa wb : WE} (ha : VB X n τ a wa) (hb : VB X n τ b wb) : VF X n τ (.BinOp a .Add b pos) (w2 (fun x y => match x with | .list _ => dAdd x y | _ => none) wa wb) := PE.imp (pe_op op_cat ha hb) fun σ H Q h => by
  obtain ⟨c, own, row, ρ, P, R, hw, q⟩ := h
  refine ⟨c, own, row, ρ, _, R, hw, fun d v H1 h1 x1 r1 => ⟨c, own, row, ρ, _, R.mono x1, h1, fun d2 v2 H2 h2 x2 r2 => ?_⟩⟩
  obtain ⟨d3, e3, p3⟩ := h2
  have R2 := (R.mono x1).mono x2
  have r1' := r1.ex (R.mono x1).vw x2
  cases d <;> simp only at e3 <;> try (cases e3; done)
  cases d2 <;> simp only [dAdd] at e3 <;> try (cases e3; done)
  split at e3
  · rename_i hz; cases e3
    obtain ⟨a, xs, rfl, k1, k2⟩ := r1'.lst
    obtain ⟨b, ys, rfl, k3, k4⟩ := r2.lst
    exact ⟨a, b, xs, ys, rfl, rfl, k1, k3, by rw [k2.len, k4.len]; exact hz, fun p hp => q _ _ _ p3 (x1.trans (x2.trans (.upd hp))) ⟨p, rfl, x1.new R (x2.new (R.mono x1) hp), cell_new R2 hp (k2.append k4)⟩⟩
  · cases e3
/-- list(xs) -/
theorem vf_list {a : Expr} {wa : WE} {p0 : Pos} (hg : Gl X "list") (hm : X.mg "list" = none) (ha : VB X n τ a wa) (hs : starEach (a :: []) X.env = (false, eval a X.env) :: starEach [] X.env := by rfl) (hs2 : ((backTo pos (starEach [] X.env)).any fun x => x.fst) = false := by rfl) :
    VF X n τ (.Call (.Name "list" p0) [a] [] pos) (w1 (fun d => (seqD d).map .list) wa) := PE.imp (pe_callTy (e := a) (es := []) call_list_of hg hm boot_list (pa_cons ha pa_nil hs) (by decide) (by decide) hs hs2) fun σ H Q h => by
  obtain ⟨c, own, row, ρ, P, R, hw, q⟩ := h
  refine ⟨c, own, row, ρ, _, R, hw, fun d v H1 h1 x1 r1 => ?_⟩
  obtain ⟨d3, e3, p3⟩ := h1
  have R1 := R.mono x1
  obtain ⟨ds, e1, rfl⟩ := Option.map_eq_some_iff.mp e3
  cases d <;> simp only [seqD] at e1 <;> try (cases e1; done)
  · cases e1
    obtain ⟨a, vs, rfl, k1, k2⟩ := r1.lst
    exact ⟨a, vs, rfl, .inl (.of k1), fun p hp => q _ _ _ p3 (x1.trans (.upd hp)) ⟨p, rfl, x1.new R hp, cell_new R1 hp k2⟩⟩
  · cases e1
    obtain ⟨a, vs, rfl, k1, k1', k2⟩ := r1.tup
    exact ⟨a, vs, rfl, .inr (.of k1), fun p hp => q _ _ _ p3 (x1.trans (.upd hp)) ⟨p, rfl, x1.new R hp, cell_new R1 hp k2⟩⟩
/-- x = a new cell -/
theorem vs_setOwnP {i : Nat} (h : PS X st (tAsg (rdF X.K n τ we) (gName i))) (hi : i < n := by decide) (ht : i < τ.length := by decide) : VS1 X n τ (tset τ i .ow) τb st (wset i we) := PS.imp h fun Dd σ H ⟨c, own, row, ρ, k, R, hw, q1, _⟩ => by
  refine ⟨c, own, row, ρ, _, R, hw, fun d v H' h1 x1 hf => ?_⟩
  obtain ⟨a, rfl, ha, hc⟩ := hf
  obtain ⟨u, hu, hu2⟩ := hc.some
  obtain ⟨R', v'⟩ := R.adopt x1 (m := i) ha hu hu2
  refine q1 _ _ row _ H' h1 (R'.set hi ht ⟨a, rfl, ownC_same, ?_⟩) v'
  have e : hd c (ownC own a bigSlot) row = hd c (ownC own a i) row := by
    funext b
    unfold hd ownC
    by_cases hb : b = a <;> simp [hb]
  rw [← e]; exact hc

/-! ### changes -/
def wappend (i : Nat) (e : WE) : WS := fun k ρ => ∃ ds, eg ρ i = some (.list ds) ∧ ds.length < sizeLine ∧ e ρ fun d => k.nx (put ρ i (.list (ds ++ [d])))
theorem RS.own {K : PySem.W.Frag} {c : C} {own : Own} {row : Option Addr} {ρ : Env} {σ : L2.St} {H : Hp} (R : RS K n c own row τ ρ σ H) {i : Nat} {d : D} (ht : τ.getD i .fz = .ow) (hd' : eg ρ i = some d) : ∃ a, σ[i]? = some (some (.ref a)) ∧ own a = some i ∧ Cell K (hid H (hd c own row)) H a d := by
  have s := R.slot i
  rw [ht, hd'] at s
  exact s
theorem Cell.lst {K : PySem.W.Frag} {F H : Hp} {a : Addr} {ds : List D} (h : Cell K F H a (.list ds)) : ∃ xs, H a = Option.some (.lst xs) ∧ RpA K F xs ds := by
  rcases h with ⟨xs, ds', h1, h2, e⟩ | ⟨_, _, _, _, e⟩ | ⟨_, _, _, _, e⟩
  · cases e; exact ⟨xs, h1, h2⟩
  · cases e
  · cases e
theorem Cell.dic {K : PySem.W.Frag} {F H : Hp} {a : Addr} {ds : List (D × D)} (h : Cell K F H a (.dict ds)) : (∃ kvs, H a = Option.some (.dK kvs) ∧ RpK K F kvs ds) ∨ ∃ kvs ds', H a = Option.some (.dT kvs) ∧ ds = (.none, .none) :: ds' ∧ RpT K F kvs ds' := by
  rcases h with ⟨xs, ds', h1, h2, e⟩ | ⟨kvs, ds', h1, h2, e⟩ | ⟨kvs, ds', h1, h2, e⟩
  · cases e
  · cases e; exact .inl ⟨kvs, h1, h2⟩
  · cases e; exact .inr ⟨kvs, _, h1, rfl, h2⟩
/-- a cell of one's own is written: its slot holds d' -/
theorem RS.rewrite {K : PySem.W.Frag} {c : C} {own : Own} {row : Option Addr} {ρ : Env} {σ : L2.St} {H : Hp} (R : RS K n c own row τ ρ σ H) {a : Addr} {i : Nat} {u : HO} {d : D} (ht : τ.getD i .fz = .ow) (hi : i < n) (hs : σ[i]? = some (some (.ref a))) (ha : own a = some i) (hu : IsC u) (hc : Cell K (hid H (hd c own row)) (upd H a u) a d) :
    RS K n c own row τ (VS.put ρ i d) σ (upd H a u) ∧ Vis2 c own row H own row (upd H a u) := by
  refine ⟨R.write ha hu (by rw [put_len]; exact R.lenρ) (fun j hj => eg_put_out ρ i j d hj) ?_, ?_⟩
  · rw [ht, eg_put _ _ _ _ (by rw [R.lenρ]; exact hi), if_pos rfl, hs]
    exact ⟨a, rfl, ha, hc⟩
  · show Same _ (hid (upd H a u) _)
    rw [hid_upd_hidden (R.hd_own ha)]
    exact .refl _
theorem vs_append {i : Nat} (ho : PE X o (tVar i)) (he : VE X n τ e we) (ht : τ.getD i .fz = .ow := by rfl) (hi : i < n := by decide) (hbase : attributeBase o "append" X.env (eval o X.env) = eval o X.env := by rfl)
    (hfew : ((backTo cpos (starEach (e :: []) X.env)).all (fun x => !x.1) && (backToKw cpos (keywordEach [] X.env)).all (fun x => x.1.isSome)
      && decide ((e :: []).length + ([] : List Keyword).length + (if ([] : List Keyword).isEmpty then 0 else 1) < 30)) = true := by rfl)
    (hline : (apos.endLine == cpos.line) = true := by rfl) (hs : starEach (e :: []) X.env = (false, eval e X.env) :: starEach [] X.env := by rfl) (hplain : (backTo cpos (starEach [] X.env)).any (·.1) = false := by rfl) (hsw : swapsWith (.Call (.Attribute o "append" apos) [e] [] cpos) none pos.line X.env = pure false := by rfl) :
    VS1 X n τ τ τb (.Expr (.Call (.Attribute o "append" apos) [e] [] cpos) pos) (wappend i we) :=
  PS.imp (ps_expr (pe_bm PySem.F.plainAttrs_list PySem.F.slot_list_append PySem.F.type_list_append mt_append ho (pa_cons he pa_nil hs) hbase hfew hline hs hplain) hsw) fun Dd σ H ⟨c, own, row, ρ, k, R, hw, q1, _⟩ => by
    obtain ⟨ds, e1, e2, hw⟩ := hw
    obtain ⟨a, s1, s2, s3⟩ := R.own ht e1
    obtain ⟨xs, h1, h2⟩ := s3.lst
    refine ⟨.ref a, s1, .inl ⟨rfl, xs, .of h1⟩, c, own, row, ρ, _, R, hw, fun d v H' h3 x1 r => ?_⟩
    have R1 := R.mono x1
    refine ⟨a, xs, v, rfl, rfl, x1.keep a _ (R.notrow s2) h1, by rw [h2.len]; exact e2, ?_⟩
    obtain ⟨R2, v2⟩ := R1.rewrite (u := .lst (xs ++ [v])) (d := .list (ds ++ [d])) ht hi s1 s2 trivial (.inl ⟨_, _, upd_same, (h2.mono x1.vis).append (.cons r .nil), rfl⟩)
    exact q1 _ own row σ _ h3 R2 (Ex.then x1 v2)
/-- x = y.pop() -/
def wpop (j i : Nat) : WS := fun k ρ => ∃ ds d, eg ρ i = some (.list ds) ∧ ds[ds.length - 1]? = some d ∧ k.nx (put (put ρ i (.list ds.dropLast)) j d)
theorem vs_popP {i j : Nat} (h : PS X st (tAsg (tBM0 X.K "list" rPop (tVar i)) (gName j))) (hij : j ≠ i := by decide) (ht : τ.getD i .fz = .ow := by rfl) (hi : i < n := by decide) (hj : j < n := by decide) (htj : j < τ.length := by decide) : VS1 X n τ (tset τ j .fz) τb st (wpop j i) :=
  PS.imp h fun Dd σ H ⟨c, own, row, ρ, k, R, hw, q1, _⟩ => by
    obtain ⟨ds, d, e1, e2, hw⟩ := hw
    obtain ⟨a, s1, s2, s3⟩ := R.own ht e1
    obtain ⟨xs, h1, h2⟩ := s3.lst
    obtain ⟨v, k1, k2⟩ := h2.get e2
    refine ⟨.ref a, s1, .inl ⟨rfl, xs, .of h1⟩, a, xs, v, rfl, rfl, h1, by rw [h2.len]; exact k1, ?_⟩
    obtain ⟨R2, v2⟩ := R.rewrite (u := .lst xs.dropLast) (d := .list ds.dropLast) ht hi s1 s2 trivial (.inl ⟨_, _, upd_same, h2.dropLast, rfl⟩)
    exact q1 _ own row _ _ hw (R2.set (t := .fz) hj htj ⟨v, rfl, k2.mono v2⟩) v2
/-- x[e1] = e2, a list -/
def wseti (i : Nat) (e1 e2 : WE) : WS := fun k ρ => e2 ρ fun d => e1 ρ fun ix => ∃ ds m j, eg ρ i = some (.list ds) ∧ ix = .int m ∧ ixN ds.length m = some j ∧ k.nx (put ρ i (.list (ds.set j d)))
theorem vs_setiP {i : Nat} (h : PS X st (tAsg (rdE X.K n τ we) (gSub (tVar i) (rdE X.K n τ w1') rSetL))) (ht : τ.getD i .fz = .ow := by rfl) (hi : i < n := by decide) : VS1 X n τ τ τb st (wseti i w1' we) :=
  PS.imp h fun Dd σ H ⟨c, own, row, ρ, k, R, hw, q1, _⟩ => by
    refine ⟨c, own, row, ρ, _, R, hw, fun d v H1 h1 x1 r1 => ?_⟩
    have R1 := R.mono x1
    have s := R.slot i
    rw [ht] at s
    cases ed : eg ρ i with
    | none => rw [ed] at s; exact s.elim
    | some dd =>
      rw [ed] at s
      obtain ⟨a, s1, s2, s3⟩ := s
      refine ⟨.ref a, s1, c, own, row, ρ, _, R1, h1, fun d2 v2 H2 h2 x2 r2 => ?_⟩
      obtain ⟨ds, m, j, e1, rfl, e3, hq⟩ := h2
      rw [ed] at e1; cases e1
      obtain ⟨xs, k1, k2⟩ := s3.lst
      have x12 := x1.trans x2
      cases r2
      refine ⟨a, xs, m, j, rfl, rfl, x12.keep a _ (R.notrow s2) k1, by rw [k2.len]; exact e3, ?_⟩
      obtain ⟨R3, v3⟩ := (R1.mono x2).rewrite (u := .lst (xs.set j v)) (d := .list (ds.set j d)) ht hi s1 s2 trivial (.inl ⟨_, _, upd_same, (k2.mono x12.vis).set (r1.mono x2.vis) j, rfl⟩)
      exact q1 _ own row σ _ hq R3 (Ex.then x12 v3)
/-! dicts -/
def dputD (ds : List (D × D)) (k v : D) : Option (List (D × D)) :=
  if dkeyOk (dsplit ds).1 k = true ∧ (dsplit ds).2.length < sizeLine then some (if (dsplit ds).1 = true then (.none, .none) :: dput (dsplit ds).2 k v else dput (dsplit ds).2 k v) else none
theorem RpK.any {K : PySem.W.Frag} {F : Hp} {k : Key} : ∀ {kvs : List (Key × V)} {ds : List (D × D)}, RpK K F kvs ds → (kvs.any fun kv => decide (kv.1 = k)) = ds.any fun kv => PyData.eqv kv.1 (keyD k)
  | _, _, .nil => rfl
  | _, _, .cons h t => by
    rw [List.any_cons, List.any_cons, RpK.any t]
    show (_ || _) = (PyData.eqv (keyD _) (keyD k) || _)
    rw [eqv_keyD]
theorem RpK.map {K : PySem.W.Frag} {F : Hp} {k : Key} {v : V} {d : D} (r : Rp K F v d) : ∀ {kvs : List (Key × V)} {ds : List (D × D)}, RpK K F kvs ds → RpK K F (kvs.map fun kv => if kv.1 = k then (kv.1, v) else kv) (ds.map fun kv => if PyData.eqv kv.1 (keyD k) then (kv.1, d) else kv)
  | _, _, .nil => .nil
  | _, _, .cons (k := j) h t => by
    rw [List.map_cons, List.map_cons]
    show RpK K F ((if j = k then (j, v) else (j, _)) :: _) ((if PyData.eqv (keyD j) (keyD k) = true then (keyD j, d) else (keyD j, _)) :: _)
    rw [eqv_keyD]
    by_cases e : j = k
    · rw [if_pos e, if_pos (by simp [e])]; exact .cons r (RpK.map r t)
    · rw [if_neg e, if_neg (by simp [e])]; exact .cons h (RpK.map r t)
theorem RpK.snoc {K : PySem.W.Frag} {F : Hp} {k : Key} {v : V} {d : D} (r : Rp K F v d) : ∀ {kvs : List (Key × V)} {ds : List (D × D)}, RpK K F kvs ds → RpK K F (kvs ++ [(k, v)]) (ds ++ [(keyD k, d)])
  | _, _, .nil => .cons r .nil
  | _, _, .cons h t => .cons h (RpK.snoc r t)
theorem RpK.put {K : PySem.W.Frag} {F : Hp} {k : Key} {v : V} {d : D} (r : Rp K F v d) {kvs : List (Key × V)} {ds : List (D × D)} (h : RpK K F kvs ds) : RpK K F (putK kvs k v) (dput ds (keyD k) d) := by
  unfold putK dput
  rw [h.any]
  split
  · exact h.map r
  · exact h.snoc r
theorem RpT.any {K : PySem.W.Frag} {F : Hp} {k : List Key} : ∀ {kvs : List (List Key × V)} {ds : List (D × D)}, RpT K F kvs ds → (kvs.any fun kv => decide (kv.1 = k)) = ds.any fun kv => PyData.eqv kv.1 (.tuple (k.map keyD))
  | _, _, .nil => rfl
  | _, _, .cons h t => by
    rw [List.any_cons, List.any_cons, RpT.any t]
    show (_ || _) = (PyData.eqv (.tuple _) (.tuple _) || _)
    rw [eqv_keyT]
theorem RpT.map {K : PySem.W.Frag} {F : Hp} {k : List Key} {v : V} {d : D} (r : Rp K F v d) : ∀ {kvs : List (List Key × V)} {ds : List (D × D)}, RpT K F kvs ds → RpT K F (kvs.map fun kv => if kv.1 = k then (kv.1, v) else kv) (ds.map fun kv => if PyData.eqv kv.1 (.tuple (k.map keyD)) then (kv.1, d) else kv)
  | _, _, .nil => .nil
  | _, _, .cons (k := j) h t => by
    rw [List.map_cons, List.map_cons]
    show RpT K F ((if j = k then (j, v) else (j, _)) :: _) ((if PyData.eqv (.tuple (j.map keyD)) (.tuple (k.map keyD)) = true then (.tuple (j.map keyD), d) else (.tuple (j.map keyD), _)) :: _)
    rw [eqv_keyT]
    by_cases e : j = k
    · rw [if_pos e, if_pos (by simp [e])]; exact .cons r (RpT.map r t)
    · rw [if_neg e, if_neg (by simp [e])]; exact .cons h (RpT.map r t)
theorem RpT.snoc {K : PySem.W.Frag} {F : Hp} {k : List Key} {v : V} {d : D} (r : Rp K F v d) : ∀ {kvs : List (List Key × V)} {ds : List (D × D)}, RpT K F kvs ds → RpT K F (kvs ++ [(k, v)]) (ds ++ [(.tuple (k.map keyD), d)])
  | _, _, .nil => .cons r .nil
  | _, _, .cons h t => .cons h (RpT.snoc r t)
theorem RpT.put {K : PySem.W.Frag} {F : Hp} {k : List Key} {v : V} {d : D} (r : Rp K F v d) {kvs : List (List Key × V)} {ds : List (D × D)} (h : RpT K F kvs ds) : RpT K F (putK kvs k v) (dput ds (.tuple (k.map keyD)) d) := by
  unfold putK dput
  rw [h.any]
  split
  · exact h.map r
  · exact h.snoc r
def wdput (i : Nat) (e1 e2 : WE) : WS := fun k ρ => e2 ρ fun d => e1 ρ fun key => ∃ ds es, eg ρ i = some (.dict ds) ∧ dputD ds key d = some es ∧ k.nx (put ρ i (.dict es))
theorem vs_dput {i : Nat} {ix value : Expr} {pos' : Pos} (hu : X.A.units + 1 < cLine) (ho : PE X o (tVar i)) (hi' : VE X n τ ix w1') (hv : VE X n τ value we) (ht : τ.getD i .fz = .ow := by rfl) (hi : i < n := by decide) (hs : swapsWith value (some (.Subscript o ix pos')) pos.line X.env = pure false := by rfl) :
    VS1 X n τ τ τb (.Assign [.Subscript o ix pos'] value pos) (wdput i w1' we) := PS.imp (ps_dput hu ho hi' hv hs) fun Dd σ H ⟨c, own, row, ρ, k, R, hw, q1, _⟩ => by
  refine ⟨c, own, row, ρ, _, R, hw, fun d v H1 h1 x1 r1 => ?_⟩
  have R1 := R.mono x1
  have s := R.slot i
  rw [ht] at s
  cases ed : eg ρ i with
  | none => rw [ed] at s; exact s.elim
  | some dd =>
    rw [ed] at s
    obtain ⟨a, s1, s2, s3⟩ := s
    refine ⟨.ref a, s1, c, own, row, ρ, _, R1, h1, fun d2 v2 H2 h2 x2 r2 => ?_⟩
    obtain ⟨ds, es, e1, e2, hq⟩ := h2
    rw [ed] at e1; cases e1
    have x12 := x1.trans x2
    have R2 := R1.mono x2
    unfold dputD at e2
    split at e2
    · rename_i hz
      obtain ⟨hk, hl⟩ := hz
      rcases s3.dic with ⟨kvs, k1, k2⟩ | ⟨kvs, ds', k1, rfl, k2⟩
      · rw [k2.nomark] at hk hl e2
        cases e2
        obtain ⟨kk, hkk⟩ := Option.isSome_iff_exists.mp (show (keyOf d2).isSome = true from hk)
        have := keyOf_some hkk
        subst this
        have ev : v2 = kV kk := Bo.key (row := row) (p := hd c own row) (.inl r2)
        subst ev
        refine ⟨a, _, rfl, DPut.k (x12.keep a _ (R.notrow s2) k1) (by rw [k2.len]; exact hl), ?_⟩
        obtain ⟨R3, v3⟩ := R2.rewrite (u := .dK (putK kvs kk v)) (d := .dict (dput ds (keyD kk) d)) ht hi s1 s2 trivial (.inr (.inl ⟨_, _, upd_same, (k2.mono x12.vis).put (r1.mono x2.vis), rfl⟩))
        exact q1 _ own row σ _ hq R3 (Ex.then x12 v3)
      · cases e2
        obtain ⟨kk, hkk⟩ := Option.isSome_iff_exists.mp (show (keysOf d2).isSome = true from hk)
        have := keysOf_some hkk
        subst this
        obtain ⟨b, rfl, hb⟩ := Bo.keys (row := row) (p := hd c own row) (K := X.K) (.inl r2)
        refine ⟨a, _, rfl, DPut.t (x12.keep a _ (R.notrow s2) k1) hb (by rw [k2.len]; exact hl), ?_⟩
        obtain ⟨R3, v3⟩ := R2.rewrite (u := .dT (putK kvs kk v)) (d := .dict ((.none, .none) :: dput ds' (.tuple (kk.map keyD)) d)) ht hi s1 s2 trivial (.inr (.inr ⟨_, _, upd_same, (k2.mono x12.vis).put (r1.mono x2.vis), rfl⟩))
        exact q1 _ own row σ _ hq R3 (Ex.then x12 v3)
    · cases e2
/-! x op= e -/
def waug (i : Nat) (g : D → D → Option D) (e : WE) : WS := fun k ρ => ∃ x, eg ρ i = some x ∧ e ρ fun y => ∃ d, g x y = some d ∧ k.nx (put ρ i d)
theorem vs_augP {i : Nat} {ti : TIp} {g : D → D → Option D} (hg : G2 X.K g ti) (h : PS X st (tAug i (rdE X.K n τ we) ti)) (ht : τ.getD i .fz = .fz := by rfl) (hi : i < n := by decide) : VS1 X n τ τ τb st (waug i g we) := PS.imp h fun Dd σ H ⟨c, own, row, ρ, k, R, hw, q1, _⟩ => by
  obtain ⟨x, e1, hw⟩ := hw
  have s := R.slot i
  rw [ht, e1] at s
  obtain ⟨v, s1, s2⟩ := s
  refine ⟨v, s1, c, own, row, ρ, _, R, hw, fun d u H1 h1 x1 r1 => ?_⟩
  have R1 := R.mono x1
  obtain ⟨d3, e3, hq⟩ := h1
  refine hg row _ H1 v u x d d3 _ R1.vw (.inl (s2.mono x1.vis)) (.inl r1) e3 fun v3 H3 x3 r3 => ?_
  exact q1 _ own row _ H3 hq ((R1.mono x3).put ht hi r3) (Ex.then x1 x3.vis)
end
end VS
/-! VSO: chains; several names at once; lists of lists of one's own; a def's body. -/
namespace VS
open PySem PySem.Spec PyProof.Rows L2
section
variable {X : Cx} {n : Nat} {τ τ' τ1 τ2 τb : List Ty} {e o a b cc : Expr} {es : List Expr} {st : Stmt} {we wa wb wc : WE} {wr : WA} {pos apos cpos : Pos}
/-! ### a < b < c -/
theorem chain_imp {r r' : R2} {g g' : D → D → Option D} (hg : G2 X.K g r) (hg' : G2 X.K g' r') (σ : L2.St) (H : Hp) (Q : VK) (h : rdE X.K n τ (wchain g g' wa wb wc) σ H Q) : tChain r r' (rdB X.K n τ wa) (rdB X.K n τ wb) (rdB X.K n τ wc) σ H Q := by
  obtain ⟨c, own, row, ρ, P, R, hw, q⟩ := h
  refine ⟨c, own, row, ρ, _, R, hw, fun d v H1 h1 x1 r1 => ⟨c, own, row, ρ, _, R.mono x1, h1, fun d2 v2 H2 h2 x2 r2 => ?_⟩⟩
  obtain ⟨z, e3, k, rfl, h2⟩ := h2
  have R2 := (R.mono x1).mono x2
  refine hg row _ H2 v v2 d d2 (.bool k) _ R2.vw (r1.ex (R.mono x1).vw x2) r2 e3 fun v3 H3 x3 r3 => ?_
  cases r3
  refine ⟨k, rfl, ?_⟩
  cases k with
  | true =>
    rw [if_pos rfl] at h2
    refine iteT ⟨c, own, row, ρ, _, R2.mono x3, h2, fun d4 v4 H4 h4 x4 r4 => ?_⟩
    obtain ⟨d5, e5, p5⟩ := h4
    exact hg' row _ H4 v2 v4 d2 d4 d5 Q ((R2.mono x3).mono x4).vw (r2.ex R2.vw (x3.trans x4)) r4 e5 fun v5 H5 x5 r5 => q d5 v5 H5 p5 (x1.trans (x2.trans (x3.trans (x4.trans x5)))) r5
  | false =>
    rw [if_neg Bool.false_ne_true] at h2
    exact iteF (q _ _ _ h2 (x1.trans (x2.trans x3)) (.bl false))

theorem ve_chain {op op' : CmpOp} {r r' : R2} {g g' : D → D → Option D} (ho : OpR X (compareOp op) r) (hg : G2 X.K g r) (ho' : OpR X (compareOp op') r') (hg' : G2 X.K g' r') (ha : VB X n τ a wa) (hb : VB X n τ b wb) (hc : VB X n τ cc wc)
    (hm : lastMarks [op, op'] [b, cc] = false := by with_unfolding_all rfl) : VE X n τ (.Compare a [op, op'] [b, cc] pos) (wchain g g' wa wb wc) := PE.imp (pe_chain ho ho' ha hb hc hm) fun σ H Q h => chain_imp hg hg' σ H Q h
theorem vt_chain {op op' : CmpOp} {r r' : R2} {g g' : D → D → Option D} (ho : OpR X (compareOp op) r) (hg : G2 X.K g r) (ho' : OpR X (compareOp op') r') (hg' : G2 X.K g' r') (ha : VB X n τ a wa) (hb : VB X n τ b wb) (hc : VB X n τ cc wc)
    (hm : lastMarks [op, op'] [b, cc] = false := by with_unfolding_all rfl) : VT X n τ (.Compare a [op, op'] [b, cc] pos) (wtest (wchain g g' wa wb wc)) := PT.imp (pt_chain ho ho' ha hb hc hm) fun σ H Q h => by
  obtain ⟨c, own, row, ρ, P, R, hw, q⟩ := h
  refine chain_imp hg hg' σ H _ ⟨c, own, row, ρ, _, R, hw, fun d v H1 h1 x1 r1 => ?_⟩
  obtain ⟨k, rfl, h1⟩ := h1
  cases r1
  exact ⟨k, rfl, q k H1 h1 x1⟩

/-! ### x, y = e1, e2 -/
inductive SlotsP (K : PySem.W.Frag) (F H : Hp) (own : Own) (row : Option Addr) : List (Nat × Ty) → List D → List V → Prop
  | nil : SlotsP K F H own row [] [] []
  | cons {i : Nat} {t : Ty} {d : D} {v : V} {sl : List (Nat × Ty)} {ds : List D} {vs : List V} : SlotP K F H own row i t (some d) (some (some v)) → SlotsP K F H own row sl ds vs → SlotsP K F H own row ((i, t) :: sl) (d :: ds) (v :: vs)
def rdXs (K : PySem.W.Frag) (n : Nat) (τ : List Ty) (sl : List (Nat × Ty)) (w : WA) : TA := fun σ H Q => ∃ c own row ρ P, RS K n c own row τ ρ σ H ∧ w ρ P ∧
  ∀ ds vs own' H', P ds → RS K n c own' row τ ρ σ H' → Vis2 c own row H own' row H' → Ex K row H H' → (∀ b j, own b = some j → own' b = some j) → SlotsP K (hid H' (hd c own' row)) H' own' row sl ds vs → Q vs H'
def VX (X : Cx) (n : Nat) (τ : List Ty) (es : List Expr) (sl : List (Nat × Ty)) (w : WA) : Prop := PA X es (rdXs X.K n τ sl w)
theorem SlotP.ext {K : PySem.W.Frag} {F F' H H' : Hp} {own own' : Own} {row : Option Addr} {i : Nat} {t : Ty} {od : Option D} {ov : Option (Option V)} (h : SlotP K F H own row i t od ov) (e : Same F F') (k : ∀ b, own b = some i → ∀ o, H b = some o → H' b = some o) (ko : ∀ b j, own b = some j → own' b = some j) : SlotP K F' H' own' row i t od ov := by
  cases t with
  | fz => cases od with
    | none => trivial
    | some d => obtain ⟨v, h1, h2⟩ := h; exact ⟨v, h1, h2.mono e⟩
  | ow => cases od with
    | none => exact h
    | some d => obtain ⟨a, h1, h2, h3⟩ := h; exact ⟨a, h1, ko _ _ h2, h3.mono e (k a h2)⟩
  | oo => cases od with
    | none => exact h
    | some d => obtain ⟨a, bs, dss, h1, h2, h3, h4, h5, h6, h7⟩ := h; exact ⟨a, bs, dss, h1, ko _ _ h2, k a h2 _ h3, h4, h5, Paired.mapP h6 fun b d ⟨q1, q2⟩ => ⟨ko _ _ q1, q2.mono e (k b q1)⟩, h7⟩
  | rw => cases od with
    | none => exact h
    | some d => exact h
theorem vx_nil : VX X n τ [] [] wnil := PA.imp pa_nil fun σ H Q ⟨c, own, row, ρ, P, R, hw, q⟩ => q [] [] own H hw R (.refl _) .refl (fun _ _ h => h) .nil
theorem vx_cons {i : Nat} {sl : List (Nat × Ty)} (ha : VE X n τ e we) (hr : VX X n τ es sl wr) (hs : starEach (e :: es) X.env = (false, eval e X.env) :: starEach es X.env := by rfl) : VX X n τ (e :: es) ((i, .fz) :: sl) (wcons we wr) :=
  PA.imp (pa_cons ha hr hs) fun σ H Q h => by
    obtain ⟨c, own, row, ρ, P, R, hw, q⟩ := h
    refine ⟨c, own, row, ρ, _, R, hw, fun d v H1 h1 x1 r1 => ⟨c, own, row, ρ, _, R.mono x1, h1, fun ds vs own' H2 h2 R2 v2 x2 ko s2 => ?_⟩⟩
    exact q (d :: ds) (v :: vs) own' H2 h2 R2 (Ex.then x1 v2) (x1.trans x2) ko (.cons ⟨v, rfl, r1.mono v2⟩ s2)
theorem hd_bigslot {c : C} {own : Own} {row : Option Addr} {a : Addr} {i j : Nat} : hd c (ownC own a i) row = hd c (ownC own a j) row := by
  funext b
  unfold hd ownC
  by_cases hb : b = a <;> simp [hb]
theorem vx_consF {i : Nat} {sl : List (Nat × Ty)} (ha : VF X n τ e we) (hr : VX X n τ es sl wr) (hs : starEach (e :: es) X.env = (false, eval e X.env) :: starEach es X.env := by rfl) : VX X n τ (e :: es) ((i, .ow) :: sl) (wcons we wr) :=
  PA.imp (pa_cons ha hr hs) fun σ H Q h => by
    obtain ⟨c, own, row, ρ, P, R, hw, q⟩ := h
    refine ⟨c, own, row, ρ, _, R, hw, fun d v H1 h1 x1 hf => ?_⟩
    obtain ⟨a, rfl, ha, hc⟩ := hf
    obtain ⟨u, hu, hu2⟩ := hc.some
    obtain ⟨R1, v1⟩ := R.adopt x1 (m := i) ha hu hu2
    refine ⟨c, _, row, ρ, _, R1, h1, fun ds vs own' H2 h2 R2 v2 x2 ko s2 => ?_⟩
    refine q (d :: ds) (.ref a :: vs) own' H2 h2 R2 (v1.trans v2) (x1.trans x2) (fun b j hb => ko b j ?_) (.cons ?_ s2)
    · have ne : b ≠ a := fun z => by
        obtain ⟨u, e1, _⟩ := R.live b j hb
        rw [z, ha] at e1; cases e1
      rw [ownC_ne ne]; exact hb
    · have s1 : SlotP X.K (hid H1 (hd c (ownC own a i) row)) H1 (ownC own a i) row i .ow (some d) (some (some (.ref a))) := ⟨a, rfl, ownC_same, by rw [hd_bigslot (j := bigSlot)]; exact hc⟩
      exact s1.ext v2 (fun b hb o ho => x2.keep b o (R1.notrow hb) ho) ko
def tParE (i j : Nat) (ta : TA) : TS := fun D σ H => ta σ H fun vs H1 => ∃ v w, vs = [v, w] ∧ ∀ H2, Same H1 H2 → D.nx ((σ.set i (some v)).set j (some w)) H2
def tParE3 (i j l : Nat) (ta : TA) : TS := fun D σ H => ta σ H fun vs H1 => ∃ u v w, vs = [u, v, w] ∧ ∀ H2, Same H1 H2 → D.nx (((σ.set i (some u)).set j (some v)).set l (some w)) H2
theorem PA.fwd {ta : TA} (h : PA X es ta) {R : List V → Hp → Prop} {σ : L2.St} {H : Hp} (q : ta σ H R) : True := trivial
def wpar2 (i j : Nat) (a : WA) : WS := fun k ρ => a ρ fun ds => ∃ d e, ds = [d, e] ∧ k.nx (put (put ρ i d) j e)
def wpar3 (i j l : Nat) (a : WA) : WS := fun k ρ => a ρ fun ds => ∃ d e f, ds = [d, e, f] ∧ k.nx (put (put (put ρ i d) j e) l f)
theorem tset_len {τ : List Ty} {i : Nat} {t : Ty} : (tset τ i t).length = τ.length := by unfold tset; rw [List.length_set]
theorem vs_par2P {i j : Nat} {t1 t2 : Ty} (h : PS X st (tParE i j (rdXs X.K n τ [(i, t1), (j, t2)] wr))) (hi : i < n := by decide) (hj : j < n := by decide) (hti : i < τ.length := by decide) (htj : j < τ.length := by decide) : VS1 X n τ (tset (tset τ i t1) j t2) τb st (wpar2 i j wr) :=
  PS.imp h fun Dd σ H ⟨c, own, row, ρ, k, R, hw, q1, _⟩ => by
    refine ⟨c, own, row, ρ, _, R, hw, fun ds vs own' H1 h1 R1 v1 x1 ko s => ?_⟩
    obtain ⟨d, e, rfl, hq⟩ := h1
    cases s with
    | cons s1 t => cases t with
      | cons s2 t => cases t; exact ⟨_, _, rfl, fun H2 sm => by
          have x2 : Ex X.K row H1 H2 := .of_same sm
          have R2 := R1.mono x2
          have v2 := x2.vis (c := c) (own := own')
          exact q1 _ own' row _ H2 hq ((R2.set hi hti (s1.mono v2 fun b hb o ho => sm b o ho)).set hj (by rw [tset_len]; exact htj) (s2.mono v2 fun b hb o ho => sm b o ho)) (v1.trans v2)⟩
theorem vs_par3P {i j l : Nat} {t1 t2 t3 : Ty} (h : PS X st (tParE3 i j l (rdXs X.K n τ [(i, t1), (j, t2), (l, t3)] wr))) (hi : i < n := by decide) (hj : j < n := by decide) (hl : l < n := by decide) (hti : i < τ.length := by decide) (htj : j < τ.length := by decide) (htl : l < τ.length := by decide) : VS1 X n τ (tset (tset (tset τ i t1) j t2) l t3) τb st (wpar3 i j l wr) :=
  PS.imp h fun Dd σ H ⟨c, own, row, ρ, k, R, hw, q1, _⟩ => by
    refine ⟨c, own, row, ρ, _, R, hw, fun ds vs own' H1 h1 R1 v1 x1 ko s => ?_⟩
    obtain ⟨d, e, f, rfl, hq⟩ := h1
    cases s with
    | cons s1 t => cases t with
      | cons s2 t => cases t with
        | cons s3 t => cases t; exact ⟨_, _, _, rfl, fun H2 sm => by
            have x2 : Ex X.K row H1 H2 := .of_same sm
            have R2 := R1.mono x2
            have v2 := x2.vis (c := c) (own := own')
            exact q1 _ own' row _ H2 hq (((R2.set hi hti (s1.mono v2 fun b hb o ho => sm b o ho)).set hj (by rw [tset_len]; exact htj) (s2.mono v2 fun b hb o ho => sm b o ho)).set hl (by rw [tset_len, tset_len]; exact htl) (s3.mono v2 fun b hb o ho => sm b o ho)) (v1.trans v2)⟩
/-- with plain local names -/
theorem vs_par2 {i j : Nat} {t1 t2 : Ty} {x y : Str} {px py pt : Pos} {kt k2 : Nat} {pt2 : Pos} (hc : X.calm = true) (hN : X.N.Nodup) (hxi : X.N[i]? = some x) (hyj : X.N[j]? = some y) (hij : i ≠ j) (hx : X.env.scope.names.lookup x = some .local) (hy : X.env.scope.names.lookup y = some .local) (ha : VX X n τ [a, b] [(i, t1), (j, t2)] wr)
    (hw : swappedStores [.Tuple [.Name x px, .Name y py] kt pt] (.Tuple [a, b] k2 pt2) X.env = pure (some [x, y])) (hs : swapsWithSole [.Tuple [.Name x px, .Name y py] kt pt] (.Tuple [a, b] k2 pt2) pos.line X.env = pure false := by rfl)
    (hi : i < n := by decide) (hj : j < n := by decide) (hti : i < τ.length := by decide) (htj : j < τ.length := by decide) :
    VS1 X n τ (tset (tset τ i t1) j t2) τb (.Assign [.Tuple [.Name x px, .Name y py] kt pt] (.Tuple [a, b] k2 pt2) pos) (wpar2 i j wr) := by
  have hp : PS X (.Assign [.Tuple [.Name x px, .Name y py] kt pt] (.Tuple [a, b] k2 pt2) pos) (tPar i j (rdXs X.K n τ [(i, t1), (j, t2)] wr)) := ps_par hc hN hxi hyj hij hx hy ha hw hs
  exact vs_par2P (PS.imp hp fun Dd σ H ⟨c, own, row, ρ, P, R, hw, q⟩ => ⟨c, own, row, ρ, P, R, hw, fun ds vs own' H' h1 h2 h3 h4 h5 h6 => by
    obtain ⟨v, w, e1, e2⟩ := q ds vs own' H' h1 h2 h3 h4 h5 h6
    exact ⟨v, w, e1, e2 H' (.refl _)⟩⟩) hi hj hti htj
theorem vs_par3 {i j l : Nat} {t1 t2 t3 : Ty} {x y z : Str} {px py pz pt : Pos} {kt k2 : Nat} {pt2 : Pos} (hc : X.calm = true) (hN : X.N.Nodup) (hxi : X.N[i]? = some x) (hyj : X.N[j]? = some y) (hzl : X.N[l]? = some z) (hij : i ≠ j) (hil : i ≠ l) (hjl : j ≠ l) (hx : X.env.scope.names.lookup x = some .local) (hy : X.env.scope.names.lookup y = some .local) (hz : X.env.scope.names.lookup z = some .local) (ha : VX X n τ [a, b, cc] [(i, t1), (j, t2), (l, t3)] wr)
    (hw : swappedStores [.Tuple [.Name x px, .Name y py, .Name z pz] kt pt] (.Tuple [a, b, cc] k2 pt2) X.env = pure (some [x, y, z])) (hs : swapsWithSole [.Tuple [.Name x px, .Name y py, .Name z pz] kt pt] (.Tuple [a, b, cc] k2 pt2) pos.line X.env = pure false := by rfl)
    (hi : i < n := by decide) (hj : j < n := by decide) (hl : l < n := by decide) (hti : i < τ.length := by decide) (htj : j < τ.length := by decide) (htl : l < τ.length := by decide) :
    VS1 X n τ (tset (tset (tset τ i t1) j t2) l t3) τb (.Assign [.Tuple [.Name x px, .Name y py, .Name z pz] kt pt] (.Tuple [a, b, cc] k2 pt2) pos) (wpar3 i j l wr) := by
  have hp : PS X (.Assign [.Tuple [.Name x px, .Name y py, .Name z pz] kt pt] (.Tuple [a, b, cc] k2 pt2) pos) (tPar3 i j l (rdXs X.K n τ [(i, t1), (j, t2), (l, t3)] wr)) := ps_par3 hc hN hxi hyj hzl hij hil hjl hx hy hz ha hw hs
  exact vs_par3P (PS.imp hp fun Dd σ H ⟨c, own, row, ρ, P, R, hw, q⟩ => ⟨c, own, row, ρ, P, R, hw, fun ds vs own' H' h1 h2 h3 h4 h5 h6 => by
    obtain ⟨u, v, w, e1, e2⟩ := q ds vs own' H' h1 h2 h3 h4 h5 h6
    exact ⟨u, v, w, e1, e2 H' (.refl _)⟩⟩) hi hj hl hti htj htl
/-- where a name is a cell: the pair is made and taken apart -/
theorem vs_par2C {i j : Nat} {t1 t2 : Ty} {x y : Str} {px py pt : Pos} {kt k2 : Nat} {pt2 : Pos} (hc : X.calm = true) (hN : X.N.Nodup) (hxi : X.N[i]? = some x) (hyj : X.N[j]? = some y) (hx : Loc X.env.scope x) (hy : Loc X.env.scope y) (ha : VX X n τ [a, b] [(i, t1), (j, t2)] wr)
    (hw : swappedStores [.Tuple [.Name x px, .Name y py] kt pt] (.Tuple [a, b] k2 pt2) X.env = pure none) (hs : swapsWithSole [.Tuple [.Name x px, .Name y py] kt pt] (.Tuple [a, b] k2 pt2) pos.line X.env = pure false := by rfl)
    (hi : i < n := by decide) (hj : j < n := by decide) (hti : i < τ.length := by decide) (htj : j < τ.length := by decide)
    (hfx : X.fn x = true ∨ X.env.scope.names.lookup x = some .local := by first | exact .inl rfl | exact .inr rfl | assumption) (hfy : X.fn y = true ∨ X.env.scope.names.lookup y = some .local := by first | exact .inl rfl | exact .inr rfl | assumption)
    (h1 : (assignEach [.Tuple [.Name x px, .Name y py] kt pt] X.env).map (·.2) = [assign (.Tuple [.Name x px, .Name y py] kt pt) X.env] := by rfl) (hn : (assignEach [.Name x px, .Name y py] X.env).length = 2 := by rfl) (hst : (assignEach [.Name x px, .Name y py] X.env).findIdx? (·.1) = none := by rfl)
    (hs1 : (assignEach [.Name x px, .Name y py] X.env).map (·.2) = assign (.Name x px) X.env :: (assignEach [.Name y py] X.env).map (·.2) := by rfl) (hs2 : (assignEach [.Name y py] X.env).map (·.2) = assign (.Name y py) X.env :: (assignEach [] X.env).map (·.2) := by rfl) :
    VS1 X n τ (tset (tset τ i t1) j t2) τb (.Assign [.Tuple [.Name x px, .Name y py] kt pt] (.Tuple [a, b] k2 pt2) pos) (wpar2 i j wr) := by
  have hp : PS X (.Assign [.Tuple [.Name x px, .Name y py] kt pt] (.Tuple [a, b] k2 pt2) pos) (tAsg (tTup (rdXs X.K n τ [(i, t1), (j, t2)] wr)) (gTup X.K 2 (gCons (gName i) (gCons (gName j) gNil)))) :=
    ps_asg (pe_tup ha) (pg_tup hc (pgs_cons (pg_name hN hxi hx hfx) (pgs_cons (pg_name hN hyj hy hfy) pgs_nil hs2) hs1) hn hst) hs hw h1
  exact vs_par2P (PS.imp hp fun Dd σ H ⟨c, own, row, ρ, P, R, hw, q⟩ => ⟨c, own, row, ρ, P, R, hw, fun ds vs own' H' h1 h2 h3 h4 h5 h6 => by
    obtain ⟨v, w, rfl, e2⟩ := q ds vs own' H' h1 h2 h3 h4 h5 h6
    exact ⟨by show 2 ≤ sizeLine; decide, fun p hp => ⟨p, [v, w], rfl, .of upd_same, rfl, v, [w], rfl, w, [], rfl, rfl, e2 _ (same_upd hp)⟩⟩⟩) hi hj hti htj

/-! ### a def's body -/
theorem fn_good {Pg : Program} {w : World} {K : PySem.W.Frag} {mg : Str → Option Value} {base : Heap} {x qual : Str} {s0 : Stmt} {N ps : List Str} {k m : Nat} {body : WS} {f : Addr} {fd : FuncData} (F : Fun K x qual s0 f fd) (S : FnScope N ps (defScope s0)) (hg : mg x = some (.ref f)) (hb : Binds K fd ps []) (hm : ps.length = m) (hmn : m ≤ N.length)
    (hbody : ∀ (cdv : Value) (A : Around) (outer : List PySem.Env) (s : Shared) (H : Hp) (E : XK), Room k (A.deeper (envOfC qual (defScope s0) s.heap.objs.size f cdv)) →
      ∃ τ', VSs (cxOf CX0 Pg w K mg base N qual (defScope s0) f cdv A outer s H E).nox N.length (List.replicate N.length .fz) τ' [] (defBody s0) body) :
    FnG Pg w K mg base (k + 1) x ps (spF K m fun ds Q => body { nx := fun _ => Q .none, rt := Q } (ds.map some ++ List.replicate (N.length - m) none)) := by
  refine ⟨f, fd, F.ok S (fun vs H Q E h => ?_) (fun cdv A outer s H vs Q E hr h => ?_), hg, F.kp, hb⟩
  · obtain ⟨p, ds, P, _, r, hl, _⟩ := h
    rw [r.len, hl, hm]
  · obtain ⟨p, ds, P, hp, r, hl, hw, q⟩ := h
    obtain ⟨τ', hv⟩ := hbody cdv A outer s H E hr
    have hvl : vs.length = m := by rw [r.len]; exact hl
    refine ⟨_, hv, { H0 := H, S0 := p, rp := none }, fun _ => none, none, ds.map some ++ List.replicate (N.length - m) none, { nx := fun _ => P .none, rt := P }, ?_, hw, fun ρ' own' row' σ' H' h1 R _ => q _ _ _ h1 (fun b o hbo => R.same b o hbo (by intro z; cases z)) .non, fun d v H' h1 R => q d v H' h1 (fun b o hbo => R.same b o hbo (by intro z; cases z)) ?_, fun _ _ _ _ _ h1 => h1.elim, fun _ _ _ _ _ h1 => h1.elim⟩
    · have e1 : hd { H0 := H, S0 := p, rp := none } (fun _ => none) none = p := by
        funext b; unfold hd; simp
      refine ⟨?_, ?_, fun _ _ h _ => h, fun _ _ h => (nomatch h), fun b hb => ?_, fun _ _ h => (nomatch h), .inl rfl, fun _ h => (nomatch h), fun i => ?_⟩
      · unfold L2.start; rw [List.length_append, List.length_map, List.length_replicate, hvl]; omega
      · rw [List.length_append, List.length_map, List.length_replicate, hl]; omega
      · obtain ⟨u, h1, h2⟩ := hp b hb
        exact ⟨u, h1, h2, fun z => (nomatch z)⟩
      · rw [e1]
        have et : (List.replicate N.length Ty.fz).getD i .fz = .fz := by
          rw [List.getD_eq_getElem?_getD, List.getElem?_replicate]
          split <;> rfl
        rw [et]
        have eg1 : ∀ (ds : List D) (r : Env) (i : Nat), eg (ds.map some ++ r) i = if h : i < ds.length then some ds[i] else eg r (i - ds.length) := by
          intro ds
          induction ds with
          | nil => intro r i; simp
          | cons d ds ih =>
            intro r i
            cases i with
            | zero => simp [eg]
            | succ i =>
              show eg (ds.map some ++ r) i = _
              rw [ih]
              by_cases hi : i < ds.length
              · rw [dif_pos hi, dif_pos (by simpa using hi)]; rfl
              · rw [dif_neg hi, dif_neg (by simpa using hi)]; simp
        have egr : ∀ (k i : Nat), eg (List.replicate k none) i = none := by
          intro k
          induction k with
          | zero => intro i; rfl
          | succ k ih => intro i; cases i with
            | zero => rfl
            | succ i => exact ih i
        rw [eg1]
        by_cases hi : i < ds.length
        · rw [dif_pos hi]
          obtain ⟨v, h1, h2⟩ := r.get (List.getElem?_eq_getElem hi)
          refine ⟨v, ?_, h2⟩
          unfold L2.start
          rw [List.getElem?_append_left (by rw [List.length_map, r.len]; exact hi), List.getElem?_map, h1]
          rfl
        · rw [dif_neg hi, egr]; trivial
    · have e2 : (fun b => p b || decide ((none : Option Addr) = some b)) = p := by
        funext b; simp
      have := R.val
      rw [show (fun b => p b || decide ((none : Option Addr) = some b)) = p from e2] at this
      exact this
end
end VS
/-! VSP: lists of lists of one's own. -/
namespace VS
open PySem PySem.Spec PyProof.Rows L2
/-- the owner of some new cells -/
def ownL (own : Own) (L : List Addr) (m : Nat) : Own := fun b => if b ∈ L then some m else own b
theorem ownL_in {own : Own} {L : List Addr} {m : Nat} {b : Addr} (h : b ∈ L) : ownL own L m b = some m := if_pos h
theorem ownL_out {own : Own} {L : List Addr} {m : Nat} {b : Addr} (h : b ∉ L) : ownL own L m b = own b := if_neg h
theorem hd_ownL {c : C} {own : Own} {row : Option Addr} {L : List Addr} {b : Addr} {m : Nat} (h : hd c (ownL own L m) row b = false) : hd c own row b = false ∧ b ∉ L := by
  obtain ⟨h1, h2, h3⟩ := hd_false.mp h
  by_cases e : b ∈ L
  · rw [ownL_in e] at h2; cases h2
  · rw [ownL_out e] at h2; exact ⟨hd_false.mpr ⟨h1, h2, h3⟩, e⟩
theorem hd_ownL_ne {c : C} {own : Own} {row : Option Addr} {L : List Addr} {b : Addr} {m : Nat} (e : b ∉ L) (h : hd c own row b = false) : hd c (ownL own L m) row b = false := by
  obtain ⟨h1, h2, h3⟩ := hd_false.mp h
  exact hd_false.mpr ⟨h1, by rw [ownL_out e]; exact h2, h3⟩
theorem hd_ownL_slot {c : C} {own : Own} {row : Option Addr} {L : List Addr} {m j : Nat} : hd c (ownL own L m) row = hd c (ownL own L j) row := by
  funext b
  unfold hd ownL
  by_cases hb : b ∈ L <;> simp [hb]
section
variable {X : Cx} {n : Nat} {τ τ' τ1 τ2 τb : List Ty} {L : List Nat} {e o tg : Expr} {es : List Expr} {st : Stmt} {we w1' w3 : WE} {wr : WA} {pos apos cpos : Pos}
theorem RS.adoptL {K : PySem.W.Frag} {c : C} {own : Own} {row : Option Addr} {ρ : Env} {σ : L2.St} {H H' : Hp} (R : RS K n c own row τ ρ σ H) (x : Ex K row H H') {L : List Addr} {m : Nat} (h : ∀ a ∈ L, H a = none) (hu : ∀ a ∈ L, ∃ u, H' a = some u ∧ IsC u) : RS K n c (ownL own L m) row τ ρ σ H' ∧ Vis2 c own row H (ownL own L m) row H' := by
  have sub : Same (hid H (hd c own row)) (hid H' (hd c (ownL own L m) row)) := hid_same fun b u h1 h2 => by
    have ne : b ∉ L := fun z => by rw [h b z] at h2; cases h2
    exact ⟨hd_ownL_ne ne h1, x.keep b u (hd_false.mp h1).2.2 h2⟩
  have keepOwn : ∀ b i, own b = some i → ownL own L m b = some i := fun b i hb => by
    have ne : b ∉ L := fun z => by
      obtain ⟨u, e1, _⟩ := R.live b i hb
      rw [h b z] at e1; cases e1
    rw [ownL_out ne]; exact hb
  have R' := R.mono x
  refine ⟨⟨R.lenσ, R.lenρ, R'.same, fun b i hb => ?_, R.s0, fun b i hb => ?_, R.rowp, fun r hr => ?_, fun i => (R.slot i).ext sub (fun b hb o ho => x.keep b o (R.notrow hb) ho) keepOwn⟩, sub⟩
  · by_cases e : b ∈ L
    · exact R.h0new (h b e)
    · rw [ownL_out e] at hb; exact R.fresh b i hb
  · by_cases e : b ∈ L
    · exact hu b e
    · rw [ownL_out e] at hb; exact R'.live b i hb
  · obtain ⟨h1, h2, h3⟩ := R'.rowat r hr
    refine ⟨h1, ?_, h3⟩
    have ne : r ∉ L := fun z => by
      obtain ⟨_, _, _, _, _, k, _⟩ := (R.rowat r hr).1
      rw [h r z] at k; cases k
    rw [ownL_out ne]; exact h2
/-- a new list of new lists -/
def rdFF (K : PySem.W.Frag) (n : Nat) (τ : List Ty) (w : WE) : TE := fun σ H Q => ∃ c own row ρ P, RS K n c own row τ ρ σ H ∧ w ρ P ∧
  ∀ d v H', P d → Ex K row H H' → (∃ a bs dss, v = .ref a ∧ d = .list dss ∧ a ∉ bs ∧ bs.Nodup ∧ (∀ b ∈ a :: bs, H b = none) ∧ H' a = some (.lst (bs.map V.ref)) ∧ Paired (fun b d => Cell K (hid H' (hd c (ownL own (a :: bs) bigSlot) row)) H' b d) bs dss) → Q v H'
def VFF (X : Cx) (n : Nat) (τ : List Ty) (e : Expr) (w : WE) : Prop := PE X e (rdFF X.K n τ w)
theorem paired_mem {α β : Type} {R : α → β → Prop} : ∀ {l : List α} {m : List β}, Paired R l m → ∀ a ∈ l, ∃ b, R a b
  | _, _, .nil, a, h => by cases h
  | _, _, .cons r t, a, h => by
    rcases List.mem_cons.mp h with rfl | h
    · exact ⟨_, r⟩
    · exact paired_mem t a h
theorem paired_len {α β : Type} {R : α → β → Prop} : ∀ {l : List α} {m : List β}, Paired R l m → l.length = m.length
  | _, _, .nil => rfl
  | _, _, .cons _ t => by rw [List.length_cons, List.length_cons, paired_len t]
theorem paired_snoc {α β : Type} {R : α → β → Prop} : ∀ {l : List α} {m : List β} {a : α} {b : β}, Paired R l m → R a b → Paired R (l ++ [a]) (m ++ [b])
  | _, _, _, _, .nil, r => .cons r .nil
  | _, _, _, _, .cons q t, r => .cons q (paired_snoc t r)
theorem paired_at {α β : Type} {R : α → β → Prop} : ∀ {l : List α} {m : List β} {i : Nat} {b : β}, Paired R l m → m[i]? = some b → ∃ a, l[i]? = some a ∧ R a b
  | _, _, _, _, .nil, h => by simp at h
  | _, _, 0, _, .cons r _, h => by simp at h; subst h; exact ⟨_, rfl, r⟩
  | _, _, i + 1, _, .cons _ t, h => by
    obtain ⟨a, h1, h2⟩ := paired_at t (by simpa using h)
    exact ⟨a, by simpa using h1, h2⟩
theorem paired_set {α β : Type} {R R' : α → β → Prop} {a : α} {b : β} (ra : R' a b) : ∀ {l : List α} {m : List β} {i : Nat}, l.Nodup → l[i]? = some a → Paired R l m → (∀ x y, x ≠ a → R x y → R' x y) → Paired R' l (m.set i b)
  | _, _, _, _, h, .nil, _ => by simp at h
  | x :: l, y :: m, 0, nd, h, .cons _ t, k => by
    have e : x = a := by simpa using h
    subst e
    refine .cons ra ?_
    have hx : x ∉ l := (List.nodup_cons.mp nd).1
    clear nd h
    induction t with
    | nil => exact .nil
    | cons r t ih => exact .cons (k _ _ (fun z => hx (z ▸ List.mem_cons_self ..)) r) (ih fun z => hx (List.mem_cons_of_mem _ z))
  | x :: l, y :: m, i + 1, nd, h, .cons r t, k => by
    obtain ⟨n1, n2⟩ := List.nodup_cons.mp nd
    have h' : l[i]? = some a := by simpa using h
    exact .cons (k _ _ (fun z => n1 (by rw [z]; exact List.mem_of_getElem? h')) r) (paired_set ra n2 h' t k)
theorem lcFF_imp {wi : WI} {g : WG} {wt : WT} {we : WE} (hL : ∀ i ∈ L, τ.getD i .fz = .fz) (hb : τ.length ≤ bigSlot ∧ n ≤ bigSlot) (σ : L2.St) (H : Hp) (Q : VK) (h : rdFF X.K n τ (wlc wi g wt we L) σ H Q) :
    tLc (rdI X.K n τ wi) (rdG X.K n τ L g) (rdT X.K n τ wt) (rdF X.K n τ we) L σ H Q := by
  obtain ⟨c, own, row, ρ, P, R, hw, q⟩ := h
  refine ⟨c, own, row, ρ, _, R, hw, fun ds J H1 pd x1 W => ?_⟩
  obtain ⟨hz, pd⟩ := pd
  intro A hA
  have R1 := R.mono x1
  -- the state at turn i
  refine ⟨fun i m H2 => m = ds.length - i ∧ i ≤ ds.length ∧ ∃ acc bs, RS X.K n c (ownL own (A :: bs) bigSlot) row τ (dels ρ L) (L2.wipe σ L) H2 ∧ H2 A = some (.lst (bs.map V.ref)) ∧ A ∉ bs ∧ bs.Nodup ∧ (∀ b ∈ A :: bs, H1 b = none) ∧
    Paired (fun b d => Cell X.K (hid H2 (hd c (ownL own (A :: bs) bigSlot) row)) H2 b d) bs acc ∧ acc.length ≤ i ∧ Ex X.K row H1 H2 ∧
    wcl g wt we (dels ρ L) (ds.drop i) acc (fun acc => P (.list acc)), ⟨ds.length, by simp, Nat.zero_le _, [], [], ?_, upd_same, by simp, .nil, fun b hb => by rw [List.mem_singleton.mp hb]; exact hA, .nil, Nat.le_refl _, .upd hA, by simpa using pd⟩, ?_⟩
  · exact ((R1.adoptL (L := [A]) (.upd hA) (fun a ha => by rw [List.mem_singleton.mp ha]; exact hA) fun a ha => by rw [List.mem_singleton.mp ha]; exact ⟨_, upd_same, trivial⟩).1).wipe hL
  rintro i m H2 ⟨rfl, hi, acc, bs, R2, hAv, hAb, hnd, hnew, hr, hlen, x2, hw2⟩
  have W2 := W H2 (hd c (ownL own (A :: bs) bigSlot) row) (hid_same fun b o h1 h2 => by
    have ne : b ∉ A :: bs := fun z => by rw [hnew b z] at h2; cases h2
    exact ⟨hd_ownL_ne ne h1, x2.keep b o (hd_false.mp h1).2.2 h2⟩) (fun b hb => R2.hd_new hb) (fun b xs hb => R2.notup hb) i
  by_cases hlt : i < ds.length
  · obtain ⟨go, yld⟩ := W2.1 ds[i] (List.getElem?_eq_getElem hlt)
    rw [List.drop_eq_getElem_cons hlt] at hw2
    refine .inr ⟨go, fun H' => ∃ acc bs, RS X.K n c (ownL own (A :: bs) bigSlot) row τ (dels ρ L) (L2.wipe σ L) H' ∧ H' A = some (.lst (bs.map V.ref)) ∧ A ∉ bs ∧ bs.Nodup ∧ (∀ b ∈ A :: bs, H1 b = none) ∧
      Paired (fun b d => Cell X.K (hid H' (hd c (ownL own (A :: bs) bigSlot) row)) H' b d) bs acc ∧ acc.length ≤ i + 1 ∧ Ex X.K row H1 H' ∧
      wcl g wt we (dels ρ L) (ds.drop (i + 1)) acc (fun acc => P (.list acc)), fun H' ⟨acc', bs', a1, a2, a3, a4, a5, a6, a7, a8, a9⟩ => ⟨ds.length - (i + 1), by omega, rfl, hlt, acc', bs', a1, a2, a3, a4, a5, a6, a7, a8, a9⟩, fun x H3 hy => ?_⟩
    obtain ⟨s3, rp3⟩ := yld x H3 hy
    have x3 : Ex X.K row H2 H3 := .of_same s3
    refine ⟨c, _, row, dels ρ L, ds[i], _, R2.mono x3, rp3, hw2, fun ρ' σ' hb' R3 ew => ⟨by rw [ew, wipe_wipe], c, _, row, ρ', _, R3, hb', fun b H4 hb2 x4 => ?_⟩⟩
    have keepA : ∀ H5, Ex X.K row H2 H5 → H5 A = some (.lst (bs.map V.ref)) := fun H5 x5 => x5.keep A _ (R2.notrow (ownL_in (List.mem_cons_self ..))) hAv
    have keepC : ∀ H5, Ex X.K row H2 H5 → Paired (fun b d => Cell X.K (hid H5 (hd c (ownL own (A :: bs) bigSlot) row)) H5 b d ∧ b ∈ bs) bs acc := fun H5 x5 => by
      have : ∀ {l : List Addr} {m : List D}, Paired (fun b d => Cell X.K (hid H2 (hd c (ownL own (A :: bs) bigSlot) row)) H2 b d) l m → (∀ b ∈ l, b ∈ bs) → Paired (fun b d => Cell X.K (hid H5 (hd c (ownL own (A :: bs) bigSlot) row)) H5 b d ∧ b ∈ bs) l m := by
        intro l m hp
        induction hp with
        | nil => intro _; exact .nil
        | cons r t ih => intro hm; exact .cons ⟨r.mono (x5.vis' R2.vw) fun o ho => x5.keep _ o (R2.notrow (ownL_in (List.mem_cons_of_mem _ (hm _ (List.mem_cons_self ..))))) ho, hm _ (List.mem_cons_self ..)⟩ (ih fun b hb => hm b (List.mem_cons_of_mem _ hb))
      exact this hr fun b hb => hb
    cases b with
    | false =>
      rw [if_neg Bool.false_ne_true] at hb2
      refine iteF ?_
      exact ⟨acc, bs, R2.mono (x3.trans x4), keepA _ (x3.trans x4), hAb, hnd, hnew, Paired.mapP (keepC _ (x3.trans x4)) fun _ _ h => h.1, Nat.le_succ_of_le hlen, x2.trans (x3.trans x4), hb2⟩
    | true =>
      rw [if_pos rfl] at hb2
      refine iteT ?_
      refine ⟨c, _, row, ρ', _, R3.mono x4, hb2, fun d y H5 hd5 x5 hf => ?_⟩
      obtain ⟨b, rfl, hb0, hcell⟩ := hf
      have x34 : Ex X.K row H2 H4 := x3.trans x4
      have x25 : Ex X.K row H2 H5 := x34.trans x5
      have hA5 := keepA _ x25
      have hb2' : H2 b = none := x34.new R2 hb0
      have hbA : b ≠ A := fun z => by rw [z, hAv] at hb2'; cases hb2'
      have hbb : b ∉ bs := fun z => by
        obtain ⟨d', hd'⟩ := paired_mem hr b z
        obtain ⟨u, h1, _⟩ := hd'.some
        rw [h1] at hb2'; cases hb2'
      have hb1 : H1 b = none := x2.new R1 hb2'
      obtain ⟨u5, hu5, hu5c⟩ := hcell.some
      have bslen : bs.length = acc.length := paired_len hr
      have hl5 : (bs.map V.ref).length < sizeLine := by rw [List.length_map, bslen]; omega
      -- the new owner
      have eown : ownL (ownL own (A :: bs) bigSlot) [b] bigSlot = ownL own (A :: (bs ++ [b])) bigSlot := by
        funext z
        unfold ownL
        by_cases e1 : z = b
        · subst e1; simp
        · by_cases e2 : z = A
          · subst e2; simp
          · by_cases e3 : z ∈ bs <;> simp [e1, e2, e3]
      have R4 := (R2.mono x34)
      obtain ⟨R5, v5⟩ := R4.adoptL (L := [b]) (m := bigSlot) x5 (fun a ha => by rw [List.mem_singleton.mp ha]; exact hb0) fun a ha => by rw [List.mem_singleton.mp ha]; exact ⟨u5, hu5, hu5c⟩
      rw [eown] at R5 v5
      have hAo : ownL own (A :: (bs ++ [b])) bigSlot A = some bigSlot := ownL_in (List.mem_cons_self ..)
      have far : ∀ F Hx, SlotP X.K F Hx (ownL own (A :: (bs ++ [b])) bigSlot) row bigSlot (τ.getD bigSlot .fz) (eg (dels ρ L) bigSlot) (L2.wipe σ L)[bigSlot]? := fun F Hx => by
        rw [R5.far hb.2, far_ty hb.1]; trivial
      have R6 := R5.write (ρ' := dels ρ L) (o := .lst ((bs ++ [b]).map V.ref)) hAo trivial R5.lenρ (fun _ _ => rfl) (far _ _)
      have eapp : bs.map V.ref ++ [V.ref b] = (bs ++ [b]).map V.ref := by simp
      have ehid : hid (upd H5 A (.lst ((bs ++ [b]).map V.ref))) (hd c (ownL own (A :: (bs ++ [b])) bigSlot) row) = hid H5 (hd c (ownL own (A :: (bs ++ [b])) bigSlot) row) := hid_upd_hidden (R5.hd_own hAo)
      refine ⟨bs.map V.ref, hA5, hl5, acc ++ [d], bs ++ [b], by rw [eapp]; exact R6, by rw [eapp]; exact upd_same, ?_, ?_, ?_, ?_, ?_, ⟨fun z oz hz1 hz2 => ?_, fun r hr' hR => ?_⟩, hd5⟩
      · intro z
        rcases List.mem_append.mp z with z | z
        · exact hAb z
        · exact hbA (List.mem_singleton.mp z).symm
      · exact List.nodup_append.mpr ⟨hnd, by simp, fun x hx y hy z => by rw [List.mem_singleton.mp hy] at z; exact hbb (z ▸ hx)⟩
      · intro z hz
        rcases List.mem_cons.mp hz with rfl | hz
        · exact hA
        · rcases List.mem_append.mp hz with hz | hz
          · exact hnew z (List.mem_cons_of_mem _ hz)
          · rw [List.mem_singleton.mp hz]; exact hb1
      · rw [eapp, ehid]
        refine paired_snoc (Paired.mapP (keepC _ x34) fun z dz ⟨h1, h2⟩ => h1.mono v5 fun oz hz => ?_) (hcell.mono ?_ fun oz hz => by rw [upd_ne hbA]; exact hz)
        · rw [upd_ne (fun q => hAb (by rw [← q]; exact h2))]
          exact x5.keep z oz (R4.notrow (ownL_in (List.mem_cons_of_mem _ h2))) hz
        · exact hid_same fun z oz h1 h2 => by
            refine ⟨?_, h2⟩
            have := hd_ownC h1
            rw [← eown]
            obtain ⟨k1, k2, k3⟩ := hd_false.mp h1
            refine hd_ownL_ne (fun q => ?_) this
            rw [List.mem_singleton.mp q, ownC_same] at k2
            cases k2
      · rw [List.length_append]; exact Nat.succ_le_succ hlen
      · rw [upd_ne (ne_of_none hz2 hA)]
        exact (x2.trans x25).keep z oz hz1 hz2
      · rw [eapp]; exact (R6.rowat r hr').1
  · have e : i = ds.length := by omega
    subst e
    refine .inl ⟨W2.2 (Nat.le_refl _), ?_⟩
    rw [List.drop_length] at hw2
    exact q _ _ _ hw2 (x1.trans x2) ⟨A, bs, acc, rfl, rfl, hAb, hnd, fun b hb => x1.new R (hnew b hb), hAv, hr⟩
theorem vff_lc {elt iter : Expr} {ifs : List Expr} {scope : Scope} {ownN : List (Str × Nat)} {wi : WI} {g : WG} {wt : WT} {we : WE} (hc : X.calm = true) (hN : X.N.Nodup) (hi : VI X n τ tg iter wi) (ok : BlkOk X.N X.env.scope scope ownN)
    (hg : ∀ (s : Shared) (H : Hp) (C : Addr) (cl : List (Str × Addr)) (fp : List Addr), VG (X.blk s H scope (compEnvC scope cl C X.env) fp) n τ L tg g) (ht : ∀ (s : Shared) (H : Hp) (C : Addr) (cl : List (Str × Addr)) (fp : List Addr), VTs (X.blk s H scope (compEnvC scope cl C X.env) fp) n τ ifs wt)
    (he : ∀ (s : Shared) (H : Hp) (C : Addr) (cl : List (Str × Addr)) (fp : List Addr), VF (X.blk s H scope (compEnvC scope cl C X.env) fp) n τ elt we) (hLL : ownN.map (·.2) = L := by rfl) (hL : ∀ i ∈ L, τ.getD i .fz = .fz := by decide) (hb : τ.length ≤ bigSlot ∧ n ≤ bigSlot := by decide) (hs : ∀ x, foldedSetIterable iter X.env x = pure x := by intro _; rfl) :
    VFF X n τ (.ListComp elt [⟨tg, iter, ifs, 0⟩] scope pos) (wlc wi g wt we L) := by
  have hpe : PE X (.ListComp elt [⟨tg, iter, ifs, 0⟩] scope pos) (tLc (rdI X.K n τ wi) (rdG X.K n τ L g) (rdT X.K n τ wt) (rdF X.K n τ we) L) := by
    rw [← hLL]
    exact pe_lc (g := rdG X.K n τ (ownN.map (·.2)) g) (tt := rdT X.K n τ wt) (te := rdF X.K n τ we) hc hN hi ok (fun s H C cl fp => by rw [hLL]; exact hg s H C cl fp) (fun s H C cl fp => ht s H C cl fp) (fun s H C cl fp => he s H C cl fp) hs
  exact PE.imp hpe fun σ H Q h => lcFF_imp hL hb σ H Q h
theorem ps_setLcFF {i : Nat} {y : Str} {py spos : Pos} {elt iter : Expr} {ifs : List Expr} {scope : Scope} {ownN : List (Str × Nat)} {wi : WI} {g : WG} {wt : WT} {we : WE} (hc : X.calm = true) (hN : X.N.Nodup) (hy : X.N[i]? = some y) (hyl : X.env.scope.names.lookup y = some .local)
    (hsw : swapsWith (.ListComp elt [⟨tg, iter, ifs, 0⟩] scope pos) (some (.Name y py)) spos.line X.env = pure true) (hi : VI X n τ tg iter wi) (ok : BlkOk X.N X.env.scope scope ownN)
    (hg : ∀ (s : Shared) (H : Hp) (C : Addr) (cl : List (Str × Addr)) (fp : List Addr), VG (X.blk s H scope (compEnvC scope cl C X.env) fp) n τ L tg g) (ht : ∀ (s : Shared) (H : Hp) (C : Addr) (cl : List (Str × Addr)) (fp : List Addr), VTs (X.blk s H scope (compEnvC scope cl C X.env) fp) n τ ifs wt)
    (he : ∀ (s : Shared) (H : Hp) (C : Addr) (cl : List (Str × Addr)) (fp : List Addr), VF (X.blk s H scope (compEnvC scope cl C X.env) fp) n τ elt we) (hLL : ownN.map (·.2) = L := by rfl) (hL : ∀ i ∈ L, τ.getD i .fz = .fz := by decide) (hb : τ.length ≤ bigSlot ∧ n ≤ bigSlot := by decide) (hs : ∀ x, foldedSetIterable iter X.env x = pure x := by intro _; rfl) :
    PS X (.Assign [.Name y py] (.ListComp elt [⟨tg, iter, ifs, 0⟩] scope pos) spos) (tAsg (rdFF X.K n τ (wlc wi g wt we L)) (gName i)) := by
  have h : PS X (.Assign [.Name y py] (.ListComp elt [⟨tg, iter, ifs, 0⟩] scope pos) spos) (tAsg (tLc (rdI X.K n τ wi) (rdG X.K n τ L g) (rdT X.K n τ wt) (rdF X.K n τ we) L) (gName i)) := by
    rw [← hLL]
    exact ps_setLc (g := rdG X.K n τ (ownN.map (·.2)) g) (tt := rdT X.K n τ wt) (te := rdF X.K n τ we) hc hN hy hyl hsw hi ok (fun s H C cl fp => by rw [hLL]; exact hg s H C cl fp) (fun s H C cl fp => ht s H C cl fp) (fun s H C cl fp => he s H C cl fp) hs
  exact ⟨fun pins s σ H Dd I q => h.run pins s σ H Dd I (lcFF_imp hL hb σ H _ q)⟩
/-- x = a new list of new lists -/
theorem vs_setOOP {i : Nat} (h : PS X st (tAsg (rdFF X.K n τ we) (gName i))) (hi : i < n := by decide) (ht : i < τ.length := by decide) : VS1 X n τ (tset τ i .oo) τb st (wset i we) := PS.imp h fun Dd σ H ⟨c, own, row, ρ, k, R, hw, q1, _⟩ => by
  refine ⟨c, own, row, ρ, _, R, hw, fun d v H' h1 x1 hf => ?_⟩
  obtain ⟨a, bs, dss, rfl, rfl, hab, hnd, hnew, ha, hcs⟩ := hf
  obtain ⟨R', v'⟩ := R.adoptL x1 (m := i) hnew fun b hb => by
    rcases List.mem_cons.mp hb with rfl | hb
    · exact ⟨_, ha, trivial⟩
    · obtain ⟨d', hd'⟩ := paired_mem hcs b hb
      exact hd'.some
  refine q1 _ _ row _ H' h1 (R'.set hi ht ⟨a, bs, dss, rfl, ownL_in (List.mem_cons_self ..), ha, hab, hnd, ?_, rfl⟩) v'
  have : ∀ {l : List Addr} {m : List D}, Paired (fun b d => Cell X.K (hid H' (hd c (ownL own (a :: bs) bigSlot) row)) H' b d) l m → (∀ b ∈ l, b ∈ bs) → Cells X.K (hid H' (hd c (ownL own (a :: bs) i) row)) H' (ownL own (a :: bs) i) i l m := by
    intro l m hp
    induction hp with
    | nil => intro _; exact .nil
    | cons r t ih => intro hm; exact .cons ⟨ownL_in (List.mem_cons_of_mem _ (hm _ (List.mem_cons_self ..))), by rw [hd_ownL_slot (j := bigSlot)]; exact r⟩ (ih fun b hb => hm b (List.mem_cons_of_mem _ hb))
  exact this hcs fun b hb => hb
theorem RS.oos {K : PySem.W.Frag} {c : C} {own : Own} {row : Option Addr} {ρ : Env} {σ : L2.St} {H : Hp} (R : RS K n c own row τ ρ σ H) {i : Nat} {d : D} (ht : τ.getD i .fz = .oo) (hd' : eg ρ i = some d) : ∃ a bs dss, σ[i]? = some (some (.ref a)) ∧ own a = some i ∧ H a = some (.lst (bs.map V.ref)) ∧ a ∉ bs ∧ bs.Nodup ∧ Cells K (hid H (hd c own row)) H own i bs dss ∧ d = .list dss := by
  have s := R.slot i
  rw [ht, hd'] at s
  exact s
theorem ixN_lt {m : Nat} {k : Int} {j : Nat} (h : ixN m k = some j) : j < m := (ixN_seq h).2.1
/-- x[e], x a list of lists of one's own -/
theorem pe_ixoo {i : Nat} (ho : PE X o (tVar i)) (he : VB X n τ e w1') (hs : PlainIx e) : PE X (.Subscript o e pos) (tOp (rIxL X.K) (tVar i) (rdB X.K n τ w1')) := pe_ix ix_list ho he hs
theorem vb_ixoo {i : Nat} (ho : PE X o (tVar i)) (he : VB X n τ e w1') (hs : PlainIx e) (ht : τ.getD i .fz = .oo := by rfl) : VB X n τ (.Subscript o e pos) (w2 dIx (wvar i) w1') := PE.imp (pe_ixoo ho he hs) fun σ H Q h => by
  obtain ⟨c, own, row, ρ, P, R, hw, q⟩ := h
  obtain ⟨d0, e0, hw⟩ := hw
  obtain ⟨a, bs, dss, s1, s2, s3, s4, s5, s6, rfl⟩ := R.oos ht e0
  refine ⟨.ref a, s1, c, own, row, ρ, _, R, hw, fun d v H1 h1 x1 r1 => ?_⟩
  obtain ⟨d3, e3, p3⟩ := h1
  cases d <;> simp only [dIx] at e3 <;> try (cases e3; done)
  rename_i kk
  have R1 := R.mono x1
  obtain ⟨j, j1, j2⟩ := Option.bind_eq_some_iff.mp e3
  obtain ⟨b, b1, b2, b3⟩ := paired_at s6 j2
  have hbl : bs.length = dss.length := paired_len s6
  have hat : atI (bs.map V.ref) kk = some (.ref b) := by
    unfold L2.atI
    rw [List.length_map, hbl, j1]
    show (bs.map V.ref)[j]? = _
    rw [List.getElem?_map, b1] <;> rfl
  exact ⟨a, bs.map V.ref, kk, .ref b, rfl, r1.int, .of (x1.keep a _ (R.notrow s2) s3), hat, q d3 _ H1 p3 x1 (.inr ⟨b, rfl, R1.notrow b2, b3.mono x1.vis fun u hu => x1.keep b u (R.notrow b2) hu⟩)⟩
/-- one of the lists is written -/
theorem RS.rewrite2 {K : PySem.W.Frag} {c : C} {own : Own} {row : Option Addr} {ρ : Env} {σ : L2.St} {H : Hp} (R : RS K n c own row τ ρ σ H) {a b : Addr} {bs : List Addr} {dss : List D} {i j : Nat} {u : HO} {d : D} (ht : τ.getD i .fz = .oo) (hi : i < n) (hs : σ[i]? = some (some (.ref a))) (ha : own a = some i) (h3 : H a = some (.lst (bs.map V.ref))) (h4 : a ∉ bs) (h5 : bs.Nodup)
    (h6 : Cells K (hid H (hd c own row)) H own i bs dss) (hb : bs[j]? = some b) (hu : IsC u) (hc : Cell K (hid H (hd c own row)) (upd H b u) b d) :
    RS K n c own row τ (VS.put ρ i (.list (dss.set j d))) σ (upd H b u) ∧ Vis2 c own row H own row (upd H b u) := by
  have hbm : b ∈ bs := List.mem_of_getElem? hb
  have hbo : own b = some i := by
    obtain ⟨d', hd'⟩ := paired_mem h6 b hbm
    exact hd'.1
  have hab : a ≠ b := fun z => h4 (z ▸ hbm)
  refine ⟨R.write hbo hu (by rw [put_len]; exact R.lenρ) (fun k hk => eg_put_out ρ i k _ hk) ?_, ?_⟩
  · rw [ht, eg_put _ _ _ _ (by rw [R.lenρ]; exact hi), if_pos rfl, hs]
    exact ⟨a, bs, _, rfl, ha, by rw [upd_ne hab]; exact h3, h4, h5, paired_set ⟨hbo, hc⟩ h5 hb h6 fun x y hx ⟨q1, q2⟩ => ⟨q1, q2.mono (.refl _) fun o ho => by rw [upd_ne hx]; exact ho⟩, rfl⟩
  · show Same _ (hid (upd H b u) _)
    rw [hid_upd_hidden (R.hd_own hbo)]
    exact .refl _
/-- x[e1].append(e2) -/
def wappend2 (i : Nat) (e1 e2 : WE) : WS := fun k ρ => e1 ρ fun y => ∃ dss m j es, eg ρ i = some (.list dss) ∧ y = .int m ∧ ixN dss.length m = some j ∧ dss[j]? = some (.list es) ∧ es.length < sizeLine ∧ e2 ρ fun d => k.nx (put ρ i (.list (dss.set j (.list (es ++ [d])))))
theorem vs_append2 {i : Nat} {ix : Expr} {pos1 : Pos} (ho : PE X o (tVar i)) (hix : VB X n τ ix w1') (hsx : PlainIx ix) (he : VE X n τ e we) (ht : τ.getD i .fz = .oo := by rfl) (hi : i < n := by decide) (hbase : attributeBase (.Subscript o ix pos1) "append" X.env (eval (.Subscript o ix pos1) X.env) = eval (.Subscript o ix pos1) X.env := by rfl)
    (hfew : ((backTo cpos (starEach (e :: []) X.env)).all (fun x => !x.1) && (backToKw cpos (keywordEach [] X.env)).all (fun x => x.1.isSome)
      && decide ((e :: []).length + ([] : List Keyword).length + (if ([] : List Keyword).isEmpty then 0 else 1) < 30)) = true := by rfl)
    (hline : (apos.endLine == cpos.line) = true := by rfl) (hs : starEach (e :: []) X.env = (false, eval e X.env) :: starEach [] X.env := by rfl) (hplain : (backTo cpos (starEach [] X.env)).any (·.1) = false := by rfl) (hsw : swapsWith (.Call (.Attribute (.Subscript o ix pos1) "append" apos) [e] [] cpos) none pos.line X.env = pure false := by rfl) :
    VS1 X n τ τ τb (.Expr (.Call (.Attribute (.Subscript o ix pos1) "append" apos) [e] [] cpos) pos) (wappend2 i w1' we) :=
  PS.imp (ps_expr (pe_bm PySem.F.plainAttrs_list PySem.F.slot_list_append PySem.F.type_list_append mt_append (pe_ixoo ho hix hsx) (pa_cons he pa_nil hs) hbase hfew hline hs hplain) hsw) fun Dd σ H ⟨c, own, row, ρ, k, R, hw, q1, _⟩ => by
    have s := R.slot i
    rw [ht] at s
    cases ed : eg ρ i with
    | none => rw [ed] at s; exact s.elim
    | some d0 =>
      obtain ⟨a, bs, dss0, s1, s2, s3, s4, s5, s6, rfl⟩ := R.oos ht ed
      refine ⟨.ref a, s1, c, own, row, ρ, _, R, hw, fun dy y H1 h1 x1 r1 => ?_⟩
      obtain ⟨dss, m, j, es, e1, rfl, e3, e4, e5, hw⟩ := h1
      rw [ed] at e1; cases e1
      have R1 := R.mono x1
      obtain ⟨b, b1, b2, b3⟩ := paired_at s6 e4
      have hbl : bs.length = dss0.length := paired_len s6
      have hat : atI (bs.map V.ref) m = some (.ref b) := by
        unfold L2.atI
        rw [List.length_map, hbl, e3]
        show (bs.map V.ref)[j]? = _
        rw [List.getElem?_map, b1] <;> rfl
      refine ⟨a, bs.map V.ref, m, .ref b, rfl, r1.int, .of (x1.keep a _ (R.notrow s2) s3), hat, ?_⟩
      obtain ⟨xs, h1, h2⟩ := b3.lst
      have h1' : H1 b = some (.lst xs) := x1.keep b _ (R.notrow b2) h1
      refine ⟨.inl ⟨rfl, xs, .of h1'⟩, c, own, row, ρ, _, R1, hw, fun d v H2 h3 x2 r => ?_⟩
      have R2 := R1.mono x2
      have x12 := x1.trans x2
      refine ⟨b, xs, v, rfl, rfl, x2.keep b _ (R1.notrow b2) h1', by rw [h2.len]; exact e5, ?_⟩
      have s6' : Cells X.K (hid H2 (hd c own row)) H2 own i bs dss0 := s6.mono x12.vis fun b hb o ho => x12.keep b o (R.notrow hb) ho
      obtain ⟨R3, v3⟩ := R2.rewrite2 (j := j) (u := .lst (xs ++ [v])) (d := .list (es ++ [d])) ht hi s1 s2 (x12.keep a _ (R.notrow s2) s3) s4 s5 s6' b1 trivial (.inl ⟨_, _, upd_same, (h2.mono x12.vis).append (.cons r .nil), rfl⟩)
      exact q1 _ own row σ _ h3 R3 (Ex.then x12 v3)
/-- x[e1][e2] = e3 -/
def wseti2 (i : Nat) (e1 e2 e3 : WE) : WS := fun k ρ => e3 ρ fun d => e1 ρ fun y => ∃ dss m j es, eg ρ i = some (.list dss) ∧ y = .int m ∧ ixN dss.length m = some j ∧ dss[j]? = some (.list es) ∧ e2 ρ fun z => ∃ m2 j2, z = .int m2 ∧ ixN es.length m2 = some j2 ∧ k.nx (put ρ i (.list (dss.set j (.list (es.set j2 d)))))
theorem vs_seti2P {i : Nat} (h : PS X st (tAsg (rdE X.K n τ w3) (gSub (tOp (rIxL X.K) (tVar i) (rdB X.K n τ w1')) (rdE X.K n τ we) rSetL))) (ht : τ.getD i .fz = .oo := by rfl) (hi : i < n := by decide) : VS1 X n τ τ τb st (wseti2 i w1' we w3) :=
  PS.imp h fun Dd σ H ⟨c, own, row, ρ, k, R, hw, q1, _⟩ => by
    refine ⟨c, own, row, ρ, _, R, hw, fun d v H1 h1 x1 r1 => ?_⟩
    have R1 := R.mono x1
    have s := R.slot i
    rw [ht] at s
    cases ed : eg ρ i with
    | none => rw [ed] at s; exact s.elim
    | some d0 =>
      obtain ⟨a, bs, dss0, s1, s2, s3, s4, s5, s6, rfl⟩ := R.oos ht ed
      refine ⟨.ref a, s1, c, own, row, ρ, _, R1, h1, fun dy y H2 h2 x2 r2 => ?_⟩
      obtain ⟨dss, m, j, es, e1, rfl, e3, e4, hq⟩ := h2
      rw [ed] at e1; cases e1
      have x12 := x1.trans x2
      have R2 := R1.mono x2
      obtain ⟨b, b1, b2, b3⟩ := paired_at s6 e4
      have hbl : bs.length = dss0.length := paired_len s6
      have hat : atI (bs.map V.ref) m = some (.ref b) := by
        unfold L2.atI
        rw [List.length_map, hbl, e3]
        show (bs.map V.ref)[j]? = _
        rw [List.getElem?_map, b1] <;> rfl
      refine ⟨a, bs.map V.ref, m, .ref b, rfl, r2.int, .of (x12.keep a _ (R.notrow s2) s3), hat, c, own, row, ρ, _, R2, hq, fun dz z H3 h3 x3 r3 => ?_⟩
      obtain ⟨m2, j2, rfl, e5, hq⟩ := h3
      have x13 := x12.trans x3
      have R3 := R2.mono x3
      obtain ⟨xs, k1, k2⟩ := b3.lst
      cases r3
      refine ⟨b, xs, m2, j2, rfl, rfl, x13.keep b _ (R.notrow b2) k1, by rw [k2.len]; exact e5, ?_⟩
      have s6' : Cells X.K (hid H3 (hd c own row)) H3 own i bs dss0 := s6.mono x13.vis fun b hb o ho => x13.keep b o (R.notrow hb) ho
      obtain ⟨R4, v4⟩ := R3.rewrite2 (j := j) (u := .lst (xs.set j2 v)) (d := .list (es.set j2 d)) ht hi s1 s2 (x13.keep a _ (R.notrow s2) s3) s4 s5 s6' b1 trivial (.inl ⟨_, _, upd_same, (k2.mono x13.vis).set (r1.mono (x2.trans x3).vis) j2, rfl⟩)
      exact q1 _ own row σ _ hq R4 (Ex.then x13 v4)
end
end VS
/-! VSQ: the drawn row. -/
namespace VS
open PySem PySem.Spec PyProof.Rows L2
/-- a draw: any number below m -/
def wTaken : WF := fun ds Q => ∃ m, ds = [.int m] ∧ 0 < m ∧ m < 1073741824 ∧ ∀ r, 0 ≤ r → r < m → Q (.int r)
/-- row[k] -/
abbrev tRow (K : PySem.W.Frag) (k : Int) : TE := tOp (rIxL K) (tVar 0) (tC (.int k))
abbrev rGt2 : R2 := rI0 fun i j => .bl (decide (j < i))
abbrev rGe2 : R2 := rI0 fun i j => .bl (decide (j ≤ i))
abbrev rAdd2 : R2 := rI0 fun i j => .int (i + j)
abbrev rSub2 : R2 := rI0 fun i j => .int (i - j)
abbrev rMul2 : R2 := rI CMul fun i j => .int (i * j)
abbrev rMod2 : R2 := rI (fun _ j => j ≠ 0) fun i j => .int (i.fmod j)
abbrev rDiv2 : R2 := rI CDivN fun i j => .int (i.fdiv j)
abbrev rInt1 : List V → Hp → VK → Prop := fun xs H Q => (∃ i, xs = [.int i] ∧ Q (.int i) H) ∨ ∃ k, xs = [.bl k] ∧ Q (.int (if k then 1 else 0)) H
abbrev rLen1 (K : PySem.W.Frag) : List V → Hp → VK → Prop := fun xs H Q => ∃ p ys, xs = [.ref p] ∧ (SqL K H p ys ∨ SqT K H p ys) ∧ Q (.int ys.length) H
abbrev tInt (t : TE) : TE := tCB rInt1 (tCons t tNil)
def t_taken (K : PySem.W.Frag) : TS :=
  tSeq (tIfS (tTest (tOp rGt2 (tRow K 3) (tC (.int 0))))
      (tSeq (tAsg (tOp rMod2 (tInt (tRow K 3)) (tVar 1)) (gName 2)) (tSeq (tAsg (tOp rDiv2 (tRow K 3) (tVar 1)) (gSub (tVar 0) (tC (.int 3)) rSetL)) (tRet (tVar 2)))) tNext)
  (tSeq (tAsg (tOp rAdd2 (tRow K 1) (tC (.int 1))) (gSub (tVar 0) (tC (.int 1)) rSetL))
  (tSeq (tIfS (tTest (tOp rGt2 (tRow K 1) (tCB (rLen1 K) (tCons (tRow K 0) tNil))))
      (tSeq (tAsg (tOp rMod2 (tInt (tOp rAdd2 (tOp rMul2 (tRow K 2) (tC (.int 48271))) (tC (.int 11)))) (tC (.int 2147483647))) (gSub (tVar 0) (tC (.int 2)) rSetL))
        (tRet (tOp rMod2 (tInt (tOp rDiv2 (tRow K 2) (tC (.int 7)))) (tVar 1)))) tNext)
  (tSeq (tAsg (tOp (rIxL K) (tRow K 0) (tOp rSub2 (tRow K 1) (tC (.int 1)))) (gName 3))
  (tSeq (tAsg (tOp rMod2 (tInt (tOp rAdd2 (tOp rAdd2 (tOp rMul2 (tRow K 2) (tC (.int 48271))) (tVar 3)) (tC (.int 11)))) (tC (.int 2147483647))) (gSub (tVar 0) (tC (.int 2)) rSetL))
  (tSeq (tIfS (tTest (tOp rGe2 (tVar 3) (tOp (rI CPow fun i j => .int (i ^ j.toNat)) (tC (.int 10)) (tC (.int 18)))))
      (tAsg (tOp rDiv2 (tVar 3) (tVar 1)) (gSub (tVar 0) (tC (.int 3)) rSetL)) tNext)
    (tRet (tOp rMod2 (tInt (tVar 3)) (tVar 1))))))))
theorem ScrAt.upd {K : PySem.W.Frag} {H : Hp} {a r : Addr} {xs ys : List V} (h : ScrAt K H a xs) (hr : H r = some (.lst ys)) {o : HO} : ScrAt K (upd H r o) a xs := by
  rcases h with ⟨ob, h⟩ | h
  · refine .inl ⟨ob, ?_⟩
    rw [upd_ne (ne_of h hr (by intro z; cases z))]
    exact h
  · exact .inr h
theorem fmod_pos {i m : Int} (hm : 0 < m) : 0 ≤ i.fmod m ∧ i.fmod m < m := ⟨Int.fmod_nonneg_of_pos i hm, Int.fmod_lt_of_pos i hm⟩
/-- the row is set at one place -/
theorem row_upd {K : PySem.W.Frag} {H : Hp} {r a : Addr} {ns : List Int} {i s c i' s' c' : Int} (h : H r = some (.lst [.ref a, .int i, .int s, .int c])) (hs : ScrAt K H a (ns.map V.int)) (hl : ns.length ≤ 63) (hi : 0 ≤ i') : RowAt K (upd H r (.lst [.ref a, .int i', .int s', .int c'])) r :=
  ⟨a, ns, i', s', c', upd_same, hs.upd h, hl, hi⟩
theorem pure_taken (K : PySem.W.Frag) (vs : List V) (H : Hp) (Q : VK) (E : XK) (h : spR K 1 wTaken vs H Q E) : t_taken K { nx := fun _ H' => Q .non H', rt := Q } (L2.start ["_law_row", "_law_many", "_law_found", "_law_cell"] vs) H := by
  obtain ⟨r, vs', p, ds, P, rfl, hrow, hpr, _, hrp, hl, hw, q⟩ := h
  obtain ⟨m, rfl, hm0, hm1, hP⟩ := hw
  obtain ⟨v, rfl, hv⟩ : ∃ v, vs' = [v] ∧ v = .int m := by
    cases hrp with
    | cons h t => cases t; cases h; exact ⟨_, rfl, rfl⟩
  subst hv
  obtain ⟨a, ns, i, s, c, hr, hscr, hlen, hi⟩ := hrow
  have hm2 : m ≠ 0 ∧ m.natAbs < 1073741824 := ⟨by omega, by omega⟩
  -- the end: any heap that differs at the row alone
  have fin : ∀ (z : Int) (H' : Hp), (∀ b o, b ≠ r → H b = some o → H' b = some o) → RowAt K H' r → 0 ≤ z → z < m → Q (.int z) H' := fun z H' h1 h2 h3 h4 => q (.int z) (.int z) H' (hP z h3 h4) h1 h2 (.int z)
  have other : ∀ (o : HO) (H' : Hp), (∀ b u, b ≠ r → H b = some u → H' b = some u) → ∀ b u, b ≠ r → H b = some u → upd H' r o b = some u := fun o H' h b u hb hu => by rw [upd_ne hb]; exact h b u hb hu
  refine ⟨_, rfl, r, _, 3, .int c, rfl, rfl, .of hr, rfl, c, 0, rfl, rfl, _, rfl, ?_⟩
  refine ite2 (fun hc => ?_) fun hc => ?_
  · refine ⟨_, rfl, r, _, 3, .int c, rfl, rfl, .of hr, rfl, .inl ⟨c, rfl, _, rfl, c, m, rfl, rfl, by omega, ?_⟩⟩
    refine ⟨_, rfl, r, _, 3, .int c, rfl, rfl, .of hr, rfl, _, rfl, c, m, rfl, rfl, hm2, _, rfl, r, _, 3, 3, rfl, rfl, hr, rfl, ?_⟩
    obtain ⟨f1, f2⟩ := fmod_pos (i := c) hm0
    exact ⟨_, rfl, fin _ _ (other _ H fun b u _ h => h) (row_upd hr hscr hlen hi) f1 f2⟩
  · refine ⟨_, rfl, r, _, 1, .int i, rfl, rfl, .of hr, rfl, i, 1, rfl, rfl, _, rfl, r, _, 1, 1, rfl, rfl, hr, rfl, ?_⟩
    -- behind the first store
    have hr2 : upd H r (.lst [.ref a, .int (i + 1), .int s, .int c]) r = some (.lst [.ref a, .int (i + 1), .int s, .int c]) := upd_same
    have hs2 : ScrAt K (upd H r (.lst [.ref a, .int (i + 1), .int s, .int c])) a (ns.map V.int) := hscr.upd hr
    have o2 := other (.lst [.ref a, .int (i + 1), .int s, .int c]) H fun b u _ h => h
    show tSeq _ _ _ _ (upd H r (.lst [.ref a, .int (i + 1), .int s, .int c]))
    generalize upd H r (.lst [.ref a, .int (i + 1), .int s, .int c]) = H2 at hr2 hs2 o2
    refine ⟨_, rfl, r, _, 1, .int (i + 1), rfl, rfl, .of hr2, rfl, _, rfl, r, _, 0, .ref a, rfl, rfl, .of hr2, rfl, a, ns.map V.int, rfl, .inl hs2.sq, i + 1, _, rfl, rfl, _, rfl, ?_⟩
    refine ite2 (fun hc => ?_) fun hc => ?_
    · refine ⟨_, rfl, r, _, 2, .int s, rfl, rfl, .of hr2, rfl, s, 48271, rfl, rfl, .inr (by decide), s * 48271, 11, rfl, rfl, .inl ⟨_, rfl, _, 2147483647, rfl, rfl, (by show (2147483647 : Int) ≠ 0; decide), _, rfl, r, _, 2, 2, rfl, rfl, hr2, rfl, ?_⟩⟩
      have hr3 := upd_same (H := H2) (a := r) (o := .lst [.ref a, .int (i + 1), .int ((s * 48271 + 11).fmod 2147483647), .int c])
      refine ⟨_, rfl, r, _, 2, .int ((s * 48271 + 11).fmod 2147483647), rfl, rfl, .of hr3, rfl, _, 7, rfl, rfl, (by show (7 : Int) ≠ 0 ∧ (7 : Int).natAbs < 1073741824; decide), .inl ⟨_, rfl, _, rfl, _, m, rfl, rfl, by omega, ?_⟩⟩
      obtain ⟨f1, f2⟩ := fmod_pos (i := ((s * 48271 + 11).fmod 2147483647).fdiv 7) hm0
      exact fin _ _ (other _ H2 o2) (row_upd hr2 hs2 hlen (by omega)) f1 f2
    · -- the cell
      have hlt : i < (ns.map V.int).length := by
        have : ¬ (((ns.map V.int).length : Nat) : Int) < i + 1 := fun z => hc (decide_eq_true z)
        omega
      obtain ⟨x, hx⟩ : ∃ x, (ns.map V.int)[i.toNat]? = some (.int x) := by
        rw [List.length_map] at hlt
        exact ⟨ns[i.toNat]'(by omega), by rw [List.getElem?_map, List.getElem?_eq_getElem (by omega)] <;> rfl⟩
      have hat : atI (ns.map V.int) (i + 1 - 1) = some (.int x) := by
        have e : i + 1 - 1 = ((i.toNat : Nat) : Int) := by omega
        rw [e]; exact atI_nat hx
      refine ⟨_, rfl, r, _, 0, .ref a, rfl, rfl, .of hr2, rfl, _, rfl, r, _, 1, .int (i + 1), rfl, rfl, .of hr2, rfl, i + 1, 1, rfl, rfl, a, ns.map V.int, i + 1 - 1, .int x, rfl, rfl, hs2.sq, hat, ?_⟩
      refine ⟨_, rfl, r, _, 2, .int s, rfl, rfl, .of hr2, rfl, s, 48271, rfl, rfl, .inr (by decide), _, rfl, s * 48271, x, rfl, rfl, s * 48271 + x, 11, rfl, rfl, .inl ⟨_, rfl, _, 2147483647, rfl, rfl, (by show (2147483647 : Int) ≠ 0; decide), _, rfl, r, _, 2, 2, rfl, rfl, hr2, rfl, ?_⟩⟩
      have hr3 := upd_same (H := H2) (a := r) (o := .lst [.ref a, .int (i + 1), .int ((s * 48271 + x + 11).fmod 2147483647), .int c])
      have hs3 : ScrAt K (upd H2 r (.lst [.ref a, .int (i + 1), .int ((s * 48271 + x + 11).fmod 2147483647), .int c])) a (ns.map V.int) := hs2.upd hr2
      have o3 := other (.lst [.ref a, .int (i + 1), .int ((s * 48271 + x + 11).fmod 2147483647), .int c]) H2 o2
      show tSeq _ _ _ _ (upd H2 r (.lst [.ref a, .int (i + 1), .int ((s * 48271 + x + 11).fmod 2147483647), .int c]))
      generalize upd H2 r (.lst [.ref a, .int (i + 1), .int ((s * 48271 + x + 11).fmod 2147483647), .int c]) = H3 at hr3 hs3 o3
      obtain ⟨f1, f2⟩ := fmod_pos (i := x) hm0
      refine ⟨_, rfl, 10, 18, rfl, rfl, (by show (0 : Int) ≤ 18 ∧ (18 : Int) ≤ 1000000 ∧ (10 : Int).natAbs < 2 ^ 64; decide), x, _, rfl, rfl, _, rfl, ?_⟩
      refine ite2 (fun hc2 => ?_) fun hc2 => ?_
      · refine ⟨_, rfl, _, rfl, x, m, rfl, rfl, hm2, _, rfl, r, _, 3, 3, rfl, rfl, hr3, rfl, ?_⟩
        exact ⟨_, rfl, .inl ⟨x, rfl, _, rfl, x, m, rfl, rfl, by omega, fin _ _ (other _ H3 o3) (row_upd hr3 hs3 hlen (by omega)) f1 f2⟩⟩
      · exact ⟨_, rfl, .inl ⟨x, rfl, _, rfl, x, m, rfl, rfl, by omega, fin _ _ o3 ⟨a, ns, i + 1, _, c, hr3, hs3, hlen, by omega⟩ f1 f2⟩⟩
end VS
/-! VSR: defs with the drawn row; the law. -/
namespace VS
open PySem PySem.Spec PyProof.Rows L2
theorem eg_app : ∀ (ds : List D) (r : Env) (i : Nat), eg (ds.map some ++ r) i = if h : i < ds.length then some ds[i] else eg r (i - ds.length) := by
  intro ds
  induction ds with
  | nil => intro r i; simp
  | cons d ds ih =>
    intro r i
    cases i with
    | zero => simp [eg]
    | succ i =>
      show eg (ds.map some ++ r) i = _
      rw [ih]
      by_cases hi : i < ds.length
      · rw [dif_pos hi, dif_pos (by simpa using hi)]; rfl
      · rw [dif_neg hi, dif_neg (by simpa using hi)]; simp
theorem eg_rep : ∀ (k i : Nat), eg (List.replicate k none) i = none := by
  intro k
  induction k with
  | zero => intro i; rfl
  | succ k ih => intro i; cases i with
    | zero => rfl
    | succ i => exact ih i
theorem fz_rep (k i : Nat) : (List.replicate k Ty.fz).getD i .fz = .fz := by
  rw [List.getD_eq_getElem?_getD, List.getElem?_replicate]
  split <;> rfl
def tyR (n : Nat) : List Ty := .rw :: List.replicate (n - 1) .fz
theorem fn_goodR {Pg : Program} {w : World} {K : PySem.W.Frag} {mg : Str → Option Value} {base : Heap} {x qual : Str} {s0 : Stmt} {N ps : List Str} {k m : Nat} {body : WS} {f : Addr} {fd : FuncData} (F : Fun K x qual s0 f fd) (S : FnScope N ps (defScope s0)) (hg : mg x = some (.ref f)) (hb : Binds K fd ps []) (hm : ps.length = m + 1) (hmn : m + 1 ≤ N.length)
    (hbody : ∀ (cdv : Value) (A : Around) (outer : List PySem.Env) (s : Shared) (H : Hp) (E : XK), Room k (A.deeper (envOfC qual (defScope s0) s.heap.objs.size f cdv)) →
      ∃ τ', VSs (cxOf CX0 Pg w K mg base N qual (defScope s0) f cdv A outer s H E).nox N.length (tyR N.length) τ' [] (defBody s0) body) :
    FnG Pg w K mg base (k + 1) x ps (spR K m fun ds Q => body { nx := fun _ => Q .none, rt := Q } (some .none :: (ds.map some ++ List.replicate (N.length - (m + 1)) none))) := by
  refine ⟨f, fd, F.ok S (fun vs H Q E h => ?_) (fun cdv A outer s H vs Q E hr h => ?_), hg, F.kp, hb⟩
  · obtain ⟨r, vs', p, ds, P, rfl, _, _, _, r, hl, _⟩ := h
    rw [List.length_cons, r.len, hl, hm]
  · obtain ⟨r, vs', p, ds, P, rfl, hrow, hpr, hp, rr, hl, hw, q⟩ := h
    obtain ⟨τ', hv⟩ := hbody cdv A outer s H E hr
    have hvl : vs'.length = m := by rw [rr.len]; exact hl
    have e1 : hd { H0 := H, S0 := p, rp := some r } (fun _ => none) (some r) = fun b => p b || decide (r = b) := by
      funext b; unfold hd; simp
    have e2 : (fun b => p b || decide (some r = some b)) = fun b => p b || decide (r = b) := by
      funext b; simp
    refine ⟨_, hv, { H0 := H, S0 := p, rp := some r }, fun _ => none, some r, some .none :: (ds.map some ++ List.replicate (N.length - (m + 1)) none), { nx := fun _ => P .none, rt := P }, ?_, hw, fun ρ' own' row' σ' H' h1 R _ => ?_, fun d v H' h1 R => ?_, fun _ _ _ _ _ h1 => h1.elim, fun _ _ _ _ _ h1 => h1.elim⟩
    · refine ⟨?_, ?_, fun _ _ h _ => h, fun _ _ h => (nomatch h), fun b hb => ?_, fun _ _ h => (nomatch h), .inl rfl, fun r' hr' => ?_, fun i => ?_⟩
      · unfold L2.start; rw [List.length_append, List.length_map, List.length_replicate, List.length_cons, hvl]; omega
      · rw [List.length_cons, List.length_append, List.length_map, List.length_replicate, hl]; omega
      · obtain ⟨u, h1, h2⟩ := hp b hb
        exact ⟨u, h1, h2, fun z => by
          cases z
          have hb' : p r = true := hb
          rw [hpr] at hb'; cases hb'⟩
      · cases hr'; exact ⟨hrow, rfl, hpr⟩
      · rw [e1]
        cases i with
        | zero => exact ⟨r, by unfold L2.start; simp, rfl⟩
        | succ i =>
          have et : (tyR N.length).getD (i + 1) .fz = .fz := fz_rep _ i
          rw [et]
          show SlotP K _ H _ _ (i + 1) .fz (eg (ds.map some ++ _) i) _
          rw [eg_app]
          by_cases hi : i < ds.length
          · rw [dif_pos hi]
            obtain ⟨v, h1, h2⟩ := rr.get (List.getElem?_eq_getElem hi)
            refine ⟨v, ?_, h2⟩
            unfold L2.start
            rw [List.map_cons, List.cons_append, List.getElem?_cons_succ, List.getElem?_append_left (by rw [List.length_map, rr.len]; exact hi), List.getElem?_map, h1]
            rfl
          · rw [dif_neg hi, eg_rep]; trivial
    · have RR := R.ret (v := .non) (d := .none) .non
      exact q _ _ _ h1 (fun b o hb ho => RR.same b o ho (fun z => hb (Option.some.inj z).symm)) (RR.row r rfl) .non
    · refine q d v H' h1 (fun b o hb ho => R.same b o ho (fun z => hb (Option.some.inj z).symm)) (R.row r rfl) ?_
      rw [← e2]; exact R.val

/-- the law's promise -/
def spLaw (K : PySem.W.Frag) : Sp := fun vs H Q _ => ∃ (a : Addr) (ns : List Int), vs = [.ref a] ∧ ScrAt K H a (ns.map V.int) ∧ ns.length ≤ 63 ∧ ∀ H', Q (.bl true) H'
theorem spLaw_of {K : PySem.W.Frag} {H : Hp} {a : Addr} {ns : List Int} {E : XK} (hl : ns.length ≤ 63) (hO : Only H) (hS : SqL K H a (ns.map V.int)) : spLaw K [.ref a] H (fun v _ => v = .bl true) E := by
  refine ⟨a, ns, rfl, ?_, hl, fun _ => rfl⟩
  rcases hS with (h | h) | h
  · rcases hO a with z | ⟨o, xs, z⟩
    · rw [z] at h; cases h
    · rw [z] at h; cases h
  · exact .inl h
  · exact .inr h
def tyLaw (n i : Nat) : List Ty := tset (List.replicate n .fz) i .rw
theorem law_good {Pg : Program} {w : World} {K : PySem.W.Frag} {mg : Str → Option Value} {base : Heap} {x qual : Str} {s0 st : Stmt} {rest : List Stmt} {N : List Str} {k i : Nat} {seed : Int} {body : WS} {f : Addr} {fd : FuncData} (F : Fun K x qual s0 f fd) (S : FnScope N ["_law_script"] (defScope s0)) (hi : 0 < i ∧ i < N.length) (hst : defBody s0 = st :: rest)
    (hbody : ∀ (cdv : Value) (A : Around) (outer : List PySem.Env) (s : Shared) (H : Hp) (E : XK), Room k (A.deeper (envOfC qual (defScope s0) s.heap.objs.size f cdv)) →
      PS (cxOf CX0 Pg w K mg base N qual (defScope s0) f cdv A outer s H E).nox st (tAsg (tLst (tCons (tVar 0) (tCons (tC (.int 0)) (tCons (tC (.int seed)) (tCons (tC (.int 0)) tNil))))) (gName i)) ∧
      ∃ τ', VSs (cxOf CX0 Pg w K mg base N qual (defScope s0) f cdv A outer s H E).nox N.length (tyLaw N.length i) τ' [] rest body)
    (hlaw : body { nx := fun _ => False, rt := fun d => d = .bool true } (put (List.replicate N.length none) i .none)) :
    FnOk Pg w K mg base CX0 (k + 1) f fd ["_law_script"] (spLaw K) := by
  refine F.ok S (fun vs H Q E h => ?_) (fun cdv A outer s H vs Q E hr h => ?_)
  · obtain ⟨a, ns, rfl, _⟩ := h; rfl
  · obtain ⟨a, ns, rfl, hs, hl, q⟩ := h
    obtain ⟨h1, τ', h2⟩ := hbody cdv A outer s H E hr
    rw [hst]
    refine ⟨_, pss_cons h1 h2, ?_⟩
    have hN : 0 < N.length := by omega
    have h0 : (L2.start N [.ref a])[0]? = some (some (.ref a)) := by unfold L2.start; simp
    refine ⟨.ref a, h0, by show 4 ≤ sizeLine; decide, fun r hr0 => ?_⟩
    refine ⟨{ H0 := H, S0 := fun _ => false, rp := none }, fun _ => none, some r, put (List.replicate N.length none) i .none, { nx := fun _ => False, rt := fun d => d = .bool true }, ?_, hlaw, fun ρ' own' row' σ' H' hf R _ => hf.elim, fun d v H' hd R => ?_, fun _ _ _ _ _ hf => hf.elim, fun _ _ _ _ _ hf => hf.elim⟩
    · have sm : Same H (upd H r (.lst [.ref a, .int 0, .int seed, .int 0])) := same_upd hr0
      refine ⟨?_, ?_, fun b o hb _ => sm b o hb, fun _ _ hf => (nomatch hf), (fun b hb => absurd (show false = true from hb) Bool.false_ne_true), fun _ _ hf => (nomatch hf), .inr ⟨rfl, (fun r' hr' => by cases hr'; exact hr0)⟩, fun r' hr' => ?_, fun j => ?_⟩
      · unfold L2.start; rw [List.length_set, List.length_append, List.length_map, List.length_replicate]
        show 1 + (N.length - 1) = N.length
        omega
      · rw [put_len, List.length_replicate]
      · cases hr'
        refine ⟨⟨a, ns, 0, seed, 0, upd_same, ?_, hl, Int.le_refl _⟩, rfl, rfl⟩
        rcases hs with ⟨o, hs⟩ | hs
        · exact .inl ⟨o, sm _ _ hs⟩
        · exact .inr hs
      · rw [eg_put _ _ _ _ (by rw [List.length_replicate]; exact hi.2), show (tyLaw N.length i).getD j .fz = if j = i then .rw else (List.replicate N.length Ty.fz).getD j .fz from tset_get (by rw [List.length_replicate]; exact hi.2)]
        by_cases e : j = i
        · subst e
          rw [if_pos rfl, if_pos rfl, List.getElem?_set_self (by unfold L2.start; rw [List.length_append, List.length_map, List.length_replicate]; show j < 1 + (N.length - 1); omega)]
          exact ⟨r, rfl, rfl⟩
        · rw [if_neg e, if_neg e, fz_rep, eg_rep]; trivial
    · subst hd
      have := R.val
      cases this
      exact q _
end VS
/-! VST: small things that the printed derivations use. -/
namespace VS
open PySem PySem.Spec PyProof.Rows L2
section
variable {k : Nat} {A : Around}
theorem u65 (r : Room k A) : A.units + 65 < cLine := by have := r.un; omega
theorem u64 (r : Room k A) : A.units + 64 < cLine := r.units
theorem u1 (r : Room k A) : A.units + 1 < cLine := by have := r.un; omega
theorem u0 (r : Room k A) : A.units < cLine := r.units0
end
theorem isi_int : isiOk "int" = true := by decide +kernel
theorem isi_bool : isiOk "bool" = true := by decide +kernel
theorem isi_str : isiOk "str" = true := by decide +kernel
theorem isi_list : isiOk "list" = true := by decide +kernel
theorem isi_tuple : isiOk "tuple" = true := by decide +kernel
theorem isi_dict : isiOk "dict" = true := by decide +kernel
def dRepL : D → D → Option D := fun x y => match x with | .list _ => dMul x y | _ => none
def dCatL : D → D → Option D := fun x y => match x with | .list _ => dAdd x y | _ => none
def dSeqL : D → Option D := fun d => (seqD d).map .list
section
variable {X : Cx} {n : Nat} {τ τ' τ1 τb : List Ty} {e a b : Expr} {st : Stmt} {we wa wb : WE} {pos : Pos}
theorem ve_globE {x : Str} {i : Int} (hg : Gl X x) (hm : ∃ t, X.mg x = some (.int i t)) (hd : (x == ("__debug__" : Str)) = false := by decide) : VE X n τ (.Name x pos) (wcst (.int i)) := by
  obtain ⟨t, hm⟩ := hm
  exact ve_glob hg hm hd
/-- a, b = e -/
def wunp (e : WE) (g : WG) : WS := fun k ρ => e ρ fun d => g d ρ k.nx
theorem vs_unpP {L : List Nat} {g : WG} (h : PS X st (tAsg (rdE X.K n τ we) (rdG X.K n τ L g))) : VS1 X n τ τ τb st (wunp we g) := PS.imp h fun Dd σ H ⟨c, own, row, ρ, k, R, hw, q1, _⟩ =>
  ⟨c, own, row, ρ, _, R, hw, fun d v H' h1 x1 r => ⟨c, own, row, ρ, d, _, R.mono x1, r, h1, fun ρ' σ' h2 R' _ => q1 ρ' own row σ' H' h2 R' x1.vis⟩⟩
theorem vs_unp {L : List Nat} {tg : Expr} {g : WG} (he : VE X n τ e we) (hg : VG X n τ L tg g) (hs : swapsWithSole [tg] e pos.line X.env = pure false := by rfl) (hw : swappedStores [tg] e X.env = pure none := by rfl)
    (h1 : (assignEach [tg] X.env).map (·.2) = [assign tg X.env] := by rfl) : VS1 X n τ τ τb (.Assign [tg] e pos) (wunp we g) := vs_unpP (ps_asg he hg hs hw h1)
/-- nothing is promised at no depth -/
theorem fn_zero {Pg : Program} {w : World} {K : PySem.W.Frag} {mg : Str → Option Value} {base : Heap} {x qual : Str} {s0 : Stmt} {ps : List Str} {m : Nat} {f : Addr} {fd : FuncData} (F : Fun K x qual s0 f fd) (hg : mg x = some (.ref f)) (hb : Binds K fd ps []) :
    FnG Pg w K mg base 0 x ps (spF K m fun _ _ => False) := by
  refine ⟨f, fd, ⟨fun vs H Q E h => ?_, fun A outer s H args us vs Q E hr he hb hv h => ?_⟩, hg, F.kp, hb⟩
  · obtain ⟨_, _, _, _, _, _, h, _⟩ := h; exact h.elim
  · obtain ⟨_, _, _, _, _, _, h, _⟩ := h; exact h.elim
end
end VS
/-! VSLS: set(xs), a list of ints. -/
namespace VS
open PySem PySem.Spec PyProof.Rows L2
/-- the set before anything is put in it -/
abbrev noSet (w : World) : Obj := { cls := .type "set", dict := none, data := .set #[] 0 (.fresh 0 0 (!w.params.followText "set-order")) }
abbrev itOf (l : Addr) : Obj := { cls := .type "list_iterator", data := .fields #[.ref l, .int 0 0] }
theorem call_set_listI {P : Program} {w : World} {A : Around} {E : Value → Shared → Prop} {s : Shared} {l : Addr} {items : Array Value} (ns : List Int) {Q : Value → Shared → Prop} (hh : A.handled = none) (hl : s.heap.IsList l items) (hit : IntsAre items.toList ns) (hb : ns.length + 1 < scanBound)
    (h : ∀ (h' : Heap) (tk c : Nat), SetR w h' s.heap.objs.size (fun j => decide (j ∈ ns)) c → c ≤ ns.length → (∀ b o, s.heap.get? b = some o → h'.get? b = some o) → Q (.ref s.heap.objs.size) { s with heap := h', toks := tk }) :
    wpAny (model P w) A (call (.type "set") [.ref l]) Q E s := by
  have nsz : items.size = ns.length := by rw [← Array.length_toList]; exact IntsAre.length hit
  obtain ⟨mc, mt, mro⟩ := F.called_set.mro
  have ⟨f1, f2, f3, f4, f5⟩ := And.intro F.called_set.made (And.intro F.called_set.sub (And.intro F.called_set.notType (And.intro F.called_set.canCreate (F.typeCall_set_1 (.ref l)))))
  refine wpAny_call (codeAny_of_tree (show wpAny _ _ (callAny (.type "set") _) _ _ _ from wpAny_pure ⟨Code.quiet_builtin _ (by decide +kernel), codeAny_builtin F.entry_type_call ?_⟩))
  rw [Around.under_plain (weight_type_call_type "set" [.ref l] []) rfl]
  repeat any_goals first | assumption | wp_step
  refine codeAny_mono (code_set_led1 (.ref l) (E := E) (Q₁ := fun ob t => ob = .ref s.heap.objs.size ∧ t = { s with heap := s.heap.push (noSet w) }) ⟨rfl, rfl⟩) fun res t ht => ?_
  match res, ht with
  | .error e, ht => exact ht
  | .ok (.ret ob), ht =>
    obtain ⟨rfl, rfl⟩ := ht
    have at0 : (s.heap.push (noSet w)).get? s.heap.objs.size = some (noSet w) := Heap.get?_push_size _ rfl
    have isSet : Shared.TypeIs { s with heap := s.heap.push (noSet w) } (.ref s.heap.objs.size) "set" := ⟨_, at0, rfl⟩
    have ⟨i1, i2⟩ := And.intro F.called_set.init.lookup (F.called_set.init.bind (.ref s.heap.objs.size))
    repeat any_goals first | assumption | wp_step
    refine codeAny_mono (codeAny_call_builtin (R := wants (fun x t => x = .none ∧ ∃ h' tk c, t = { s with heap := h', toks := tk } ∧ SetR w h' s.heap.objs.size (fun j => decide (j ∈ ns)) c ∧ c ≤ ns.length ∧ (∀ b o, s.heap.get? b = some o → h'.get? b = some o)) E)
      F.called_set.init.plain F.entry_set_init (check_set_init_1 isSet ?_)) fun res2 t2 ht2 => ?_
    · obtain ⟨⟨lc, ld, ldt, lsl⟩, lo, lcl, ln, ldd⟩ := hl
      dsimp only at lcl ldd
      subst lcl ldd
      have lo' : (s.heap.push (noSet w)).get? l = some { cls := .type "list", dict := ld, data := .seq items ln, slots := lsl } := Heap.get?_push_of_some _ lo
      have ⟨g1, g2, g3⟩ := And.intro F.sub_list_set (And.intro F.sub_list_frozenset (show (Value.type "list" == Value.type "dict") = false by decide))
      have isl : (s.heap.push (noSet w)).IsList l items := ⟨_, lo', rfl, ln, rfl⟩
      unfold Builtin.«set.__init__» noKeywords Builtin.Frozenset.updateFrom
      generalize hPI : pyIter = PI
      wp_walk
      subst hPI
      refine wpAny_pyIter_list isl (wpAny_bind (wpAny_runValue ?_))
      have lt0 : l < s.heap.objs.size := Heap.lt_size lo
      have quiet : A.in1.in1.in1.handled = none := by simp [hh]
      have ne1 : l ≠ (s.heap.push (noSet w)).objs.size := Nat.ne_of_lt (Nat.lt_of_lt_of_eq (Nat.lt_succ_of_lt lt0) (Heap.size_push ..).symm)
      have out1 : s.heap.objs.size ∉ [(s.heap.push (noSet w)).objs.size, l] := by
        intro z
        rcases List.mem_cons.mp z with z | z
        · exact Nat.ne_of_lt (Nat.lt_of_lt_of_eq (Nat.lt_succ_self _) (Heap.size_push ..).symm) z
        · exact Nat.ne_of_gt lt0 (List.mem_singleton.mp z)
      have vals : ∀ (i : Nat) (v : Value), items[i]? = some v → ∃ k t, ns[i]? = some k ∧ v = .int k t := fun i v hv => by
        have hi : i < ns.length := by
          have := (Array.getElem?_eq_some_iff.mp hv).1
          omega
        obtain ⟨t, e⟩ := IntsAre.int_at hit i v (by rw [Array.getElem?_toList]; exact hv)
        refine ⟨ns[i], t, List.getElem?_eq_getElem hi, ?_⟩
        rw [e, List.getD_eq_getElem?_getD, List.getElem?_eq_getElem hi]
        rfl
      refine set_update_ints ((Walks.list quiet _ l ne1 items).toS) s.heap.objs.size out1 ns nsz hb vals (items.size - 0) 0 _ (by omega) (Nat.zero_le _) ⟨⟨_, Heap.get?_push_size _ rfl, rfl, rfl⟩, isl.push _⟩ ⟨0, Nat.le_refl 0, ?_⟩ ?_
      · exact setR_new_at (show ((s.heap.push (noSet w)).push (itOf l)).get? s.heap.objs.size = some (noSet w) from Heap.get?_push_of_some _ at0)
      · rintro ⟨h', gg, dd, tk, oo⟩ c hm hc hS
        obtain rfl : gg = s.gens := hm.gens
        obtain rfl : dd = s.drawn := hm.drawn
        obtain rfl : oo = s.os := hm.os
        refine (show wpAny _ _ _ _ _ _ from wpAny_pure (show wpAny _ _ (ret Value.none) _ _ _ from wpAny_pure ⟨rfl, h', tk, c, rfl, hS, by rw [← nsz]; exact hc, fun b o e => ?_⟩))
        have b0 : b < s.heap.objs.size := Heap.lt_size e
        refine hm.heap b o (fun z => ?_) (Heap.get?_push_of_some _ (Heap.get?_push_of_some _ e))
        rcases List.mem_cons.mp z with z | z
        · exact Nat.ne_of_lt b0 z
        · exact Nat.ne_of_lt (Nat.lt_of_lt_of_eq (Nat.lt_succ_of_lt b0) (Heap.size_push ..).symm) (List.mem_singleton.mp z)
    · match res2, ht2 with
      | .error e, ht2 => exact ht2
      | .ok (.ret x), ht2 =>
        obtain ⟨rfl, h', tk, c, rfl, q1, q2, q3⟩ := ht2
        repeat any_goals first | assumption | wp_step
        exact h _ _ _ q1 q2 q3
end VS
/-! VSU: ranges as arguments; sets sorted at once. -/
namespace VS
open PySem PySem.Spec PyProof.Rows L2
section
variable {X : Cx} {K : PySem.W.Frag} {n : Nat} {τ τ' τ1 τb : List Ty} {e a b : Expr} {st : Stmt} {we wa wb : WE} {pos : Pos}
/-! ### ranges -/
abbrev WR := Env → (Int → Int → Prop) → Prop
def rdRg (K : PySem.W.Frag) (n : Nat) (τ : List Ty) (w : WR) : L2.St → Hp → (Int → Int → Hp → Prop) → Prop := fun σ H Q => ∃ c own row ρ P, RS K n c own row τ ρ σ H ∧ w ρ P ∧ ∀ a b H', P a b → Ex K row H H' → Q a b H'
def VR (X : Cx) (n : Nat) (τ : List Ty) (e : Expr) (w : WR) : Prop := PRg X e (rdRg X.K n τ w)
theorem PRg.imp {t t' : L2.St → Hp → (Int → Int → Hp → Prop) → Prop} (h : PRg X e t) (k : ∀ σ H Q, t' σ H Q → t σ H Q) : PRg X e t' := fun pins s σ H Q I q => h pins s σ H Q I (k σ H Q q)
def wrg1 (a : WE) : WR := fun ρ P => a ρ fun d => ∃ j, d = .int j ∧ P 0 j
def wrg2 (a b : WE) : WR := fun ρ P => a ρ fun d => b ρ fun u => ∃ i j, d = .int i ∧ u = .int j ∧ P i j
theorem vr_1 {p : Pos} (hg : Gl X "range") (hm : X.mg "range" = none) (ha : VE X n τ a wa) (na : starEach [a] X.env = (false, eval a X.env) :: starEach [] X.env := by rfl) : VR X n τ (.Call (.Name "range" p) [a] [] pos) (wrg1 wa) :=
  PRg.imp (prg_1 hg hm ha na) fun σ H Q ⟨c, own, row, ρ, P, R, hw, q⟩ => ⟨c, own, row, ρ, _, R, hw, fun d v H1 h1 x1 r1 => by
    obtain ⟨j, rfl, hp⟩ := h1
    cases r1
    exact ⟨j, rfl, q 0 j H1 hp x1⟩⟩
theorem vr_2 {p : Pos} (hg : Gl X "range") (hm : X.mg "range" = none) (ha : VE X n τ a wa) (hb : VE X n τ b wb) (na : starEach [a, b] X.env = (false, eval a X.env) :: starEach [b] X.env := by rfl)
    (nb : starEach [b] X.env = (false, eval b X.env) :: starEach [] X.env := by rfl) (hp : (backTo pos (starEach [b] X.env)).any (·.1) = false := by rfl) : VR X n τ (.Call (.Name "range" p) [a, b] [] pos) (wrg2 wa wb) :=
  PRg.imp (prg_2 hg hm ha hb na nb hp) fun σ H Q ⟨c, own, row, ρ, P, R, hw, q⟩ => ⟨c, own, row, ρ, _, R, hw, fun d v H1 h1 x1 r1 => ⟨c, own, row, ρ, _, R.mono x1, h1, fun d2 v2 H2 h2 x2 r2 => by
    obtain ⟨i, j, rfl, rfl, hp⟩ := h2
    cases r1
    cases r2
    exact ⟨i, j, rfl, rfl, q i j H2 hp (x1.trans x2)⟩⟩⟩
theorem rpa_rg {F : Hp} (lo hi : Int) : RpA K F (rgV lo hi) (rngD lo (hi - lo).toNat) := by
  unfold rgV rngD
  generalize List.range (hi - lo).toNat = l
  induction l with
  | nil => exact .nil
  | cons i l ih => exact .cons (.int _) ih
def wrnglist (w : WR) : WE := fun ρ Q => w ρ fun lo hi => RgOk lo hi ∧ Q (.list (rngD lo (hi - lo).toNat))
def wrngtuple (w : WR) : WE := fun ρ Q => w ρ fun lo hi => RgOk lo hi ∧ Q (.tuple (rngD lo (hi - lo).toNat))
variable {wr : WR}
theorem vf_rnglist {p : Pos} (hc : X.calm = true) (hg : Gl X "list") (hm : X.mg "list" = none) (he : VR X n τ e wr) (na : starEach [e] X.env = (false, eval e X.env) :: starEach [] X.env := by rfl) : VF X n τ (.Call (.Name "list" p) [e] [] pos) (wrnglist wr) :=
  PE.imp (pe_listRg hc hg hm he na) fun σ H Q ⟨c, own, row, ρ, P, R, hw, q⟩ => ⟨c, own, row, ρ, _, R, hw, fun lo hi H1 h1 x1 => ⟨h1.1, fun p hp => q _ _ _ h1.2 (x1.trans (.upd hp)) ⟨p, rfl, x1.new R hp, cell_new (R.mono x1) hp (rpa_rg lo hi)⟩⟩⟩
theorem ve_rngtuple {p : Pos} (hc : X.calm = true) (hg : Gl X "tuple") (hm : X.mg "tuple" = none) (he : VR X n τ e wr) (na : starEach [e] X.env = (false, eval e X.env) :: starEach [] X.env := by rfl) : VE X n τ (.Call (.Name "tuple" p) [e] [] pos) (wrngtuple wr) :=
  PE.imp (pe_tupRg hc hg hm he na) fun σ H Q ⟨c, own, row, ρ, P, R, hw, q⟩ => ⟨c, own, row, ρ, _, R, hw, fun lo hi H1 h1 x1 => ⟨h1.1, fun p hp => q _ _ _ h1.2 (x1.trans (.upd hp)) (.tup (hid_upd ((R.mono x1).hd_new hp)) (rpa_rg lo hi))⟩⟩

/-! ### sorted(set(xs)) -/
def insU (x : Int) : List Int → List Int
  | [] => [x]
  | y :: r => if x < y then x :: y :: r else if x = y then y :: r else y :: insU x r
def sortset (ns : List Int) : List Int := ns.foldr insU []
theorem insU_mem (x k : Int) : ∀ l : List Int, k ∈ insU x l ↔ k = x ∨ k ∈ l
  | [] => by simp [insU]
  | y :: r => by
    unfold insU
    split
    · simp
    · split
      · rename_i h; subst h; simp
      · simp [insU_mem x k r]; grind
theorem insU_lt (x : Int) : ∀ {l : List Int}, l.Pairwise (· < ·) → (insU x l).Pairwise (· < ·)
  | [], _ => by simp [insU]
  | y :: r, h => by
    obtain ⟨h1, h2⟩ := List.pairwise_cons.mp h
    unfold insU
    split
    · rename_i hx
      exact List.pairwise_cons.mpr ⟨fun z hz => by
        rcases List.mem_cons.mp hz with rfl | hz
        · exact hx
        · exact Int.lt_trans hx (h1 z hz), h⟩
    · split
      · exact h
      · rename_i hx hy
        refine List.pairwise_cons.mpr ⟨fun z hz => ?_, insU_lt x h2⟩
        rcases (insU_mem x z r).mp hz with rfl | hz
        · omega
        · exact h1 z hz
theorem sortset_mem (k : Int) : ∀ ns : List Int, k ∈ sortset ns ↔ k ∈ ns
  | [] => by simp [sortset]
  | x :: r => by
    show k ∈ insU x (sortset r) ↔ _
    rw [insU_mem, sortset_mem k r, List.mem_cons]
theorem sortset_lt : ∀ ns : List Int, (sortset ns).Pairwise (· < ·)
  | [] => .nil
  | x :: r => insU_lt x (sortset_lt r)
theorem sorted_unique : ∀ {l m : List Int}, l.Pairwise (· < ·) → m.Pairwise (· < ·) → (∀ k, k ∈ l ↔ k ∈ m) → l = m
  | [], [], _, _, _ => rfl
  | [], y :: m, _, _, h => absurd ((h y).mpr (List.mem_cons_self ..)) (by simp)
  | x :: l, [], _, _, h => absurd ((h x).mp (List.mem_cons_self ..)) (by simp)
  | x :: l, y :: m, hl, hm, h => by
    obtain ⟨l1, l2⟩ := List.pairwise_cons.mp hl
    obtain ⟨m1, m2⟩ := List.pairwise_cons.mp hm
    have e : x = y := by
      rcases List.mem_cons.mp ((h x).mp (List.mem_cons_self ..)) with e | e
      · exact e
      · rcases List.mem_cons.mp ((h y).mpr (List.mem_cons_self ..)) with e2 | e2
        · exact e2.symm
        · have := m1 x e; have := l1 y e2; omega
    subst e
    rw [sorted_unique l2 m2 fun k => ?_]
    constructor
    · intro hk
      rcases List.mem_cons.mp ((h k).mp (List.mem_cons_of_mem _ hk)) with e | e
      · subst e; exact absurd (l1 k hk) (by omega)
      · exact e
    · intro hk
      rcases List.mem_cons.mp ((h k).mpr (List.mem_cons_of_mem _ hk)) with e | e
      · subst e; exact absurd (m1 k hk) (by omega)
      · exact e
/-- set(xs), xs a list or tuple of ints -/
def rSetI (K : PySem.W.Frag) (w : World) : List V → Hp → VK → Prop := fun xs H Q => ∃ (p : Addr) (ns : List Int), xs = [.ref p] ∧ (SqL K H p (ns.map V.int) ∨ SqT K H p (ns.map V.int)) ∧ ns.length ≤ 1000 ∧
  ∀ a c, H a = none → c ≤ ns.length → Q (.ref a) (upd H a (SetO w a (fun j => decide (j ∈ ns)) c))
theorem cr_setI (hc : X.calm = true) : CallR X (.type "set") (rSetI X.K X.w) := by
  intro pins s σ H xs us Q I r h
  obtain ⟨p, ns, rfl, hs, hl, q⟩ := h
  rw [Vals.ref1 r]
  have hn : H s.heap.objs.size = none := I.hok.fresh (Nat.le_refl _)
  have fin : ∀ (h' : Heap) (tk c : Nat), SetR X.w h' s.heap.objs.size (fun j => decide (j ∈ ns)) c → c ≤ ns.length → (∀ b o, s.heap.get? b = some o → h'.get? b = some o) → EP X pins σ Q (.ref s.heap.objs.size) { s with heap := h', toks := tk } :=
    fun h' tk c R hcn k => ⟨.ref s.heap.objs.size, upd H s.heap.objs.size (SetO X.w s.heap.objs.size (fun j => decide (j ∈ ns)) c), I.laid (t' := tk) k (Nat.le_refl _) (setO_new R), rfl, q _ c hn hcn⟩
  rcases hs with hs | hs
  · obtain ⟨its, rv, pl, hz⟩ := I.list hs
    exact call_set_listI ns (I.ok.hd hc) pl.isList (by simpa using ints_of_vals rv) (by unfold scanBound; omega) fin
  · obtain ⟨its, rv, pl, hz⟩ := I.tuple hs
    exact call_set_tupI ns (I.ok.hd hc) pl (by simpa using ints_of_vals rv) (by unfold scanBound; omega) fin
def dsortset : D → Option D := fun d => match numsD d with
  | some ns => if ns.length < 64 then some (.list ((sortset ns).map .int)) else none
  | none => none
theorem vf_sortset {p p2 q : Pos} (hc : X.calm = true) (hg : Gl X "sorted") (hm : X.mg "sorted" = none) (hg2 : Gl X "set") (hm2 : X.mg "set" = none) (ha : VB X n τ a wa)
    (hs : starEach (a :: []) X.env = (false, eval a X.env) :: starEach [] X.env := by rfl) (hs2 : ((backTo q (starEach [] X.env)).any fun x => x.fst) = false := by rfl)
    (hs3 : starEach (.Call (.Name "set" p2) [a] [] q :: []) X.env = (false, eval (.Call (.Name "set" p2) [a] [] q) X.env) :: starEach [] X.env := by rfl) (hs4 : ((backTo pos (starEach [] X.env)).any fun x => x.fst) = false := by rfl) :
    VF X n τ (.Call (.Name "sorted" p) [.Call (.Name "set" p2) [a] [] q] [] pos) (w1 dsortset wa) :=
  PE.imp (pe_callB (cr_sortedSet hc) hg hm boot_sorted (pa_cons (pe_callTy (cr_setI hc) hg2 hm2 boot_set (pa_cons ha pa_nil hs) (by decide) (by decide) hs hs2) pa_nil hs3) (by decide) (by decide) hs3 hs4) fun σ H Q h => by
    obtain ⟨c, own, row, ρ, P, R, hw, qq⟩ := h
    refine ⟨c, own, row, ρ, _, R, hw, fun d v H1 h1 x1 r1 => ?_⟩
    obtain ⟨d3, e3, p3⟩ := h1
    have R1 := R.mono x1
    unfold dsortset at e3
    split at e3
    · rename_i ns en
      split at e3
      · rename_i h64
        cases e3
        obtain ⟨l, rfl, hl⟩ := nums_bo (p := hd c own row) r1 en
        refine ⟨l, ns, rfl, hl, by omega, fun s c' hs' hc' => ?_⟩
        have x2 : Ex X.K row H1 (upd H1 s (SetO X.w s (fun j => decide (j ∈ ns)) c')) := .upd hs'
        refine ⟨s, _, c', rfl, upd_same, by omega, fun ms p' k1 k2 k3 hp' => ?_⟩
        have e : ms = sortset ns := sorted_unique k1 (sortset_lt ns) fun k => by rw [k2 k, sortset_mem, decide_eq_true_eq]
        subst e
        have x12 := x1.trans x2
        exact qq _ _ _ p3 (x12.trans (.upd hp')) ⟨p', rfl, x12.new R hp', cell_new (R.mono x12) hp' (rpa_ints _)⟩
      · cases e3
    · cases e3
end
end VS
/-! VSV: data worked out. -/
namespace VS
open PySem PySem.Spec PyProof.Rows L2
theorem isi_i_i : isiN "int" "int" = true := by decide
theorem isi_i_b : isiN "int" "bool" = true := by decide
theorem isi_i_t : isiN "int" "tuple" = false := by decide
theorem isi_i_l : isiN "int" "list" = false := by decide
theorem isi_i_n : isiN "int" "NoneType" = false := by decide
theorem isi_i_s : isiN "int" "str" = false := by decide
theorem isi_b_i : isiN "bool" "int" = false := by decide
theorem isi_b_b : isiN "bool" "bool" = true := by decide
theorem isi_b_n : isiN "bool" "NoneType" = false := by decide
theorem isi_t_i : isiN "tuple" "int" = false := by decide
theorem isi_t_b : isiN "tuple" "bool" = false := by decide
theorem isi_t_t : isiN "tuple" "tuple" = true := by decide
theorem isi_t_l : isiN "tuple" "list" = false := by decide
theorem isi_t_s : isiN "tuple" "str" = false := by decide
theorem isi_t_n : isiN "tuple" "NoneType" = false := by decide
theorem isi_l_i : isiN "list" "int" = false := by decide
theorem isi_l_b : isiN "list" "bool" = false := by decide
theorem isi_l_t : isiN "list" "tuple" = false := by decide
theorem isi_l_l : isiN "list" "list" = true := by decide
theorem isi_l_n : isiN "list" "NoneType" = false := by decide
theorem isi_l_s : isiN "list" "str" = false := by decide
theorem isi_s_i : isiN "str" "int" = false := by decide
theorem isi_s_b : isiN "str" "bool" = false := by decide
theorem isi_s_s : isiN "str" "str" = true := by decide
theorem isi_s_t : isiN "str" "tuple" = false := by decide
theorem isi_s_l : isiN "str" "list" = false := by decide
theorem isi_s_n : isiN "str" "NoneType" = false := by decide
theorem tyD_int (i : Int) : tyD (.int i) = "int" := rfl
theorem tyD_bool (b : Bool) : tyD (.bool b) = "bool" := rfl
theorem tyD_tuple (x : List D) : tyD (.tuple x) = "tuple" := rfl
theorem tyD_list (x : List D) : tyD (.list x) = "list" := rfl
theorem tyD_str (x : Str) : tyD (.str x) = "str" := rfl
theorem tyD_none : tyD .none = "NoneType" := rfl
/-! subscripts -/
theorem atI_0 {α : Type} (x : α) (r : List α) : atI (x :: r) 0 = some x := by
  unfold atI ixN
  rw [if_pos (by omega), if_pos (by simp only [List.length_cons]; omega)]; rfl
theorem atI_1 {α : Type} (x y : α) (r : List α) : atI (x :: y :: r) 1 = some y := by
  unfold atI ixN
  rw [if_pos (by omega), if_pos (by simp only [List.length_cons]; omega)]; rfl
theorem atI_2 {α : Type} (x y z : α) (r : List α) : atI (x :: y :: z :: r) 2 = some z := by
  unfold atI ixN
  rw [if_pos (by omega), if_pos (by simp only [List.length_cons]; omega)]; rfl
theorem atI_of {α : Type} {xs : List α} {i : Nat} {x : α} (h : xs[i]? = some x) : atI xs (i : Int) = some x := by
  have hl : i < xs.length := by
    rcases Nat.lt_or_ge i xs.length with h1 | h1
    · exact h1
    · rw [List.getElem?_eq_none h1] at h; cases h
  unfold atI ixN
  rw [if_pos (by omega), if_pos (by omega)]
  simpa using h
theorem atI_get {α : Type} {xs : List α} {i : Nat} (h : i < xs.length) : atI xs (i : Int) = some xs[i] := atI_of (List.getElem?_eq_getElem h)
theorem atI_last' {α : Type} {xs : List α} {x : α} (h : xs[xs.length - 1]? = some x) : atI xs (-1) = some x := by
  have hl : xs.length ≠ 0 := fun z => by
    rw [List.getElem?_eq_none (by omega)] at h; cases h
  unfold atI ixN
  rw [if_neg (by omega), if_pos (by omega)]
  have e : ((-1 : Int) + (xs.length : Nat)).toNat = xs.length - 1 := by omega
  rw [e]; exact h
theorem dIx_tup (xs : List D) (i : Int) : dIx (.tuple xs) (.int i) = atI xs i := rfl
theorem dIx_list (xs : List D) (i : Int) : dIx (.list xs) (.int i) = atI xs i := rfl
/-! order of int tuples -/
theorem tupLe_2 (a b c d : Int) : tupLe [a, b] [c, d] = decide (a < c ∨ (a = c ∧ b ≤ d)) := by
  unfold tupLe
  simp only [List.length_cons, List.length_nil, Nat.min_self]
  show Ob.lexAt _ _ _ 0 (1 + 1) = _
  rw [Ob.lexAt_succ]
  show (if decide (([a, b] : List Int).getD 0 0 = ([c, d] : List Int).getD 0 0) = true then Ob.lexAt _ _ _ 1 (0 + 1) else decide (([a, b] : List Int).getD 0 0 ≤ ([c, d] : List Int).getD 0 0)) = _
  rw [Ob.lexAt_succ, Ob.lexAt_zero]
  show (if decide (a = c) = true then (if decide (b = d) = true then decide (1 + 1 ≤ 1 + 1) else decide (b ≤ d)) else decide (a ≤ c)) = _
  by_cases h : a = c
  · by_cases h2 : b = d
    · simp [h, h2]
    · simp [h, h2]
  · rw [decide_eq_false h, if_neg Bool.false_ne_true]
    rw [decide_eq_decide]
    omega
theorem dLe_int (i j : Int) : dLe (.int i) (.int j) = some (.bool (decide (i ≤ j))) := rfl
theorem dLe_pair (a b c d : Int) : dLe (.tuple [.int a, .int b]) (.tuple [.int c, .int d]) = some (.bool (decide (a < c ∨ (a = c ∧ b ≤ d)))) := by
  show some (PyData.bool (tupLe [a, b] [c, d])) = _
  rw [tupLe_2]
/-! equality -/
mutual
theorem eqv_refl : ∀ d : D, d.canLay0 = true → PyData.eqv d d = true
  | .none, _ => rfl
  | .bool b, _ => by cases b <;> rfl
  | .int i, _ => by simp [PyData.eqv]
  | .str x, _ => by simp [PyData.eqv]
  | .list xs, h => by rw [PyData.eqv]; exact eqvAll_refl xs h
  | .tuple xs, h => by rw [PyData.eqv]; exact eqvAll_refl xs h
  | .dict _, h => by simp [PyData.canLay0] at h
theorem eqvAll_refl : ∀ d : List D, PyData.canLayAll0 d = true → PyData.eqvAll d d = true
  | [], _ => rfl
  | x :: xs, h => by
    rw [PyData.canLayAll0, Bool.and_eq_true] at h
    rw [PyData.eqvAll, eqv_refl x h.1, eqvAll_refl xs h.2]; rfl
end
theorem dEq_int (i j : Int) : dEq (.int i) (.int j) = some (.bool (decide (i = j))) := by
  unfold dEq
  rw [if_pos ⟨rfl, rfl⟩]
  simp only [PyData.eqv]
  rfl
theorem dNe_int (i j : Int) : dNe (.int i) (.int j) = some (.bool (!decide (i = j))) := by
  unfold dNe
  rw [if_pos ⟨rfl, rfl⟩]
  simp only [PyData.eqv]
  rfl
theorem dEq_bool (i j : Bool) : dEq (.bool i) (.bool j) = some (.bool (i == j)) := by
  unfold dEq
  rw [if_pos ⟨rfl, rfl⟩]
  rfl
theorem dNe_bool (i j : Bool) : dNe (.bool i) (.bool j) = some (.bool (!(i == j))) := by
  unfold dNe
  rw [if_pos ⟨rfl, rfl⟩]
  rfl
theorem dEq_self {d : D} (h : SeqAt.shaped d = true) : dEq d d = some (.bool true) := by
  unfold dEq
  rw [if_pos ⟨h, h⟩, eqv_refl d (SeqAt.canLay_of_shaped h)]
theorem dNe_self {d : D} (h : SeqAt.shaped d = true) : dNe d d = some (.bool false) := by
  unfold dNe
  rw [if_pos ⟨h, h⟩, eqv_refl d (SeqAt.canLay_of_shaped h)]; rfl
/-! arithmetic -/
theorem dAdd_int (i j : Int) : dAdd (.int i) (.int j) = some (.int (i + j)) := rfl
theorem dSub_int (i j : Int) : dSub (.int i) (.int j) = some (.int (i - j)) := rfl
theorem dLt_int (i j : Int) : dLt (.int i) (.int j) = some (.bool (decide (i < j))) := rfl
theorem dGt_int (i j : Int) : dGt (.int i) (.int j) = some (.bool (decide (j < i))) := rfl
theorem dGe_int (i j : Int) : dGe (.int i) (.int j) = some (.bool (decide (j ≤ i))) := rfl
theorem dNeg_int (i : Int) : dNeg (.int i) = some (.int (-i)) := rfl
theorem dMul_int {i j : Int} (h : (inB i || inB j) = true) : dMul (.int i) (.int j) = some (.int (i * j)) := by
  show (if _ then _ else _) = _
  rw [if_pos h]
theorem inB_of {i : Int} (h1 : -1000000 ≤ i) (h2 : i ≤ 1000000) : inB i = true := by unfold inB; simp; omega
theorem dFdiv_int {i j : Int} (h : j ≠ 0 ∧ j.natAbs < 1073741824) : dFdiv (.int i) (.int j) = some (.int (i.fdiv j)) := by
  show (if _ then _ else _) = _
  rw [if_pos h]
theorem dMod_int {i j : Int} (h : j ≠ 0) : dMod (.int i) (.int j) = some (.int (i.fmod j)) := by
  show (if _ then _ else _) = _
  rw [if_pos h]
theorem dLen_list (x : List D) : dLen [.list x] = some (.int (x.length : Nat)) := rfl
theorem dLen_tup (x : List D) : dLen [.tuple x] = some (.int (x.length : Nat)) := rfl
theorem dTuple_list (x : List D) : dTuple [.list x] = some (.tuple x) := rfl
theorem dTuple_tup (x : List D) : dTuple [.tuple x] = some (.tuple x) := rfl
theorem seqD_list (x : List D) : seqD (.list x) = some x := rfl
theorem seqD_tup (x : List D) : seqD (.tuple x) = some x := rfl
theorem sz_small {k : Nat} (h : k ≤ 1000) : k ≤ sizeLine := Nat.le_trans h (by decide)
theorem dAll_bls (bs : List Bool) : dAll [.list (bs.map .bool)] = some (.bool (bs.all id)) := by
  show (blsOf _).map _ = _
  rw [blsOf_map]; rfl
theorem s_wgt {k : Nat} {g : WGs} {ds : List D} {ρ : Env} {Q : Env → Prop} : wgt k g (.tuple ds) ρ Q ↔ ds.length = k ∧ g ds ρ Q := by
  unfold wgt
  constructor
  · rintro ⟨es, e, h1, h2⟩; cases e; exact ⟨h1, h2⟩
  · rintro ⟨h1, h2⟩; exact ⟨ds, rfl, h1, h2⟩
theorem s_wgcons {g : WG} {r : WGs} {d : D} {es : List D} {ρ : Env} {Q : Env → Prop} : wgcons g r (d :: es) ρ Q ↔ g d ρ fun ρ' => r es ρ' Q := by
  unfold wgcons
  constructor
  · rintro ⟨d', es', e, h⟩; cases e; exact h
  · intro h; exact ⟨d, es, rfl, h⟩
theorem s_wgnil {ρ : Env} {Q : Env → Prop} : wgnil [] ρ Q ↔ Q ρ := by
  unfold wgnil; simp
/-! comprehensions and loops -/
theorem wcl_go {α β : Type} {g : WG} {wt : WT} {we : WE} {ρ : Env} (enc : α → D) (e2 : β → D) (F : α → Option β) : ∀ (xs : List α) (acc : List D) (Q : List D → Prop), (∀ x ∈ xs, ∀ (Qt : D → Prop) (Qf : Prop), (match F x with | some y => Qt (e2 y) | none => Qf) → g (enc x) ρ fun ρ' => wt ρ' fun b => if b = true then we ρ' Qt else Qf) →
    Q (acc ++ (xs.filterMap F).map e2) → wcl g wt we ρ (xs.map enc) acc Q
  | [], acc, Q, _, q => (by simpa using q : Q acc)
  | x :: xs, acc, Q, h, q => by
    show g (enc x) ρ fun ρ' => wt ρ' fun b => if b = true then we ρ' (fun y => wcl g wt we ρ (xs.map enc) (acc ++ [y]) Q) else wcl g wt we ρ (xs.map enc) acc Q
    refine h x (List.mem_cons_self ..) _ _ ?_
    rw [List.filterMap_cons] at q
    cases e : F x with
    | none =>
      rw [e] at q
      exact wcl_go enc e2 F xs acc Q (fun x hx => h x (List.mem_cons_of_mem _ hx)) q
    | some y =>
      rw [e] at q
      exact wcl_go enc e2 F xs _ Q (fun x hx => h x (List.mem_cons_of_mem _ hx)) (by simpa using q)
theorem wcl_map {α β : Type} {g : WG} {we : WE} {ρ : Env} (enc : α → D) (e2 : β → D) (f : α → β) : ∀ (xs : List α) (acc : List D) (Q : List D → Prop), (∀ x ∈ xs, ∀ (Qt : D → Prop), Qt (e2 (f x)) → g (enc x) ρ fun ρ' => we ρ' Qt) →
    Q (acc ++ (xs.map f).map e2) → wcl g wyes we ρ (xs.map enc) acc Q
  | [], acc, Q, _, q => (by simpa using q : Q acc)
  | x :: xs, acc, Q, h, q => by
    show g (enc x) ρ fun ρ' => if true = true then we ρ' (fun y => wcl g wyes we ρ (xs.map enc) (acc ++ [y]) Q) else wcl g wyes we ρ (xs.map enc) acc Q
    simp only [if_true]
    refine h x (List.mem_cons_self ..) _ ?_
    exact wcl_map enc e2 f xs _ Q (fun x hx => h x (List.mem_cons_of_mem _ hx)) (by simpa using q)
/-- a loop by what holds behind a part of its items -/
theorem wfl_inv {α : Type} {g : WG} {body : WS} {k : Kt} (enc : α → D) (I : List α → Env → Prop) {xs : List α} (fin : ∀ ρ, I xs ρ → k.nx ρ)
    (step : ∀ (pre : List α) (x : α) (post : List α) (ρ : Env) (N : Env → Prop), xs = pre ++ x :: post → (∀ ρ', I (pre ++ [x]) ρ' → N ρ') → I pre ρ → g (enc x) ρ fun ρ' => body { nx := N, ct := N, bk := k.nx, rt := k.rt } ρ') : ∀ {ρ : Env}, I [] ρ → wfl g body k (xs.map enc) ρ := by
  suffices h : ∀ (post pre : List α), xs = pre ++ post → ∀ ρ, I pre ρ → wfl g body k (post.map enc) ρ from fun {ρ} h0 => h xs [] rfl ρ h0
  intro post
  induction post with
  | nil => intro pre e ρ h; rw [List.append_nil] at e; subst e; exact fin ρ h
  | cons x post ih =>
    intro pre e ρ h
    exact step pre x post ρ _ e (fun ρ' h' => ih (pre ++ [x]) (by rw [e]; simp) ρ' h') h
/-- one statement, what follows out of sight -/
theorem wseq_go {a b : WS} {k : Kt} {ρ : Env} (h : ∀ N : Env → Prop, (∀ ρ', b k ρ' → N ρ') → a { k with nx := N } ρ) : wseq a b k ρ := h _ fun _ h => h
theorem rngD_nat (n : Nat) : rngD 0 n = (List.range n).map fun i => PyData.int (i : Nat) := by
  unfold rngD
  refine List.map_congr_left fun i _ => ?_
  rw [Int.zero_add]
/-! draws -/
theorem taken_iff {m : Int} {Q : D → Prop} (h0 : 0 < m) (h1 : m < 1073741824) (h : ∀ r : Nat, (r : Int) < m → Q (.int r)) : wTaken [.int m] Q :=
  ⟨m, rfl, h0, h1, fun r h2 h3 => by
    have := h r.toNat (by omega)
    rwa [Int.toNat_of_nonneg h2] at this⟩
end VS
/-! VSW: sorting as lists of numbers and of pairs; nets. -/
namespace VS
open PySem PySem.Spec PyProof.Rows L2
abbrev natD (n : Nat) : D := .int (n : Int)
abbrev intD (n : Int) : D := .int n
def duoD (p : Nat × Nat) : D := .tuple [natD p.1, natD p.2]
def lexle (p q : Nat × Nat) : Bool := decide (p.1 < q.1 ∨ (p.1 = q.1 ∧ p.2 ≤ q.2))
def lexlt (p q : Nat × Nat) : Prop := p.1 < q.1 ∨ (p.1 = q.1 ∧ p.2 < q.2)
def natle (a b : Nat) : Bool := decide (a ≤ b)
def intle (a b : Int) : Bool := decide (a ≤ b)
/-! ### sorted -/
theorem dle_int (a b : Int) : dle (.int a) (.int b) = decide (a ≤ b) := congrFun (congrFun (PySem.W.dataLe_int (fun x : Int => x)) a) b
theorem dle_ii (a b c d : Int) : dle (.tuple [.int a, .int b]) (.tuple [.int c, .int d]) = decide (a < c ∨ (a = c ∧ b ≤ d)) := congrFun (congrFun (PySem.W.dataLe_ii (fun x : Int × Int => x.1) (fun x => x.2)) (a, b)) (c, d)
theorem sortable_int {α : Type} (f : α → Int) (xs : List α) : sortable (xs.map fun x => .int (f x)) = true := by
  unfold sortable
  simp [PySem.W.alike, notNT, PyData.canLay0, PyData.depth]
theorem sortable_ii {α : Type} (f g : α → Int) (xs : List α) : sortable (xs.map fun x => .tuple [.int (f x), .int (g x)]) = true := by
  unfold sortable
  simp [PySem.W.alike, PySem.W.alikeAll, tupNE, PyData.canLay0, PyData.canLayAll0, PyData.depth, PyData.depthAll]
theorem sorted_map {α : Type} (f : α → D) (le : α → α → Bool) (xs : List α) (h : sortable (xs.map f) = true) (hle : ∀ a b, le a b = dle (f a) (f b)) : dSorted [.list (xs.map f)] = some (.list ((xs.mergeSort le).map f)) := by
  show (if sortable (xs.map f) = true then some (PyData.list ((xs.map f).mergeSort dle)) else none) = _
  rw [if_pos h, PySem.W.sort_maps f (fun a _ b _ => hle a b)]
theorem sorted_nat (xs : List Nat) : dSorted [.list (xs.map natD)] = some (.list ((xs.mergeSort natle).map natD)) :=
  sorted_map natD natle xs (sortable_int (fun n : Nat => (n : Int)) xs) fun a b => by
    rw [dle_int]; unfold natle; rw [decide_eq_decide]; omega
theorem sorted_int (xs : List Int) : dSorted [.list (xs.map intD)] = some (.list ((xs.mergeSort intle).map intD)) :=
  sorted_map intD intle xs (sortable_int (fun n : Int => n) xs) fun a b => by
    rw [dle_int]; rfl
theorem sorted_pr (xs : List (Nat × Nat)) : dSorted [.list (xs.map duoD)] = some (.list ((xs.mergeSort lexle).map duoD)) :=
  sorted_map duoD lexle xs (sortable_ii (fun n : Nat × Nat => (n.1 : Int)) (fun n => (n.2 : Int)) xs) fun a b => by
    unfold duoD natD
    rw [dle_ii]; unfold lexle; rw [decide_eq_decide]; omega
theorem natle_trans (a b c : Nat) : natle a b = true → natle b c = true → natle a c = true := by unfold natle; simp; omega
theorem natle_total (a b : Nat) : (natle a b || natle b a) = true := by unfold natle; simp; omega
theorem lexle_trans (a b c : Nat × Nat) : lexle a b = true → lexle b c = true → lexle a c = true := by unfold lexle; simp; omega
theorem lexle_total (a b : Nat × Nat) : (lexle a b || lexle b a) = true := by unfold lexle; simp; omega
theorem strict_unique {α : Type} {lt : α → α → Prop} (irr : ∀ a, ¬ lt a a) (asym : ∀ a b, lt a b → ¬ lt b a) : ∀ {l m : List α}, l.Pairwise lt → m.Pairwise lt → (∀ k, k ∈ l ↔ k ∈ m) → l = m
  | [], [], _, _, _ => rfl
  | [], y :: m, _, _, h => absurd ((h y).mpr (List.mem_cons_self ..)) (by simp)
  | x :: l, [], _, _, h => absurd ((h x).mp (List.mem_cons_self ..)) (by simp)
  | x :: l, y :: m, hl, hm, h => by
    obtain ⟨l1, l2⟩ := List.pairwise_cons.mp hl
    obtain ⟨m1, m2⟩ := List.pairwise_cons.mp hm
    have e : x = y := by
      rcases List.mem_cons.mp ((h x).mp (List.mem_cons_self ..)) with e | e
      · exact e
      · rcases List.mem_cons.mp ((h y).mpr (List.mem_cons_self ..)) with e2 | e2
        · exact e2.symm
        · exact absurd (l1 y e2) (asym _ _ (m1 x e))
    subst e
    rw [strict_unique irr asym l2 m2 fun k => ?_]
    constructor
    · intro hk
      rcases List.mem_cons.mp ((h k).mp (List.mem_cons_of_mem _ hk)) with e | e
      · subst e; exact absurd (l1 k hk) (irr _)
      · exact e
    · intro hk
      rcases List.mem_cons.mp ((h k).mpr (List.mem_cons_of_mem _ hk)) with e | e
      · subst e; exact absurd (m1 k hk) (irr _)
      · exact e
/-- the sorted list of distinct numbers -/
theorem sort_nat_lt {xs : List Nat} (h : xs.Nodup) : (xs.mergeSort natle).Pairwise (· < ·) := by
  have h1 := List.pairwise_mergeSort natle_trans natle_total xs
  have h2 : (xs.mergeSort natle).Nodup := (List.mergeSort_perm xs natle).nodup_iff.mpr h
  refine (h1.and h2).imp fun {a b} ⟨q1, q2⟩ => ?_
  have : a ≤ b := by simpa [natle] using q1
  omega
theorem sort_nat_eq {xs ys : List Nat} (h : xs.Nodup) (hy : ys.Pairwise (· < ·)) (hm : ∀ k, k ∈ xs ↔ k ∈ ys) : xs.mergeSort natle = ys :=
  strict_unique (lt := (· < ·)) (fun a => Nat.lt_irrefl a) (fun a b => Nat.lt_asymm) (sort_nat_lt h) hy fun k => by rw [(List.mergeSort_perm xs natle).mem_iff, hm]
theorem sort_pr_lt {xs : List (Nat × Nat)} (h : xs.Nodup) : (xs.mergeSort lexle).Pairwise lexlt := by
  have h1 := List.pairwise_mergeSort lexle_trans lexle_total xs
  have h2 : (xs.mergeSort lexle).Nodup := (List.mergeSort_perm xs lexle).nodup_iff.mpr h
  refine (h1.and h2).imp fun {a b} ⟨q1, q2⟩ => ?_
  have q1 : a.1 < b.1 ∨ (a.1 = b.1 ∧ a.2 ≤ b.2) := by simpa [lexle] using q1
  rcases q1 with q1 | ⟨q1, q3⟩
  · exact .inl q1
  · refine .inr ⟨q1, ?_⟩
    rcases Nat.lt_or_ge a.2 b.2 with z | z
    · exact z
    · exact absurd (Prod.ext q1 (by omega)) q2
theorem lexlt_irr (a : Nat × Nat) : ¬ lexlt a a := by unfold lexlt; omega
theorem lexlt_asym (a b : Nat × Nat) : lexlt a b → ¬ lexlt b a := by unfold lexlt; omega
theorem sort_pr_eq {xs ys : List (Nat × Nat)} (h : xs.Nodup) (hy : ys.Pairwise lexlt) (hm : ∀ k, k ∈ xs ↔ k ∈ ys) : xs.mergeSort lexle = ys :=
  strict_unique lexlt_irr lexlt_asym (sort_pr_lt h) hy fun k => by rw [(List.mergeSort_perm xs lexle).mem_iff, hm]
theorem sort_pr_id {xs : List (Nat × Nat)} (h : xs.Pairwise lexlt) : xs.mergeSort lexle = xs :=
  sort_pr_eq (h.imp fun {a b} q => fun z => by subst z; exact lexlt_irr _ q) h fun _ => Iff.rfl
theorem lexlt_nodup {xs : List (Nat × Nat)} (h : xs.Pairwise lexlt) : xs.Nodup := h.imp fun {a b} q => fun z => by subst z; exact lexlt_irr _ q
/-! ### nets -/
structure Net where
  n : Nat
  ps : List (Nat × Nat)
def netD (N : Net) : D := .tuple [natD N.n, .tuple (N.ps.map duoD)]
structure Net.Ok (N : Net) : Prop where
  n1 : 1 ≤ N.n
  n12 : N.n ≤ 12
  prs : ∀ p ∈ N.ps, p.1 < p.2 ∧ p.2 < N.n
  srt : N.ps.Pairwise lexlt
def adj (N : Net) (u v : Nat) : Bool := N.ps.any fun p => (p.1 == u && p.2 == v) || (p.1 == v && p.2 == u)
def near (N : Net) (v : Nat) : List Nat := (List.range N.n).filter (adj N v)
theorem incr_len : ∀ {l : List Nat} {a b : Nat}, l.Pairwise (· < ·) → (∀ x ∈ l, a ≤ x ∧ x < b) → a + l.length ≤ max a b
  | [], a, b, _, _ => by simp; omega
  | x :: l, a, b, h, hb => by
    obtain ⟨h1, h2⟩ := List.pairwise_cons.mp h
    obtain ⟨b1, b2⟩ := hb x (List.mem_cons_self ..)
    have := incr_len (a := x + 1) (b := b) h2 fun y hy => ⟨h1 y hy, (hb y (List.mem_cons_of_mem _ hy)).2⟩
    rw [List.length_cons]
    omega
def ixPr (p : Nat × Nat) : Nat := p.1 * (23 - p.1) / 2 + (p.2 - p.1 - 1)
theorem ixPr_all : ∀ b a d c : Fin 12, a < b → c < d → ((a < c ∨ (a = c ∧ b < d)) → ixPr (a.val, b.val) < ixPr (c.val, d.val)) ∧ ixPr (a.val, b.val) < 66 := by decide +kernel
theorem ixPr_lt (b : Nat) (hb : b < 12) (a : Nat) (ha : a < b) (d : Nat) (hd : d < 12) (c : Nat) (hc : c < d) : ((a < c ∨ (a = c ∧ b < d)) → ixPr (a, b) < ixPr (c, d)) ∧ ixPr (a, b) < 66 := by
  have := ixPr_all ⟨b, hb⟩ ⟨a, by omega⟩ ⟨d, hd⟩ ⟨c, by omega⟩ ha hc
  refine ⟨fun h => this.1 ?_, this.2⟩
  rcases h with h | ⟨h1, h2⟩
  · exact .inl h
  · exact .inr ⟨Fin.ext h1, h2⟩
theorem Net.Ok.few {N : Net} (h : N.Ok) : N.ps.length ≤ 66 := by
  have h1 : (N.ps.map ixPr).Pairwise (· < ·) := by
    refine List.pairwise_map.mpr ((List.pairwise_iff_getElem.mpr fun i j hi hj hij => ?_))
    obtain ⟨p1, p2⟩ := h.prs _ (List.getElem_mem hi)
    obtain ⟨q1, q2⟩ := h.prs _ (List.getElem_mem hj)
    have := h.n12
    exact (ixPr_lt _ (by omega) _ p1 _ (by omega) _ q1).1 (List.pairwise_iff_getElem.mp h.srt i j hi hj hij)
  have h2 := incr_len (a := 0) (b := 66) h1 fun x hx => by
    obtain ⟨p, hp, rfl⟩ := List.mem_map.mp hx
    obtain ⟨p1, p2⟩ := h.prs _ hp
    have := h.n12
    exact ⟨Nat.zero_le _, (ixPr_lt _ (by omega) _ p1 _ (by omega) _ p1).2⟩
  rw [List.length_map] at h2
  omega
end VS
/-! VSX: dicts sorted. -/
namespace VS
open PySem PySem.Spec PyProof.Rows L2
/-- a key of a dict in the heap -/
def KeyAt (H : Hp) (v : V) (d : D) : Prop := (∃ k, v = kV k ∧ d = keyD k) ∨ ∃ b ks, v = .ref b ∧ H b = some (.tup (ks.map kV)) ∧ d = .tuple (List.map keyD ks)
theorem KeyAt.rp {K : PySem.W.Frag} {row : Option Addr} {p : Addr → Bool} {H : Hp} {v : V} {d : D} (w : Vw row p H) (h : KeyAt H v d) : Rp K (hid H p) v d := by
  rcases h with ⟨k, rfl, rfl⟩ | ⟨b, ks, rfl, h, rfl⟩
  · cases k
    · exact .int _
    · exact .str _
  · refine .tup (hid_some.mpr ⟨w.tup b _ h, h⟩) ?_
    clear h
    induction ks with
    | nil => exact .nil
    | cons k ks ih =>
      refine .cons ?_ ih
      cases k
      · exact .int _
      · exact .str _
theorem KeyAt.rp0 {K : PySem.W.Frag} {H : Hp} {v : V} {d : D} (h : KeyAt H v d) : Rp K H v d := by
  rcases h with ⟨k, rfl, rfl⟩ | ⟨b, ks, rfl, h, rfl⟩
  · cases k
    · exact .int _
    · exact .str _
  · refine .tup h ?_
    clear h
    induction ks with
    | nil => exact .nil
    | cons k ks ih =>
      refine .cons ?_ ih
      cases k
      · exact .int _
      · exact .str _
def KEach (H : Hp) (u : Value) (p : V × D) : Prop := RelV p.1 u ∧ KeyAt H p.1 p.2
theorem kEach_of {H : Hp} : ∀ {xs : List V} {us : List Value} {ds : List D}, Vals xs us → Paired (KeyAt H) xs ds → PySem.W.EachIs (KEach H) us (xs.zip ds)
  | _, _, _, .nil, .nil => .nil
  | _, _, _, .cons r t, .cons h k => .cons ⟨r, h⟩ (kEach_of t k)
theorem of_kEach {H : Hp} : ∀ {us : List Value} {ps : List (V × D)}, PySem.W.EachIs (KEach H) us ps → Vals (ps.map (·.1)) us ∧ Paired (KeyAt H) (ps.map (·.1)) (ps.map (·.2))
  | _, _, .nil => ⟨.nil, .nil⟩
  | _, _, .cons h t => ⟨.cons h.1 (of_kEach t).1, .cons h.2 (of_kEach t).2⟩
theorem zip_snd {H : Hp} : ∀ {xs : List V} {ds : List D}, Paired (KeyAt H) xs ds → (xs.zip ds).map Prod.snd = ds
  | _, _, .nil => rfl
  | _, _, .cons _ t => by rw [List.zip_cons_cons, List.map_cons, zip_snd t]
section
variable {X : Cx}
theorem sort_src {pins : List (Addr × Obj)} {s : Shared} {σ : L2.St} {H : Hp} {Q : VK} {r d : Addr} {n : Nat} {P : Nat → Value → Prop} {OK : Heap → Prop} (hu : X.A.units + 64 < cLine) (hc : X.calm = true) (src : PySem.W.KdlSrc X.prog X.w "dict" r d n P OK) (I : Inv X pins σ H s) (hok : OK s.heap) (hn : n ≤ sizeLine)
    (xs : List V) (ds : List D) (hP : ∀ acc : Array Value, ItemsOf P acc n → Vals xs acc.toList) (hk : Paired (KeyAt H) xs ds) (so : sortable ds = true) (q : ∀ ys p, Paired (KeyAt H) ys (ds.mergeSort dle) → H p = none → Q (.ref p) (upd H p (.lst ys))) :
    wpAny (model X.prog X.w) X.A (call (.builtin "sorted") [.ref r]) (EP X pins σ Q) X.xe s := by
  have hlen0 := paired_len hk
  simp only [sortable, Bool.and_eq_true, Bool.or_eq_true, List.all_eq_true, decide_eq_true_eq] at so
  obtain ⟨⟨s1, s2⟩, s3⟩ := so
  refine Calls.call_function_entry PyProof.Rows.kind_sorted PyProof.Rows.plain_sorted PyProof.Rows.entry_sorted (PyProof.Rows.args_sorted1 _) ?_
  unfold Builtin.«sorted»
  refine wpAny_bind (m := checkCount "sorted" 1 1 _) (wpAny_pure (wpAny_bind (PySem.W.kdu_collect (A := X.A.in1) src (I.ok.hd hc) hok hn fun h' tk acc kp items => ?_)))
  have rv := hP acc items
  have hla : acc.toList.length = xs.length := rv.length.symm
  have hsz : acc.toList.length ≤ sizeLine := by rw [Array.length_toList, items.1]; exact hn
  have I1 : Inv X pins σ H { s with heap := h', toks := tk } := I.kept kp
  refine wpAny_bind (wpAny_newList ?_ hsz)
  have atL : (h'.push (seqObj "list" acc.toList.toArray 0)).get? h'.objs.size = some (seqObj "list" acc.toList.toArray 0) := Heap.get?_push_size _ rfl
  have hm := zip_snd hk
  have mem : ∀ b, b ∈ xs.zip ds → b.2 ∈ ds := fun b hb => by
    rw [← hm]; exact List.mem_map.mpr ⟨b, hb, rfl⟩
  have e := kEach_of rv hk
  have er : PySem.W.EachIs (fun v (b : V × D) => (KEach H v b ∧ b.2.canLay0 = true)) acc.toList (xs.zip ds) := by
    have : ∀ {us : List Value} {ps : List (V × D)}, PySem.W.EachIs (KEach H) us ps → (∀ b ∈ ps, b.2.canLay0 = true) → PySem.W.EachIs (fun v (b : V × D) => (KEach H v b ∧ b.2.canLay0 = true)) us ps := by
      intro us ps h
      induction h with
      | nil => intro _; exact .nil
      | cons a t ih => intro k; exact .cons ⟨a, k _ (List.mem_cons_self ..)⟩ (ih fun b hb => k b (List.mem_cons_of_mem _ hb))
    exact this e fun b hb => (s3 _ (mem b hb)).1
  show wpAny _ _ _ _ _ { s with heap := h'.push (seqObj "list" acc.toList.toArray 0), toks := tk }
  refine wpAny_bind (wpAny_holding (PySem.W.list_sort_data (s := { s with heap := h'.push (seqObj "list" acc.toList.toArray 0), toks := tk }) (enc := Prod.snd) (bs := xs.zip ds) atL e (er.mono fun u b hb => ?_) (by rw [hm]; exact fun d hd d' hd' => s1 d hd d' hd') ?_ ?_ (fun b hb => ?_) fun out hlen ho => ?_))
  · obtain ⟨as, rd⟩ := Dp.reads I1 b.2 b.1 u ((hb.1.2.rp0 (K := X.K)).dp hb.2) hb.1.1
    refine ⟨as, PyProof.Rows.Reads.keeps (fun _ _ z => Heap.get?_push_of_some _ z) rd, fun z => ?_⟩
    obtain ⟨o, ho⟩ := PyProof.On.reads_mem_get rd _ z
    exact Nat.lt_irrefl _ (Heap.lt_size ho)
  · rw [hm]
    rcases s2 with s2 | s2
    · refine .inl fun d hd => ?_
      have := s2 d hd
      cases d <;> try (cases this; done)
      rename_i ys
      cases ys with
      | nil => cases this
      | cons y ys => exact ⟨y, ys, rfl⟩
    · refine .inr fun d hd => ?_
      have := s2 d hd
      cases d <;> first | (cases this; done) | exact ⟨fun z => (nomatch z), fun _ z => (nomatch z)⟩
  · rw [List.length_zip, ← hlen0, Nat.min_self, ← hla]; exact hsz
  · have := (s3 _ (mem b hb)).2
    show X.A.in1.units + 1 + _ < _
    have e1 : X.A.in1.units ≤ X.A.units + 1 := by first | exact Nat.le_refl _ | (simp [Around.in1])
    omega
  · obtain ⟨v1, v2⟩ := of_kEach ho
    have e1 : ((xs.zip ds).mergeSort (PySem.W.dataLe false Prod.snd)).map Prod.snd = ds.mergeSort dle :=
      (PySem.W.sort_maps (r := PySem.W.dataLe false Prod.snd) (s := dle) (l := xs.zip ds) Prod.snd (fun _ _ _ _ => rfl)).trans (by rw [hm])
    have v2' : Paired (KeyAt H) (((xs.zip ds).mergeSort (PySem.W.dataLe false Prod.snd)).map (·.1)) (ds.mergeSort dle) := by rw [← e1]; exact v2
    obtain ⟨ep, he'⟩ := PyProof.Rows.sortedHeap_at (vs := acc.toList) (out := out.toArray) atL
    have hlen' : (((xs.zip ds).mergeSort (PySem.W.dataLe false Prod.snd)).map (·.1)).length ≤ sizeLine := by
      rw [List.length_map, List.length_mergeSort, List.length_zip, ← hlen0, Nat.min_self, ← hla]; exact hsz
    refine wpAny_pure ⟨_, rfl, .ref h'.objs.size, _, I1.laid (t' := tk) (fun b u eb => ?_) (Nat.le_refl _) (show ObjOk X.prog X.w _ _ _ (.lst _) from ⟨hlen', out, ep, v1, he'⟩), rfl, q _ _ v2' (I1.hok.fresh (Nat.le_refl _))⟩
    have hb : b < h'.objs.size := Heap.lt_size eb
    rw [PyProof.Rows.sortedHeap_old (Nat.ne_of_lt hb) (by rw [size_push']; exact Nat.lt_succ_of_lt hb)]
    exact Heap.get?_push_of_some _ eb
/-- sorted(d) -/
def rSortDic : List V → Hp → VK → Prop := fun vs H Q => ∃ a ds, vs = [.ref a] ∧ ((∃ kvs, Rd H a (.dK kvs) ∧ ds = kvs.map fun kv => keyD kv.1) ∨ ∃ kvs, Rd H a (.dT kvs) ∧ ds = kvs.map fun kv => .tuple (kv.1.map keyD)) ∧ sortable ds = true ∧
  ∀ ys p, Paired (KeyAt H) ys (ds.mergeSort dle) → H p = none → Q (.ref p) (upd H p (.lst ys))
theorem vals_kt {H : Hp} {kvs : List (List Key × V)} {ks : List (List Key × Addr × Value)} (r : KT H kvs ks) : Paired (KeyAt H) (ks.map fun x => V.ref x.2.1) (kvs.map fun kv => PyData.tuple (kv.1.map keyD)) := by
  induction r with
  | nil => exact .nil
  | cons h t ih => exact .cons (.inr ⟨_, _, rfl, h.2.1, rfl⟩) ih
theorem vals_list : ∀ (ks : List (List Key × Addr × Value)) (us : List Value), us = ks.map (fun x => Value.ref x.2.1) → Vals (ks.map fun x => V.ref x.2.1) us
  | [], _, rfl => .nil
  | _ :: r, _, rfl => .cons rfl (vals_list r _ rfl)
theorem c_sortdic (hu : X.A.units + 64 < cLine) (hc : X.calm = true) : CallR X (.builtin "sorted") rSortDic := by
  intro pins s σ H xs us Q I r h
  obtain ⟨a, ds, rfl, hd, so, q⟩ := h
  rw [Vals.ref1 r]
  rcases hd with ⟨kvs, hd, rfl⟩ | ⟨kvs, hd, rfl⟩
  · obtain ⟨z, lo, vs, rel, dd⟩ := dk_rd I.hok hd
    obtain ⟨ep, hat⟩ := dd.dictAt
    refine sort_src hu hc (PySem.W.kdl_dict (knd := mixKind X.prog X.w) (kvs := vs) (ep := ep) lo) I hat (by rw [← rel.length]; exact z) (vs.map fun p => kV p.1) _ (fun acc it => keys_at (by rw [Array.length_toList]; exact it.1) fun j v e => it.2 j v (by rw [← Array.getElem?_toList]; exact e)) ?_ so q
    have ek := rel.keys
    have : ∀ (l : List Key), Paired (KeyAt H) (l.map kV) (l.map keyD) := fun l => by
      induction l with
      | nil => exact .nil
      | cons k l ih => exact .cons (.inl ⟨k, rfl, rfl⟩) ih
    have h2 := this (kvs.map (·.1))
    rw [List.map_map, List.map_map] at h2
    have h3 : (kvs.map (kV ∘ fun kv => kv.1)) = vs.map fun p => kV p.1 := by
      have := congrArg (List.map kV) ek
      rw [List.map_map, List.map_map] at this
      exact this
    rw [h3] at h2
    exact h2
  · obtain ⟨z, hs, ks, pr, o, es, ep, ho, hx, hdt, he, hn⟩ := (show ObjOk X.prog X.w H s.heap a (.dT kvs) from hd.ok I.hok)
    have l1 : es.size = ks.length := size_of_entries he
    refine sort_src hu hc (kdl_raw hs hx hdt) I ho (by rw [l1, ← Paired.length pr]; exact z) (ks.map fun x => V.ref x.2.1) _ (fun acc it => ?_) (vals_kt pr) so q
    refine vals_list ks _ (List.ext_getElem? fun j => ?_)
    rw [List.getElem?_map]
    by_cases hj : j < ks.length
    · have hj2 : j < acc.toList.length := by rw [Array.length_toList, it.1, l1]; exact hj
      have hj3 : j < acc.size := by rw [← Array.length_toList]; exact hj2
      obtain ⟨en, hen, hv⟩ := it.2 j acc[j] (Array.getElem?_eq_getElem hj3)
      have qe := entry_at he j
      rw [hen, List.getElem?_eq_getElem hj] at qe
      cases qe
      rw [List.getElem?_eq_getElem hj2, List.getElem?_eq_getElem hj]
      show some acc.toList[j] = some _
      rw [Array.getElem_toList, hv]
      rfl
    · rw [List.getElem?_eq_none (Nat.le_of_not_lt hj), List.getElem?_eq_none (by rw [Array.length_toList, it.1, l1]; exact Nat.le_of_not_lt hj)]
      rfl
/-- the keys of a dict, as data -/
def dkeys : D → Option (List D)
  | .dict ds => some ((dsplit ds).2.map (·.1))
  | _ => none
def dSortDic : List D → Option D
  | [d] => match dkeys d with
    | some ks => if sortable ks = true then some (.list (ks.mergeSort dle)) else none
    | none => none
  | _ => none
theorem RpK.ks {K : PySem.W.Frag} {F : Hp} : ∀ {kvs : List (Key × V)} {ds : List (D × D)}, RpK K F kvs ds → ds.map (·.1) = kvs.map fun kv => keyD kv.1
  | _, _, .nil => rfl
  | _, _, .cons _ t => by rw [List.map_cons, List.map_cons, RpK.ks t]
theorem RpT.ks {K : PySem.W.Frag} {F : Hp} : ∀ {kvs : List (List Key × V)} {ds : List (D × D)}, RpT K F kvs ds → ds.map (·.1) = kvs.map fun kv => PyData.tuple (kv.1.map keyD)
  | _, _, .nil => rfl
  | _, _, .cons _ t => by rw [List.map_cons, List.map_cons, RpT.ks t]
theorem rpa_keys {K : PySem.W.Frag} {row : Option Addr} {p : Addr → Bool} {H : Hp} (w : Vw row p H) : ∀ {vs : List V} {ds : List D}, Paired (KeyAt H) vs ds → RpA K (hid H p) vs ds
  | _, _, .nil => .nil
  | _, _, .cons h t => .cons (h.rp w) (rpa_keys w t)
theorem g_sortdic {K : PySem.W.Frag} : GA K dSortDic rSortDic := by
  intro row p H xs dxs d Q w hx e q
  match dxs, hx, e with
  | [dx], hx0, e =>
    obtain ⟨x, rfl, hb⟩ := hx0.one
    simp only [dSortDic] at e
    split at e
    · rename_i ks hks
      split at e
      · rename_i hz; cases e
        cases dx <;> simp only [dkeys] at hks <;> try (cases hks; done)
        cases hks
        obtain ⟨a, rfl, ha⟩ := hb.dic
        refine ⟨a, _, rfl, ?_, hz, fun ys r h3 hr => q _ _ (.upd hr) (.lst (hid_upd (w.new r hr)) ((rpa_keys w h3).mono ((Ex.upd (K := K) hr).vis' w)))⟩
        rcases ha with ⟨kvs, h1, h2⟩ | ⟨kvs, ds', h1, rfl, h2⟩
        · refine .inl ⟨kvs, .of h1, ?_⟩
          rw [h2.nomark]; exact h2.ks
        · exact .inr ⟨kvs, .of h1, h2.ks⟩
      · cases e
    · cases e
end
end VS
/-! VSY: dicts made at once; slices; zip; index. -/
namespace VS
open PySem PySem.Spec PyProof.Rows L2
section
variable {X : Cx} {K : PySem.W.Frag} {n : Nat} {τ τ' τ1 τb : List Ty} {L : List Nat} {e a b o tg : Expr} {st : Stmt} {we wa wb wk wv : WE} {pos pos' : Pos}
/-! ### {k: v} -/
def wdisp1 (a b : WE) : WE := fun ρ Q => a ρ fun x => b ρ fun y => ∃ k, keyOf x = some k ∧ Q (.dict [(x, y)])
theorem Ex.updNew {row : Option Addr} {H H2 : Hp} {p : Addr} {o : HO} (x : VS.Ex K row H H2) (hp : H p = none) (hnl : ∀ ob u, H2 p ≠ some (.frz ob u)) (hrow : ∀ r, row = some r → r ≠ p) : VS.Ex K row H (L2.upd H2 p o) := by
  refine ⟨fun b u hb ho => ?_, fun r hr hR => ?_⟩
  · rw [upd_ne (ne_of_none ho hp)]; exact x.keep b u hb ho
  · obtain ⟨a0, ns, i, s, c0, k1, k2, k3⟩ := x.row r hr hR
    refine ⟨a0, ns, i, s, c0, by rw [upd_ne (hrow r hr)]; exact k1, ?_, k3⟩
    rcases k2 with ⟨ob, k2⟩ | k2
    · exact .inl ⟨ob, by rw [upd_ne (fun z => by rw [z] at k2; exact hnl _ _ k2)]; exact k2⟩
    · exact .inr k2
theorem vf_disp1 (ha : VE X n τ a wa) (hb : VE X n τ b wb) (hbig : τ.length ≤ bigSlot ∧ n ≤ bigSlot := by decide) : VF X n τ (.Dict [some a] [b] pos) (wdisp1 wa wb) :=
  PE.imp (pe_disp (pps_cons ha hb pps_nil) rfl rfl (List.cons_ne_nil _ _) (show 1 ≤ 15 by decide)) fun σ H Q ⟨c, own, row, ρ, P, R, hw, q⟩ => fun p hp => by
    have R0 := R.newC hp (o := .dK []) trivial hbig.1 hbig.2
    refine ⟨c, _, row, ρ, _, R0, hw, fun d v H1 h1 x1 r1 => ⟨c, _, row, ρ, _, R0.mono x1, h1, fun d2 v2 H2 h2 x2 r2 => ?_⟩⟩
    obtain ⟨k, hk, h2⟩ := h2
    have ek := keyOf_some hk
    subst ek
    have R2 := (R0.mono x1).mono x2
    have ev : v = kV k := Bo.key (row := row) (p := hd c (ownC own p bigSlot) row) (K := X.K) (.inl r1)
    subst ev
    have hnr := R0.notrow (a := p) ownC_same
    have hk2 : H2 p = some (.dK []) := (x1.trans x2).keep p _ hnr upd_same
    refine ⟨hk2, [(k, v2)], rfl, show 1 ≤ 15 by decide, ?_⟩
    have x3 : Ex X.K row H (upd H2 p (.dK [(k, v2)])) := by
      have xx : Ex X.K row H H2 := (Ex.upd hp).trans (x1.trans x2)
      exact xx.updNew hp (fun ob u z => by rw [hk2] at z; cases z) fun r hr z => hnr (by rw [← z]; exact hr)
    refine q _ _ _ h2 x3 ⟨p, rfl, hp, .inr (.inl ⟨[(k, v2)], [(keyD k, d2)], upd_same, .cons ?_ .nil, rfl⟩)⟩
    rw [hid_upd_hidden (R2.hd_own ownC_same)]
    exact r2
/-! ### {k: v for ..} -/
def wcd (g : WG) (wt : WT) (wk wv : WE) (ρ : Env) : List D → List (D × D) → (List (D × D) → Prop) → Prop
  | [], acc, Q => Q acc
  | x :: xs, acc, Q => g x ρ fun ρ' => wt ρ' fun b => if b = true then wk ρ' fun y => wv ρ' fun z => (∃ k, keyOf y = some k) ∧ wcd g wt wk wv ρ xs (dput acc y z) Q else wcd g wt wk wv ρ xs acc Q
def wdc (wi : WI) (g : WG) (wt : WT) (wk wv : WE) (L : List Nat) : WE := fun ρ Q => wi ρ fun ds => ds.length ≤ sizeLine ∧ wcd g wt wk wv (dels ρ L) ds [] fun acc => Q (.dict acc)
theorem length_dput (ds : List (D × D)) (k v : D) : (dput ds k v).length ≤ ds.length + 1 := by
  unfold dput
  split
  · rw [List.length_map]; omega
  · rw [List.length_append]; exact Nat.le_refl _
theorem vf_dc {kx vx iter : Expr} {ifs : List Expr} {scope : Scope} {ownN : List (Str × Nat)} {wi : WI} {g : WG} {wt : WT} (hc : X.calm = true) (hN : X.N.Nodup) (hi : VI X n τ tg iter wi) (ok : BlkOk X.N X.env.scope scope ownN)
    (hg : ∀ (s : Shared) (H : Hp) (C : Addr) (cl : List (Str × Addr)) (fp : List Addr), VG (X.blk s H scope (compEnvC scope cl C X.env) fp) n τ L tg g) (ht : ∀ (s : Shared) (H : Hp) (C : Addr) (cl : List (Str × Addr)) (fp : List Addr), VTs (X.blk s H scope (compEnvC scope cl C X.env) fp) n τ ifs wt)
    (hk : ∀ (s : Shared) (H : Hp) (C : Addr) (cl : List (Str × Addr)) (fp : List Addr), VE (X.blk s H scope (compEnvC scope cl C X.env) fp) n τ kx wk) (he : ∀ (s : Shared) (H : Hp) (C : Addr) (cl : List (Str × Addr)) (fp : List Addr), VE (X.blk s H scope (compEnvC scope cl C X.env) fp) n τ vx wv)
    (hLL : ownN.map (·.2) = L := by rfl) (hL : ∀ i ∈ L, τ.getD i .fz = .fz := by decide) (hb : τ.length ≤ bigSlot ∧ n ≤ bigSlot := by decide) (hs : ∀ x, foldedSetIterable iter X.env x = pure x := by intro _; rfl) :
    VF X n τ (.DictComp kx vx [⟨tg, iter, ifs, 0⟩] scope pos) (wdc wi g wt wk wv L) := by
  have hpe : PE X (.DictComp kx vx [⟨tg, iter, ifs, 0⟩] scope pos) (tDc (rdI X.K n τ wi) (rdG X.K n τ L g) (rdT X.K n τ wt) (rdE X.K n τ wk) (rdE X.K n τ wv) L) := by
    rw [← hLL]
    exact pe_dc (g := rdG X.K n τ (ownN.map (·.2)) g) (tt := rdT X.K n τ wt) (tk := rdE X.K n τ wk) (tv := rdE X.K n τ wv) hc hN hi ok (fun s H C cl fp => by rw [hLL]; exact hg s H C cl fp) (fun s H C cl fp => ht s H C cl fp) (fun s H C cl fp => hk s H C cl fp) (fun s H C cl fp => he s H C cl fp) hs
  refine PE.imp hpe fun σ H Q h => ?_
  obtain ⟨c, own, row, ρ, P, R, hw, q⟩ := h
  refine ⟨c, own, row, ρ, _, R, hw, fun ds J H1 pd x1 W => ?_⟩
  obtain ⟨hz, pd⟩ := pd
  intro A hA
  have R1 := R.mono x1
  refine ⟨fun i m H2 => m = ds.length - i ∧ i ≤ ds.length ∧ ∃ acc kvs, RS X.K n c (ownC own A bigSlot) row τ (dels ρ L) (L2.wipe σ L) H2 ∧ H2 A = some (.dK kvs) ∧ RpK X.K (hid H2 (hd c (ownC own A bigSlot) row)) kvs acc ∧ acc.length ≤ i ∧ Ex X.K row H1 H2 ∧
    wcd g wt wk wv (dels ρ L) (ds.drop i) acc (fun acc => P (.dict acc)), ⟨ds.length, by simp, Nat.zero_le _, [], [], (R1.newC hA (o := .dK []) trivial hb.1 hb.2).wipe hL, upd_same, .nil, Nat.le_refl _, .upd hA, by simpa using pd⟩, ?_⟩
  rintro i m H2 ⟨rfl, hi, acc, kvs, R2, hAv, hr, hlen, x2, hw2⟩
  have W2 := W H2 (hd c (ownC own A bigSlot) row) (hid_same fun b o h1 h2 => by
    have ne : b ≠ A := ne_of_none h2 hA
    exact ⟨hd_ownC_ne ne h1, x2.keep b o (hd_false.mp h1).2.2 h2⟩) (fun b hb => R2.hd_new hb) (fun b xs hb => R2.notup hb) i
  by_cases hlt : i < ds.length
  · obtain ⟨go, yld⟩ := W2.1 ds[i] (List.getElem?_eq_getElem hlt)
    rw [List.drop_eq_getElem_cons hlt] at hw2
    refine .inr ⟨go, fun H' => ∃ acc kvs, RS X.K n c (ownC own A bigSlot) row τ (dels ρ L) (L2.wipe σ L) H' ∧ H' A = some (.dK kvs) ∧ RpK X.K (hid H' (hd c (ownC own A bigSlot) row)) kvs acc ∧ acc.length ≤ i + 1 ∧ Ex X.K row H1 H' ∧
      wcd g wt wk wv (dels ρ L) (ds.drop (i + 1)) acc (fun acc => P (.dict acc)), fun H' ⟨acc', vs', a1, a2, a3, a4, a5, a6⟩ => ⟨ds.length - (i + 1), by omega, rfl, hlt, acc', vs', a1, a2, a3, a4, a5, a6⟩, fun x H3 hy => ?_⟩
    obtain ⟨s3, rp3⟩ := yld x H3 hy
    have x3 : Ex X.K row H2 H3 := .of_same s3
    refine ⟨c, _, row, dels ρ L, ds[i], _, R2.mono x3, rp3, hw2, fun ρ' σ' hb' R3 ew => ⟨by rw [ew, wipe_wipe], c, _, row, ρ', _, R3, hb', fun b H4 hb2 x4 => ?_⟩⟩
    have base4 : RS X.K n c (ownC own A bigSlot) row τ (dels ρ L) (L2.wipe σ L) H4 := R2.mono (x3.trans x4)
    have keepA : ∀ H5, Ex X.K row H2 H5 → H5 A = some (.dK kvs) := fun H5 x5 => x5.keep A _ (R2.notrow ownC_same) hAv
    cases b with
    | false =>
      rw [if_neg Bool.false_ne_true] at hb2
      exact iteF ⟨acc, kvs, base4, keepA _ (x3.trans x4), hr.mono ((x3.trans x4).vis' R2.vw), Nat.le_succ_of_le hlen, x2.trans (x3.trans x4), hb2⟩
    | true =>
      rw [if_pos rfl] at hb2
      refine iteT ⟨c, _, row, ρ', _, R3.mono x4, hb2, fun dk yk H5 hd5 x5 r5 => ⟨c, _, row, ρ', _, (R3.mono x4).mono x5, hd5, fun dv yv H6 hd6 x6 r6 => ?_⟩⟩
      obtain ⟨⟨k, hkk⟩, hd6⟩ := hd6
      have ek := keyOf_some hkk
      subst ek
      have ev : yk = kV k := Bo.key (row := row) (p := hd c (ownC own A bigSlot) row) (K := X.K) (.inl r5)
      subst ev
      have x26 : Ex X.K row H2 H6 := x3.trans (x4.trans (x5.trans x6))
      have R6 := R2.mono x26
      have hA6 := keepA _ x26
      have hl6 : kvs.length < sizeLine := by
        have := hr.len
        omega
      refine ⟨kvs, k, rfl, hA6, hl6, dput acc (keyD k) dv, putK kvs k yv, R6.write ownC_same trivial R6.lenρ (fun _ _ => rfl) ?_, upd_same, ?_, ?_, ⟨fun b o hb ho => ?_, fun r hr' hR => ?_⟩, hd6⟩
      · rw [R6.far hb.2, far_ty hb.1]; trivial
      · rw [hid_upd_hidden (R6.hd_own ownC_same)]
        exact (hr.mono (x26.vis' R2.vw)).put r6
      · exact Nat.le_trans (length_dput _ _ _) (Nat.succ_le_succ hlen)
      · rw [upd_ne (ne_of_none ho hA)]
        exact (x2.trans x26).keep b o hb ho
      · exact ((R6.write (ρ' := dels ρ L) (o := .dK (putK kvs k yv)) ownC_same trivial R6.lenρ (fun _ _ => rfl) (by rw [R6.far hb.2, far_ty hb.1]; trivial)).rowat r hr').1
  · have e : i = ds.length := by omega
    subst e
    refine .inl ⟨W2.2 (Nat.le_refl _), ?_⟩
    rw [List.drop_length] at hw2
    exact q _ _ _ hw2 (x1.trans x2) ⟨A, rfl, x1.new R hA, .inr (.inl ⟨kvs, acc, hAv, hr, rfl⟩)⟩
end
end VS
/-! VSZ: slices, zip, index. -/
namespace VS
open PySem PySem.Spec PyProof.Rows L2
section
variable {X : Cx} {K : PySem.W.Frag} {n : Nat} {τ τ' τ1 τb : List Ty} {L : List Nat} {e a b o tg : Expr} {st : Stmt} {we wa wb wk wv : WE} {pos pos' p2 apos cpos : Pos}
/-! ### slices -/
abbrev WO := Env → (Option Int → Prop) → Prop
def rdO (K : PySem.W.Frag) (n : Nat) (τ : List Ty) (w : WO) : TO := fun σ H Q => ∃ c own row ρ P, RS K n c own row τ ρ σ H ∧ w ρ P ∧ ∀ o H', P o → Ex K row H H' → Q o H'
def VO (X : Cx) (n : Nat) (τ : List Ty) (e : Option Expr) (w : WO) : Prop := PO X e (rdO X.K n τ w)
theorem PO.imp {eo : Option Expr} {t t' : TO} (h : PO X eo t) (k : ∀ σ H Q, t' σ H Q → t σ H Q) : PO X eo t' := ⟨fun pins s σ H Q I q => h.run pins s σ H Q I (k σ H Q q)⟩
def wno : WO := fun _ P => P none
def wsm (a : WE) : WO := fun ρ P => a ρ fun d => ∃ i, d = .int i ∧ P (some i)
theorem vo_none : VO X n τ none wno := PO.imp po_none fun σ H Q ⟨c, own, row, ρ, P, R, hw, q⟩ => q none H hw .refl
theorem vo_some (h : VB X n τ a wa) : VO X n τ (some a) (wsm wa) := PO.imp (po_some h) fun σ H Q ⟨c, own, row, ρ, P, R, hw, q⟩ => ⟨c, own, row, ρ, _, R, hw, fun d v H1 h1 x1 r1 => by
  obtain ⟨i, rfl, hp⟩ := h1
  exact ⟨i, r1.int, q _ H1 hp x1⟩⟩
def cutL {α : Type} (xs : List α) (lo hi : Option Int) : List α := (xs.drop (HT.sIx xs.length 0 lo)).take (HT.sIx xs.length xs.length hi - HT.sIx xs.length 0 lo)
theorem RpA.cut {F : Hp} {vs : List V} {ds : List D} (h : RpA K F vs ds) (lo hi : Option Int) : RpA K F (cutV vs lo hi) (cutL ds lo hi) := by
  unfold cutV cutL
  rw [h.len]
  exact (h.drop _).take _
def dCut : D → Option Int → Option Int → Option D
  | .list xs, lo, hi => some (.list (cutL xs lo hi))
  | .tuple xs, lo, hi => some (.tuple (cutL xs lo hi))
  | _, _, _ => none
def wslice (a : WE) (lo hi : WO) : WE := fun ρ Q => a ρ fun d => lo ρ fun l => hi ρ fun u => ∃ d', dCut d l u = some d' ∧ Q d'
def dCutL : D → Option Int → Option Int → Option D
  | .list xs, lo, hi => some (.list (cutL xs lo hi))
  | _, _, _ => none
def wsliceL (a : WE) (lo hi : WO) : WE := fun ρ Q => a ρ fun d => lo ρ fun l => hi ρ fun u => ∃ d', dCutL d l u = some d' ∧ Q d'
variable {lo hi : Option Expr} {wl wh : WO}
theorem ve_slice (ha : VB X n τ e wa) (hl : VO X n τ lo wl) (hh : VO X n τ hi wh) : VE X n τ (.Subscript e (.Slice lo hi none p2) pos) (wslice wa wl wh) :=
  PE.imp (pe_slice (sl_list.or sl_tupA) ha hl hh) fun σ H Q ⟨c, own, row, ρ, P, R, hw, q⟩ => ⟨c, own, row, ρ, _, R, hw, fun d v H1 h1 x1 r1 => ⟨c, own, row, ρ, _, R.mono x1, h1, fun l H2 h2 x2 => ⟨c, own, row, ρ, _, (R.mono x1).mono x2, h2, fun u H3 h3 x3 => by
    obtain ⟨d', e', p3⟩ := h3
    have x13 := x1.trans (x2.trans x3)
    have R3 := R.mono x13
    have r3 := r1.ex (R.mono x1).vw (x2.trans x3)
    cases d <;> simp only [dCut] at e' <;> try (cases e'; done)
    · cases e'
      obtain ⟨a0, xs, rfl, k1, k2⟩ := r3.lst
      exact .inl ⟨a0, xs, rfl, .of k1, fun p hp => q _ _ _ p3 (x13.trans (.upd hp)) (.lst (hid_upd (R3.hd_new hp)) ((k2.cut l u).mono ((Ex.upd (K := X.K) hp).vis' R3.vw)))⟩
    · cases e'
      obtain ⟨a0, xs, rfl, k1, k1', k2⟩ := r3.tup
      refine .inr ⟨a0, xs, rfl, .of k1, fun hall => ?_, fun _ p hp => q _ _ _ p3 (x13.trans (.upd hp)) (.tup (hid_upd (R3.hd_new hp)) ((k2.cut l u).mono ((Ex.upd (K := X.K) hp).vis' R3.vw)))⟩
      rename_i ds
      have e0 : cutL ds l u = ds := by
        unfold cutL
        rw [← k2.len, hall.1, hall.2, List.drop_zero, Nat.sub_zero, k2.len, List.take_length]
      rw [e0] at p3
      exact q _ _ H3 p3 x13 (.tup k1' k2)⟩⟩⟩
theorem vf_slice (ha : VB X n τ e wa) (hl : VO X n τ lo wl) (hh : VO X n τ hi wh) : VF X n τ (.Subscript e (.Slice lo hi none p2) pos) (wsliceL wa wl wh) :=
  PE.imp (pe_slice sl_list ha hl hh) fun σ H Q ⟨c, own, row, ρ, P, R, hw, q⟩ => ⟨c, own, row, ρ, _, R, hw, fun d v H1 h1 x1 r1 => ⟨c, own, row, ρ, _, R.mono x1, h1, fun l H2 h2 x2 => ⟨c, own, row, ρ, _, (R.mono x1).mono x2, h2, fun u H3 h3 x3 => by
    obtain ⟨d', e', p3⟩ := h3
    have x13 := x1.trans (x2.trans x3)
    have R3 := R.mono x13
    have r3 := r1.ex (R.mono x1).vw (x2.trans x3)
    cases d <;> simp only [dCutL] at e' <;> try (cases e'; done)
    cases e'
    obtain ⟨a0, xs, rfl, k1, k2⟩ := r3.lst
    exact ⟨a0, xs, rfl, .of k1, fun p hp => q _ _ _ p3 (x13.trans (.upd hp)) ⟨p, rfl, x13.new R hp, cell_new R3 hp (k2.cut l u)⟩⟩⟩⟩⟩
/-! ### xs[::-1], lists -/
def dRev : D → Option D
  | .list xs => some (.list xs.reverse)
  | _ => none
theorem vf_rev {k : Nat} {q1 q2 q3 : Pos} (ha : VB X n τ e wa) : VF X n τ (.Subscript e (.Slice none none (some (.UnaryOp .USub (.Constant (.int 1) k q1) q2)) q3) pos) (w1 dRev wa) :=
  PE.imp (pe_revL ha) fun σ H Q ⟨c, own, row, ρ, P, R, hw, q⟩ => ⟨c, own, row, ρ, _, R, hw, fun d v H1 h1 x1 r1 => by
    obtain ⟨d3, e3, p3⟩ := h1
    have R1 := R.mono x1
    cases d <;> simp only [dRev] at e3 <;> try (cases e3; done)
    cases e3
    obtain ⟨a0, xs, rfl, k1, k2⟩ := r1.lst
    exact ⟨a0, xs, rfl, .of k1, fun p hp => q _ _ _ p3 (x1.trans (.upd hp)) ⟨p, rfl, x1.new R hp, cell_new R1 hp k2.rev⟩⟩⟩
/-! ### zip -/
def zipD (xs ys : List D) : List D := (xs.zip ys).map fun p => .tuple [p.1, p.2]
theorem zipD_len (xs ys : List D) : (zipD xs ys).length = min xs.length ys.length := by unfold zipD; rw [List.length_map, List.length_zip]
theorem zipD_at {xs ys : List D} {i : Nat} {d : D} (h : (zipD xs ys)[i]? = some d) : ∃ x y, xs[i]? = some x ∧ ys[i]? = some y ∧ d = .tuple [x, y] := by
  unfold zipD at h
  rw [List.getElem?_map] at h
  obtain ⟨p, h1, rfl⟩ := Option.map_eq_some_iff.mp h
  obtain ⟨h2, h3⟩ := List.getElem?_zip_eq_some.mp h1
  exact ⟨_, _, h2, h3, rfl⟩
section
variable {F H : Hp}
theorem walk_zipL {a b : Addr} {xs ys : List V} {ds es : List D} (h : F a = some (.lst xs)) (r : RpA K F xs ds) (h' : F b = some (.lst ys)) (r' : RpA K F ys es) : Walk K F (Itz K a b) (zipD ds es) := by
  intro H2 p hs hn ht i
  have e : H2 a = some (.lst xs) := hid_le _ _ (hs _ _ h)
  have e' : H2 b = some (.lst ys) := hid_le _ _ (hs _ _ h')
  refine ⟨fun d hd => ?_, fun hi => ⟨xs, ys, .of e, .of e', by rw [zipD_len] at hi; rw [r.len, r'.len]; omega⟩⟩
  obtain ⟨x, y, hx, hy, rfl⟩ := zipD_at hd
  obtain ⟨v, h1, h2⟩ := r.get hx
  obtain ⟨u, h3, h4⟩ := r'.get hy
  refine ⟨⟨xs, ys, v, u, .of e, .of e', h1, h3⟩, fun z H3 q => ?_⟩
  obtain ⟨T, z1, z2, rfl, hT, rfl, q1, q2⟩ := q
  have e1 := q1 xs (.of e)
  have e2 := q2 ys (.of e')
  rw [h1] at e1
  rw [h3] at e2
  cases e1; cases e2
  exact ⟨same_upd hT, tup_new hs hn hT (.cons h2 (.cons h4 .nil))⟩
theorem walk_zipT {a b : Addr} {xs ys : List V} {ds es : List D} (h : F a = some (.tup xs)) (r : RpA K F xs ds) (h' : F b = some (.tup ys)) (r' : RpA K F ys es) : Walk K F (RZ.ItzT K a b) (zipD ds es) := by
  intro H2 p hs hn ht i
  have e : H2 a = some (.tup xs) := hid_le _ _ (hs _ _ h)
  have e' : H2 b = some (.tup ys) := hid_le _ _ (hs _ _ h')
  refine ⟨fun d hd => ?_, fun hi => ⟨xs, ys, .of e, .of e', by rw [zipD_len] at hi; rw [r.len, r'.len]; omega⟩⟩
  obtain ⟨x, y, hx, hy, rfl⟩ := zipD_at hd
  obtain ⟨v, h1, h2⟩ := r.get hx
  obtain ⟨u, h3, h4⟩ := r'.get hy
  refine ⟨⟨xs, ys, v, u, .of e, .of e', h1, h3⟩, fun z H3 q => ?_⟩
  obtain ⟨T, z1, z2, rfl, hT, rfl, q1, q2⟩ := q
  have e1 := q1 xs (.of e)
  have e2 := q2 ys (.of e')
  rw [h1] at e1
  rw [h3] at e2
  cases e1; cases e2
  exact ⟨same_upd hT, tup_new hs hn hT (.cons h2 (.cons h4 .nil))⟩
end
def wiZip (a : WA) : WI := fun ρ R => a ρ fun ds => ∃ xs ys, (ds = [.list xs, .list ys] ∨ ds = [.tuple xs, .tuple ys]) ∧ R (zipD xs ys)
theorem vi_zip {e2 : Expr} {wr : WA} {p tpos : Pos} {elts : List Expr} {kk : Nat} (hg : Gl X "zip") (hm : X.mg "zip" = none) (ha : VAs X n τ [e, e2] wr)
    (hs : starEach [e, e2] X.env = (false, eval e X.env) :: starEach [e2] X.env := by rfl) (hpl : (backTo pos (starEach [e2] X.env)).any (·.1) = false := by rfl) : VI X n τ (.Tuple elts kk tpos) (.Call (.Name "zip" p) [e, e2] [] pos) (wiZip wr) :=
  PI.imp (RZ.pi_zipA hg hm ha hs hpl) fun σ H R ⟨c, own, row, ρ, P, RSt, hw, q⟩ => ⟨c, own, row, ρ, _, RSt, hw, fun ds vs H1 h1 x1 r1 => by
    obtain ⟨xs, ys, h0, h1⟩ := h1
    rcases h0 with rfl | rfl
    · cases r1 with
      | cons r1 t => cases t with
        | cons r2 t =>
          cases t
          cases r1 with
          | lst k1 k2 => cases r2 with
            | lst k3 k4 => exact ⟨_, _, _, _, rfl, .inl ⟨.of (hid_le _ _ k1), .of (hid_le _ _ k3), q _ _ H1 h1 x1 (walk_zipL k1 k2 k3 k4)⟩⟩
    · cases r1 with
      | cons r1 t => cases t with
        | cons r2 t =>
          cases t
          cases r1 with
          | tup k1 k2 => cases r2 with
            | tup k3 k4 => exact ⟨_, _, _, _, rfl, .inr ⟨.of (hid_le _ _ k1), .of (hid_le _ _ k3), q _ _ H1 h1 x1 (walk_zipT k1 k2 k3 k4)⟩⟩⟩
/-! ### xs.index(x), xs a list -/
def idxD (d : D) : List D → Nat → Option Nat
  | [], _ => none
  | z :: r, j => if PyData.eqv z d = true then some j else idxD d r (j + 1)
theorem idxD_spec {d : D} : ∀ {ds : List D} {i j : Nat}, idxD d ds i = some j → ∃ m z, j = i + m ∧ ds[m]? = some z ∧ PyData.eqv z d = true ∧ ∀ (l : Nat) (z' : D), l < m → ds[l]? = some z' → PyData.eqv z' d = false
  | [], _, _, h => by simp [idxD] at h
  | z :: r, i, j, h => by
    unfold idxD at h
    split at h
    · rename_i hz
      cases h
      exact ⟨0, z, rfl, rfl, hz, fun l z' hl => absurd hl (Nat.not_lt_zero _)⟩
    · rename_i hz
      obtain ⟨m, y, h1, h2, h3, h4⟩ := idxD_spec h
      refine ⟨m + 1, y, by omega, by simpa using h2, h3, fun l z' hl hq => ?_⟩
      cases l with
      | zero => simp at hq; subst hq; simpa using hz
      | succ l => exact h4 l z' (by omega) (by simpa using hq)
def dIndex : D → D → Option D
  | .list ds, d => if SeqAt.shaped (.list ds) = true ∧ SeqAt.shaped d = true then (idxD d ds 0).map fun j => .int (j : Nat) else none
  | _, _ => none
def windex (a b : WE) : WE := fun ρ Q => a ρ fun d => ∃ ds, d = .list ds ∧ b ρ fun y => ∃ r, dIndex d y = some r ∧ Q r
theorem ve_index (hu : X.A.units + 65 < cLine) (ho : VB X n τ o wa) (ha : VB X n τ e we) (hbase : attributeBase o "index" X.env (eval o X.env) = eval o X.env := by rfl)
    (hfew : ((backTo cpos (starEach (e :: []) X.env)).all (fun x => !x.1) && (backToKw cpos (keywordEach [] X.env)).all (fun x => x.1.isSome)
      && decide ((e :: []).length + ([] : List Keyword).length + (if ([] : List Keyword).isEmpty then 0 else 1) < 30)) = true := by rfl)
    (hline : (apos.endLine == cpos.line) = true := by rfl) (hs : starEach (e :: []) X.env = (false, eval e X.env) :: starEach [] X.env := by rfl) (hplain : (backTo cpos (starEach [] X.env)).any (·.1) = false := by rfl) :
    VE X n τ (.Call (.Attribute o "index" apos) [e] [] cpos) (windex wa we) :=
  PE.imp (pe_bm PySem.F.plainAttrs_list PySem.F.slot_list_index PySem.F.type_list_index (mt_indexD hu) ho (pa_cons ha pa_nil hs) hbase hfew hline hs hplain) fun σ H Q ⟨c, own, row, ρ, P, R, hw, q⟩ => ⟨c, own, row, ρ, _, R, hw, fun d v H1 h1 x1 r1 => by
    have R1 := R.mono x1
    obtain ⟨ds, rfl, h1⟩ := h1
    obtain ⟨a0, xs, ev, k1, k2⟩ := r1.lst
    subst ev
    refine ⟨.inl ⟨rfl, xs, .of k1⟩, c, own, row, ρ, _, R1, h1, fun y u H2 h2 x2 r2 => ?_⟩
    obtain ⟨r, er, p2⟩ := h2
    have r1' := r1.ex R1.vw x2
    simp only [dIndex] at er
    split at er
    · rename_i hz
      obtain ⟨j, hj, rfl⟩ := Option.map_eq_some_iff.mp er
      obtain ⟨m, z, e1, e2, e3, e4⟩ := idxD_spec hj
      rw [Nat.zero_add] at e1
      subst e1
      exact ⟨a0, u, y, ds, j, z, rfl, rfl, r1'.dp hz.1, r2.dp hz.2, hz.1, hz.2, e2, e3, fun l z' hl hq => e4 l z' hl hq, q _ _ H2 p2 (x1.trans x2) (.int _)⟩
    · cases er⟩
end
end VS
/-! VAA: comparisons of nested data. -/
namespace VS
open PySem PySem.Spec PyProof.Rows L2
section
variable {X : Cx} {K : PySem.W.Frag}
def notNo : D → Bool
  | .none => false
  | _ => true
theorem notNo_ne {d : D} (h : notNo d = true) : d ≠ .none := fun e => by subst e; cases h
def cmpOk (x y : D) : Bool := PySem.W.alike x y && notNo x && SeqAt.shaped x && SeqAt.shaped y
theorem cmpOk_room {x y : D} {A : Around} (h : SeqAt.shaped x = true) (hu : A.units + 64 < cLine) : A.units + min x.depth y.depth < cLine := by
  unfold SeqAt.shaped at h
  rw [Bool.and_eq_true, decide_eq_true_eq] at h
  omega
def rCmpD (K : PySem.W.Frag) (f : D → D → Bool) : R2 := fun x y H Q => ∃ d e, Dp K H x d ∧ Dp K H y e ∧ cmpOk d e = true ∧ Q (.bl (f d e)) H
theorem op_ltD (hu : X.A.units + 64 < cLine) : OpR X (compareOp .Lt) (rCmpD X.K fun d e => PySem.W.dataLt d e) := by
  intro pins s σ H x y v u Q I rx ry h
  obtain ⟨d, e, hd, he, ok, q⟩ := h
  simp only [cmpOk, Bool.and_eq_true] at ok
  obtain ⟨⟨⟨o1, o2⟩, o3⟩, o4⟩ := ok
  obtain ⟨as, r1⟩ := Dp.reads I d x v hd rx
  obtain ⟨bs, r2⟩ := Dp.reads I e y u he ry
  exact PySem.W.lt_data r1 r2 o1 (notNo_ne o2) (cmpOk_room o3 hu) ⟨.bl _, H, I, rfl, q⟩
theorem op_gtD (hu : X.A.units + 64 < cLine) : OpR X (compareOp .Gt) (rCmpD X.K fun d e => PySem.W.dataLt e d) := by
  intro pins s σ H x y v u Q I rx ry h
  obtain ⟨d, e, hd, he, ok, q⟩ := h
  simp only [cmpOk, Bool.and_eq_true] at ok
  obtain ⟨⟨⟨o1, o2⟩, o3⟩, o4⟩ := ok
  obtain ⟨as, r1⟩ := Dp.reads I d x v hd rx
  obtain ⟨bs, r2⟩ := Dp.reads I e y u he ry
  exact PySem.W.gt_data r1 r2 o1 (notNo_ne o2) (cmpOk_room o3 hu) ⟨.bl _, H, I, rfl, q⟩
theorem op_leD (hu : X.A.units + 64 < cLine) : OpR X (compareOp .LtE) (rCmpD X.K fun d e => !PySem.W.dataLt e d) := by
  intro pins s σ H x y v u Q I rx ry h
  obtain ⟨d, e, hd, he, ok, q⟩ := h
  simp only [cmpOk, Bool.and_eq_true] at ok
  obtain ⟨⟨⟨o1, o2⟩, o3⟩, o4⟩ := ok
  obtain ⟨as, r1⟩ := Dp.reads I d x v hd rx
  obtain ⟨bs, r2⟩ := Dp.reads I e y u he ry
  exact PySem.W.le_data r1 r2 o1 (notNo_ne o2) (cmpOk_room o3 hu) ⟨.bl _, H, I, rfl, q⟩
theorem op_geD (hu : X.A.units + 64 < cLine) : OpR X (compareOp .GtE) (rCmpD X.K fun d e => !PySem.W.dataLt d e) := by
  intro pins s σ H x y v u Q I rx ry h
  obtain ⟨d, e, hd, he, ok, q⟩ := h
  simp only [cmpOk, Bool.and_eq_true] at ok
  obtain ⟨⟨⟨o1, o2⟩, o3⟩, o4⟩ := ok
  obtain ⟨as, r1⟩ := Dp.reads I d x v hd rx
  obtain ⟨bs, r2⟩ := Dp.reads I e y u he ry
  exact PySem.W.ge_data r1 r2 o1 (notNo_ne o2) (cmpOk_room o3 hu) ⟨.bl _, H, I, rfl, q⟩
def dCmpG (g : D → D → Option D) (f : D → D → Bool) : D → D → Option D := fun x y => match g x y with
  | some d => some d
  | none => if cmpOk x y = true then some (.bool (f x y)) else none
abbrev dLtG : D → D → Option D := dCmpG dLt fun d e => PySem.W.dataLt d e
abbrev dGtG : D → D → Option D := dCmpG dGt fun d e => PySem.W.dataLt e d
abbrev dLeG : D → D → Option D := dCmpG dLe fun d e => !PySem.W.dataLt e d
abbrev dGeG : D → D → Option D := dCmpG dGe fun d e => !PySem.W.dataLt d e
theorem g_cmpG {g : D → D → Option D} {r : R2} {f : D → D → Bool} (hg : G2 K g r) : G2 K (dCmpG g f) (fun x y H Q => r x y H Q ∨ rCmpD K f x y H Q) := by
  intro row p H x y dx dy d Q w hx hy e q
  unfold dCmpG at e
  split at e
  · rename_i d' e'
    cases e
    exact .inl (hg row p H x y dx dy d Q w hx hy e' q)
  · split at e
    · rename_i hz
      cases e
      have hz' := hz
      simp only [cmpOk, Bool.and_eq_true] at hz'
      exact .inr ⟨dx, dy, hx.dp hz'.1.2, hy.dp hz'.2, hz, q _ H .refl (.bl _)⟩
    · cases e
theorem o_ltG (hu : X.A.units + 64 < cLine) : OpR X (compareOp .Lt) (fun x y H Q => rI0 (fun i j => .bl (decide (i < j))) x y H Q ∨ rCmpD X.K (fun d e => PySem.W.dataLt d e) x y H Q) := op_lt.or (op_ltD hu)
theorem o_gtG (hu : X.A.units + 64 < cLine) : OpR X (compareOp .Gt) (fun x y H Q => rI0 (fun i j => .bl (decide (j < i))) x y H Q ∨ rCmpD X.K (fun d e => PySem.W.dataLt e d) x y H Q) := op_gt.or (op_gtD hu)
theorem o_geG (hu : X.A.units + 64 < cLine) : OpR X (compareOp .GtE) (fun x y H Q => rI0 (fun i j => .bl (decide (j ≤ i))) x y H Q ∨ rCmpD X.K (fun d e => !PySem.W.dataLt d e) x y H Q) := op_ge.or (op_geD hu)
theorem o_leG (hu : X.A.units + 64 < cLine) : OpR X (compareOp .LtE) (fun x y H Q => rLeA X.K x y H Q ∨ rCmpD X.K (fun d e => !PySem.W.dataLt e d) x y H Q) := (o_le (by omega)).or (op_leD hu)
theorem g_ltG : G2 K dLtG (fun x y H Q => rI0 (fun i j => .bl (decide (i < j))) x y H Q ∨ rCmpD K (fun d e => PySem.W.dataLt d e) x y H Q) := g_cmpG g_lt
theorem g_gtG : G2 K dGtG (fun x y H Q => rI0 (fun i j => .bl (decide (j < i))) x y H Q ∨ rCmpD K (fun d e => PySem.W.dataLt e d) x y H Q) := g_cmpG g_gt
theorem g_geG : G2 K dGeG (fun x y H Q => rI0 (fun i j => .bl (decide (j ≤ i))) x y H Q ∨ rCmpD K (fun d e => !PySem.W.dataLt d e) x y H Q) := g_cmpG g_ge
theorem g_leG : G2 K dLeG (fun x y H Q => rLeA K x y H Q ∨ rCmpD K (fun d e => !PySem.W.dataLt e d) x y H Q) := g_cmpG g_le
theorem dLtG_int (i j : Int) : dLtG (.int i) (.int j) = some (.bool (decide (i < j))) := rfl
theorem dGtG_int (i j : Int) : dGtG (.int i) (.int j) = some (.bool (decide (j < i))) := rfl
theorem dGeG_int (i j : Int) : dGeG (.int i) (.int j) = some (.bool (decide (j ≤ i))) := rfl
theorem dLeG_pair (a b c d : Int) : dLeG (.tuple [.int a, .int b]) (.tuple [.int c, .int d]) = some (.bool (decide (a < c ∨ (a = c ∧ b ≤ d)))) := by
  unfold dLeG dCmpG
  rw [dLe_pair]
theorem dLeG_int (i j : Int) : dLeG (.int i) (.int j) = some (.bool (decide (i ≤ j))) := rfl
end
end VS
/-! VAB: min, max of nested data. -/
namespace VS
open PySem PySem.Spec PyProof.Rows L2
section
variable {X : Cx} {K : PySem.W.Frag}
def alikeA (ds : List D) : Bool := ds.all (fun a => ds.all fun b => PySem.W.alike a b) && ds.all notNo && SeqAt.shaped (.list ds)
def minG : List D → D
  | [] => .none
  | x :: xs => PySem.W.minD x xs
def maxG : List D → D
  | [] => .none
  | x :: xs => PySem.W.maxD x xs
def rBest (K : PySem.W.Frag) (f : List D → D) : List V → Hp → VK → Prop := fun vs H Q => ∃ a xs ds F, vs = [V.ref a] ∧ (SqL K H a xs ∨ SqT K H a xs) ∧ RpA K F xs ds ∧ Same F H ∧ ds ≠ [] ∧ alikeA ds = true ∧ ∀ (i : Nat) v, xs[i]? = some v → ds[i]? = some (f ds) → Q v H
theorem best_fin {pins : List (Addr × Obj)} {σ : L2.St} {H : Hp} {s : Shared} {Q : VK} (I : Inv X pins σ H s) {xs : List V} {us : List Value} {ds : List D} {as : List Addr} {b : D} (rv : Vals xs us) (hr : ReadsAll s.heap us.toArray.toList ds as) (hc : PyData.canLayAll0 ds = true) (q : ∀ (i : Nat) v, xs[i]? = some v → ds[i]? = some b → Q v H)
    (i : Nat) (v : Value) (h' : Heap) (tk : Nat) (bs : List Addr) (hv : us.toArray[i]? = some v) (hb : Reads h' v b bs) (kp : ∀ b o, s.heap.get? b = some o → h'.get? b = some o) : EP X pins σ Q v { s with heap := h', toks := tk } := by
  obtain ⟨cs, r1, hi, hm, _⟩ := PySem.W.readsAll_atA hr i v hv
  have r2 := PyProof.Rows.Reads.keeps kp r1
  have hcm : (ds.getD i .none).canLay0 = true := by
    have : ∀ (l : List D) (d : D), PyData.canLayAll0 l = true → d ∈ l → d.canLay0 = true := by
      intro l
      induction l with
      | nil => intro d _ hd; cases hd
      | cons y l ih =>
        intro d hl hd
        rw [PyData.canLayAll0, Bool.and_eq_true] at hl
        rcases List.mem_cons.mp hd with rfl | hd
        · exact hl.1
        · exact ih d hl.2 hd
    exact this ds _ hc hm
  have e := SeqAt.Reads.unique _ _ v _ _ hcm r2 hb
  have hu : us[i]? = some v := by simpa using hv
  have hlen := rv.length
  have hil : i < us.length := (List.getElem?_eq_some_iff.mp hu).1
  have hx : xs[i]? = some (xs[i]'(by omega)) := List.getElem?_eq_getElem (by omega)
  obtain ⟨u, h1, h2⟩ := rv.get hx
  rw [hu] at h1
  cases h1
  refine ⟨xs[i]'(by omega), H, I.kept kp, h2, q i _ hx ?_⟩
  rw [← e, List.getD_eq_getElem?_getD, List.getElem?_eq_getElem hi]
  rfl
theorem alikeA_all {ds : List D} (h : alikeA ds = true) : PySem.W.AlikeAll ds ∧ SeqAt.shaped (.list ds) = true := by
  unfold alikeA at h
  simp only [Bool.and_eq_true, List.all_eq_true] at h
  exact ⟨⟨h.1.1, fun x hx => notNo_ne (h.1.2 x hx)⟩, h.2⟩
theorem depth_room {ds : List D} {A : Around} (h : SeqAt.shaped (.list ds) = true) (hu : A.units + 65 < cLine) : A.units + 1 + PyData.depthAll ds < cLine := by
  unfold SeqAt.shaped at h
  rw [Bool.and_eq_true, decide_eq_true_eq, PyData.depth] at h
  omega
theorem cr_minG (hu : X.A.units + 65 < cLine) (hc : X.calm = true) : CallR X (.builtin "min") (rBest X.K minG) := by
  intro pins s σ H vs us Q I r h
  obtain ⟨a, xs, ds, F, rfl, hs, hr, hF, hne, ok, q⟩ := h
  rw [Vals.ref1 r]
  obtain ⟨al, sh⟩ := alikeA_all ok
  have hcl : PyData.canLayAll0 ds = true := SeqAt.canLay_of_shaped sh
  cases ds with
  | nil => exact absurd rfl hne
  | cons x ds =>
    rcases hs with hs | hs
    · obtain ⟨its, rv, hl, hz⟩ := I.list hs
      obtain ⟨as, ra⟩ := Dp.readsAll I _ _ _ ((hr.mono hF).dp hcl) rv
      exact PySem.W.min_list_data (I.ok.hd hc) hl.isList ra al (depth_room sh hu) fun i v h' tk bs hv hb kp => best_fin I rv ra hcl q i v h' tk bs hv hb kp
    · obtain ⟨its, rv, hl, hz⟩ := I.tuple hs
      obtain ⟨as, ra⟩ := Dp.readsAll I _ _ _ ((hr.mono hF).dp hcl) rv
      exact PySem.W.min_tuple_data (I.ok.hd hc) hl ra al (depth_room sh hu) fun i v h' tk bs hv hb kp => best_fin I rv ra hcl q i v h' tk bs hv hb kp
theorem cr_maxG (hu : X.A.units + 65 < cLine) (hc : X.calm = true) : CallR X (.builtin "max") (rBest X.K maxG) := by
  intro pins s σ H vs us Q I r h
  obtain ⟨a, xs, ds, F, rfl, hs, hr, hF, hne, ok, q⟩ := h
  rw [Vals.ref1 r]
  obtain ⟨al, sh⟩ := alikeA_all ok
  have hcl : PyData.canLayAll0 ds = true := SeqAt.canLay_of_shaped sh
  cases ds with
  | nil => exact absurd rfl hne
  | cons x ds =>
    rcases hs with hs | hs
    · obtain ⟨its, rv, hl, hz⟩ := I.list hs
      obtain ⟨as, ra⟩ := Dp.readsAll I _ _ _ ((hr.mono hF).dp hcl) rv
      exact PySem.W.max_list_data (I.ok.hd hc) hl.isList ra al (depth_room sh hu) fun i v h' tk bs hv hb kp => best_fin I rv ra hcl q i v h' tk bs hv hb kp
    · obtain ⟨its, rv, hl, hz⟩ := I.tuple hs
      obtain ⟨as, ra⟩ := Dp.readsAll I _ _ _ ((hr.mono hF).dp hcl) rv
      exact PySem.W.max_tuple_data (I.ok.hd hc) hl ra al (depth_room sh hu) fun i v h' tk bs hv hb kp => best_fin I rv ra hcl q i v h' tk bs hv hb kp
/-- the best of a list or tuple: numbers as before, other alike data -/
def bestOf (f : List D → D) : List D → Option D
  | [d] => match seqD d with
    | some ds => if ds.isEmpty = false ∧ alikeA ds = true then some (f ds) else none
    | none => none
  | _ => none
def dBestG (g : List D → Option D) (f : List D → D) : List D → Option D := fun xs => match g xs with
  | some d => some d
  | none => bestOf f xs
theorem g_bestG {g : List D → Option D} {r : List V → Hp → VK → Prop} {f : List D → D} (hg : GA K g r) : GA K (dBestG g f) (fun xs H Q => r xs H Q ∨ rBest K f xs H Q) := by
  intro row p H xs dxs d Q w hx e q
  unfold dBestG at e
  split at e
  · rename_i d' e'
    cases e
    exact .inl (hg row p H xs dxs d Q w hx e' q)
  · match dxs, hx, e with
    | [d0], hx, e =>
      simp only [bestOf] at e
      split at e
      · rename_i ds es
        split at e
        · rename_i hz
          cases e
          obtain ⟨x, rfl, hb⟩ := hx.one
          have hne : ds ≠ [] := fun z => by rw [z] at hz; cases hz.1
          cases d0 <;> simp only [seqD] at es <;> try (cases es; done)
          · cases es
            obtain ⟨a, vs, rfl, k1, k2⟩ := hb.lst
            refine .inr ⟨a, vs, ds, _, rfl, .inl (.of k1), k2, hid_le, hne, hz.2, fun i v h1 h2 => ?_⟩
            obtain ⟨u, h3, h4⟩ := k2.get h2
            rw [h1] at h3; cases h3
            exact q v H .refl h4
          · cases es
            obtain ⟨a, vs, rfl, k1, k1', k2⟩ := hb.tup
            refine .inr ⟨a, vs, ds, _, rfl, .inr (.of k1), k2, hid_le, hne, hz.2, fun i v h1 h2 => ?_⟩
            obtain ⟨u, h3, h4⟩ := k2.get h2
            rw [h1] at h3; cases h3
            exact q v H .refl h4
        · cases e
      · cases e
abbrev dMinG : List D → Option D := dBestG dMin minG
abbrev dMaxG : List D → Option D := dBestG dMax maxG
theorem c_minG (hu : X.A.units + 65 < cLine) (hc : X.calm = true) : CallR X (.builtin "min") (fun xs H Q => rMinA X.K xs H Q ∨ rBest X.K minG xs H Q) := (c_min hc).or (cr_minG hu hc)
theorem c_maxG (hu : X.A.units + 65 < cLine) (hc : X.calm = true) : CallR X (.builtin "max") (fun xs H Q => rMaxA X.K xs H Q ∨ rBest X.K maxG xs H Q) := (c_max hc).or (cr_maxG hu hc)
theorem g_minG : GA K dMinG (fun xs H Q => rMinA K xs H Q ∨ rBest K minG xs H Q) := g_bestG g_min
theorem g_maxG : GA K dMaxG (fun xs H Q => rMaxA K xs H Q ∨ rBest K maxG xs H Q) := g_bestG g_max
theorem dMinG_two (i j : Int) : dMinG [.int i, .int j] = some (.int (if j < i then j else i)) := rfl
theorem dMaxG_two (i j : Int) : dMaxG [.int i, .int j] = some (.int (if j > i then j else i)) := rfl
end
end VS
/-! VAC: d.update(e). -/
namespace VS
open PySem PySem.Spec PyProof.Rows L2
section
variable {X : Cx} {K : PySem.W.Frag} {n : Nat} {τ τ' τ1 τb : List Ty} {e o : Expr} {we : WE} {pos apos cpos : Pos}
def rUpdD : V → List V → Hp → VK → Prop := fun x vs H Q => ∃ a b kvs more, x = .ref a ∧ vs = [.ref b] ∧ H a = some (.dK kvs) ∧ Rd H b (.dK more) ∧ a ≠ b ∧ kvs.length + more.length ≤ sizeLine ∧ Q .non (upd H a (.dK (mergeK kvs more)))
theorem mt_updD : MtR X "dict.update" rUpdD := by
  intro pins s σ H x vs v us Q I rx rv h
  obtain ⟨a, b, kvs, more, rfl, rfl, hA, hB, hne, hz, q⟩ := h
  cases rx
  rw [Vals.ref1 rv]
  obtain ⟨z, hd, ks, rel, dd⟩ := dk_of I.hok hA
  obtain ⟨z2, hd2, ms, rel2, dd2⟩ := dk_rd I.hok hB
  refine call_meetsIn PySem.F.slot_dict_update dd.typeIs PySem.F.entry_dict_update (PySem.F.args_dict_update_2 _ _) (meets_dict_update (mixKind X.prog X.w) a b hne hd2) ⟨ks, ms, dd, dd2, by rw [← rel.length, ← rel2.length]; exact hz, fun h' dd' _ hs => ?_⟩
  have he : ∃ q, h'.get? a = some q := let ⟨q, _, _, hq, _⟩ := dd'; ⟨q, hq⟩
  have hl := length_mergeK more kvs
  exact ⟨.non, _, d_write I (by rw [hA]; exact True.intro) hs he (dk_new (by omega) hd (rel2.merge rel) dd'), rfl, q⟩
/-- the entries of one dict behind those of another -/
def dmerge (ds es : List (D × D)) : List (D × D) := es.foldl (fun acc kv => dput acc kv.1 kv.2) ds
theorem RpK.merge {F : Hp} {more : List (Key × V)} {es : List (D × D)} (h : RpK K F more es) : ∀ {kvs : List (Key × V)} {ds : List (D × D)}, RpK K F kvs ds → RpK K F (mergeK kvs more) (dmerge ds es) := by
  match more, es, h with
  | [], [], .nil => intro kvs ds h2; exact h2
  | (k, v) :: more, (_, d) :: es, .cons r t =>
    intro kvs ds h2
    have h3 : RpK K F (putK kvs k v) (dput ds (keyD k) d) := h2.put r
    have h4 := RpK.merge t h3
    exact h4
def keysI (ds : List (D × D)) : Bool := ds.all fun kv => (keyOf kv.1).isSome
/-- x.update(e) -/
def wupd (i : Nat) (e : WE) : WS := fun k ρ => ∃ ds, eg ρ i = some (.dict ds) ∧ (dsplit ds).1 = false ∧ e ρ fun d => ∃ es, d = .dict es ∧ (dsplit es).1 = false ∧ ds.length + es.length ≤ sizeLine ∧ k.nx (put ρ i (.dict (dmerge ds es)))
theorem vs_update {i : Nat} (ho : PE X o (tVar i)) (he : VE X n τ e we) (ht : τ.getD i .fz = .ow := by rfl) (hi : i < n := by decide) (hbase : attributeBase o "update" X.env (eval o X.env) = eval o X.env := by rfl)
    (hfew : ((backTo cpos (starEach (e :: []) X.env)).all (fun x => !x.1) && (backToKw cpos (keywordEach [] X.env)).all (fun x => x.1.isSome)
      && decide ((e :: []).length + ([] : List Keyword).length + (if ([] : List Keyword).isEmpty then 0 else 1) < 30)) = true := by rfl)
    (hline : (apos.endLine == cpos.line) = true := by rfl) (hs : starEach (e :: []) X.env = (false, eval e X.env) :: starEach [] X.env := by rfl) (hplain : (backTo cpos (starEach [] X.env)).any (·.1) = false := by rfl) (hsw : swapsWith (.Call (.Attribute o "update" apos) [e] [] cpos) none pos.line X.env = pure false := by rfl) :
    VS1 X n τ τ τb (.Expr (.Call (.Attribute o "update" apos) [e] [] cpos) pos) (wupd i we) :=
  PS.imp (ps_expr (pe_bm PySem.F.plainAttrs_dict PySem.F.slot_dict_update PySem.F.type_dict_update mt_updD ho (pa_cons he pa_nil hs) hbase hfew hline hs hplain) hsw) fun Dd σ H ⟨c, own, row, ρ, k, R, hw, q1, _⟩ => by
    obtain ⟨ds, e1, e2, hw⟩ := hw
    obtain ⟨a, s1, s2, s3⟩ := R.own ht e1
    have hk : ∃ kvs, H a = some (.dK kvs) ∧ RpK X.K (hid H (hd c own row)) kvs ds := by
      rcases s3.dic with h | ⟨kvs, ds', _, rfl, _⟩
      · exact h
      · cases e2
    obtain ⟨kvs, h1, h2⟩ := hk
    refine ⟨.ref a, s1, .inr (.inr (.inl ⟨rfl, .inl ⟨kvs, h1⟩⟩)), c, own, row, ρ, _, R, hw, fun d v H' h3 x1 r => ?_⟩
    obtain ⟨es, rfl, e3, hz, h3⟩ := h3
    have R1 := R.mono x1
    have hA := x1.keep a _ (R.notrow s2) h1
    cases r with
    | dK k1 k2 =>
      rename_i b more
      have hb := hid_some.mp k1
      have hne : a ≠ b := fun z => by
        subst z
        have := hb.1
        rw [R1.hd_own s2] at this; cases this
      refine ⟨a, b, kvs, more, rfl, rfl, hA, .inl hb.2, hne, by rw [h2.len, k2.len]; exact hz, ?_⟩
      obtain ⟨R2, v2⟩ := R1.rewrite (u := .dK (mergeK kvs more)) (d := .dict (dmerge ds es)) ht hi s1 s2 trivial (.inr (.inl ⟨_, _, upd_same, RpK.merge k2 (h2.mono x1.vis), rfl⟩))
      exact q1 _ own row σ _ h3 R2 (Ex.then x1 v2)
    | dT k1 k2 => cases e3
end
end VS
/-! VAD: x += e on numbers; xs.pop(). -/
namespace VS
open PySem PySem.Spec PyProof.Rows L2
section
variable {X : Cx} {K : PySem.W.Frag} {o : Expr} {to : TE} {apos cpos : Pos}
def dAddI : D → D → Option D
  | .int i, .int j => some (.int (i + j))
  | _, _ => none
def dSubI : D → D → Option D
  | .int i, .int j => some (.int (i - j))
  | _, _ => none
theorem g_addI : G2 K dAddI (ipI fun i j => i + j) := by
  intro row p H x y dx dy d Q w hx hy e q
  cases dx <;> cases dy <;> simp only [dAddI] at e <;> try (cases e; done)
  cases e; exact ⟨_, _, hx.int, hy.int, q _ H .refl (.int _)⟩
theorem g_subI : G2 K dSubI (ipI fun i j => i - j) := by
  intro row p H x y dx dy d Q w hx hy e q
  cases dx <;> cases dy <;> simp only [dSubI] at e <;> try (cases e; done)
  cases e; exact ⟨_, _, hx.int, hy.int, q _ H .refl (.int _)⟩
theorem pe_pop (ho : PE X o to) (hbase : attributeBase o "pop" X.env (eval o X.env) = eval o X.env := by rfl) (hline : (apos.endLine == cpos.line) = true := by rfl) : PE X (.Call (.Attribute o "pop" apos) [] [] cpos) (tBM0 X.K "list" rPop to) :=
  pe_bm0 PySem.F.plainAttrs_list PySem.F.slot_list_pop PySem.F.type_list_pop mt_pop ho hbase hline
end
end VS
/-! VAE: sorted of a tuple; sorted of what comes. -/
namespace VS
open PySem PySem.Spec PyProof.Rows L2
section
variable {X : Cx}
def rSortT (K : PySem.W.Frag) : List V → Hp → VK → Prop := fun vs H Q => ∃ a xs ds F, vs = [.ref a] ∧ H a = some (.tup xs) ∧ RpA K F xs ds ∧ Same F H ∧ sortable ds = true ∧
  ∀ ys q, RpA K F ys (ds.mergeSort dle) → H q = none → Q (.ref q) (upd H q (.lst ys))
theorem c_sortT (hu : X.A.units + 64 < cLine) : CallR X (.builtin "sorted") (rSortT X.K) := by
  intro pins s σ H vs us Q I r h
  obtain ⟨a, xs, ds, F, rfl, hs, hr, hF, so, q⟩ := h
  obtain ⟨its, rv, ⟨o, ho, hc, n, hd⟩, hz⟩ := I.tuple (.of hs)
  rw [Vals.ref1 r]
  simp only [sortable, Bool.and_eq_true, Bool.or_eq_true, List.all_eq_true, decide_eq_true_eq] at so
  obtain ⟨⟨s1, s2⟩, s3⟩ := so
  have hl := rv.length
  refine Calls.call_function_entry PyProof.Rows.kind_sorted PyProof.Rows.plain_sorted PyProof.Rows.entry_sorted (PyProof.Rows.args_sorted1 _) ?_
  unfold Builtin.«sorted»
  refine wpAny_bind (m := checkCount "sorted" 1 1 _) (wpAny_pure (wpAny_bind (wpAny_collect_seq a (.inr rfl) ho hc hd (fun h' hk => ?_) (by rw [List.size_toArray]; omega))))
  have e0 : its.toArray.toList = its := by simp
  rw [e0]
  have hsz : its.length ≤ sizeLine := by omega
  have I1 : Inv X pins σ H { s with heap := h', toks := s.toks } := I.kept hk
  refine wpAny_bind (wpAny_newList ?_ hsz)
  have atL : (h'.push (seqObj "list" its.toArray 0)).get? h'.objs.size = some (seqObj "list" its.toArray 0) := Heap.get?_push_size _ rfl
  have hm := map_snd_zip hr
  have mem : ∀ b, b ∈ xs.zip ds → b.2 ∈ ds := fun b hb => by
    rw [← hm]; exact List.mem_map.mpr ⟨b, hb, rfl⟩
  have e := each_of rv hr fun d hd => (s3 d hd).1
  show wpAny _ _ _ _ _ { s with heap := h'.push (seqObj "list" its.toArray 0), toks := s.toks }
  refine wpAny_bind (wpAny_holding (PySem.W.list_sort_data (s := { s with heap := h'.push (seqObj "list" its.toArray 0), toks := s.toks }) (enc := Prod.snd) (bs := xs.zip ds) atL e (PySem.W.EachIs.mono (fun u b h => ?_) e) (by rw [hm]; exact fun d hd d' hd' => s1 d hd d' hd') ?_ ?_ (fun b hb => ?_) fun out hlen ho => ?_))
  · obtain ⟨as, rd⟩ := Dp.reads I1 b.2 b.1 u ((h.2.1.mono hF).dp h.2.2) h.1
    refine ⟨as, PyProof.Rows.Reads.keeps (fun _ _ z => Heap.get?_push_of_some _ z) rd, fun z => ?_⟩
    obtain ⟨o, ho⟩ := PyProof.On.reads_mem_get rd _ z
    exact Nat.lt_irrefl _ (Heap.lt_size ho)
  · rw [hm]
    rcases s2 with s2 | s2
    · refine .inl fun d hd => ?_
      have := s2 d hd
      cases d <;> try (cases this; done)
      rename_i ys
      cases ys with
      | nil => cases this
      | cons y ys => exact ⟨y, ys, rfl⟩
    · refine .inr fun d hd => ?_
      have := s2 d hd
      cases d <;> first | (cases this; done) | exact ⟨fun z => (nomatch z), fun _ z => (nomatch z)⟩
  · rw [List.length_zip, hr.len, Nat.min_self, ← hr.len, hl]; exact hsz
  · have := (s3 _ (mem b hb)).2
    show X.A.in1.units + 1 + _ < _
    have e1 : X.A.in1.units ≤ X.A.units + 1 := by first | exact Nat.le_refl _ | (simp [Around.in1])
    omega
  · obtain ⟨v1, v2⟩ := of_each ho
    have e1 : ((xs.zip ds).mergeSort (PySem.W.dataLe false Prod.snd)).map Prod.snd = ds.mergeSort dle :=
      (PySem.W.sort_maps (r := PySem.W.dataLe false Prod.snd) (s := dle) (l := xs.zip ds) Prod.snd (fun _ _ _ _ => rfl)).trans (by rw [hm])
    have v2' : RpA X.K F (((xs.zip ds).mergeSort (PySem.W.dataLe false Prod.snd)).map (·.1)) (ds.mergeSort dle) := by rw [← e1]; exact v2
    obtain ⟨ep, he'⟩ := PyProof.Rows.sortedHeap_at (vs := its) (out := out.toArray) atL
    have hlen' : (((xs.zip ds).mergeSort (PySem.W.dataLe false Prod.snd)).map (·.1)).length ≤ sizeLine := by
      rw [List.length_map, List.length_mergeSort, List.length_zip, hr.len, Nat.min_self, ← hr.len, hl]; exact hsz
    refine wpAny_pure ⟨_, rfl, .ref h'.objs.size, _, I1.laid (t' := s.toks) (fun b u eb => ?_) (Nat.le_refl _) (show ObjOk X.prog X.w _ _ _ (.lst _) from ⟨hlen', out, ep, v1, he'⟩), rfl, q _ _ v2' (I1.hok.fresh (Nat.le_refl _))⟩
    have hb : b < h'.objs.size := Heap.lt_size eb
    rw [PyProof.Rows.sortedHeap_old (Nat.ne_of_lt hb) (by rw [size_push']; exact Nat.lt_succ_of_lt hb)]
    exact Heap.get?_push_of_some _ eb
def dSortG : List D → Option D
  | [.list ds] => if sortable ds = true then some (.list (ds.mergeSort dle)) else none
  | [.tuple ds] => if sortable ds = true then some (.list (ds.mergeSort dle)) else none
  | [.dict ds] => dSortDic [.dict ds]
  | _ => none
theorem dSortG_list (ds : List D) : dSortG [.list ds] = dSorted [.list ds] := rfl
theorem dSortG_tup (ds : List D) : dSortG [.tuple ds] = dSorted [.list ds] := rfl
theorem dSortG_dic (ds : List (D × D)) : dSortG [.dict ds] = dSortDic [.dict ds] := rfl
def rSortG (K : PySem.W.Frag) : List V → Hp → VK → Prop := fun vs H Q => rSortA K vs H Q ∨ (rSortT K vs H Q ∨ rSortDic vs H Q)
theorem c_sortG (hu : X.A.units + 64 < cLine) (hc : X.calm = true) : CallR X (.builtin "sorted") (rSortG X.K) := (c_sorted hu).or ((c_sortT hu).or (c_sortdic hu hc))
theorem g_sortG {K : PySem.W.Frag} : GA K dSortG (rSortG K) := by
  intro row p H xs dxs d Q w hx e q
  match dxs, hx, e with
  | [.list ds], hx0, e => exact .inl (g_sorted row p H xs [.list ds] d Q w hx0 e q)
  | [.dict ds], hx0, e => exact .inr (.inr (g_sortdic row p H xs [.dict ds] d Q w hx0 e q))
  | [.tuple ds], hx0, e =>
    obtain ⟨x, rfl, hb⟩ := hx0.one
    simp only [dSortG] at e
    split at e
    · rename_i hz; cases e
      obtain ⟨a, vs, rfl, h1, _, h2⟩ := hb.tup
      exact .inr (.inl ⟨a, vs, ds, _, rfl, h1, h2, hid_le, hz, fun ys r h3 hr => q _ _ (.upd hr) (.lst (hid_upd (w.new r hr)) ((h3.mono ((Ex.upd (K := K) hr).vis' w))))⟩)
    · cases e
end
end VS
/-! VAF: a, b, c = x, y, z where a name is a cell. -/
namespace VS
open PySem PySem.Spec PyProof.Rows L2
section
variable {X : Cx} {n : Nat} {τ τb : List Ty} {a b cc : Expr} {wr : WA} {pos : Pos}
theorem vs_par3C {i j l : Nat} {t1 t2 t3 : Ty} {x y z : Str} {px py pz pt : Pos} {kt k2 : Nat} {pt2 : Pos} (hc : X.calm = true) (hN : X.N.Nodup) (hxi : X.N[i]? = some x) (hyj : X.N[j]? = some y) (hzl : X.N[l]? = some z) (hx : Loc X.env.scope x) (hy : Loc X.env.scope y) (hz : Loc X.env.scope z) (ha : VX X n τ [a, b, cc] [(i, t1), (j, t2), (l, t3)] wr)
    (hw : swappedStores [.Tuple [.Name x px, .Name y py, .Name z pz] kt pt] (.Tuple [a, b, cc] k2 pt2) X.env = pure none) (hs : swapsWithSole [.Tuple [.Name x px, .Name y py, .Name z pz] kt pt] (.Tuple [a, b, cc] k2 pt2) pos.line X.env = pure false := by rfl)
    (hi : i < n := by decide) (hj : j < n := by decide) (hl : l < n := by decide) (hti : i < τ.length := by decide) (htj : j < τ.length := by decide) (htl : l < τ.length := by decide)
    (hfx : X.fn x = true ∨ X.env.scope.names.lookup x = some .local := by first | exact .inl rfl | exact .inr rfl | assumption) (hfy : X.fn y = true ∨ X.env.scope.names.lookup y = some .local := by first | exact .inl rfl | exact .inr rfl | assumption) (hfz : X.fn z = true ∨ X.env.scope.names.lookup z = some .local := by first | exact .inl rfl | exact .inr rfl | assumption)
    (h1 : (assignEach [.Tuple [.Name x px, .Name y py, .Name z pz] kt pt] X.env).map (·.2) = [assign (.Tuple [.Name x px, .Name y py, .Name z pz] kt pt) X.env] := by rfl) (hn : (assignEach [.Name x px, .Name y py, .Name z pz] X.env).length = 3 := by rfl) (hst : (assignEach [.Name x px, .Name y py, .Name z pz] X.env).findIdx? (·.1) = none := by rfl)
    (hs1 : (assignEach [.Name x px, .Name y py, .Name z pz] X.env).map (·.2) = assign (.Name x px) X.env :: (assignEach [.Name y py, .Name z pz] X.env).map (·.2) := by rfl) (hs2 : (assignEach [.Name y py, .Name z pz] X.env).map (·.2) = assign (.Name y py) X.env :: (assignEach [.Name z pz] X.env).map (·.2) := by rfl) (hs3 : (assignEach [.Name z pz] X.env).map (·.2) = assign (.Name z pz) X.env :: (assignEach [] X.env).map (·.2) := by rfl) :
    VS1 X n τ (tset (tset (tset τ i t1) j t2) l t3) τb (.Assign [.Tuple [.Name x px, .Name y py, .Name z pz] kt pt] (.Tuple [a, b, cc] k2 pt2) pos) (wpar3 i j l wr) := by
  have hp : PS X (.Assign [.Tuple [.Name x px, .Name y py, .Name z pz] kt pt] (.Tuple [a, b, cc] k2 pt2) pos) (tAsg (tTup (rdXs X.K n τ [(i, t1), (j, t2), (l, t3)] wr)) (gTup X.K 3 (gCons (gName i) (gCons (gName j) (gCons (gName l) gNil))))) :=
    ps_asg (pe_tup ha) (pg_tup hc (pgs_cons (pg_name hN hxi hx hfx) (pgs_cons (pg_name hN hyj hy hfy) (pgs_cons (pg_name hN hzl hz hfz) pgs_nil hs3) hs2) hs1) hn hst) hs hw h1
  exact vs_par3P (PS.imp hp fun Dd σ H ⟨c, own, row, ρ, P, R, hw, q⟩ => ⟨c, own, row, ρ, P, R, hw, fun ds vs own' H' h1 h2 h3 h4 h5 h6 => by
    obtain ⟨u, v, w, rfl, e2⟩ := q ds vs own' H' h1 h2 h3 h4 h5 h6
    exact ⟨by show 3 ≤ sizeLine; decide, fun p hp => ⟨p, [u, v, w], rfl, .of upd_same, rfl, u, [v, w], rfl, v, [w], rfl, w, [], rfl, rfl, e2 _ (same_upd hp)⟩⟩⟩) hi hj hl hti htj htl
end
end VS
/-! VAG: len(set(..)). -/
namespace VS
open PySem PySem.Spec PyProof.Rows L2
section
variable {X : Cx} {n : Nat} {τ : List Ty} {a : Expr} {wa : WE} {pos : Pos}
def dlenset : D → Option D := fun d => match numsD d with
  | some ns => if ns.length ≤ 1000 then some (.int ((sortset ns).length : Nat)) else none
  | none => none
theorem same_len : ∀ {l m : List Int}, l.Nodup → m.Nodup → (∀ k, k ∈ l ↔ k ∈ m) → l.length = m.length := fun hl hm h => ((List.perm_ext_iff_of_nodup hl hm).mpr h).length_eq
theorem setR_len {w : World} {h : Heap} {a : Addr} {ns : List Int} {c : Nat} (R : SetR w h a (fun j => decide (j ∈ ns)) c) : c = (sortset ns).length := by
  obtain ⟨o, es, ep, t, ho, hex, hd, hg, hnd, hS, hsz, hf, hn, _⟩ := R
  have : (es.toList.map L2.keyOf).length = (sortset ns).length := same_len hnd ((sortset_lt ns).imp fun {a b} q e => by omega) fun k => by
    rw [← hS k, decide_eq_true_eq, sortset_mem]
  rw [List.length_map, Array.length_toList] at this
  omega
def rLenSet (w : World) : List V → Hp → VK → Prop := fun xs H Q => ∃ a ns c, xs = [.ref a] ∧ H a = some (SetO w a (fun j => decide (j ∈ ns)) c) ∧ Q (.int ((sortset ns).length : Nat)) H
theorem cr_lenSet : CallR X (.builtin "len") (rLenSet X.w) := by
  intro pins s σ H vs us Q I r h
  obtain ⟨a, ns, c, rfl, ha, q⟩ := h
  have R := setO_get I ha
  have hc := setR_len R
  rw [Vals.ref1 r]
  obtain ⟨o, es, ep, t, ho, hex, hd, hg, hnd, hS, hsz, hf, hn, _⟩ := R
  refine call_len_set ho hex hd hf (by unfold scanBound at hsz; omega) ⟨.int (es.size : Nat), H, I.tok _, ⟨_, rfl⟩, ?_⟩
  rw [hn, hc]
  exact q
theorem ve_lenset {p p2 q : Pos} (hc : X.calm = true) (hg : Gl X "len") (hm : X.mg "len" = none) (hg2 : Gl X "set") (hm2 : X.mg "set" = none) (ha : VB X n τ a wa)
    (hs : starEach (a :: []) X.env = (false, eval a X.env) :: starEach [] X.env := by rfl) (hs2 : ((backTo q (starEach [] X.env)).any fun x => x.fst) = false := by rfl)
    (hs3 : starEach (.Call (.Name "set" p2) [a] [] q :: []) X.env = (false, eval (.Call (.Name "set" p2) [a] [] q) X.env) :: starEach [] X.env := by rfl) (hs4 : ((backTo pos (starEach [] X.env)).any fun x => x.fst) = false := by rfl) :
    VE X n τ (.Call (.Name "len" p) [.Call (.Name "set" p2) [a] [] q] [] pos) (w1 dlenset wa) :=
  PE.imp (pe_callB cr_lenSet hg hm boot_len (pa_cons (pe_callTy (cr_setI hc) hg2 hm2 boot_set (pa_cons ha pa_nil hs) (by decide) (by decide) hs hs2) pa_nil hs3) (by decide) (by decide) hs3 hs4) fun σ H Q h => by
    obtain ⟨c, own, row, ρ, P, R, hw, qq⟩ := h
    refine ⟨c, own, row, ρ, _, R, hw, fun d v H1 h1 x1 r1 => ?_⟩
    obtain ⟨d3, e3, p3⟩ := h1
    have R1 := R.mono x1
    unfold dlenset at e3
    split at e3
    · rename_i ns en
      split at e3
      · rename_i h64
        cases e3
        obtain ⟨l, rfl, hl⟩ := nums_bo (p := hd c own row) r1 en
        refine ⟨l, ns, rfl, hl, h64, fun s c' hs' hc' => ?_⟩
        have x2 : Ex X.K row H1 (upd H1 s (SetO X.w s (fun j => decide (j ∈ ns)) c')) := .upd hs'
        exact ⟨s, ns, c', rfl, upd_same, qq _ _ _ p3 (x1.trans x2) (.int _)⟩
      · cases e3
    · cases e3
end
end VS
/-! VAH: chains of three comparisons. -/
namespace VS
open PySem PySem.Spec PyProof.Rows L2
section
variable {X : Cx} {n : Nat} {τ : List Ty} {a b cc d4 : Expr} {ta tb tc td : TE} {wa wb wc wd : WE} {pos : Pos}
def tChain3 (r r' r'' : R2) (ta tb tc td : TE) : TE := fun σ H Q => ta σ H fun x H1 => tb σ H1 fun y H2 => r x y H2 fun z H3 => ∃ k, z = .bl k ∧
  (if k = true then tc σ H3 fun w H4 => r' y w H4 fun z' H5 => ∃ k', z' = .bl k' ∧ (if k' = true then td σ H5 fun u H6 => r'' w u H6 Q else Q (.bl false) H5) else Q (.bl false) H3)
theorem pe_chain3 {op op' op'' : CmpOp} {r r' r'' : R2} (ho : OpR X (compareOp op) r) (ho' : OpR X (compareOp op') r') (ho'' : OpR X (compareOp op'') r'') (ha : PE X a ta) (hb : PE X b tb) (hc : PE X cc tc) (hd : PE X d4 td)
    (hm : lastMarks [op, op', op''] [b, cc, d4] = false := by with_unfolding_all rfl) : PE X (.Compare a [op, op', op''] [b, cc, d4] pos) (tChain3 r r' r'' ta tb tc td) := by
  refine ⟨fun pins s σ H Q I h => ?_⟩
  refine Compare_chain (thn (ha.run pins s σ H _ I h) fun v s1 ⟨x, H1, I1, r1, q1⟩ => chain_link (thn (hb.run pins s1 σ H1 _ I1 q1) fun u s2 ⟨y, H2, I2, r2, q2⟩ =>
    thn (ho pins s2 σ H2 x y v u _ I2 r1 r2 q2) fun d s3 ⟨z, H3, I3, r3, k, e, q3⟩ => ?_)) hm
  subst e
  cases r3
  refine wpAny_truthy_bool ?_
  cases k with
  | false => exact ite_ff ⟨.bl false, H3, I3, rfl, q3⟩
  | true =>
    refine ite_tt (chain_link (thn (hc.run pins s3 σ H3 _ I3 q3) fun w' s4 ⟨z', H4, I4, r4, q4⟩ => thn (ho' pins s4 σ H4 y z' u w' _ I4 r2 r4 q4) fun d' s5 ⟨z2, H5, I5, r5, k2, e2, q5⟩ => ?_))
    subst e2
    cases r5
    refine wpAny_truthy_bool ?_
    cases k2 with
    | false => exact ite_ff ⟨.bl false, H5, I5, rfl, q5⟩
    | true => exact ite_tt (chain_last (thn (hd.run pins s5 σ H5 _ I5 q5) fun w2 s6 ⟨z3, H6, I6, r6, q6⟩ => ho'' pins s6 σ H6 z' z3 w' w2 Q I6 r4 r6 q6))
theorem pt_chain3 {op op' op'' : CmpOp} {r r' r'' : R2} (ho : OpR X (compareOp op) r) (ho' : OpR X (compareOp op') r') (ho'' : OpR X (compareOp op'') r'') (ha : PE X a ta) (hb : PE X b tb) (hc : PE X cc tc) (hd : PE X d4 td)
    (hm : lastMarks [op, op', op''] [b, cc, d4] = false := by with_unfolding_all rfl) : PT X (.Compare a [op, op', op''] [b, cc, d4] pos) (tTest (tChain3 r r' r'' ta tb tc td)) := by
  refine ⟨fun pins s σ H Q I h => ?_⟩
  refine isTrue_chain (thn (ha.run pins s σ H _ I h) fun v s1 ⟨x, H1, I1, r1, q1⟩ => test_link (thn (hb.run pins s1 σ H1 _ I1 q1) fun u s2 ⟨y, H2, I2, r2, q2⟩ =>
    thn (ho pins s2 σ H2 x y v u _ I2 r1 r2 q2) fun d s3 ⟨z, H3, I3, r3, k, e, q3⟩ => ?_)) hm
  subst e
  cases r3
  refine wpAny_truthy_bool ?_
  cases k with
  | false =>
    obtain ⟨k', e', q'⟩ := q3
    cases e'
    exact ite_ff ⟨H3, I3, q'⟩
  | true =>
    refine ite_tt (test_link (thn (hc.run pins s3 σ H3 _ I3 q3) fun w' s4 ⟨z', H4, I4, r4, q4⟩ => thn (ho' pins s4 σ H4 y z' u w' _ I4 r2 r4 q4) fun d' s5 ⟨z2, H5, I5, r5, k2, e2, q5⟩ => ?_))
    subst e2
    cases r5
    refine wpAny_truthy_bool ?_
    cases k2 with
    | false =>
      obtain ⟨k', e', q'⟩ := q5
      cases e'
      exact ite_ff ⟨H5, I5, q'⟩
    | true =>
      refine ite_tt (test_last (thn (hd.run pins s5 σ H5 _ I5 q5) fun w2 s6 ⟨z3, H6, I6, r6, q6⟩ => thn (ho'' pins s6 σ H6 z' z3 w' w2 _ I6 r4 r6 q6) fun d2 s7 ⟨z4, H7, I7, r7, k3, e3, q7⟩ => ?_))
      subst e3
      cases r7
      exact wpAny_truthy_bool ⟨H7, I7, q7⟩
def wchain3 (g g' g'' : D → D → Option D) (a b c d : WE) : WE := fun ρ Q => a ρ fun x => b ρ fun y => ∃ z, g x y = some z ∧ ∃ k, z = .bool k ∧ if k = true then c ρ fun u => ∃ z', g' y u = some z' ∧ ∃ k', z' = .bool k' ∧ if k' = true then d ρ fun v => ∃ e, g'' u v = some e ∧ Q e else Q (.bool false) else Q (.bool false)
theorem chain3_imp {r r' r'' : R2} {g g' g'' : D → D → Option D} (hg : G2 X.K g r) (hg' : G2 X.K g' r') (hg'' : G2 X.K g'' r'') (σ : L2.St) (H : Hp) (Q : VK) (h : rdE X.K n τ (wchain3 g g' g'' wa wb wc wd) σ H Q) : tChain3 r r' r'' (rdB X.K n τ wa) (rdB X.K n τ wb) (rdB X.K n τ wc) (rdB X.K n τ wd) σ H Q := by
  obtain ⟨c, own, row, ρ, P, R, hw, q⟩ := h
  refine ⟨c, own, row, ρ, _, R, hw, fun d v H1 h1 x1 r1 => ⟨c, own, row, ρ, _, R.mono x1, h1, fun d2 v2 H2 h2 x2 r2 => ?_⟩⟩
  obtain ⟨z, e3, k, rfl, h2⟩ := h2
  have R2 := (R.mono x1).mono x2
  refine hg row _ H2 v v2 d d2 (.bool k) _ R2.vw (r1.ex (R.mono x1).vw x2) r2 e3 fun v3 H3 x3 r3 => ?_
  cases r3
  refine ⟨k, rfl, ?_⟩
  cases k with
  | true =>
    rw [if_pos rfl] at h2
    refine iteT ⟨c, own, row, ρ, _, R2.mono x3, h2, fun d4 v4 H4 h4 x4 r4 => ?_⟩
    obtain ⟨z5, e5, k5, rfl, p5⟩ := h4
    have R4 := (R2.mono x3).mono x4
    refine hg' row _ H4 v2 v4 d2 d4 (.bool k5) _ R4.vw (r2.ex R2.vw (x3.trans x4)) r4 e5 fun v5 H5 x5 r5 => ?_
    cases r5
    refine ⟨k5, rfl, ?_⟩
    cases k5 with
    | true =>
      rw [if_pos rfl] at p5
      refine iteT ⟨c, own, row, ρ, _, R4.mono x5, p5, fun d6 v6 H6 h6 x6 r6 => ?_⟩
      obtain ⟨d7, e7, p7⟩ := h6
      exact hg'' row _ H6 v4 v6 d4 d6 d7 Q ((R4.mono x5).mono x6).vw (r4.ex R4.vw (x5.trans x6)) r6 e7 fun v7 H7 x7 r7 => q d7 v7 H7 p7 (x1.trans (x2.trans (x3.trans (x4.trans (x5.trans (x6.trans x7)))))) r7
    | false =>
      rw [if_neg Bool.false_ne_true] at p5
      exact iteF (q _ _ _ p5 (x1.trans (x2.trans (x3.trans (x4.trans x5)))) (.bl false))
  | false =>
    rw [if_neg Bool.false_ne_true] at h2
    exact iteF (q _ _ _ h2 (x1.trans (x2.trans x3)) (.bl false))
theorem ve_chain3 {op op' op'' : CmpOp} {r r' r'' : R2} {g g' g'' : D → D → Option D} (ho : OpR X (compareOp op) r) (hg : G2 X.K g r) (ho' : OpR X (compareOp op') r') (hg' : G2 X.K g' r') (ho'' : OpR X (compareOp op'') r'') (hg'' : G2 X.K g'' r'') (ha : VB X n τ a wa) (hb : VB X n τ b wb) (hc : VB X n τ cc wc) (hd : VB X n τ d4 wd)
    (hm : lastMarks [op, op', op''] [b, cc, d4] = false := by with_unfolding_all rfl) : VE X n τ (.Compare a [op, op', op''] [b, cc, d4] pos) (wchain3 g g' g'' wa wb wc wd) := PE.imp (pe_chain3 ho ho' ho'' ha hb hc hd hm) fun σ H Q h => chain3_imp hg hg' hg'' σ H Q h
theorem vt_chain3 {op op' op'' : CmpOp} {r r' r'' : R2} {g g' g'' : D → D → Option D} (ho : OpR X (compareOp op) r) (hg : G2 X.K g r) (ho' : OpR X (compareOp op') r') (hg' : G2 X.K g' r') (ho'' : OpR X (compareOp op'') r'') (hg'' : G2 X.K g'' r'') (ha : VB X n τ a wa) (hb : VB X n τ b wb) (hc : VB X n τ cc wc) (hd : VB X n τ d4 wd)
    (hm : lastMarks [op, op', op''] [b, cc, d4] = false := by with_unfolding_all rfl) : VT X n τ (.Compare a [op, op', op''] [b, cc, d4] pos) (wtest (wchain3 g g' g'' wa wb wc wd)) := PT.imp (pt_chain3 ho ho' ho'' ha hb hc hd hm) fun σ H Q h => by
  obtain ⟨c, own, row, ρ, P, R, hw, q⟩ := h
  refine chain3_imp hg hg' hg'' σ H _ ⟨c, own, row, ρ, _, R, hw, fun d v H1 h1 x1 r1 => ?_⟩
  obtain ⟨k, rfl, h1⟩ := h1
  cases r1
  exact ⟨k, rfl, q k H1 h1 x1⟩
end
end VS
/-! VSM2: what holds of nets, near lists, nice data. -/
namespace VS
open PySem PySem.Spec
def encE (f : Nat × Nat → D) (q : (Nat × Nat) × Nat) : D := .tuple [natD q.2, f q.1]
theorem enumD_pr (ps : List (Nat × Nat)) : enumD (ps.map duoD) = ps.zipIdx.map (encE duoD) := by
  unfold enumD
  rw [List.zipIdx_map, List.map_map]
  rfl
def natL (xs : List Nat) : D := .list (xs.map natD)
def accL (ps : List (Nat × Nat)) (v : Nat) : List Nat := ps.flatMap fun p => if p.1 = v then [p.2] else if p.2 = v then [p.1] else []
theorem accL_len (ps : List (Nat × Nat)) (v : Nat) : (accL ps v).length ≤ ps.length := by
  induction ps with
  | nil => simp [accL]
  | cons p ps ih =>
    unfold accL at ih ⊢
    rw [List.flatMap_cons, List.length_append, List.length_cons]
    split
    · simp only [List.length_cons, List.length_nil]; omega
    · split
      · simp only [List.length_cons, List.length_nil]; omega
      · simp only [List.length_nil]; omega
theorem accL_snoc (ps : List (Nat × Nat)) (p : Nat × Nat) (v : Nat) : accL (ps ++ [p]) v = accL ps v ++ (if p.1 = v then [p.2] else if p.2 = v then [p.1] else []) := by
  unfold accL
  rw [List.flatMap_append]
  simp
theorem accL_nodup {N : Net} (h : N.Ok) (v : Nat) : (accL N.ps v).Nodup := by
  unfold accL List.Nodup
  rw [List.pairwise_flatMap]
  refine ⟨fun p hp => ?_, List.pairwise_iff_getElem.mpr fun i j hi hj hij => ?_⟩
  · split
    · simp
    · split <;> simp
  · have hlt := List.pairwise_iff_getElem.mp h.srt i j hi hj hij
    have hi2 := h.prs _ (List.getElem_mem hi)
    have hj2 := h.prs _ (List.getElem_mem hj)
    generalize N.ps[i] = p at *
    generalize N.ps[j] = q at *
    unfold lexlt at hlt
    intro x hx y hy
    split at hx
    · split at hy
      · simp at hx hy; omega
      · split at hy
        · simp at hx hy; omega
        · simp at hy
    · split at hx
      · split at hy
        · simp at hx hy; omega
        · split at hy
          · simp at hx hy; omega
          · simp at hy
      · simp at hx
theorem accL_mem {N : Net} (h : N.Ok) (v k : Nat) : k ∈ accL N.ps v ↔ k ∈ near N v := by
  unfold accL near adj
  rw [List.mem_flatMap, List.mem_filter, List.mem_range, List.any_eq_true]
  constructor
  · rintro ⟨p, hp, hk⟩
    have := h.prs p hp
    split at hk
    · simp at hk; subst hk; exact ⟨this.2, p, hp, by simp [*]⟩
    · split at hk
      · simp at hk; subst hk; exact ⟨by omega, p, hp, by simp [*]⟩
      · simp at hk
  · rintro ⟨hk, p, hp, e⟩
    refine ⟨p, hp, ?_⟩
    have := h.prs p hp
    simp only [Bool.or_eq_true, Bool.and_eq_true, beq_iff_eq] at e
    rcases e with ⟨e1, e2⟩ | ⟨e1, e2⟩
    · rw [if_pos e1]; simp [e2]
    · rw [if_neg (by omega), if_pos e2]; simp [e1]
theorem near_lt (N : Net) (v : Nat) : (near N v).Pairwise (· < ·) := List.Pairwise.filter _ List.pairwise_lt_range
theorem accL_sort {N : Net} (h : N.Ok) (v : Nat) : (accL N.ps v).mergeSort natle = near N v := sort_nat_eq (accL_nodup h v) (near_lt N v) (accL_mem h v)
theorem ixN_nat {n i : Nat} (h : i < n) : L2.ixN n (i : Int) = some i := by
  unfold L2.ixN
  rw [if_pos (by omega), if_pos (by omega)]; simp
def nearD (N : Net) : D := .list ((List.range N.n).map fun v => natL (near N v))
def foundD (N : Net) (pre : List (Nat × Nat)) : List D := (List.range N.n).map fun v => natL (accL pre v)
theorem foundD_step (N : Net) (pre : List (Nat × Nat)) (p : Nat × Nat) (h1 : p.1 < p.2) (h2 : p.2 < N.n) :
    (((foundD N pre).set p.1 (.list ((accL pre p.1).map natD ++ [natD p.2]))).set p.2 (.list ((accL pre p.2).map natD ++ [natD p.1]))) = foundD N (pre ++ [p]) := by
  unfold foundD
  apply List.ext_getElem
  · simp
  · intro i hi hi2
    simp only [List.length_set, List.length_map, List.length_range] at hi
    rw [List.getElem_set, List.getElem_set]
    simp only [List.getElem_map, List.getElem_range, accL_snoc, natL]
    by_cases e2 : p.2 = i
    · subst e2
      rw [if_pos rfl, if_neg (by omega), if_pos rfl]; simp
    · rw [if_neg e2]
      by_cases e1 : p.1 = i
      · subst e1; rw [if_pos rfl, if_pos rfl]; simp
      · rw [if_neg e1, if_neg e1, if_neg e2]; simp
mutual
def niceD : D → Bool
  | .list xs => decide (xs.length ≤ 1000) && niceA xs
  | .tuple xs => decide (xs.length ≤ 1000) && niceA xs
  | .dict _ => false
  | .str x => PyData.canLay0 (.str x)
  | _ => true
def niceA : List D → Bool
  | [] => true
  | x :: xs => niceD x && niceA xs
end
theorem niceA_mem : ∀ {xs : List D} {x : D}, niceA xs = true → x ∈ xs → niceD x = true
  | y :: ys, x, h, hx => by
    rw [niceA, Bool.and_eq_true] at h
    rcases List.mem_cons.mp hx with rfl | hx
    · exact h.1
    · exact niceA_mem h.2 hx
mutual
theorem nice_lay : ∀ x : D, niceD x = true → x.canLay0 = true
  | .none, _ => rfl
  | .bool _, _ => rfl
  | .int _, _ => rfl
  | .str x, h => by rw [niceD] at h; exact h
  | .list xs, h => by rw [niceD, Bool.and_eq_true] at h; exact niceA_lay xs h.2
  | .tuple xs, h => by rw [niceD, Bool.and_eq_true] at h; exact niceA_lay xs h.2
  | .dict _, h => by simp [niceD] at h
theorem niceA_lay : ∀ x : List D, niceA x = true → PyData.canLayAll0 x = true
  | [], _ => rfl
  | x :: xs, h => by
    rw [niceA, Bool.and_eq_true] at h
    rw [PyData.canLayAll0, nice_lay x h.1, niceA_lay xs h.2]; rfl
end
theorem depthAll_mem : ∀ {xs : List D} {x : D}, x ∈ xs → x.depth ≤ PyData.depthAll xs
  | y :: ys, x, h => by
    rw [PyData.depthAll]
    rcases List.mem_cons.mp h with rfl | h
    · omega
    · have := depthAll_mem h; omega
def toI (xs : List Nat) : List Int := xs.map Int.ofNat
theorem natL_toI (xs : List Nat) : natL xs = .list ((toI xs).map intD) := by
  unfold natL toI
  rw [List.map_map]; rfl
theorem niceA_ints (xs : List Int) : niceA (xs.map intD) = true := by
  induction xs with
  | nil => rfl
  | cons x xs ih => rw [List.map_cons, niceA, ih]; rfl
theorem depthA_ints (xs : List Int) : PyData.depthAll (xs.map intD) = 0 := by
  induction xs with
  | nil => rfl
  | cons x xs ih => rw [List.map_cons, PyData.depthAll, ih]; rfl
theorem nice_ints {xs : List Int} (h : xs.length ≤ 1000) : niceD (.list (xs.map intD)) = true := by
  rw [niceD, niceA_ints, List.length_map, Bool.and_true, decide_eq_true_eq]; exact h
theorem depth_ints (xs : List Int) : (PyData.list (xs.map intD)).depth = 1 := by
  rw [PyData.depth, depthA_ints]
theorem niceA_nats (xs : List Nat) : niceA (xs.map natD) = true := by
  induction xs with
  | nil => rfl
  | cons x xs ih => rw [List.map_cons, niceA, ih]; rfl
theorem depthA_nats (xs : List Nat) : PyData.depthAll (xs.map natD) = 0 := by
  induction xs with
  | nil => rfl
  | cons x xs ih => rw [List.map_cons, PyData.depthAll, ih]; rfl
theorem nice_natL {xs : List Nat} (h : xs.length ≤ 1000) : niceD (natL xs) = true := by
  unfold natL
  rw [niceD, niceA_nats, List.length_map, Bool.and_true, decide_eq_true_eq]; exact h
theorem depth_natL (xs : List Nat) : (natL xs).depth = 1 := by
  unfold natL
  rw [PyData.depth, depthA_nats]
theorem near_len (N : Net) (v : Nat) : (near N v).length ≤ N.n := by
  unfold near
  have := List.length_filter_le (adj N v) (List.range N.n)
  rwa [List.length_range] at this
/-! drawn lists -/
theorem wcl_any {α β : Type} {g : WG} {we : WE} {ρ : Env} (enc : α → D) (e2 : β → D) (P : β → Prop) : ∀ (xs : List α) (acc : List D) (Q : List D → Prop), (∀ x ∈ xs, ∀ (Qt : D → Prop), (∀ y, P y → Qt (e2 y)) → g (enc x) ρ fun ρ' => we ρ' Qt) →
    (∀ ys : List β, ys.length = xs.length → (∀ y ∈ ys, P y) → Q (acc ++ ys.map e2)) → wcl g wyes we ρ (xs.map enc) acc Q
  | [], acc, Q, _, q => by
    have := q [] rfl (fun _ h => nomatch h)
    exact (show Q acc by simpa using this)
  | x :: xs, acc, Q, h, q => by
    show g (enc x) ρ fun ρ' => if true = true then we ρ' (fun y => wcl g wyes we ρ (xs.map enc) (acc ++ [y]) Q) else wcl g wyes we ρ (xs.map enc) acc Q
    simp only [if_true]
    refine h x (List.mem_cons_self ..) _ fun y hy => ?_
    refine wcl_any enc e2 P xs _ Q (fun x hx => h x (List.mem_cons_of_mem _ hx)) fun ys h1 h2 => ?_
    have := q (y :: ys) (by simp [h1]) (fun z hz => by
      rcases List.mem_cons.mp hz with rfl | hz
      · exact hy
      · exact h2 z hz)
    simpa using this
/-! rows of heights -/
def rowD (hs : List Int) : D := .tuple (hs.map intD)
structure RowOk (n : Nat) (hs : List Int) : Prop where
  len : hs.length = n
  bnd : ∀ h ∈ hs, -99 ≤ h ∧ h ≤ 99
/-! dicts of pairs -/
def pEnt (p : Nat × Nat) : D × D := (duoD p, .bool true)
def pDic (ps : List (Nat × Nat)) : D := .dict ((.none, .none) :: ps.map pEnt)
def pAdd (ps : List (Nat × Nat)) (p : Nat × Nat) : List (Nat × Nat) := if p ∈ ps then ps else ps ++ [p]
theorem duo_eqv (p q : Nat × Nat) : PyData.eqv (duoD p) (duoD q) = decide (p = q) := by
  obtain ⟨a, b⟩ := p
  obtain ⟨c, d⟩ := q
  simp only [duoD, natD, PyData.eqv, PyData.eqvAll, Bool.and_true]
  by_cases h1 : a = c
  · by_cases h2 : b = d
    · simp [h1, h2]
    · simp [h1, h2]; omega
  · simp [h1]; omega
theorem pDic_put (ps : List (Nat × Nat)) (p : Nat × Nat) (h : ps.length ≤ 1000) : dputD ((.none, .none) :: ps.map pEnt) (duoD p) (.bool true) = some ((.none, .none) :: (pAdd ps p).map pEnt) := by
  unfold dputD
  show (if (dkeyOk true (duoD p) = true ∧ (ps.map pEnt).length < sizeLine) then some (if true = true then (PyData.none, PyData.none) :: dput (ps.map pEnt) (duoD p) (.bool true) else dput (ps.map pEnt) (duoD p) (.bool true)) else none) = _
  rw [if_pos ⟨rfl, by rw [List.length_map]; exact Nat.lt_of_le_of_lt h (by decide)⟩, if_pos rfl]
  congr 2
  unfold dput pAdd
  have e1 : (ps.map pEnt).any (fun kv => PyData.eqv kv.1 (duoD p)) = decide (p ∈ ps) := by
    rw [List.any_map]
    induction ps with
    | nil => simp
    | cons q ps ih =>
      have h' : ps.length ≤ 1000 := by rw [List.length_cons] at h; omega
      rw [List.any_cons, ih h']
      show (PyData.eqv (duoD q) (duoD p) || _) = _
      rw [duo_eqv]
      by_cases e : q = p
      · subst e; simp
      · have e' : p ≠ q := fun z => e z.symm
        simp [e, e']
  rw [e1]
  by_cases hp : p ∈ ps
  · rw [if_pos (by simpa using hp), if_pos hp]
    refine (List.map_congr_left fun x hx => ?_).trans (List.map_id _)
    obtain ⟨q, hq, rfl⟩ := List.mem_map.mp hx
    show (if _ then (duoD q, PyData.bool true) else pEnt q) = id (pEnt q)
    split <;> rfl
  · rw [if_neg (by simpa using hp), if_neg hp, List.map_append]
    rfl
theorem pAdd_nodup {ps : List (Nat × Nat)} {p : Nat × Nat} (h : ps.Nodup) : (pAdd ps p).Nodup := by
  unfold pAdd
  split
  · exact h
  · rename_i hp
    exact List.nodup_append.mpr ⟨h, by simp, fun a ha b hb => by simp at hb; subst hb; exact fun z => hp (z ▸ ha)⟩
theorem pAdd_mem {ps : List (Nat × Nat)} {p q : Nat × Nat} : q ∈ pAdd ps p ↔ q ∈ ps ∨ q = p := by
  unfold pAdd
  split
  · rename_i hp
    constructor
    · exact .inl
    · rintro (h | rfl)
      · exact h
      · exact hp
  · simp
theorem pAdd_len (ps : List (Nat × Nat)) (p : Nat × Nat) : (pAdd ps p).length ≤ ps.length + 1 := by
  unfold pAdd
  split
  · omega
  · simp
theorem pDic_sorted (ps : List (Nat × Nat)) : dSortDic [pDic ps] = some (.list ((ps.mergeSort lexle).map duoD)) := by
  have e : (ps.map pEnt).map (·.1) = ps.map duoD := by rw [List.map_map]; rfl
  have h := sorted_pr ps
  unfold dSorted at h
  show (if sortable ((ps.map pEnt).map (·.1)) = true then some (PyData.list (((ps.map pEnt).map (·.1)).mergeSort dle)) else none) = _
  rw [e]
  exact h
theorem pDic_sortG (ps : List (Nat × Nat)) : dSortG [pDic ps] = some (.list ((ps.mergeSort lexle).map duoD)) := pDic_sorted ps
theorem range_split {n : Nat} {pre post : List Nat} {x : Nat} (e : List.range n = pre ++ x :: post) : pre.length < n ∧ x = pre.length ∧ pre = List.range pre.length := by
  have hl := congrArg List.length e
  rw [List.length_range, List.length_append, List.length_cons] at hl
  refine ⟨by omega, ?_, ?_⟩
  · have := congrArg (fun l : List Nat => l[pre.length]?) e
    simp only [List.getElem?_append_right (Nat.le_refl _), Nat.sub_self, List.getElem?_cons_zero] at this
    rw [List.getElem?_range (by omega)] at this
    exact (Option.some.inj this).symm
  · have := congrArg (List.take pre.length) e
    rw [List.take_left, List.take_range, Nat.min_eq_left (by omega)] at this
    exact this.symm
/-! dicts of numbers, all of one value -/
def iDic (ks : List Int) : List (D × D) := ks.map fun k => (.int k, .bool true)
def iAdd (ks : List Int) (x : Int) : List Int := if x ∈ ks then ks else ks ++ [x]
def iAll (xs : List Int) : List Int := xs.foldl iAdd []
theorem iDic_put (ks : List Int) (x : Int) : dput (iDic ks) (.int x) (.bool true) = iDic (iAdd ks x) := by
  unfold dput iAdd
  have e1 : (iDic ks).any (fun kv => PyData.eqv kv.1 (.int x)) = decide (x ∈ ks) := by
    unfold iDic
    rw [List.any_map]
    induction ks with
    | nil => simp
    | cons q ps ih =>
      rw [List.any_cons, ih]
      show (PyData.eqv (.int q) (.int x) || _) = _
      rw [PyData.eqv]
      by_cases e : q = x
      · subst e; simp
      · have e' : x ≠ q := fun z => e z.symm
        simp [e, e']
  rw [e1]
  by_cases hp : x ∈ ks
  · rw [if_pos (by simpa using hp), if_pos hp]
    refine (List.map_congr_left fun y hy => ?_).trans (List.map_id _)
    unfold iDic at hy
    obtain ⟨q, hq, rfl⟩ := List.mem_map.mp hy
    show (if _ then (PyData.int q, PyData.bool true) else (PyData.int q, PyData.bool true)) = _
    split <;> rfl
  · rw [if_neg (by simpa using hp), if_neg hp]
    unfold iDic
    rw [List.map_append]
    rfl
theorem iAdd_nodup {ks : List Int} {x : Int} (h : ks.Nodup) : (iAdd ks x).Nodup := by
  unfold iAdd
  split
  · exact h
  · rename_i hp
    exact List.nodup_append.mpr ⟨h, by simp, fun a ha b hb => by simp at hb; subst hb; exact fun z => hp (z ▸ ha)⟩
theorem iAdd_mem {ks : List Int} {x y : Int} : y ∈ iAdd ks x ↔ y ∈ ks ∨ y = x := by
  unfold iAdd
  split
  · rename_i hp
    constructor
    · exact .inl
    · rintro (h | rfl)
      · exact h
      · exact hp
  · simp
theorem iFold_spec : ∀ (xs ks : List Int), ks.Nodup → (xs.foldl iAdd ks).Nodup ∧ ∀ y, y ∈ xs.foldl iAdd ks ↔ y ∈ ks ∨ y ∈ xs
  | [], ks, h => ⟨h, fun y => by simp⟩
  | x :: xs, ks, h => by
    obtain ⟨h1, h2⟩ := iFold_spec xs (iAdd ks x) (iAdd_nodup h)
    refine ⟨h1, fun y => ?_⟩
    rw [List.foldl_cons, h2, iAdd_mem, List.mem_cons]
    constructor
    · rintro ((h | h) | h)
      · exact .inl h
      · exact .inr (.inl h)
      · exact .inr (.inr h)
    · rintro (h | h | h)
      · exact .inl (.inl h)
      · exact .inl (.inr h)
      · exact .inr h
theorem intle_trans (a b c : Int) : intle a b = true → intle b c = true → intle a c = true := by unfold intle; simp; omega
theorem intle_total (a b : Int) : (intle a b || intle b a) = true := by unfold intle; simp; omega
theorem sort_int_lt {xs : List Int} (h : xs.Nodup) : (xs.mergeSort intle).Pairwise (· < ·) := by
  have h1 := List.pairwise_mergeSort intle_trans intle_total xs
  have h2 : (xs.mergeSort intle).Nodup := (List.mergeSort_perm xs intle).nodup_iff.mpr h
  refine (h1.and h2).imp fun {a b} ⟨q1, q2⟩ => ?_
  have : a ≤ b := by simpa [intle] using q1
  omega
theorem iAll_sort (xs : List Int) : (iAll xs).mergeSort intle = sortset xs := by
  obtain ⟨h1, h2⟩ := iFold_spec xs [] .nil
  refine sorted_unique (sort_int_lt h1) (sortset_lt xs) fun k => ?_
  rw [(List.mergeSort_perm _ intle).mem_iff, sortset_mem]
  show k ∈ xs.foldl iAdd [] ↔ _
  rw [h2]; simp
theorem iDic_split (ks : List Int) : dsplit (iDic ks) = (false, iDic ks) := by
  cases ks <;> rfl
theorem iDic_sorted (xs : List Int) : dSortDic [.dict (iDic (iAll xs))] = some (.list ((sortset xs).map intD)) := by
  have h := sorted_int (iAll xs)
  rw [iAll_sort] at h
  unfold dSorted at h
  show (if sortable ((dsplit (iDic (iAll xs))).2.map (·.1)) = true then some (PyData.list (((dsplit (iDic (iAll xs))).2.map (·.1)).mergeSort dle)) else none) = _
  rw [iDic_split]
  have e : (iDic (iAll xs)).map (·.1) = (iAll xs).map intD := by unfold iDic; rw [List.map_map]; rfl
  show (if sortable ((iDic (iAll xs)).map (·.1)) = true then some (PyData.list (((iDic (iAll xs)).map (·.1)).mergeSort dle)) else none) = _
  rw [e]
  exact h
theorem wcd_go {ρ : Env} {i : Nat} (hi : i < ρ.length) : ∀ (xs ks : List Int) (Q : List (D × D) → Prop), Q (iDic (xs.foldl iAdd ks)) → wcd (wgn i) wyes (wvar i) (wcst (.bool true)) ρ (xs.map intD) (iDic ks) Q
  | [], ks, Q, q => (q : Q (iDic ks))
  | x :: xs, ks, Q, q => by
    show wvar i (put ρ i (intD x)) fun y => (∃ k, keyOf y = some k) ∧ wcd (wgn i) wyes (wvar i) (wcst (.bool true)) ρ (xs.map intD) (dput (iDic ks) y (.bool true)) Q
    refine ⟨intD x, by rw [eg_put _ _ _ _ hi, if_pos rfl], ⟨_, rfl⟩, ?_⟩
    rw [iDic_put]
    exact wcd_go hi xs (iAdd ks x) Q q
theorem wcd_row {ρ : Env} {i : Nat} (hi : i < ρ.length) (xs : List Int) (Q : List (D × D) → Prop) (q : Q (iDic (iAll xs))) : wcd (wgn i) wyes (wvar i) (wcst (.bool true)) ρ (xs.map intD) [] Q := wcd_go hi xs [] Q q
theorem row_at {hs : List Int} {i : Nat} (h : i < hs.length) : L2.atI (hs.map intD) (i : Int) = some (intD hs[i]) := atI_of (by rw [List.getElem?_map, List.getElem?_eq_getElem h]; rfl)
theorem sortset_len (xs : List Int) : (sortset xs).length ≤ xs.length := by
  induction xs with
  | nil => exact Nat.le_refl _
  | cons x xs ih =>
    have : ∀ (l : List Int), (insU x l).length ≤ l.length + 1 := by
      intro l
      induction l with
      | nil => exact Nat.le_refl _
      | cons y r ih =>
        unfold insU
        split
        · exact Nat.le_refl _
        · split
          · exact Nat.le_succ _
          · rw [List.length_cons, List.length_cons]; omega
    have h := this (sortset xs)
    show (insU x (sortset xs)).length ≤ _
    rw [List.length_cons]; omega
/-! points as a tuple -/
def ptsD (xs : List Nat) : D := .tuple (xs.map natD)
def layL (hs : List Int) (t : Int) : List Nat := (List.range hs.length).filter fun i => decide (t ≤ hs.getD i 0)
def layD (hs : List Int) (t : Int) : D := .tuple [intD t, ptsD (layL hs t)]
theorem filterMap_if {α : Type} (p : α → Bool) : ∀ l : List α, l.filterMap (fun x => if p x = true then some x else none) = l.filter p
  | [] => rfl
  | x :: l => by
    rw [List.filterMap_cons, List.filter_cons, filterMap_if p l]
    cases p x <;> rfl
theorem shaped_of_nice {d : D} (h : niceD d = true) (hd : d.depth ≤ 64) : SeqAt.shaped d = true := by
  unfold SeqAt.shaped
  rw [nice_lay d h]; simp [hd]
theorem nice_pts {xs : List Nat} (h : xs.length ≤ 1000) : niceD (ptsD xs) = true := by
  unfold ptsD
  rw [niceD, niceA_nats, List.length_map, Bool.and_true, decide_eq_true_eq]; exact h
theorem depth_pts (xs : List Nat) : (ptsD xs).depth = 1 := by
  unfold ptsD
  rw [PyData.depth, depthA_nats]
theorem shaped_pts {xs : List Nat} (h : xs.length ≤ 1000) : SeqAt.shaped (ptsD xs) = true := shaped_of_nice (nice_pts h) (by rw [depth_pts]; decide)
theorem nice_row {xs : List Int} (h : xs.length ≤ 1000) : niceD (rowD xs) = true := by
  unfold rowD
  rw [niceD, niceA_ints, List.length_map, Bool.and_true, decide_eq_true_eq]; exact h
theorem depth_row (xs : List Int) : (rowD xs).depth = 1 := by
  unfold rowD
  rw [PyData.depth, depthA_ints]
theorem layL_len (hs : List Int) (t : Int) : (layL hs t).length ≤ hs.length := by
  unfold layL
  have := List.length_filter_le (fun i => decide (t ≤ hs.getD i 0)) (List.range hs.length)
  rwa [List.length_range] at this
theorem nice_lays {hs : List Int} (h : hs.length ≤ 1000) (ts : List Int) : niceA (ts.map (layD hs)) = true := by
  induction ts with
  | nil => rfl
  | cons t ts ih =>
    rw [List.map_cons, niceA, ih]
    have := nice_pts (Nat.le_trans (layL_len hs t) h)
    simp [layD, niceD, niceA, this]
theorem depth_lays (hs : List Int) (ts : List Int) : PyData.depthAll (ts.map (layD hs)) ≤ 2 := by
  induction ts with
  | nil => exact Nat.zero_le _
  | cons t ts ih =>
    rw [List.map_cons, PyData.depthAll]
    have : (layD hs t).depth = 2 := by simp [layD, PyData.depth, PyData.depthAll, depth_pts]
    omega
theorem nice_layL {hs : List Int} (h : hs.length ≤ 1000) {ts : List Int} (ht : ts.length ≤ 1000) : niceD (.list (ts.map (layD hs))) = true := by
  rw [niceD, nice_lays h, List.length_map, Bool.and_true, decide_eq_true_eq]; exact ht
theorem depth_layL (hs : List Int) (ts : List Int) : (PyData.list (ts.map (layD hs))).depth ≤ 3 := by
  rw [PyData.depth]
  have := depth_lays hs ts
  omega
theorem cut_1 {α : Type} (xs : List α) : cutL xs (some 1) none = xs.drop 1 := by
  unfold cutL
  rw [show HT.sIx xs.length 0 (some 1) = min 1 xs.length from HT.sIx_nat xs.length 0 1, HT.sIx_none]
  cases xs with
  | nil => rfl
  | cons x r =>
    rw [show min 1 (x :: r).length = 1 by rw [List.length_cons]; omega]
    show List.take ((x :: r).length - 1) r = r
    rw [List.length_cons, Nat.add_sub_cancel, List.take_length]
theorem dMul_rep {x : D} {k : Nat} (h : k ≤ 1000) : dMul (.list [x]) (.int (k : Nat)) = some (.list (List.replicate k x)) := by
  have e : (List.replicate k [x]).flatten = List.replicate k x := by
    apply List.ext_getElem
    · simp
    · intro i h1 h2; simp
  unfold dMul
  simp only [Int.toNat_natCast, e]
  rw [if_pos]
  refine ⟨by omega, by omega, ?_⟩
  rw [List.length_cons, List.length_nil, Nat.zero_add, Nat.one_mul]
  exact sz_small h
end VS
/-! VPT: while loops; parts of nets. -/
namespace VS
open PySem PySem.Spec
theorem wwhile_inv {t : WT} {body : WS} {k : Kt} (I : Nat → Env → Prop)
    (step : ∀ (m : Nat) (ρ : Env) (M : Env → Prop), I m ρ → (∀ m' ρ', m' < m → I m' ρ' → M ρ') → t ρ fun b => if b = true then body { nx := M, ct := M, bk := k.nx, rt := k.rt } ρ else k.nx ρ) {m : Nat} {ρ : Env} (h : I m ρ) : wwhile t body k ρ := by
  suffices hh : ∀ (n : Nat) (ρ : Env), (∃ m, m ≤ n ∧ I m ρ) → wwh t body k (n + 1) ρ from ⟨m + 1, hh m ρ ⟨m, Nat.le_refl _, h⟩⟩
  intro n
  induction n with
  | zero =>
    rintro ρ ⟨m, hm, hI⟩
    exact step m ρ _ hI fun m' ρ' hlt _ => absurd hlt (by omega)
  | succ n ih =>
    rintro ρ ⟨m, hm, hI⟩
    exact step m ρ _ hI fun m' ρ' hlt hI' => ih ρ' ⟨m', by omega, hI'⟩
/-- [f(x) for x in xs if p(x)] -/
theorem wcl_filt {α β : Type} {g : WG} {wt : WT} {we : WE} {ρ : Env} (enc : α → D) (e2 : β → D) (f : α → β) (p : α → Bool) (xs : List α) (acc : List D) (Q : List D → Prop) (h : ∀ x ∈ xs, ∀ (Qt : D → Prop) (Qf : Prop), (if p x = true then Qt (e2 (f x)) else Qf) → g (enc x) ρ fun ρ' => wt ρ' fun b => if b = true then we ρ' Qt else Qf)
    (q : Q (acc ++ ((xs.filter p).map f).map e2)) : wcl g wt we ρ (xs.map enc) acc Q := by
  refine wcl_go enc e2 (fun x => if p x = true then some (f x) else none) xs acc Q (fun x hx Qt Qf hq => h x hx Qt Qf ?_) ?_
  · cases hp : p x <;> rw [hp] at hq <;> exact hq
  · have : ∀ l : List α, l.filterMap (fun x => if p x = true then some (f x) else none) = (l.filter p).map f := fun l => by
      induction l with
      | nil => rfl
      | cons x l ih =>
        rw [List.filterMap_cons, List.filter_cons, ih]
        cases p x <;> rfl
    rw [this]; exact q
theorem wcl_fil {α : Type} {g : WG} {wt : WT} {we : WE} {ρ : Env} (enc : α → D) (p : α → Bool) (xs : List α) (acc : List D) (Q : List D → Prop) (h : ∀ x ∈ xs, ∀ (Qt : D → Prop) (Qf : Prop), (if p x = true then Qt (enc x) else Qf) → g (enc x) ρ fun ρ' => wt ρ' fun b => if b = true then we ρ' Qt else Qf)
    (q : Q (acc ++ (xs.filter p).map enc)) : wcl g wt we ρ (xs.map enc) acc Q :=
  wcl_filt enc enc id p xs acc Q h (by simpa using q)
/-- [x for x in xs if drawn] -/
theorem wcl_sub {α : Type} {g : WG} {wt : WT} {we : WE} {ρ : Env} (enc : α → D) : ∀ (xs : List α) (acc : List D) (Q : List D → Prop), (∀ x ∈ xs, ∀ (Qt : D → Prop) (Qf : Prop), Qt (enc x) → Qf → g (enc x) ρ fun ρ' => wt ρ' fun b => if b = true then we ρ' Qt else Qf) →
    (∀ ys : List α, ys.Sublist xs → Q (acc ++ ys.map enc)) → wcl g wt we ρ (xs.map enc) acc Q
  | [], acc, Q, _, q => (by simpa using q [] (List.Sublist.refl _) : Q acc)
  | x :: xs, acc, Q, h, q => by
    show g (enc x) ρ fun ρ' => wt ρ' fun b => if b = true then we ρ' (fun y => wcl g wt we ρ (xs.map enc) (acc ++ [y]) Q) else wcl g wt we ρ (xs.map enc) acc Q
    refine h x (List.mem_cons_self ..) _ _ ?_ ?_
    · refine wcl_sub enc xs _ Q (fun x hx => h x (List.mem_cons_of_mem _ hx)) fun ys hy => ?_
      simpa using q (x :: ys) (hy.cons_cons x)
    · exact wcl_sub enc xs acc Q (fun x hx => h x (List.mem_cons_of_mem _ hx)) fun ys hy => q ys (hy.cons x)
/-- reached from s through kept points -/
inductive Rch (N : Net) (kept : List Nat) (s : Nat) : Nat → Prop
  | start : Rch N kept s s
  | step {u x : Nat} : Rch N kept s u → x ∈ near N u → x ∈ kept → Rch N kept s x
open Classical in
noncomputable def comp (N : Net) (kept : List Nat) (s : Nat) : List Nat := (List.range N.n).filter fun x => decide (Rch N kept s x)
theorem near_mem {N : Net} {v x : Nat} : x ∈ near N v ↔ x < N.n ∧ adj N v x = true := by
  unfold near
  rw [List.mem_filter, List.mem_range]
open Classical in
theorem comp_mem {N : Net} {kept : List Nat} {s x : Nat} : x ∈ comp N kept s ↔ x < N.n ∧ Rch N kept s x := by
  unfold comp
  rw [List.mem_filter, List.mem_range, decide_eq_true_eq]
open Classical in
theorem comp_lt (N : Net) (kept : List Nat) (s : Nat) : (comp N kept s).Pairwise (· < ·) := List.Pairwise.filter _ List.pairwise_lt_range
/-- a set that holds s, is reached, and is closed, is the part -/
theorem comp_of {N : Net} {kept fs : List Nat} {s : Nat} (hs : s ∈ fs) (hr : ∀ x ∈ fs, Rch N kept s x ∧ x < N.n) (hc : ∀ u ∈ fs, ∀ x ∈ near N u, x ∈ kept → x ∈ fs) (k : Nat) : k ∈ fs ↔ k ∈ comp N kept s := by
  rw [comp_mem]
  constructor
  · intro h; exact ⟨(hr k h).2, (hr k h).1⟩
  · rintro ⟨h0, h⟩
    clear h0
    induction h with
    | start => exact hs
    | step _ h2 h3 ih => exact hc _ ih _ h2 h3
/-! what a search keeps -/
structure PInv (N : Net) (kept : List Nat) (s : Nat) (fs rim : List Nat) : Prop where
  nd : fs.Nodup
  rc : ∀ x ∈ fs, Rch N kept s x ∧ x < N.n
  st : s ∈ fs
  rm : ∀ x ∈ rim, x ∈ fs
  cl : ∀ u ∈ fs, u ∉ rim → ∀ x ∈ near N u, x ∈ kept → x ∈ fs
theorem nodup_len {n : Nat} {fs : List Nat} (h : fs.Nodup) (hb : ∀ x ∈ fs, x < n) : fs.length ≤ n := by
  have h1 := incr_len (a := 0) (b := n) (sort_nat_lt h) fun x hx => ⟨Nat.zero_le _, hb x ((List.mergeSort_perm fs natle).mem_iff.mp hx)⟩
  rw [(List.mergeSort_perm fs natle).length_eq] at h1
  omega
theorem PInv.len {N : Net} {kept fs rim : List Nat} {s : Nat} (h : PInv N kept s fs rim) : fs.length ≤ N.n := nodup_len h.nd fun x hx => (h.rc x hx).2
theorem PInv.init {N : Net} {kept : List Nat} {s : Nat} (hs : s < N.n) : PInv N kept s [s] [s] :=
  ⟨by simp, fun x hx => by simp at hx; subst hx; exact ⟨.start, hs⟩, by simp, fun x hx => hx, fun u hu h => absurd hu h⟩
theorem PInv.done {N : Net} {kept fs : List Nat} {s : Nat} (h : PInv N kept s fs []) : fs.mergeSort natle = comp N kept s :=
  sort_nat_eq h.nd (comp_lt N kept s) (comp_of h.st h.rc fun u hu => h.cl u hu (by simp))
def freshL (kept fs xs : List Nat) : List Nat := xs.filter fun x => decide (x ∈ kept) && decide (x ∉ fs)
theorem freshL_mem {kept fs xs : List Nat} {x : Nat} : x ∈ freshL kept fs xs ↔ x ∈ xs ∧ x ∈ kept ∧ x ∉ fs := by
  unfold freshL
  rw [List.mem_filter]
  simp
theorem near_nodup (N : Net) (v : Nat) : (near N v).Nodup := (near_lt N v).imp fun {a b} q => Nat.ne_of_lt q
theorem PInv.step {N : Net} {kept fs r : List Nat} {s here : Nat} (h : PInv N kept s fs (r ++ [here])) : PInv N kept s (fs ++ freshL kept fs (near N here)) (r ++ freshL kept fs (near N here)) := by
  have hh : here ∈ fs := h.rm here (by simp)
  refine ⟨List.nodup_append.mpr ⟨h.nd, (near_nodup N here).filter _, fun a ha b hb e => ?_⟩, fun x hx => ?_, List.mem_append_left _ h.st, fun x hx => ?_, fun u hu hn x hx hk => ?_⟩
  · subst e; exact (freshL_mem.mp hb).2.2 ha
  · rcases List.mem_append.mp hx with hx | hx
    · exact h.rc x hx
    · obtain ⟨f1, f2, f3⟩ := freshL_mem.mp hx
      exact ⟨.step (h.rc here hh).1 f1 f2, (near_mem.mp f1).1⟩
  · rcases List.mem_append.mp hx with hx | hx
    · exact List.mem_append_left _ (h.rm x (List.mem_append_left _ hx))
    · exact List.mem_append_right _ hx
  · rw [List.mem_append, not_or] at hn
    rcases List.mem_append.mp hu with hu | hu
    · by_cases e : u = here
      · subst e
        by_cases hf : x ∈ fs
        · exact List.mem_append_left _ hf
        · exact List.mem_append_right _ (freshL_mem.mpr ⟨hx, hk, hf⟩)
      · exact List.mem_append_left _ (h.cl u hu (by rw [List.mem_append, not_or]; exact ⟨hn.1, by simpa using e⟩) x hx hk)
    · exact absurd hu hn.2
theorem PInv.less {N : Net} {kept fs r : List Nat} {s here : Nat} (h : PInv N kept s fs (r ++ [here])) : 2 * (N.n - (fs ++ freshL kept fs (near N here)).length) + (r ++ freshL kept fs (near N here)).length + 1 ≤ 2 * (N.n - fs.length) + (r ++ [here]).length := by
  have := h.step.len
  rw [List.length_append] at this ⊢
  rw [List.length_append, List.length_append, List.length_cons, List.length_nil]
  omega
/-! parts -/
noncomputable def partsGo (N : Net) (kept : List Nat) : List Nat → List (List Nat)
  | [] => []
  | x :: r => comp N kept x :: partsGo N kept (r.filter fun y => decide (y ∉ comp N kept x))
termination_by l => l.length
decreasing_by
  simp
  exact Nat.lt_succ_of_le (Nat.le_trans (List.length_filter_le _ _) (by simp))
noncomputable def partsL (N : Net) (kept : List Nat) : List (List Nat) := partsGo N kept kept
theorem comp_self {N : Net} {kept : List Nat} {s : Nat} (h : s < N.n) : s ∈ comp N kept s := comp_mem.mpr ⟨h, .start⟩
theorem comp_bd {N : Net} {kept : List Nat} {s x : Nat} (h : x ∈ comp N kept s) : x < N.n := (comp_mem.mp h).1
theorem comp_len (N : Net) (kept : List Nat) (s : Nat) : (comp N kept s).length ≤ N.n := by
  have := incr_len (a := 0) (b := N.n) (comp_lt N kept s) fun x hx => ⟨Nat.zero_le _, comp_bd hx⟩
  omega
theorem partsGo_is (N : Net) (kept : List Nat) : ∀ (k : Nat) (l : List Nat), l.length ≤ k → (partsGo N kept l).length ≤ l.length ∧ ∀ p ∈ partsGo N kept l, ∃ s ∈ l, p = comp N kept s := by
  intro k
  induction k with
  | zero =>
    intro l hl
    cases l with
    | nil => rw [partsGo]; exact ⟨Nat.le_refl _, fun _ h => nomatch h⟩
    | cons x r => simp at hl
  | succ k ih =>
    intro l hl
    cases l with
    | nil => rw [partsGo]; exact ⟨Nat.le_refl _, fun _ h => nomatch h⟩
    | cons x r =>
      rw [partsGo]
      have h1 := List.length_filter_le (fun y => decide (y ∉ comp N kept x)) r
      rw [List.length_cons] at hl
      obtain ⟨h2, h3⟩ := ih (r.filter fun y => decide (y ∉ comp N kept x)) (by omega)
      refine ⟨by rw [List.length_cons, List.length_cons]; omega, fun p hp => ?_⟩
      rcases List.mem_cons.mp hp with rfl | hp
      · exact ⟨x, by simp, rfl⟩
      · obtain ⟨s, hs, e⟩ := h3 p hp
        exact ⟨s, List.mem_cons_of_mem _ (List.mem_filter.mp hs).1, e⟩
theorem partsL_len (N : Net) (kept : List Nat) : (partsL N kept).length ≤ kept.length := (partsGo_is N kept _ kept (Nat.le_refl _)).1
theorem partsL_is {N : Net} {kept p : List Nat} (h : p ∈ partsL N kept) : ∃ s ∈ kept, p = comp N kept s := (partsGo_is N kept _ kept (Nat.le_refl _)).2 p h
theorem parts_plen {N : Net} {kept p : List Nat} (h : p ∈ partsL N kept) : p.length ≤ N.n := by
  obtain ⟨s, _, rfl⟩ := partsL_is h
  exact comp_len N kept s
theorem parts_bd {N : Net} {kept p : List Nat} (h : p ∈ partsL N kept) : ∀ x ∈ p, x < N.n := by
  obtain ⟨s, _, rfl⟩ := partsL_is h
  exact fun x hx => comp_bd hx
/-- the kept points, as the program or a law holds them -/
structure KOk (n : Nat) (K : D) (kept : List Nat) : Prop where
  lt : kept.Pairwise (· < ·)
  bd : ∀ x ∈ kept, x < n
  inn : ∀ x : Nat, dIn (natD x) K = some (.bool (decide (x ∈ kept)))
  srt : dSortG [K] = some (natL kept)
theorem KOk.notIn {n : Nat} {K : D} {kept : List Nat} (h : KOk n K kept) (x : Nat) : dNotIn (natD x) K = some (.bool (decide (x ∉ kept))) := by
  have := h.inn x
  unfold dIn at this
  unfold dNotIn
  obtain ⟨b, e1, e2⟩ := Option.map_eq_some_iff.mp this
  rw [e1]
  cases e2
  simp
theorem KOk.len {n : Nat} {K : D} {kept : List Nat} (h : KOk n K kept) : kept.length ≤ n := by
  have := incr_len (a := 0) (b := n) h.lt fun x hx => ⟨Nat.zero_le _, h.bd x hx⟩
  omega
theorem sort_lt_id {xs : List Nat} (h : xs.Pairwise (· < ·)) : xs.mergeSort natle = xs := sort_nat_eq (h.imp fun {a b} q => Nat.ne_of_lt q) h fun _ => Iff.rfl
theorem any_nat (x : Nat) (xs : List Nat) : (xs.map natD).any (fun z => PyData.eqv z (natD x)) = decide (x ∈ xs) := by
  rw [List.any_map]
  induction xs with
  | nil => rfl
  | cons y ys ih =>
    rw [List.any_cons, ih]
    show (PyData.eqv (.int (y : Nat)) (.int (x : Nat)) || _) = _
    rw [PyData.eqv]
    by_cases e : y = x
    · subst e; simp
    · have e' : x ≠ y := fun z => e z.symm
      have e2 : ¬ (y : Int) = (x : Int) := by omega
      simp [e', e2]
theorem in_ptsD {x : Nat} {xs : List Nat} : dIn (natD x) (ptsD xs) = some (.bool (decide (x ∈ xs))) := by
  unfold dIn ptsD
  show (if flatD (natD x) = true ∧ (xs.map natD).all flatD = true then some ((xs.map natD).any fun z => PyData.eqv z (natD x)) else none).map PyData.bool = _
  rw [if_pos ⟨rfl, by simp [flatD]⟩, any_nat]
  rfl
theorem in_natL {x : Nat} {xs : List Nat} (h : xs.length ≤ 1000) : dIn (natD x) (natL xs) = some (.bool (decide (x ∈ xs))) := by
  unfold dIn natL
  show (if SeqAt.shaped (natD x) = true ∧ SeqAt.shaped (.list (xs.map natD)) = true then some ((xs.map natD).any fun z => PyData.eqv z (natD x)) else none).map PyData.bool = _
  rw [if_pos ⟨rfl, shaped_of_nice (nice_natL h) (by rw [show (PyData.list (xs.map natD)) = natL xs from rfl, depth_natL]; decide)⟩, any_nat]
  rfl
theorem notIn_of {x y : D} {b : Bool} (h : dIn x y = some (.bool b)) : dNotIn x y = some (.bool (!b)) := by
  unfold dIn at h
  unfold dNotIn
  obtain ⟨c, e1, e2⟩ := Option.map_eq_some_iff.mp h
  rw [e1]; cases e2; rfl
theorem toI_mem {x : Nat} {xs : List Nat} : (x : Int) ∈ toI xs ↔ x ∈ xs := by
  unfold toI
  rw [List.mem_map]
  constructor
  · rintro ⟨a, ha, e⟩
    have e' : (a : Int) = (x : Int) := e
    have : a = x := by omega
    subst this; exact ha
  · intro h; exact ⟨x, h, rfl⟩
def nEnt (xs : List Nat) : List (D × D) := iDic (toI xs)
def nDic (xs : List Nat) : D := .dict (nEnt xs)
theorem nEnt_split (ks : List Nat) : dsplit (nEnt ks) = (false, nEnt ks) := iDic_split _
theorem in_nDic {x : Nat} {xs : List Nat} : dIn (natD x) (nDic xs) = some (.bool (decide (x ∈ xs))) := by
  have : ∀ (ks : List Int), (dval (iDic ks) (.int (x : Nat))).isSome = decide ((x : Int) ∈ ks) := fun ks => by
    induction ks with
    | nil => rfl
    | cons k ks ih =>
      show (dval ((PyData.int k, PyData.bool true) :: iDic ks) (.int (x : Nat))).isSome = _
      unfold dval at ih ⊢
      rw [List.find?_cons]
      show (Option.map _ (match PyData.eqv (.int k) (.int (x : Nat)) with | true => _ | false => _)).isSome = _
      rw [PyData.eqv]
      by_cases e : k = (x : Int)
      · subst e; simp
      · have e' : ¬ (x : Int) = k := fun z => e z.symm
        have e3 : (k == (x : Int)) = false := by simp [e]
        simp only [e3, List.mem_cons, e', false_or]
        exact ih
  unfold dIn nDic
  show ((dlook (nEnt xs) (.int (x : Nat))).map Option.isSome).map PyData.bool = _
  unfold dlook
  rw [nEnt_split]
  show some (PyData.bool (dval (iDic (toI xs)) (.int (x : Nat))).isSome) = _
  rw [this]
  congr 2
  rw [decide_eq_decide]
  exact toI_mem
theorem nDic_put (xs : List Nat) (x : Nat) (h : xs.length ≤ 1000) (hx : x ∉ xs) : dputD (nEnt xs) (natD x) (.bool true) = some (nEnt (xs ++ [x])) := by
  unfold dputD
  rw [nEnt_split]
  have hl : (nEnt xs).length = xs.length := by unfold nEnt iDic toI; simp
  show (if ((keyOf (natD x)).isSome = true ∧ (nEnt xs).length < sizeLine) then some (if false = true then _ else dput (nEnt xs) (natD x) (.bool true)) else none) = _
  rw [if_pos ⟨rfl, by rw [hl]; exact Nat.lt_of_le_of_lt h (by decide)⟩, if_neg (by simp)]
  unfold nEnt
  rw [show natD x = PyData.int (x : Int) from rfl, iDic_put]
  unfold iAdd
  rw [if_neg (fun z => hx (toI_mem.mp z))]
  unfold toI
  rw [List.map_append]; rfl
theorem nDic_sort (xs : List Nat) : dSortG [nDic xs] = some (natL (xs.mergeSort natle)) := by
  have h := sorted_nat xs
  unfold dSorted at h
  show (if sortable ((dsplit (nEnt xs)).2.map (·.1)) = true then some (PyData.list (((dsplit (nEnt xs)).2.map (·.1)).mergeSort dle)) else none) = _
  rw [nEnt_split]
  have e : (nEnt xs).map (·.1) = xs.map natD := by unfold nEnt iDic toI; rw [List.map_map, List.map_map]; rfl
  show (if sortable ((nEnt xs).map (·.1)) = true then some (PyData.list (((nEnt xs).map (·.1)).mergeSort dle)) else none) = _
  rw [e]
  exact h
theorem KOk.pts {n : Nat} {xs : List Nat} (h : xs.Pairwise (· < ·)) (hb : ∀ x ∈ xs, x < n) : KOk n (ptsD xs) xs :=
  ⟨h, hb, fun _ => in_ptsD, by
    have := sorted_nat xs
    rw [sort_lt_id h] at this
    exact this⟩
theorem KOk.lst {n : Nat} {xs : List Nat} (hn : n ≤ 1000) (h : xs.Pairwise (· < ·)) (hb : ∀ x ∈ xs, x < n) : KOk n (natL xs) xs :=
  ⟨h, hb, fun _ => in_natL (by
    have := incr_len (a := 0) (b := n) h fun x hx => ⟨Nat.zero_le _, hb x hx⟩
    omega), by
    have := sorted_nat xs
    rw [sort_lt_id h] at this
    exact this⟩
theorem KOk.dic {n : Nat} {xs : List Nat} (h : xs.Pairwise (· < ·)) (hb : ∀ x ∈ xs, x < n) : KOk n (nDic xs) xs :=
  ⟨h, hb, fun _ => in_nDic, by rw [nDic_sort, sort_lt_id h]⟩
/-- {x: True for x in xs} -/
theorem wcd_nat {ρ : Env} {i : Nat} (hi : i < ρ.length) {xs : List Nat} (h : xs.Nodup) {Q : List (D × D) → Prop} (q : Q (nEnt xs)) : wcd (wgn i) wyes (wvar i) (wcst (.bool true)) ρ (xs.map natD) [] Q := by
  have e : xs.map natD = (toI xs).map intD := by unfold toI; rw [List.map_map]; rfl
  rw [e]
  refine wcd_row hi (toI xs) Q ?_
  have : ∀ (l ks : List Nat), (ks ++ l).Nodup → (toI l).foldl iAdd (toI ks) = toI (ks ++ l) := by
    intro l
    induction l with
    | nil => intro ks _; simp [toI]
    | cons x l ih =>
      intro ks hk
      have hx : x ∉ ks := fun z => (List.nodup_append.mp hk).2.2 x z x (by simp) rfl
      have e1 : iAdd (toI ks) (x : Int) = toI (ks ++ [x]) := by
        unfold iAdd
        rw [if_neg (fun z => hx (toI_mem.mp z))]
        simp [toI]
      show (toI l).foldl iAdd (iAdd (toI ks) (x : Int)) = _
      rw [e1, ih (ks ++ [x]) (by simpa using hk)]
      simp
  have e2 : iAll (toI xs) = toI xs := by
    have := this xs [] (by simpa using h)
    simpa [iAll, toI] using this
  rw [e2]
  exact q
theorem notIn_ptsD {x : Nat} {xs : List Nat} : dNotIn (natD x) (ptsD xs) = some (.bool (decide (x ∉ xs))) := by
  rw [notIn_of in_ptsD, decide_not]
theorem notIn_natL {x : Nat} {xs : List Nat} (h : xs.length ≤ 1000) : dNotIn (natD x) (natL xs) = some (.bool (decide (x ∉ xs))) := by
  rw [notIn_of (in_natL h), decide_not]
theorem notIn_nDic {x : Nat} {xs : List Nat} : dNotIn (natD x) (nDic xs) = some (.bool (decide (x ∉ xs))) := by
  rw [notIn_of in_nDic, decide_not]
theorem range_lt (n : Nat) : (List.range n).Pairwise (· < ·) := List.pairwise_lt_range
theorem ne_nil {xs : List D} (h : SeqAt.shaped (.list xs) = true) : dNe (.list xs) (.list []) = some (.bool (decide (xs ≠ []))) := by
  unfold dNe
  rw [if_pos ⟨h, rfl⟩]
  cases xs <;> rfl
theorem eq_nil {xs : List D} (h : SeqAt.shaped (.list xs) = true) : dEq (.list xs) (.list []) = some (.bool (decide (xs = []))) := by
  unfold dEq
  rw [if_pos ⟨h, rfl⟩]
  cases xs <;> rfl
theorem shaped_natL {xs : List Nat} (h : xs.length ≤ 1000) : SeqAt.shaped (natL xs) = true := shaped_of_nice (nice_natL h) (by rw [depth_natL]; decide)
theorem eqA_nat : ∀ (xs ys : List Nat), PyData.eqvAll (xs.map natD) (ys.map natD) = decide (xs = ys)
  | [], [] => rfl
  | [], _ :: _ => rfl
  | _ :: _, [] => rfl
  | x :: xs, y :: ys => by
    rw [List.map_cons, List.map_cons, PyData.eqvAll, eqA_nat xs ys]
    show (PyData.eqv (.int (x : Nat)) (.int (y : Nat)) && _) = _
    rw [PyData.eqv]
    by_cases e : x = y
    · subst e; simp
    · have e2 : ¬ (x : Int) = (y : Int) := by omega
      simp [e, e2]
theorem eqv_ptsD (xs ys : List Nat) : PyData.eqv (ptsD xs) (ptsD ys) = decide (xs = ys) := by
  unfold ptsD
  rw [PyData.eqv, eqA_nat]
theorem eq_ptsD {xs ys : List Nat} (h : xs.length ≤ 1000) (h' : ys.length ≤ 1000) : dEq (ptsD xs) (ptsD ys) = some (.bool (decide (xs = ys))) := by
  unfold dEq
  rw [if_pos ⟨shaped_pts h, shaped_pts h'⟩, eqv_ptsD]
theorem nice_ptsA {ps : List (List Nat)} (h : ∀ p ∈ ps, p.length ≤ 1000) : niceA (ps.map ptsD) = true := by
  induction ps with
  | nil => rfl
  | cons p ps ih =>
    rw [List.map_cons, niceA, nice_pts (h p (by simp)), ih fun q hq => h q (by simp [hq])]; rfl
theorem depth_ptsA (ps : List (List Nat)) : PyData.depthAll (ps.map ptsD) ≤ 1 := by
  induction ps with
  | nil => exact Nat.zero_le _
  | cons p ps ih =>
    rw [List.map_cons, PyData.depthAll, depth_pts]; omega
def ptsL (ps : List (List Nat)) : D := .list (ps.map ptsD)
theorem nice_ptsL {ps : List (List Nat)} (hl : ps.length ≤ 1000) (h : ∀ p ∈ ps, p.length ≤ 1000) : niceD (ptsL ps) = true := by
  unfold ptsL
  rw [niceD, nice_ptsA h, List.length_map, Bool.and_true, decide_eq_true_eq]; exact hl
theorem depth_ptsL (ps : List (List Nat)) : (ptsL ps).depth ≤ 2 := by
  unfold ptsL
  rw [PyData.depth]
  have := depth_ptsA ps
  omega
theorem shaped_ptsL {ps : List (List Nat)} (hl : ps.length ≤ 1000) (h : ∀ p ∈ ps, p.length ≤ 1000) : SeqAt.shaped (ptsL ps) = true := shaped_of_nice (nice_ptsL hl h) (by have := depth_ptsL ps; omega)
theorem in_ptsL {x : List Nat} {ps : List (List Nat)} (hx : x.length ≤ 1000) (hl : ps.length ≤ 1000) (h : ∀ p ∈ ps, p.length ≤ 1000) : dIn (ptsD x) (ptsL ps) = some (.bool (decide (x ∈ ps))) := by
  unfold dIn ptsL
  show (if SeqAt.shaped (ptsD x) = true ∧ SeqAt.shaped (.list (ps.map ptsD)) = true then some ((ps.map ptsD).any fun z => PyData.eqv z (ptsD x)) else none).map PyData.bool = _
  rw [if_pos ⟨shaped_pts hx, shaped_ptsL hl h⟩]
  show some (PyData.bool _) = _
  congr 2
  clear h hl
  rw [List.any_map]
  induction ps with
  | nil => rfl
  | cons y ys ih =>
    rw [List.any_cons, ih]
    show (PyData.eqv (ptsD y) (ptsD x) || _) = _
    rw [eqv_ptsD]
    by_cases e : y = x
    · subst e; simp
    · have e' : x ≠ y := fun z => e z.symm
      simp [e, e']
theorem notIn_ptsL {x : List Nat} {ps : List (List Nat)} (hx : x.length ≤ 1000) (hl : ps.length ≤ 1000) (h : ∀ p ∈ ps, p.length ≤ 1000) : dNotIn (ptsD x) (ptsL ps) = some (.bool (decide (x ∉ ps))) := by
  rw [notIn_of (in_ptsL hx hl h), decide_not]
theorem dAdd_lst {a b : List D} (h : a.length + b.length ≤ 10000) : dAdd (.list a) (.list b) = some (.list (a ++ b)) := by
  show (if a.length + b.length ≤ sizeLine then some (PyData.list (a ++ b)) else none) = _
  rw [if_pos (Nat.le_trans h (by decide))]
theorem dCatL_lst {a b : List D} (h : a.length + b.length ≤ 10000) : dCatL (.list a) (.list b) = some (.list (a ++ b)) := dAdd_lst h
theorem dAdd_tup {a b : List D} (h : a.length + b.length ≤ 10000) : dAdd (.tuple a) (.tuple b) = some (.tuple (a ++ b)) := by
  show (if a.length + b.length ≤ sizeLine then some (PyData.tuple (a ++ b)) else none) = _
  rw [if_pos (Nat.le_trans h (by decide))]
theorem shaped_nats {xs : List Nat} (h : xs.length ≤ 1000) : SeqAt.shaped (.list (xs.map natD)) = true := shaped_natL h
theorem dAdd_natL {a b : List Nat} (h : a.length + b.length ≤ 10000) : dAdd (natL a) (natL b) = some (natL (a ++ b)) := by
  unfold natL
  rw [dAdd_lst (by simpa using h), List.map_append]
theorem dCatL_natL {a b : List Nat} (h : a.length + b.length ≤ 10000) : dCatL (natL a) (natL b) = some (natL (a ++ b)) := dAdd_natL h
theorem dAdd_ptsL {a b : List (List Nat)} (h : a.length + b.length ≤ 10000) : dAdd (ptsL a) (ptsL b) = some (ptsL (a ++ b)) := by
  unfold ptsL
  rw [dAdd_lst (by simpa using h), List.map_append]
theorem dAdd_ptsD {a b : List Nat} (h : a.length + b.length ≤ 10000) : dAdd (ptsD a) (ptsD b) = some (ptsD (a ++ b)) := by
  unfold ptsD
  rw [dAdd_tup (by simpa using h), List.map_append]
def restL (n : Nat) (xs : List Nat) : List Nat := (List.range n).filter fun x => decide (x ∉ xs)
theorem restL_lt (n : Nat) (xs : List Nat) : (restL n xs).Pairwise (· < ·) := List.Pairwise.filter _ List.pairwise_lt_range
theorem restL_mem {n x : Nat} {xs : List Nat} : x ∈ restL n xs ↔ x < n ∧ x ∉ xs := by
  unfold restL
  rw [List.mem_filter, List.mem_range, decide_eq_true_eq]
theorem restL_len (n : Nat) (xs : List Nat) : (restL n xs).length ≤ n := by
  unfold restL
  have := List.length_filter_le (fun x => decide (x ∉ xs)) (List.range n)
  rwa [List.length_range] at this
theorem range_bd {n : Nat} : ∀ x ∈ List.range n, x < n := fun _ h => List.mem_range.mp h
/-! lots opened, closed -/
noncomputable def bigL (N : Net) (k : Nat) (p : List Nat) : Bool := decide (k < p.length) || decide (p ∈ partsL N (List.range N.n))
noncomputable def openU (N : Net) (xs : List Nat) (k : Nat) : List Nat := ((partsL N xs).filter (bigL N k)).flatten
noncomputable def openL (N : Net) (xs : List Nat) (k : Nat) : List Nat := (openU N xs k).mergeSort natle
noncomputable def closeL (N : Net) (xs : List Nat) (k : Nat) : List Nat := restL N.n (openL N (restL N.n xs) k)
theorem flat_len {n : Nat} : ∀ {ps : List (List Nat)}, (∀ p ∈ ps, p.length ≤ n) → ps.flatten.length ≤ ps.length * n
  | [], _ => by simp
  | p :: ps, h => by
    have h1 := h p (by simp)
    have h2 := flat_len (n := n) (ps := ps) fun q hq => h q (by simp [hq])
    rw [List.flatten_cons, List.length_append, List.length_cons, Nat.add_mul]
    omega
theorem circ_len (N : Net) : (partsL N (List.range N.n)).length ≤ N.n := by
  have := partsL_len N (List.range N.n)
  rwa [List.length_range] at this
theorem in_circ {N : Net} (h : N.Ok) {p : List Nat} (hp : p.length ≤ 12) : dIn (ptsD p) (ptsL (partsL N (List.range N.n))) = some (.bool (decide (p ∈ partsL N (List.range N.n)))) := by
  have h12 := h.n12
  refine in_ptsL (by omega) ?_ fun q hq => ?_
  · have := circ_len N; omega
  · have := parts_plen hq; omega
theorem incr_le {n : Nat} {xs : List Nat} (h : xs.Pairwise (· < ·)) (hb : ∀ x ∈ xs, x < n) : xs.length ≤ n := by
  have := incr_len (a := 0) (b := n) h fun x hx => ⟨Nat.zero_le _, hb x hx⟩
  omega
theorem openU_len {N : Net} (h : N.Ok) {xs : List Nat} (hx : xs.length ≤ 12) (k : Nat) : (openU N xs k).length ≤ 144 := by
  have h12 := h.n12
  have h1 := flat_len (n := 12) (ps := (partsL N xs).filter (bigL N k)) fun p hp => by
    have := parts_plen (List.mem_filter.mp hp).1; omega
  have h2 := List.length_filter_le (bigL N k) (partsL N xs)
  have h3 := partsL_len N xs
  unfold openU
  omega
theorem openL_len {N : Net} (h : N.Ok) {xs : List Nat} (hx : xs.length ≤ 12) (k : Nat) : (openL N xs k).length ≤ 144 := by
  unfold openL
  rw [(List.mergeSort_perm _ natle).length_eq]
  exact openU_len h hx k
theorem flat_snoc {N : Net} {k : Nat} {pre : List (List Nat)} {p : List Nat} : ((pre ++ [p]).filter (bigL N k)).flatten = (pre.filter (bigL N k)).flatten ++ (if bigL N k p = true then p else []) := by
  rw [List.filter_append, List.flatten_append, List.filter_cons]
  split <;> simp
theorem flat_bd {N : Net} (h : N.Ok) {k : Nat} {pre : List (List Nat)} (hp : ∀ p ∈ pre, p.length ≤ N.n) (hl : pre.length ≤ 12) : ((pre.filter (bigL N k)).flatten).length ≤ 144 := by
  have h12 := h.n12
  have h1 := flat_len (n := 12) (ps := pre.filter (bigL N k)) fun p hq => by
    have := hp p (List.mem_filter.mp hq).1; omega
  have h2 := List.length_filter_le (bigL N k) pre
  omega
theorem gt_len (p : List Nat) (k : Nat) : dGtG (natD p.length) (natD k) = some (.bool (decide (k < p.length))) := by
  rw [dGtG_int]
  congr 2
  rw [decide_eq_decide]
  omega
theorem len_ptsD (p : List Nat) : dLen [ptsD p] = some (natD p.length) := by
  unfold ptsD
  rw [dLen_tup, List.length_map]
theorem len_nearD (N : Net) : dLen [nearD N] = some (natD N.n) := by
  unfold nearD
  rw [dLen_list, List.length_map, List.length_range]
noncomputable def shaveL (N : Net) : Nat → List Nat → List Nat
  | 0, xs => xs
  | k + 1, xs => closeL N (openL N (shaveL N k xs) (k + 1)) (k + 1)
theorem closeL_lt (N : Net) (xs : List Nat) (k : Nat) : (closeL N xs k).Pairwise (· < ·) := restL_lt _ _
theorem closeL_bd {N : Net} {xs : List Nat} {k : Nat} : ∀ x ∈ closeL N xs k, x < N.n := fun _ h => (restL_mem.mp h).1
theorem shaveL_ok {N : Net} {xs : List Nat} (hl : xs.Pairwise (· < ·)) (hb : ∀ x ∈ xs, x < N.n) : ∀ k, (shaveL N k xs).Pairwise (· < ·) ∧ ∀ x ∈ shaveL N k xs, x < N.n
  | 0 => ⟨hl, hb⟩
  | _ + 1 => ⟨closeL_lt _ _ _, closeL_bd⟩
/-! all lots -/
def setsL : Nat → List (List Nat)
  | 0 => [[]]
  | n + 1 => setsL n ++ (setsL n).map fun t => t ++ [n]
theorem setsL_len : ∀ n, (setsL n).length = 2 ^ n
  | 0 => rfl
  | n + 1 => by
    rw [setsL, List.length_append, List.length_map, setsL_len n]; omega
theorem setsL_ok : ∀ (n : Nat) (t : List Nat), t ∈ setsL n → t.Pairwise (· < ·) ∧ ∀ x ∈ t, x < n
  | 0, t, h => by simp [setsL] at h; subst h; exact ⟨.nil, by simp⟩
  | n + 1, t, h => by
    rw [setsL] at h
    rcases List.mem_append.mp h with h | h
    · obtain ⟨h1, h2⟩ := setsL_ok n t h
      exact ⟨h1, fun x hx => by have := h2 x hx; omega⟩
    · obtain ⟨u, hu, rfl⟩ := List.mem_map.mp h
      obtain ⟨h1, h2⟩ := setsL_ok n u hu
      refine ⟨List.pairwise_append.mpr ⟨h1, by simp, fun a ha b hb => ?_⟩, fun x hx => ?_⟩
      · simp at hb; subst hb; exact h2 a ha
      · rcases List.mem_append.mp hx with hx | hx
        · have := h2 x hx; omega
        · simp at hx; omega
def keyD2 (t : List Nat) : D := .tuple [natD t.length, ptsD t]
def bestL : List (List Nat) → Option (List Nat)
  | [] => none
  | t :: ts => some (ts.foldl (fun a y => if PySem.W.dataLt (keyD2 y) (keyD2 a) then y else a) t)
def ptsO : Option (List Nat) → D
  | none => .none
  | some t => ptsD t
theorem bestL_snoc (l : List (List Nat)) (t : List Nat) : bestL (l ++ [t]) = some (match bestL l with | none => t | some b => if PySem.W.dataLt (keyD2 t) (keyD2 b) then t else b) := by
  cases l with
  | nil => rfl
  | cons x l =>
    show some ((l ++ [t]).foldl _ x) = _
    rw [List.foldl_append]
    rfl
theorem bestL_mem {l : List (List Nat)} {b : List Nat} (h : bestL l = some b) : b ∈ l := by
  have : ∀ (ts : List (List Nat)) (t : List Nat), ts.foldl (fun a y => if PySem.W.dataLt (keyD2 y) (keyD2 a) then y else a) t ∈ t :: ts := by
    intro ts
    induction ts with
    | nil => intro t; simp
    | cons y ts ih =>
      intro t
      rw [List.foldl_cons]
      have := ih (if PySem.W.dataLt (keyD2 y) (keyD2 t) then y else t)
      split at this
      · rename_i hz; rw [if_pos hz]
        exact List.mem_cons_of_mem _ this
      · rename_i hz; rw [if_neg hz]
        rcases List.mem_cons.mp this with e | e
        · rw [e]; simp
        · exact List.mem_cons_of_mem _ (List.mem_cons_of_mem _ e)
  cases l with
  | nil => cases h
  | cons t ts =>
    have e : ts.foldl (fun a y => if PySem.W.dataLt (keyD2 y) (keyD2 a) then y else a) t = b := Option.some.inj h
    rw [← e]
    exact this ts t
theorem alikeA_nats : ∀ a b : List Nat, PySem.W.alikeAll (a.map natD) (b.map natD) = true
  | [], _ => by simp [PySem.W.alikeAll]
  | _ :: _, [] => by simp [PySem.W.alikeAll]
  | x :: a, y :: b => by
    rw [List.map_cons, List.map_cons, PySem.W.alikeAll, alikeA_nats a b]; rfl
theorem alike_key (a b : List Nat) : PySem.W.alike (keyD2 a) (keyD2 b) = true := by
  unfold keyD2 ptsD
  rw [PySem.W.alike, PySem.W.alikeAll, PySem.W.alikeAll, PySem.W.alike, PySem.W.alike, alikeA_nats, PySem.W.alikeAll]; rfl
theorem nice_key {a : List Nat} (h : a.length ≤ 1000) : niceD (keyD2 a) = true := by
  unfold keyD2
  rw [niceD, niceA, niceA, niceA, nice_pts h]; rfl
theorem depth_key (a : List Nat) : (keyD2 a).depth = 2 := by
  unfold keyD2
  rw [PyData.depth, PyData.depthAll, PyData.depthAll, PyData.depthAll, depth_pts]; rfl
theorem shaped_key {a : List Nat} (h : a.length ≤ 1000) : SeqAt.shaped (keyD2 a) = true := shaped_of_nice (nice_key h) (by rw [depth_key]; decide)
theorem lt_key {a b : List Nat} (ha : a.length ≤ 1000) (hb : b.length ≤ 1000) : dLtG (keyD2 a) (keyD2 b) = some (.bool (PySem.W.dataLt (keyD2 a) (keyD2 b))) := by
  show (match dLt (keyD2 a) (keyD2 b) with | some d => some d | none => if cmpOk (keyD2 a) (keyD2 b) = true then some (PyData.bool (PySem.W.dataLt (keyD2 a) (keyD2 b))) else none) = _
  show (if cmpOk (keyD2 a) (keyD2 b) = true then some (PyData.bool (PySem.W.dataLt (keyD2 a) (keyD2 b))) else none) = _
  rw [if_pos]
  unfold cmpOk
  rw [alike_key, shaped_key ha, shaped_key hb]; rfl
/-- min of (len, lot) -/
theorem min_key {ts : List (List Nat)} (hne : ts ≠ []) (hl : ts.length ≤ 1000) (h : ∀ t ∈ ts, t.length ≤ 1000) : ∃ b, bestL ts = some b ∧ dMinG [.list (ts.map keyD2)] = some (keyD2 b) := by
  cases ts with
  | nil => exact absurd rfl hne
  | cons t ts =>
    refine ⟨_, rfl, ?_⟩
    have hmin : minG ((t :: ts).map keyD2) = keyD2 (ts.foldl (fun a y => if PySem.W.dataLt (keyD2 y) (keyD2 a) then y else a) t) := by
      show (ts.map keyD2).foldl _ (keyD2 t) = _
      clear hne hl h
      induction ts generalizing t with
      | nil => rfl
      | cons y ts ih =>
        rw [List.map_cons, List.foldl_cons, List.foldl_cons]
        have : (if PySem.W.dataLt (keyD2 y) (keyD2 t) = true then keyD2 y else keyD2 t) = keyD2 (if PySem.W.dataLt (keyD2 y) (keyD2 t) = true then y else t) := by split <;> rfl
        rw [this]
        exact ih _
    have hnone : dMin [.list ((t :: ts).map keyD2)] = none := rfl
    have hal : alikeA ((t :: ts).map keyD2) = true := by
      unfold alikeA
      simp only [Bool.and_eq_true, List.all_eq_true]
      refine ⟨⟨fun x hx y hy => ?_, fun x hx => ?_⟩, ?_⟩
      · obtain ⟨a, _, rfl⟩ := List.mem_map.mp hx
        obtain ⟨b, _, rfl⟩ := List.mem_map.mp hy
        exact alike_key a b
      · obtain ⟨a, _, rfl⟩ := List.mem_map.mp hx
        rfl
      · refine shaped_of_nice ?_ ?_
        · rw [niceD, Bool.and_eq_true, decide_eq_true_eq]
          refine ⟨by rw [List.length_map]; exact hl, ?_⟩
          clear hl hmin hnone hne
          generalize t :: ts = l at h
          induction l with
          | nil => rfl
          | cons a l ih =>
            rw [List.map_cons, niceA, nice_key (h a (by simp)), ih fun b hb => h b (by simp [hb])]; rfl
        · have : ∀ l : List (List Nat), PyData.depthAll (l.map keyD2) ≤ 2 := by
            intro l
            induction l with
            | nil => exact Nat.zero_le _
            | cons a l ih => rw [List.map_cons, PyData.depthAll, depth_key]; omega
          rw [PyData.depth]
          have := this (t :: ts)
          omega
    show (match dMin [.list ((t :: ts).map keyD2)] with | some d => some d | none => bestOf minG [.list ((t :: ts).map keyD2)]) = _
    rw [hnone]
    show (if ((t :: ts).map keyD2).isEmpty = false ∧ alikeA ((t :: ts).map keyD2) = true then some (minG ((t :: ts).map keyD2)) else none) = _
    rw [if_pos ⟨rfl, hal⟩, hmin]
def missL (xs t : List Nat) : List Nat := xs.filter fun x => decide (x ∉ t)
theorem miss_all (xs t : List Nat) : ((xs.map fun p => decide (p ∈ t)).all id) = decide (missL xs t = []) := by
  unfold missL
  rw [List.all_map]
  induction xs with
  | nil => rfl
  | cons a xs ih =>
    rw [List.all_cons, ih, List.filter_cons]
    by_cases ha : a ∈ t <;> simp [ha]
noncomputable def overL (N : Net) (k : Nat) (xs : List Nat) : List (List Nat) := ((setsL N.n).filter fun t => decide (openL N t k = t)).filter fun t => decide (missL xs t = [])
theorem nearD_at {N : Net} {v : Nat} (h : v < N.n) : L2.atI ((List.range N.n).map fun v => natL (near N v)) (v : Int) = some (natL (near N v)) := atI_of (by rw [List.getElem?_map, List.getElem?_range h]; rfl)
/-! nice data of a depth -/
def Nd (k : Nat) (d : D) : Prop := niceD d = true ∧ d.depth ≤ k
def NdA (k : Nat) (ds : List D) : Prop := niceA ds = true ∧ PyData.depthAll ds ≤ k
theorem Nd.mono {k m : Nat} {d : D} (h : Nd k d) (hm : k ≤ m) : Nd m d := ⟨h.1, Nat.le_trans h.2 hm⟩
theorem NdA.mono {k m : Nat} {d : List D} (h : NdA k d) (hm : k ≤ m) : NdA m d := ⟨h.1, Nat.le_trans h.2 hm⟩
theorem ndA_nil {k : Nat} : NdA k [] := ⟨rfl, Nat.zero_le _⟩
theorem ndA_cons {k : Nat} {d : D} {ds : List D} (h : Nd k d) (t : NdA k ds) : NdA k (d :: ds) := by
  refine ⟨by rw [niceA, h.1, t.1]; rfl, ?_⟩
  rw [PyData.depthAll]
  have := h.2
  have := t.2
  omega
theorem ndA_map {α : Type} {k : Nat} {f : α → D} {xs : List α} (h : ∀ x ∈ xs, Nd k (f x)) : NdA k (xs.map f) := by
  induction xs with
  | nil => exact ndA_nil
  | cons x xs ih => exact ndA_cons (h x (by simp)) (ih fun y hy => h y (by simp [hy]))
theorem nd_list {k : Nat} {ds : List D} (h : NdA k ds) (hl : ds.length ≤ 1000) : Nd (k + 1) (.list ds) := by
  refine ⟨by rw [niceD, h.1, Bool.and_true, decide_eq_true_eq]; exact hl, ?_⟩
  rw [PyData.depth]
  have := h.2
  omega
theorem nd_tup {k : Nat} {ds : List D} (h : NdA k ds) (hl : ds.length ≤ 1000) : Nd (k + 1) (.tuple ds) := by
  refine ⟨by rw [niceD, h.1, Bool.and_true, decide_eq_true_eq]; exact hl, ?_⟩
  rw [PyData.depth]
  have := h.2
  omega
theorem nd_int (k : Nat) (i : Int) : Nd k (.int i) := ⟨rfl, Nat.zero_le _⟩
theorem nd_bool (k : Nat) (b : Bool) : Nd k (.bool b) := ⟨rfl, Nat.zero_le _⟩
theorem nd_none (k : Nat) : Nd k .none := ⟨rfl, Nat.zero_le _⟩
theorem nd_pts {xs : List Nat} (h : xs.length ≤ 1000) : Nd 1 (ptsD xs) := ⟨nice_pts h, by rw [depth_pts]; exact Nat.le_refl _⟩
theorem nd_natL {xs : List Nat} (h : xs.length ≤ 1000) : Nd 1 (natL xs) := ⟨nice_natL h, by rw [depth_natL]; exact Nat.le_refl _⟩
theorem nd_row {xs : List Int} (h : xs.length ≤ 1000) : Nd 1 (rowD xs) := ⟨nice_row h, by rw [depth_row]; exact Nat.le_refl _⟩
theorem nd_ptsL {ps : List (List Nat)} (hl : ps.length ≤ 1000) (h : ∀ p ∈ ps, p.length ≤ 1000) : Nd 2 (ptsL ps) := ⟨nice_ptsL hl h, depth_ptsL ps⟩
theorem nd_l2 {k : Nat} {a b : D} (h1 : Nd k a) (h2 : Nd k b) : Nd (k + 1) (.list [a, b]) := nd_list (ndA_cons h1 (ndA_cons h2 ndA_nil)) (by simp)
theorem nd_l3 {k : Nat} {a b c : D} (h1 : Nd k a) (h2 : Nd k b) (h3 : Nd k c) : Nd (k + 1) (.list [a, b, c]) := nd_list (ndA_cons h1 (ndA_cons h2 (ndA_cons h3 ndA_nil))) (by simp)
theorem nd_l4 {k : Nat} {a b c d : D} (h1 : Nd k a) (h2 : Nd k b) (h3 : Nd k c) (h4 : Nd k d) : Nd (k + 1) (.list [a, b, c, d]) := nd_list (ndA_cons h1 (ndA_cons h2 (ndA_cons h3 (ndA_cons h4 ndA_nil)))) (by simp)
theorem nd_key {t : List Nat} (h : t.length ≤ 1000) : Nd 2 (keyD2 t) := ⟨nice_key h, by rw [depth_key]; exact Nat.le_refl _⟩
theorem Nd.shaped {k : Nat} {d : D} (h : Nd k d) (hk : k ≤ 64) : SeqAt.shaped d = true := shaped_of_nice h.1 (Nat.le_trans h.2 hk)
end VS
/-! VFL: flats, rims, bumps. -/
namespace VS
open PySem PySem.Spec
theorem adj_comm (N : Net) (u v : Nat) : adj N u v = adj N v u := by
  unfold adj
  congr 1
  funext p
  rw [Bool.or_comm]
theorem near_symm {N : Net} {u v : Nat} (hu : u < N.n) (hv : v ∈ near N u) : u ∈ near N v := near_mem.mpr ⟨hu, by rw [adj_comm]; exact (near_mem.mp hv).2⟩
section
variable {N : Net} {kept : List Nat} {s x u : Nat}
theorem Rch.isin (h : Rch N kept s x) : x = s ∨ (x ∈ kept ∧ x < N.n) := by
  cases h with
  | start => exact .inl rfl
  | step _ h2 h3 => exact .inr ⟨h3, (near_mem.mp h2).1⟩
theorem Rch.trans (h : Rch N kept s u) (k : Rch N kept u x) : Rch N kept s x := by
  induction k with
  | start => exact h
  | step _ h2 h3 ih => exact .step ih h2 h3
theorem Rch.symm (hs : s ∈ kept) (hn : s < N.n) (h : Rch N kept s x) : Rch N kept x s := by
  induction h with
  | start => exact .start
  | step h1 h2 h3 ih =>
    rename_i u x
    have hu : u ∈ kept ∧ u < N.n := by
      rcases h1.isin with rfl | h
      · exact ⟨hs, hn⟩
      · exact h
    exact (Rch.step .start (near_symm hu.2 h2) hu.1).trans ih
theorem comp_in (hs : s ∈ kept) (hx : x ∈ comp N kept s) : x ∈ kept ∧ x < N.n := by
  obtain ⟨h1, h2⟩ := comp_mem.mp hx
  rcases h2.isin with rfl | h
  · exact ⟨hs, h1⟩
  · exact h
theorem comp_symm (hs : s ∈ kept) (hn : s < N.n) (hx : x ∈ comp N kept s) : s ∈ comp N kept x := comp_mem.mpr ⟨hn, (comp_mem.mp hx).2.symm hs hn⟩
theorem incr_ext {l m : List Nat} (hl : l.Pairwise (· < ·)) (hm : m.Pairwise (· < ·)) (h : ∀ k, k ∈ l ↔ k ∈ m) : l = m := strict_unique (lt := (· < ·)) (fun a => Nat.lt_irrefl a) (fun a b => Nat.lt_asymm) hl hm h
theorem comp_eq (hs : s ∈ kept) (hn : s < N.n) (hx : x ∈ comp N kept s) : comp N kept x = comp N kept s := by
  refine incr_ext (comp_lt _ _ _) (comp_lt _ _ _) fun k => ?_
  rw [comp_mem, comp_mem]
  have h := (comp_mem.mp hx).2
  exact ⟨fun ⟨h1, h2⟩ => ⟨h1, h.trans h2⟩, fun ⟨h1, h2⟩ => ⟨h1, (h.symm hs hn).trans h2⟩⟩
theorem comp_disj {t : Nat} (hs : s ∈ kept) (hn : s < N.n) (ht : t ∈ kept) (htn : t < N.n) (h1 : x ∈ comp N kept s) (h2 : x ∈ comp N kept t) : comp N kept s = comp N kept t := (comp_eq hs hn h1).symm.trans (comp_eq ht htn h2)
end
/-- s is the least of its part -/
noncomputable def leastIn (N : Net) (kept : List Nat) (s : Nat) : Bool := decide (∀ x ∈ comp N kept s, s ≤ x)
theorem partsGo_eq {N : Net} {kept : List Nat} (hk : kept.Pairwise (· < ·)) (hb : ∀ x ∈ kept, x < N.n) : ∀ (post pre : List Nat), kept = pre ++ post → partsGo N kept (post.filter fun y => decide (∀ p ∈ pre, y ∉ comp N kept p)) = (post.filter (leastIn N kept)).map (comp N kept)
  | [], pre, _ => by rw [List.filter_nil, partsGo]; rfl
  | x :: r, pre, e => by
    have hx : x ∈ kept := by rw [e]; simp
    have hxn := hb x hx
    have hpk : ∀ p ∈ pre, p ∈ kept := fun p hp => by rw [e]; exact List.mem_append_left _ hp
    have hpx : ∀ p ∈ pre, p < x := fun p hp => by
      have := hk
      rw [e] at this
      exact (List.pairwise_append.mp this).2.2 p hp x (by simp)
    have ih := partsGo_eq hk hb r (pre ++ [x]) (by rw [e]; simp)
    rw [List.filter_cons, List.filter_cons]
    by_cases hz : ∀ p ∈ pre, x ∉ comp N kept p
    · rw [if_pos (by simpa using hz)]
      have hle : leastIn N kept x = true := by
        unfold leastIn
        rw [decide_eq_true_eq]
        intro y hy
        rcases Nat.lt_or_ge y x with hyx | hyx
        · exfalso
          have hyk := (comp_in hx hy).1
          have hyp : y ∈ pre := by
            rw [e] at hyk
            rcases List.mem_append.mp hyk with h | h
            · exact h
            · rcases List.mem_cons.mp h with h | h
              · omega
              · have h4 := hk
                rw [e] at h4
                have := (List.pairwise_cons.mp (List.pairwise_append.mp h4).2.1).1 y h
                omega
          exact hz y hyp (comp_symm hx hxn hy)
        · exact hyx
      rw [if_pos hle, partsGo, List.map_cons, ← ih, List.filter_filter]
      congr 2
      refine List.filter_congr fun y _ => ?_
      by_cases h1 : y ∈ comp N kept x
      · simp [h1]
      · simp [h1, or_imp, forall_and]
    · rw [if_neg (by simpa using hz)]
      obtain ⟨p, hp, hxp⟩ : ∃ p, p ∈ pre ∧ x ∈ comp N kept p := by
        refine Classical.byContradiction fun h => hz fun p hp hxp => h ⟨p, hp, hxp⟩
      have hcx := comp_eq (hpk p hp) (hb p (hpk p hp)) hxp
      have hle : ¬ leastIn N kept x = true := by
        unfold leastIn
        rw [decide_eq_true_eq]
        intro h
        have := h p (by rw [hcx]; exact comp_self (hb p (hpk p hp)))
        have := hpx p hp
        omega
      rw [if_neg hle, ← ih]
      congr 1
      refine List.filter_congr fun y _ => ?_
      rw [decide_eq_decide]
      constructor
      · intro h q hq
        rcases List.mem_append.mp hq with hq | hq
        · exact h q hq
        · simp at hq; subst hq; rw [hcx]; exact h p hp
      · intro h q hq; exact h q (List.mem_append_left _ hq)
theorem partsL_eq {N : Net} {kept : List Nat} (hk : kept.Pairwise (· < ·)) (hb : ∀ x ∈ kept, x < N.n) : partsL N kept = (kept.filter (leastIn N kept)).map (comp N kept) := by
  have := partsGo_eq hk hb kept [] rfl
  rw [List.filter_eq_self.mpr (by simp)] at this
  exact this
/-! flats -/
abbrev hat (hs : List Int) (i : Nat) : Int := hs.getD i 0
def levL (hs : List Int) (h : Int) : List Nat := (List.range hs.length).filter fun i => decide (hat hs i = h)
theorem levL_mem {hs : List Int} {h : Int} {i : Nat} : i ∈ levL hs h ↔ i < hs.length ∧ hat hs i = h := by
  unfold levL
  rw [List.mem_filter, List.mem_range, decide_eq_true_eq]
theorem levL_lt (hs : List Int) (h : Int) : (levL hs h).Pairwise (· < ·) := List.Pairwise.filter _ List.pairwise_lt_range
noncomputable def flat (N : Net) (hs : List Int) (p : Nat) : List Nat := comp N (levL hs (hat hs p)) p
noncomputable def leastF (N : Net) (hs : List Int) (p : Nat) : Bool := decide (∀ x ∈ flat N hs p, p ≤ x)
noncomputable def flatsL (N : Net) (hs : List Int) : List (List Nat) := ((List.range N.n).filter (leastF N hs)).map (flat N hs)
section
variable {N : Net} {hs : List Int} {p x : Nat}
theorem self_lev (hl : hs.length = N.n) (hp : p < N.n) : p ∈ levL hs (hat hs p) := levL_mem.mpr ⟨by omega, rfl⟩
theorem flat_self (hp : p < N.n) : p ∈ flat N hs p := comp_self hp
theorem flat_hat (hl : hs.length = N.n) (hp : p < N.n) (hx : x ∈ flat N hs p) : hat hs x = hat hs p := (levL_mem.mp (comp_in (self_lev hl hp) hx).1).2
theorem flat_lim (hx : x ∈ flat N hs p) : x < N.n := comp_bd hx
theorem flat_lt (N : Net) (hs : List Int) (p : Nat) : (flat N hs p).Pairwise (· < ·) := comp_lt _ _ _
theorem flat_plen (N : Net) (hs : List Int) (p : Nat) : (flat N hs p).length ≤ N.n := comp_len _ _ _
theorem flat_eq (hl : hs.length = N.n) (hp : p < N.n) (hx : x ∈ flat N hs p) : flat N hs x = flat N hs p := by
  unfold flat
  rw [flat_hat hl hp hx]
  exact comp_eq (self_lev hl hp) hp hx
theorem flat_symm (hl : hs.length = N.n) (hp : p < N.n) (hx : x ∈ flat N hs p) : p ∈ flat N hs x := by
  rw [flat_eq hl hp hx]; exact flat_self hp
theorem flatsL_mem {f : List Nat} : f ∈ flatsL N hs ↔ ∃ p, p < N.n ∧ leastF N hs p = true ∧ f = flat N hs p := by
  unfold flatsL
  rw [List.mem_map]
  constructor
  · rintro ⟨p, hp, rfl⟩
    obtain ⟨h1, h2⟩ := List.mem_filter.mp hp
    exact ⟨p, List.mem_range.mp h1, h2, rfl⟩
  · rintro ⟨p, h1, h2, rfl⟩
    exact ⟨p, List.mem_filter.mpr ⟨List.mem_range.mpr h1, h2⟩, rfl⟩
theorem flatsL_len (N : Net) (hs : List Int) : (flatsL N hs).length ≤ N.n := by
  unfold flatsL
  rw [List.length_map]
  have := List.length_filter_le (leastF N hs) (List.range N.n)
  rwa [List.length_range] at this
theorem flatsL_plen {f : List Nat} (h : f ∈ flatsL N hs) : f.length ≤ N.n := by
  obtain ⟨p, _, _, rfl⟩ := flatsL_mem.mp h
  exact flat_plen N hs p
theorem least_head (hp : p < N.n) (h : leastF N hs p = true) : ∃ r, flat N hs p = p :: r := by
  have h1 := flat_self (hs := hs) hp
  have h2 := flat_lt N hs p
  unfold leastF at h
  rw [decide_eq_true_eq] at h
  cases e : flat N hs p with
  | nil => rw [e] at h1; cases h1
  | cons y r =>
    rw [e] at h1 h2 h
    rcases List.mem_cons.mp h1 with rfl | h1
    · exact ⟨r, rfl⟩
    · have := (List.pairwise_cons.mp h2).1 p h1
      have := h y (by simp)
      omega
end
/-! the order of points as tuples -/
theorem dle_pts (a b : List Nat) : dle (ptsD a) (ptsD b) = decide (toI a ≤ toI b) := by
  have h := congrFun (congrFun (PySem.W.dataLe_rows (fun x : List Nat => toI x)) a) b
  have e : ∀ x : List Nat, PySem.W.keyToks (ptsD x) = PySem.W.keyToks (PyData.list ((toI x).map .int)) := fun x => by
    unfold ptsD toI
    rw [List.map_map]
    rfl
  have e2 : dle (ptsD a) (ptsD b) = PySem.W.dataLe false (fun x : List Nat => PyData.list ((toI x).map .int)) a b := by
    show (!PySem.W.dataLt (ptsD b) (ptsD a)) = (!PySem.W.dataLt (.list ((toI b).map .int)) (.list ((toI a).map .int)))
    unfold PySem.W.dataLt
    rw [e a, e b]
  rw [e2]
  exact h
theorem dle_head {a b : Nat} {as bs : List Nat} (h : a < b) : dle (ptsD (a :: as)) (ptsD (b :: bs)) = true ∧ dle (ptsD (b :: bs)) (ptsD (a :: as)) = false := by
  rw [dle_pts, dle_pts, decide_eq_true_eq, decide_eq_false_iff_not]
  unfold toI
  simp only [List.map_cons, List.cons_le_cons_iff]
  have h1 : (Int.ofNat a) < Int.ofNat b := by simp; exact h
  have h2 : ¬ Int.ofNat b < Int.ofNat a := by simp; omega
  have h3 : ¬ Int.ofNat b = Int.ofNat a := by simp; omega
  exact ⟨.inl h1, fun z => by rcases z with z | z; exact h2 z; exact h3 z.1⟩
theorem dle_same (a : List Nat) : dle (ptsD a) (ptsD a) = true := by
  rw [dle_pts, decide_eq_true_eq]
  exact List.le_refl _
/-! rims, bumps, pits -/
def rimL (N : Net) (pts : List Nat) : List Nat := (List.range N.n).filter fun x => decide (x ∉ pts) && decide (∃ u ∈ pts, x ∈ near N u)
theorem rimL_mem {N : Net} {pts : List Nat} {x : Nat} : x ∈ rimL N pts ↔ x ∉ pts ∧ ∃ u ∈ pts, x ∈ near N u := by
  unfold rimL
  rw [List.mem_filter, List.mem_range, Bool.and_eq_true, decide_eq_true_eq, decide_eq_true_eq]
  constructor
  · rintro ⟨_, h⟩; exact h
  · rintro ⟨h1, u, h2, h3⟩; exact ⟨(near_mem.mp h3).1, h1, u, h2, h3⟩
theorem rimL_lt (N : Net) (pts : List Nat) : (rimL N pts).Pairwise (· < ·) := List.Pairwise.filter _ List.pairwise_lt_range
theorem rimL_bd {N : Net} {pts : List Nat} {x : Nat} (h : x ∈ rimL N pts) : x < N.n := List.mem_range.mp (List.mem_filter.mp h).1
theorem rimL_len (N : Net) (pts : List Nat) : (rimL N pts).length ≤ N.n := incr_le (rimL_lt _ _) fun _ h => rimL_bd h
def upB (N : Net) (hs : List Int) (f : List Nat) : Bool := decide (rimL N f ≠ []) && decide (∀ x ∈ rimL N f, hat hs x < hat hs (f.headD 0))
def dnB (N : Net) (hs : List Int) (f : List Nat) : Bool := decide (rimL N f ≠ []) && decide (∀ x ∈ rimL N f, hat hs (f.headD 0) < hat hs x)
noncomputable def bumpsL (N : Net) (hs : List Int) (k : Nat) : List (List Nat) := (flatsL N hs).filter fun f => decide (f.length ≤ k) && upB N hs f
noncomputable def pitsL (N : Net) (hs : List Int) (k : Nat) : List (List Nat) := (flatsL N hs).filter fun f => decide (f.length ≤ k) && dnB N hs f
theorem bumpsL_len (N : Net) (hs : List Int) (k : Nat) : (bumpsL N hs k).length ≤ N.n := Nat.le_trans (List.length_filter_le _ _) (flatsL_len N hs)
theorem pitsL_len (N : Net) (hs : List Int) (k : Nat) : (pitsL N hs k).length ≤ N.n := Nat.le_trans (List.length_filter_le _ _) (flatsL_len N hs)
theorem bumpsL_plen {N : Net} {hs : List Int} {k : Nat} {f : List Nat} (h : f ∈ bumpsL N hs k) : f.length ≤ N.n := flatsL_plen (List.mem_filter.mp h).1
theorem pitsL_plen {N : Net} {hs : List Int} {k : Nat} {f : List Nat} (h : f ∈ pitsL N hs k) : f.length ≤ N.n := flatsL_plen (List.mem_filter.mp h).1
/-! upside down -/
def negR (hs : List Int) : List Int := hs.map fun x => -x
theorem hat_neg (hs : List Int) (i : Nat) : hat (negR hs) i = -hat hs i := by
  unfold hat negR
  rw [List.getD_eq_getElem?_getD, List.getD_eq_getElem?_getD, List.getElem?_map]
  cases hs[i]? <;> simp
theorem levL_neg (hs : List Int) (h : Int) : levL (negR hs) (-h) = levL hs h := by
  unfold levL
  rw [show (negR hs).length = hs.length by unfold negR; simp]
  refine List.filter_congr fun i _ => ?_
  rw [hat_neg, decide_eq_decide]
  omega
theorem flat_neg (N : Net) (hs : List Int) (p : Nat) : flat N (negR hs) p = flat N hs p := by
  unfold flat
  rw [hat_neg, levL_neg]
theorem flatsL_neg (N : Net) (hs : List Int) : flatsL N (negR hs) = flatsL N hs := by
  unfold flatsL leastF
  rw [show flat N (negR hs) = flat N hs from funext (flat_neg N hs)]
theorem upB_neg (N : Net) (hs : List Int) (f : List Nat) : upB N (negR hs) f = dnB N hs f := by
  unfold upB dnB
  congr 1
  rw [decide_eq_decide]
  constructor
  · intro h x hx; have := h x hx; rw [hat_neg, hat_neg] at this; omega
  · intro h x hx; have := h x hx; rw [hat_neg, hat_neg]; omega
theorem bumpsL_neg (N : Net) (hs : List Int) (k : Nat) : bumpsL N (negR hs) k = pitsL N hs k := by
  unfold bumpsL pitsL
  rw [flatsL_neg]
  refine List.filter_congr fun f _ => ?_
  rw [upB_neg]
theorem negR_ok {n : Nat} {hs : List Int} (h : RowOk n hs) : RowOk n (negR hs) := by
  refine ⟨by unfold negR; rw [List.length_map]; exact h.len, fun x hx => ?_⟩
  obtain ⟨y, hy, rfl⟩ := List.mem_map.mp hx
  have := h.bnd y hy
  omega
theorem row_hat {hs : List Int} {i : Nat} (h : i < hs.length) : L2.atI (hs.map intD) (i : Int) = some (intD (hat hs i)) := by
  rw [row_at h]
  unfold hat
  rw [List.getD_eq_getElem?_getD, List.getElem?_eq_getElem h]; rfl
theorem ix_row {hs : List Int} {i : Nat} (h : i < hs.length) : dIx (rowD hs) (natD i) = some (intD (hat hs i)) := by
  unfold rowD
  rw [show natD i = PyData.int (i : Int) from rfl, dIx_tup]
  exact row_hat h
theorem ix_near {N : Net} {v : Nat} (h : v < N.n) : dIx (nearD N) (natD v) = some (natL (near N v)) := nearD_at h
theorem mx_lt {ns : List Int} {h : Int} (hne : ns ≠ []) : mx ns < h ↔ ∀ x ∈ ns, x < h := by
  obtain ⟨h1, h2⟩ := mx_spec ns hne
  exact ⟨fun z x hx => Int.lt_of_le_of_lt (h2 x hx) z, fun z => z _ h1⟩
theorem mn_gt {ns : List Int} {h : Int} (hne : ns ≠ []) : h < mn ns ↔ ∀ x ∈ ns, h < x := by
  obtain ⟨h1, h2⟩ := mn_spec ns hne
  exact ⟨fun z x hx => Int.lt_of_lt_of_le z (h2 x hx), fun z => z _ h1⟩
theorem nums_ints (xs : List Int) : numsD (.list (xs.map intD)) = some xs := intsOf_map xs
theorem max_ints {xs : List Int} (h : xs ≠ []) : dMaxG [.list (xs.map intD)] = some (intD (mx xs)) := by
  have : dMax [.list (xs.map intD)] = some (.int (mx xs)) := by
    unfold dMax
    simp only [nums_ints]
    cases xs with
    | nil => exact absurd rfl h
    | cons x r => rfl
  show (match dMax [.list (xs.map intD)] with | some d => some d | none => bestOf maxG [.list (xs.map intD)]) = _
  rw [this]
theorem min_ints {xs : List Int} (h : xs ≠ []) : dMinG [.list (xs.map intD)] = some (intD (mn xs)) := by
  have : dMin [.list (xs.map intD)] = some (.int (mn xs)) := by
    unfold dMin
    simp only [nums_ints]
    cases xs with
    | nil => exact absurd rfl h
    | cons x r => rfl
  show (match dMin [.list (xs.map intD)] with | some d => some d | none => bestOf minG [.list (xs.map intD)]) = _
  rw [this]
theorem in_iDic {x : Int} {ks : List Int} : dIn (.int x) (.dict (iDic ks)) = some (.bool (decide (x ∈ ks))) := by
  have : ∀ (ks : List Int), (dval (iDic ks) (.int x)).isSome = decide (x ∈ ks) := fun ks => by
    induction ks with
    | nil => rfl
    | cons k ks ih =>
      show (dval ((PyData.int k, PyData.bool true) :: iDic ks) (.int x)).isSome = _
      unfold dval at ih ⊢
      rw [List.find?_cons]
      show (Option.map _ (match PyData.eqv (.int k) (.int x) with | true => _ | false => _)).isSome = _
      rw [PyData.eqv]
      by_cases e : k = x
      · subst e; simp
      · have e' : ¬ x = k := fun z => e z.symm
        have e3 : (k == x) = false := by simp [e]
        simp only [e3, List.mem_cons, e', false_or]
        exact ih
  unfold dIn
  show ((dlook (iDic ks) (.int x)).map Option.isSome).map PyData.bool = _
  unfold dlook
  rw [iDic_split]
  show some (PyData.bool (dval (iDic ks) (.int x)).isSome) = _
  rw [this]
theorem notIn_iDic {x : Int} {ks : List Int} : dNotIn (.int x) (.dict (iDic ks)) = some (.bool (decide (x ∉ ks))) := by
  rw [notIn_of in_iDic, decide_not]
theorem iDic_dput {ks : List Int} {x : Int} (h : ks.length ≤ 1000) : dputD (iDic ks) (.int x) (.bool true) = some (iDic (iAdd ks x)) := by
  unfold dputD
  rw [iDic_split]
  have hl : (iDic ks).length = ks.length := by unfold iDic; simp
  show (if ((keyOf (.int x)).isSome = true ∧ (iDic ks).length < sizeLine) then some (if false = true then _ else dput (iDic ks) (.int x) (.bool true)) else none) = _
  rw [if_pos ⟨rfl, by rw [hl]; exact Nat.lt_of_le_of_lt h (by decide)⟩, if_neg (by simp), iDic_put]
theorem iAdd_len (ks : List Int) (x : Int) : (iAdd ks x).length ≤ ks.length + 1 := by
  unfold iAdd
  split
  · omega
  · simp
theorem iFold_len : ∀ (xs ks : List Int), (xs.foldl iAdd ks).length ≤ ks.length + xs.length
  | [], ks => by simp
  | x :: xs, ks => by
    have h1 := iFold_len xs (iAdd ks x)
    have h2 := iAdd_len ks x
    rw [List.foldl_cons, List.length_cons]
    omega
theorem iDic_merge (xs : List Int) : ∀ ks : List Int, dmerge (iDic ks) (iDic xs) = iDic (xs.foldl iAdd ks) := by
  induction xs with
  | nil => intro ks; rfl
  | cons x xs ih =>
    intro ks
    show dmerge (dput (iDic ks) (.int x) (.bool true)) (iDic xs) = _
    rw [iDic_put, ih]
    rfl
theorem iDic_sortG (ks : List Int) : dSortG [.dict (iDic ks)] = some (.list ((ks.mergeSort intle).map intD)) := by
  have h := sorted_int ks
  unfold dSorted at h
  show (if sortable ((dsplit (iDic ks)).2.map (·.1)) = true then some (PyData.list (((dsplit (iDic ks)).2.map (·.1)).mergeSort dle)) else none) = _
  rw [iDic_split]
  have e : (iDic ks).map (·.1) = ks.map intD := by unfold iDic; rw [List.map_map]; rfl
  show (if sortable ((iDic ks).map (·.1)) = true then some (PyData.list (((iDic ks).map (·.1)).mergeSort dle)) else none) = _
  rw [e]
  exact h
theorem toI_lt {xs : List Nat} (h : xs.Pairwise (· < ·)) : (toI xs).Pairwise (· < ·) := by
  unfold toI
  rw [List.pairwise_map]
  exact h.imp fun {a b} q => by simpa using q
theorem sort_toI {ks : List Int} {xs : List Nat} (hn : ks.Nodup) (hx : xs.Pairwise (· < ·)) (h : ∀ k, k ∈ ks ↔ k ∈ toI xs) : (ks.mergeSort intle) = toI xs :=
  strict_unique (lt := (· < ·)) (fun a => Int.lt_irrefl a) (fun a b h => by omega) (sort_int_lt hn) (toI_lt hx) fun k => by rw [(List.mergeSort_perm _ intle).mem_iff, h]
theorem mem_toI {k : Int} {xs : List Nat} : k ∈ toI xs ↔ ∃ x : Nat, k = (x : Int) ∧ x ∈ xs := by
  unfold toI
  rw [List.mem_map]
  constructor
  · rintro ⟨a, ha, rfl⟩; exact ⟨a, rfl, ha⟩
  · rintro ⟨a, rfl, ha⟩; exact ⟨a, ha, rfl⟩
theorem toI_nodup {xs : List Nat} (h : xs.Nodup) : (toI xs).Nodup := by
  unfold toI List.Nodup
  rw [List.pairwise_map]
  exact h.imp fun {a b} q e => q (Int.ofNat.inj e)
theorem least_iff {N : Net} {hs : List Int} {x : Nat} (hl : hs.length = N.n) (hx : x < N.n) : leastF N hs x = true ↔ ∀ p, p < x → x ∉ flat N hs p := by
  unfold leastF
  rw [decide_eq_true_eq]
  constructor
  · intro h p hp hxp
    have := h p (flat_symm hl (by omega) hxp)
    omega
  · intro h y hy
    rcases Nat.lt_or_ge y x with hyx | hyx
    · exact absurd (flat_symm hl hx hy) (h y hyx)
    · exact hyx
theorem out_len {N : Net} {pts : List Nat} {u : Nat} (hn : pts.Nodup) (hb : ∀ x ∈ pts, x < N.n) : ((near N u).filter fun x => decide (x ∉ pts)).length + pts.length ≤ N.n := by
  have h := nodup_len (n := N.n) (fs := ((near N u).filter fun x => decide (x ∉ pts)) ++ pts) (List.nodup_append.mpr ⟨(near_nodup N u).filter _, hn, fun a ha b hb e => by
    subst e
    have := (List.mem_filter.mp ha).2
    rw [decide_eq_true_eq] at this
    exact this hb⟩) fun x hx => by
      rcases List.mem_append.mp hx with hx | hx
      · exact (near_mem.mp (List.mem_filter.mp hx).1).1
      · exact hb x hx
  rwa [List.length_append] at h
theorem mul_few : ∀ s : Fin 13, ∀ n : Fin 13, s.val * (n.val - s.val) < 64 := by decide
theorem few_of {s n : Nat} (hs : s ≤ 12) (hn : n ≤ 12) : s * (n - s) < 64 := mul_few ⟨s, by omega⟩ ⟨n, by omega⟩
theorem dsortset_row {hs : List Int} (h : hs.length < 64) : dsortset (rowD hs) = some (.list ((sortset hs).map intD)) := by
  unfold dsortset
  have : numsD (rowD hs) = some hs := by
    unfold numsD rowD
    show intsOf (hs.map intD) = _
    exact intsOf_map hs
  rw [this]
  show (if _ then _ else _) = _
  rw [if_pos h]
theorem dsortset_nat {xs ys : List Nat} (h : xs.length < 64) (hy : ys.Pairwise (· < ·)) (hm : ∀ k, k ∈ xs ↔ k ∈ ys) : dsortset (natL xs) = some (natL ys) := by
  unfold dsortset
  have : numsD (natL xs) = some (toI xs) := by
    rw [natL_toI]
    exact nums_ints _
  rw [this]
  show (if (toI xs).length < 64 then _ else _) = _
  rw [if_pos (by unfold toI; rw [List.length_map]; exact h), natL_toI]
  have e : sortset (toI xs) = toI ys := by
    refine strict_unique (lt := (· < ·)) (fun a => Int.lt_irrefl a) (fun a b h => by omega) (sortset_lt _) (toI_lt hy) fun k => ?_
    rw [sortset_mem, mem_toI, mem_toI]
    constructor
    · rintro ⟨x, rfl, hx⟩; exact ⟨x, rfl, (hm x).mp hx⟩
    · rintro ⟨x, rfl, hx⟩; exact ⟨x, rfl, (hm x).mpr hx⟩
  rw [e]
theorem sortable_pts {ps : List (List Nat)} (hne : ∀ p ∈ ps, p ≠ []) : sortable (ps.map ptsD) = true := by
  unfold sortable
  simp only [Bool.and_eq_true, Bool.or_eq_true, List.all_eq_true, decide_eq_true_eq]
  refine ⟨⟨fun a ha b hb => ?_, .inl fun a ha => ?_⟩, fun a ha => ?_⟩
  · obtain ⟨x, _, rfl⟩ := List.mem_map.mp ha
    obtain ⟨y, _, rfl⟩ := List.mem_map.mp hb
    unfold ptsD
    rw [PySem.W.alike]
    exact alikeA_nats x y
  · obtain ⟨x, hx, rfl⟩ := List.mem_map.mp ha
    cases x with
    | nil => exact absurd rfl (hne _ hx)
    | cons y r => rfl
  · obtain ⟨x, hx, rfl⟩ := List.mem_map.mp ha
    refine ⟨?_, by rw [depth_pts]; decide⟩
    unfold ptsD
    rw [PyData.canLay0]
    exact niceA_lay _ (niceA_nats x)
theorem sort_flats {N : Net} {hs : List Int} {H : List Nat} (hH : ∀ p ∈ H, p < N.n ∧ leastF N hs p = true) : dSortG [ptsL (H.map (flat N hs))] = some (ptsL ((H.mergeSort natle).map (flat N hs))) := by
  unfold ptsL
  rw [dSortG_list]
  show (if sortable ((H.map (flat N hs)).map ptsD) = true then some (PyData.list (((H.map (flat N hs)).map ptsD).mergeSort dle)) else none) = _
  rw [if_pos (sortable_pts fun p hp z => ?_), List.map_map, List.map_map]
  · rw [PySem.W.sort_maps (r := natle) (s := dle) (l := H) (ptsD ∘ flat N hs) fun a ha b hb => ?_]
    obtain ⟨r1, e1⟩ := least_head (hH a ha).1 (hH a ha).2
    obtain ⟨r2, e2⟩ := least_head (hH b hb).1 (hH b hb).2
    show natle a b = dle (ptsD (flat N hs a)) (ptsD (flat N hs b))
    unfold natle
    rcases Nat.lt_trichotomy a b with h | h | h
    · rw [e1, e2, (dle_head h).1, decide_eq_true (Nat.le_of_lt h)]
    · subst h; rw [dle_same, decide_eq_true (Nat.le_refl _)]
    · rw [e1, e2, (dle_head h).2, decide_eq_false (by omega)]
  · obtain ⟨a, ha, rfl⟩ := List.mem_map.mp hp
    obtain ⟨r1, e1⟩ := least_head (hH a ha).1 (hH a ha).2
    rw [e1] at z; cases z
/-- the parts of a level are the flats there -/
theorem parts_lev {N : Net} {hs : List Int} (hl : hs.length = N.n) (t : Int) : partsL N (levL hs t) = ((levL hs t).filter (leastF N hs)).map (flat N hs) := by
  rw [partsL_eq (levL_lt hs t) fun x hx => by have := (levL_mem.mp hx).1; omega]
  have hc : ∀ s ∈ levL hs t, comp N (levL hs t) s = flat N hs s := fun s h => by
    unfold flat
    rw [(levL_mem.mp h).2]
  have : (levL hs t).filter (leastIn N (levL hs t)) = (levL hs t).filter (leastF N hs) := List.filter_congr fun s h => by
    unfold leastIn leastF
    rw [hc s h]
  rw [this]
  refine List.map_congr_left fun s h => hc s (List.mem_filter.mp h).1
theorem heads_sort {N : Net} {hs : List Int} (hl : hs.length = N.n) : ((sortset hs).flatMap fun t => (levL hs t).filter (leastF N hs)).mergeSort natle = (List.range N.n).filter (leastF N hs) := by
  refine sort_nat_eq ?_ (List.Pairwise.filter _ List.pairwise_lt_range) fun k => ?_
  · unfold List.Nodup
    rw [List.pairwise_flatMap]
    refine ⟨fun t _ => ((levL_lt hs t).filter _).imp fun {a b} q => Nat.ne_of_lt q, (sortset_lt hs).imp fun {a b} q x hx y hy e => ?_⟩
    subst e
    have h1 := (levL_mem.mp (List.mem_filter.mp hx).1).2
    have h2 := (levL_mem.mp (List.mem_filter.mp hy).1).2
    omega
  · rw [List.mem_flatMap, List.mem_filter, List.mem_range]
    constructor
    · rintro ⟨t, _, h⟩
      obtain ⟨h1, h2⟩ := List.mem_filter.mp h
      have := (levL_mem.mp h1).1
      exact ⟨by omega, h2⟩
    · rintro ⟨h1, h2⟩
      refine ⟨hat hs k, (sortset_mem _ _).mpr ?_, List.mem_filter.mpr ⟨self_lev hl h1, h2⟩⟩
      unfold hat
      rw [List.getD_eq_getElem?_getD, List.getElem?_eq_getElem (show k < hs.length by omega)]
      exact List.getElem_mem _
def rimV (N : Net) (hs : List Int) (f : List Nat) : List Int := (rimL N f).map (hat hs)
theorem rimV_ne {N : Net} {hs : List Int} {f : List Nat} : rimV N hs f ≠ [] ↔ rimL N f ≠ [] := by unfold rimV; rw [Ne, List.map_eq_nil_iff]
theorem up_val {N : Net} {hs : List Int} {f : List Nat} (h : rimL N f ≠ []) : decide (mx (rimV N hs f) < hat hs (f.headD 0)) = upB N hs f := by
  unfold upB
  rw [decide_eq_true h, Bool.true_and, decide_eq_decide, mx_lt (rimV_ne.mpr h)]
  unfold rimV
  simp
theorem dn_val {N : Net} {hs : List Int} {f : List Nat} (h : rimL N f ≠ []) : decide (hat hs (f.headD 0) < mn (rimV N hs f)) = dnB N hs f := by
  unfold dnB
  rw [decide_eq_true h, Bool.true_and, decide_eq_decide, mn_gt (rimV_ne.mpr h)]
  unfold rimV
  simp
theorem up_nil {N : Net} {hs : List Int} {f : List Nat} (h : rimL N f = []) : upB N hs f = false := by unfold upB; rw [decide_eq_false (by simpa using h)]; rfl
theorem dn_nil {N : Net} {hs : List Int} {f : List Nat} (h : rimL N f = []) : dnB N hs f = false := by unfold dnB; rw [decide_eq_false (by simpa using h)]; rfl
theorem ix_head {f : List Nat} (h : f ≠ []) : dIx (ptsD f) (.int 0) = some (natD (f.headD 0)) := by
  cases f with
  | nil => exact absurd rfl h
  | cons y r =>
    unfold ptsD
    rw [dIx_tup, List.map_cons, atI_0]; rfl
theorem le_len (p : List Nat) (k : Nat) : dLeG (natD p.length) (natD k) = some (.bool (decide (p.length ≤ k))) := by
  rw [dLeG_int]
  congr 2
  rw [decide_eq_decide]
  omega
theorem flat_ne {N : Net} {hs : List Int} {p : Nat} (h : p < N.n) : flat N hs p ≠ [] := fun z => by
  have := flat_self (hs := hs) h
  rw [z] at this; cases this
theorem head_lt {N : Net} {f : List Nat} (h : ∀ x ∈ f, x < N.n) (hne : f ≠ []) : f.headD 0 < N.n := by
  cases f with
  | nil => exact absurd rfl hne
  | cons y r => exact h y (by simp)
theorem flat_nodup (N : Net) (hs : List Int) (p : Nat) : (flat N hs p).Nodup := (flat_lt N hs p).imp fun {a b} q => Nat.ne_of_lt q
/-- the one flat that holds p -/
theorem flat_only {N : Net} {hs : List Int} {p : Nat} (hl : hs.length = N.n) (hp : p < N.n) : (flatsL N hs).filter (fun f => decide (p ∈ f)) = [flat N hs p] := by
  obtain ⟨m, hm, hmin⟩ : ∃ m, m ∈ flat N hs p ∧ ∀ x ∈ flat N hs p, m ≤ x := by
    have h1 := flat_self (hs := hs) hp
    have h2 := flat_lt N hs p
    cases e : flat N hs p with
    | nil => rw [e] at h1; cases h1
    | cons y r =>
      rw [e] at h2
      exact ⟨y, by simp, fun x hx => by
        rcases List.mem_cons.mp hx with rfl | hx
        · exact Nat.le_refl _
        · exact Nat.le_of_lt ((List.pairwise_cons.mp h2).1 x hx)⟩
  have hmn := flat_lim hm
  have hfm := flat_eq hl hp hm
  have hlm : leastF N hs m = true := by
    unfold leastF
    rw [decide_eq_true_eq, hfm]
    exact hmin
  have hone : ((List.range N.n).filter (leastF N hs)).filter (fun q => decide (p ∈ flat N hs q)) = [m] := by
    refine incr_ext ((List.Pairwise.filter _ List.pairwise_lt_range).filter _) (by simp) fun k => ?_
    rw [List.mem_filter, List.mem_filter, List.mem_range, decide_eq_true_eq, List.mem_singleton]
    constructor
    · rintro ⟨⟨k1, k2⟩, k3⟩
      have e1 := flat_eq hl k1 k3
      unfold leastF at k2 hlm
      rw [decide_eq_true_eq] at k2 hlm
      have a1 := k2 m (by rw [← e1]; exact hm)
      have a2 := hlm k (by rw [hfm, e1]; exact flat_self k1)
      omega
    · rintro rfl
      exact ⟨⟨hmn, hlm⟩, by rw [hfm]; exact flat_self hp⟩
  unfold flatsL
  rw [List.filter_map]
  have : ((fun f => decide (p ∈ f)) ∘ flat N hs) = fun q => decide (p ∈ flat N hs q) := rfl
  rw [this, hone]
  show [flat N hs m] = _
  rw [hfm]
def leastO (ns : List Nat) : D := if ns = [] then .none else .int (mn (toI ns))
theorem leastO_val {ns : List Nat} (h : ns ≠ []) : dMinG [natL ns] = some (leastO ns) := by
  unfold leastO
  rw [if_neg h, natL_toI]
  exact min_ints (by unfold toI; rw [Ne, List.map_eq_nil_iff]; exact h)
theorem shaped_lens {ns : List Nat} (h : ns.length ≤ 1000) : SeqAt.shaped (.list (ns.map natD)) = true := shaped_nats h
theorem nd_leastO (ns : List Nat) : Nd 0 (leastO ns) := by
  unfold leastO
  split
  · exact nd_none 0
  · exact nd_int 0 _
/-! unevenness, the steepest pair -/
def gapI (hs : List Int) (p : Nat × Nat) : Int := if hat hs p.1 - hat hs p.2 < 0 then -(hat hs p.1 - hat hs p.2) else hat hs p.1 - hat hs p.2
def unevL (N : Net) (hs : List Int) : Int := (N.ps.map (gapI hs)).sum
def gapD (hs : List Int) (p : Nat × Nat) : D := .tuple [.int (0 - gapI hs p), duoD p]
def gaple (hs : List Int) (p q : Nat × Nat) : Bool := decide (gapI hs q < gapI hs p ∨ (gapI hs p = gapI hs q ∧ lexle p q = true))
theorem dle_gap (hs : List Int) (p q : Nat × Nat) : dle (gapD hs p) (gapD hs q) = gaple hs p q := by
  show (!PySem.W.dataLt (gapD hs q) (gapD hs p)) = _
  unfold gapD
  rw [PySem.W.dataLt_pair (by simp [PySem.W.alike]) (by simp [PySem.W.alike, PySem.W.alikeAll, duoD]), PySem.W.dataLt_int, duo_eqv]
  unfold duoD natD
  rw [PySem.W.dataLt_ii]
  unfold gaple lexle
  simp only [PyData.eqv, beq_iff_eq]
  generalize gapI hs p = a
  generalize gapI hs q = b
  obtain ⟨p1, p2⟩ := p
  obtain ⟨q1, q2⟩ := q
  simp only [Prod.mk.injEq, decide_eq_true_eq]
  by_cases h1 : a = b
  · subst h1
    rw [if_pos rfl]
    by_cases h2 : q1 = p1 ∧ q2 = p2
    · rw [if_pos h2]
      rw [decide_eq_true (show (a < a ∨ a = a ∧ (p1 < q1 ∨ p1 = q1 ∧ p2 ≤ q2)) by omega)]; rfl
    · rw [if_neg h2]
      by_cases h3 : (q1 : Int) < p1 ∨ (q1 : Int) = p1 ∧ (q2 : Int) < p2
      · rw [decide_eq_true h3, decide_eq_false (show ¬ (a < a ∨ a = a ∧ (p1 < q1 ∨ p1 = q1 ∧ p2 ≤ q2)) by omega)]; rfl
      · rw [decide_eq_false h3, decide_eq_true (show (a < a ∨ a = a ∧ (p1 < q1 ∨ p1 = q1 ∧ p2 ≤ q2)) by omega)]; rfl
  · rw [if_neg (by omega)]
    by_cases h3 : 0 - b < 0 - a
    · rw [decide_eq_true h3, decide_eq_false (show ¬ (b < a ∨ a = b ∧ (p1 < q1 ∨ p1 = q1 ∧ p2 ≤ q2)) by omega)]; rfl
    · rw [decide_eq_false h3, decide_eq_true (show (b < a ∨ a = b ∧ (p1 < q1 ∨ p1 = q1 ∧ p2 ≤ q2)) by omega)]; rfl
theorem gaple_trans (hs : List Int) (a b c : Nat × Nat) : gaple hs a b = true → gaple hs b c = true → gaple hs a c = true := by
  unfold gaple
  rw [decide_eq_true_eq, decide_eq_true_eq, decide_eq_true_eq]
  rintro (h1 | ⟨h1, h3⟩) (h2 | ⟨h2, h4⟩)
  · exact .inl (by omega)
  · exact .inl (by omega)
  · exact .inl (by omega)
  · exact .inr ⟨by omega, lexle_trans a b c h3 h4⟩
theorem gaple_total (hs : List Int) (a b : Nat × Nat) : (gaple hs a b || gaple hs b a) = true := by
  unfold gaple
  have := lexle_total a b
  rw [Bool.or_eq_true] at this ⊢
  rw [decide_eq_true_eq, decide_eq_true_eq]
  rcases Int.lt_trichotomy (gapI hs a) (gapI hs b) with h | h | h
  · exact .inr (.inl h)
  · rcases this with t | t
    · exact .inl (.inr ⟨h, t⟩)
    · exact .inr (.inr ⟨h.symm, t⟩)
  · exact .inl (.inl h)
theorem sortable_gaps (hs : List Int) (ps : List (Nat × Nat)) : sortable (ps.map (gapD hs)) = true := by
  unfold sortable
  simp only [Bool.and_eq_true, Bool.or_eq_true, List.all_eq_true, decide_eq_true_eq]
  refine ⟨⟨fun a ha b hb => ?_, .inl fun a ha => ?_⟩, fun a ha => ?_⟩
  · obtain ⟨x, _, rfl⟩ := List.mem_map.mp ha
    obtain ⟨y, _, rfl⟩ := List.mem_map.mp hb
    rfl
  · obtain ⟨x, _, rfl⟩ := List.mem_map.mp ha
    rfl
  · obtain ⟨x, _, rfl⟩ := List.mem_map.mp ha
    exact ⟨rfl, by show 2 ≤ 60; decide⟩
theorem sort_gaps (hs : List Int) (ps : List (Nat × Nat)) : dSorted [.list (ps.map (gapD hs))] = some (.list ((ps.mergeSort (gaple hs)).map (gapD hs))) :=
  sorted_map (gapD hs) (gaple hs) ps (sortable_gaps hs ps) fun a b => (dle_gap hs a b).symm
def mostI (hs : List Int) (ps : List (Nat × Nat)) : Int := mx (ps.map (gapI hs))
def firstP (hs : List Int) (ps : List (Nat × Nat)) : Nat × Nat := (ps.filter fun p => decide (gapI hs p = mostI hs ps)).headD (0, 0)
theorem firstP_is {hs : List Int} {ps : List (Nat × Nat)} (hne : ps ≠ []) : ∃ r, ps.filter (fun p => decide (gapI hs p = mostI hs ps)) = firstP hs ps :: r := by
  have hm := (mx_spec (ps.map (gapI hs)) (by simpa using hne)).1
  obtain ⟨p, hp, e⟩ := List.mem_map.mp hm
  unfold firstP
  cases hf : ps.filter fun p => decide (gapI hs p = mostI hs ps) with
  | nil =>
    have : p ∈ ps.filter fun p => decide (gapI hs p = mostI hs ps) := List.mem_filter.mpr ⟨hp, by rw [decide_eq_true_eq]; exact e⟩
    rw [hf] at this; cases this
  | cons y r => exact ⟨r, rfl⟩
theorem lexle_of_lt {p q : Nat × Nat} (h : lexlt p q) : lexle p q = true := by unfold lexle; unfold lexlt at h; rw [decide_eq_true_eq]; omega
theorem lexle_anti {p q : Nat × Nat} (h : lexle p q = true) (k : lexle q p = true) : p = q := by
  unfold lexle at h k
  rw [decide_eq_true_eq] at h k
  exact Prod.ext (by omega) (by omega)
/-- the sorted gaps begin with the first of the greatest -/
theorem sort_first {hs : List Int} {ps : List (Nat × Nat)} (hlt : ps.Pairwise lexlt) (hne : ps ≠ []) : ∃ r, ps.mergeSort (gaple hs) = firstP hs ps :: r := by
  obtain ⟨r1, e1⟩ := firstP_is (hs := hs) hne
  have hm := mx_spec (ps.map (gapI hs)) (by simpa using hne)
  have hfm : firstP hs ps ∈ ps ∧ gapI hs (firstP hs ps) = mostI hs ps := by
    have : firstP hs ps ∈ ps.filter fun p => decide (gapI hs p = mostI hs ps) := by rw [e1]; simp
    have := List.mem_filter.mp this
    exact ⟨this.1, by simpa using this.2⟩
  have hall : ∀ q ∈ ps, gaple hs (firstP hs ps) q = true := fun q hq => by
    have h1 : gapI hs q ≤ mostI hs ps := hm.2 _ (List.mem_map_of_mem hq)
    unfold gaple
    rw [decide_eq_true_eq, hfm.2]
    by_cases h2 : gapI hs q = mostI hs ps
    · refine .inr ⟨h2.symm, ?_⟩
      have hq2 : q ∈ ps.filter fun p => decide (gapI hs p = mostI hs ps) := List.mem_filter.mpr ⟨hq, by simpa using h2⟩
      have hp2 := hlt.filter fun p => decide (gapI hs p = mostI hs ps)
      rw [e1] at hq2 hp2
      rcases List.mem_cons.mp hq2 with e | hq2
      · rw [e]; unfold lexle; rw [decide_eq_true_eq]; omega
      · exact lexle_of_lt ((List.pairwise_cons.mp hp2).1 q hq2)
    · exact .inl (by omega)
  have hp := List.mergeSort_perm ps (gaple hs)
  have hs2 := List.pairwise_mergeSort (gaple_trans hs) (gaple_total hs) ps
  cases e2 : ps.mergeSort (gaple hs) with
  | nil =>
    have := hp.length_eq
    rw [e2] at this
    exact absurd (List.eq_nil_of_length_eq_zero (by simpa using this.symm)) hne
  | cons y r =>
    rw [e2] at hs2
    have hy : y ∈ ps := hp.mem_iff.mp (by rw [e2]; simp)
    have hf : firstP hs ps ∈ y :: r := by rw [← e2]; exact hp.mem_iff.mpr hfm.1
    have h1 := hall y hy
    have h2 : gaple hs y (firstP hs ps) = true := by
      rcases List.mem_cons.mp hf with e | hf
      · rw [← e]; exact hall _ hfm.1
      · exact (List.pairwise_cons.mp hs2).1 _ hf
    have : y = firstP hs ps := by
      unfold gaple at h1 h2
      rw [decide_eq_true_eq] at h1 h2
      rcases h1 with h1 | ⟨h1, h3⟩
      · rcases h2 with h2 | ⟨h2, h4⟩
        · omega
        · omega
      · rcases h2 with h2 | ⟨h2, h4⟩
        · omega
        · exact lexle_anti h4 h3
    exact ⟨r, by rw [this]⟩
def steepO (N : Net) (hs : List Int) : D := if N.ps = [] then .none else .tuple [intD (mostI hs N.ps), duoD (firstP hs N.ps)]
theorem nd_duo (p : Nat × Nat) : Nd 1 (duoD p) := nd_tup (ndA_cons (nd_int 0 _) (ndA_cons (nd_int 0 _) ndA_nil)) (by simp)
theorem nd_steep (N : Net) (hs : List Int) : Nd 2 (steepO N hs) := by
  unfold steepO
  split
  · exact nd_none 2
  · exact nd_tup (ndA_cons (nd_int 1 _) (ndA_cons (nd_duo _) ndA_nil)) (by simp)
theorem sum_ints (xs : List Int) : dSum [.list (xs.map intD)] = some (.int xs.sum) := by
  show (intsOf (xs.map intD)).map (fun ns => PyData.int ns.sum) = _
  rw [show intsOf (xs.map intD) = some xs from intsOf_map xs]; rfl
theorem eq_nilT {xs : List D} (h : SeqAt.shaped (.tuple xs) = true) : dEq (.tuple xs) (.tuple []) = some (.bool (decide (xs = []))) := by
  unfold dEq
  rw [if_pos ⟨h, rfl⟩]
  cases xs <;> rfl
theorem eq_ptsL_nil {ps : List (List Nat)} (hl : ps.length ≤ 1000) (h : ∀ p ∈ ps, p.length ≤ 1000) : dEq (ptsL ps) (.list []) = some (.bool (decide (ps = []))) := by
  rw [show dEq (ptsL ps) (.list []) = _ from eq_nil (shaped_ptsL hl h)]
  congr 2
  rw [decide_eq_decide, List.map_eq_nil_iff]
theorem ne_ptsL_nil {ps : List (List Nat)} (hl : ps.length ≤ 1000) (h : ∀ p ∈ ps, p.length ≤ 1000) : dNe (ptsL ps) (.list []) = some (.bool (decide (ps ≠ []))) := by
  rw [show dNe (ptsL ps) (.list []) = _ from ne_nil (shaped_ptsL hl h)]
  congr 2
  rw [decide_eq_decide, Ne, List.map_eq_nil_iff]
theorem app_nil {α : Type} [DecidableEq α] (xs ys : List α) : decide (xs ++ ys = []) = (decide (xs = []) && decide (ys = [])) := by
  cases xs <;> simp
end VS
/-! VCUT: rows cut. -/
namespace VS
open PySem PySem.Spec
theorem lay_mem {hs : List Int} {t : Int} {i : Nat} : i ∈ layL hs t ↔ i < hs.length ∧ t ≤ hat hs i := by
  unfold layL
  rw [List.mem_filter, List.mem_range, decide_eq_true_eq]
section
variable {N : Net} {kept kept' : List Nat} {s x u : Nat}
theorem Rch.mono (hs : ∀ y ∈ kept, y ∈ kept') (h : Rch N kept s x) : Rch N kept' s x := by
  induction h with
  | start => exact .start
  | step _ h2 h3 ih => exact .step ih h2 (hs _ h3)
theorem Rch.restrict (hs : ∀ y, Rch N kept s y → y ∈ kept → y ∈ kept') (h : Rch N kept s x) : Rch N kept' s x := by
  induction h with
  | start => exact .start
  | step h1 h2 h3 ih => exact .step ih h2 (hs _ (.step h1 h2 h3) h3)
theorem comp_mono (hs : ∀ y ∈ kept, y ∈ kept') (h : x ∈ comp N kept s) : x ∈ comp N kept' s := comp_mem.mpr ⟨(comp_mem.mp h).1, (comp_mem.mp h).2.mono hs⟩
theorem incr_sub_len {l m : List Nat} (hl : l.Pairwise (· < ·)) (hm : m.Pairwise (· < ·)) (h : ∀ k ∈ l, k ∈ m) : l.length ≤ m.length := by
  have : l = m.filter fun k => decide (k ∈ l) := incr_ext hl (hm.filter _) fun k => by
    rw [List.mem_filter, decide_eq_true_eq]
    exact ⟨fun z => ⟨h k z, z⟩, fun z => z.2⟩
  rw [this]
  exact List.length_filter_le _ _
theorem comp_len_le (h : ∀ y ∈ comp N kept s, y ∈ comp N kept' u) : (comp N kept s).length ≤ (comp N kept' u).length := incr_sub_len (comp_lt _ _ _) (comp_lt _ _ _) h
/-- a set that holds s and is closed holds the part -/
theorem comp_closed {fs : List Nat} (hs : s ∈ fs) (hc : ∀ v ∈ fs, ∀ y ∈ near N v, y ∈ kept → y ∈ fs) (h : x ∈ comp N kept s) : x ∈ fs := by
  have := (comp_mem.mp h).2
  clear h
  induction this with
  | start => exact hs
  | step _ h2 h3 ih => exact hc _ ih _ h2 h3
end
/-- p lies at t, in a part of more than k points, or its whole circle does -/
def bigS (N : Net) (hs : List Int) (k : Nat) (t : Int) (p : Nat) : Prop := t ≤ hat hs p ∧ (k < (comp N (layL hs t) p).length ∨ comp N (layL hs t) p = comp N (List.range N.n) p)
section
variable {N : Net} {hs hs' : List Int} {k p x : Nat} {t : Int}
theorem flat_in_flatsL (hl : hs.length = N.n) (hp : p < N.n) : flat N hs p ∈ flatsL N hs := by
  have : flat N hs p ∈ (flatsL N hs).filter (fun f => decide (p ∈ f)) := by rw [flat_only hl hp]; simp
  exact (List.mem_filter.mp this).1
theorem lay_range (hl : hs.length = N.n) : ∀ y ∈ layL hs t, y ∈ List.range N.n := fun y hy => List.mem_range.mpr (by have := (lay_mem.mp hy).1; omega)
theorem lev_lay {h : Int} (ht : t ≤ h) : ∀ y ∈ levL hs h, y ∈ layL hs t := fun y hy => by
  obtain ⟨h1, h2⟩ := levL_mem.mp hy
  exact lay_mem.mpr ⟨h1, by omega⟩
theorem flat_circ (hl : hs.length = N.n) (hx : x ∈ flat N hs p) : x ∈ comp N (List.range N.n) p := comp_mono (fun y hy => List.mem_range.mpr (by have := (levL_mem.mp hy).1; omega)) hx
theorem bump_is {f : List Nat} (hl : hs.length = N.n) (hf : f ∈ bumpsL N hs k) (hp : p ∈ f) : p < N.n ∧ f = flat N hs p ∧ f.length ≤ k ∧ rimL N f ≠ [] ∧ ∀ y ∈ rimL N f, hat hs y < hat hs p := by
  obtain ⟨h1, h2⟩ := List.mem_filter.mp hf
  obtain ⟨q, hq, hlq, rfl⟩ := flatsL_mem.mp h1
  have hpn := flat_lim hp
  have he := flat_eq hl hq hp
  rw [Bool.and_eq_true, decide_eq_true_eq] at h2
  have hu := h2.2
  unfold upB at hu
  rw [Bool.and_eq_true, decide_eq_true_eq, decide_eq_true_eq] at hu
  refine ⟨hpn, he.symm, h2.1, hu.1, fun y hy => ?_⟩
  have := hu.2 y hy
  obtain ⟨r, e⟩ := least_head hq hlq
  rw [e] at this
  have e2 := flat_hat hl hq hp
  rw [e2]
  exact this
theorem flat_step (hl : hs.length = N.n) (hp : p < N.n) {u y : Nat} (hu : u ∈ flat N hs p) (hy : y ∈ near N u) (he : hat hs y = hat hs p) : y ∈ flat N hs p := by
  have hyn := (near_mem.mp hy).1
  exact comp_mem.mpr ⟨hyn, .step (comp_mem.mp hu).2 hy (levL_mem.mpr ⟨by omega, he⟩)⟩
/-- what lies in a great part is not lowered -/
theorem big_star (hl : hs.length = N.n) (hv : hat hs' p = hat hs p ∨ ∃ f ∈ bumpsL N hs k, p ∈ f ∧ hat hs' p = mx (rimV N hs f)) (hb : bigS N hs k t p) : t ≤ hat hs' p := by
  rcases hv with e | ⟨f, hf, hpf, e⟩
  · rw [e]; exact hb.1
  · obtain ⟨hpn, hfe, hfk, hrn, hrl⟩ := bump_is hl hf hpf
    rw [e]
    refine Classical.byContradiction fun hlt => ?_
    have hmx := mx_spec (rimV N hs f) (rimV_ne.mpr hrn)
    have hsub : ∀ y ∈ comp N (layL hs t) p, y ∈ f := fun y hy => comp_closed hpf (fun v hv z hz hzk => by
      refine Classical.byContradiction fun hzf => ?_
      have hzr : z ∈ rimL N f := rimL_mem.mpr ⟨hzf, v, hv, hz⟩
      have h1 := hmx.2 (hat hs z) (List.mem_map_of_mem hzr)
      have h2 := (lay_mem.mp hzk).2
      omega) hy
    rcases hb.2 with h | h
    · have := incr_sub_len (comp_lt N (layL hs t) p) (by rw [hfe]; exact flat_lt _ _ _) hsub
      omega
    · obtain ⟨y, hy⟩ := List.exists_mem_of_ne_nil _ hrn
      obtain ⟨hyf, u, hu, hyu⟩ := rimL_mem.mp hy
      have huc : u ∈ comp N (List.range N.n) p := flat_circ hl (by rw [← hfe]; exact hu)
      have hyc : y ∈ comp N (List.range N.n) p := by
        have hyn := (near_mem.mp hyu).1
        exact comp_mem.mpr ⟨hyn, .step (comp_mem.mp huc).2 hyu (List.mem_range.mpr hyn)⟩
      rw [← h] at hyc
      exact hyf (hsub y hyc)
theorem big_pass (hl : hs.length = N.n) (hl' : hs'.length = N.n) (hv : ∀ p, p < N.n → hat hs' p = hat hs p ∨ ∃ f ∈ bumpsL N hs k, p ∈ f ∧ hat hs' p = mx (rimV N hs f)) (hp : p < N.n) : bigS N hs k t p ↔ bigS N hs' k t p := by
  have hle : ∀ p, p < N.n → hat hs' p ≤ hat hs p := fun p hp => by
    rcases hv p hp with e | ⟨f, hf, hpf, e⟩
    · omega
    · obtain ⟨hpn, hfe, hfk, hrn, hrl⟩ := bump_is hl hf hpf
      have : mx (rimV N hs f) < hat hs p := (mx_lt (rimV_ne.mpr hrn)).mpr fun z hz => by
        obtain ⟨y, hy, rfl⟩ := List.mem_map.mp hz
        exact hrl y hy
      omega
  have hsub : ∀ y ∈ layL hs' t, y ∈ layL hs t := fun y hy => by
    obtain ⟨h1, h2⟩ := lay_mem.mp hy
    have := hle y (by omega)
    exact lay_mem.mpr ⟨by omega, by omega⟩
  constructor
  · intro hb
    have hpl : p ∈ layL hs t := lay_mem.mpr ⟨by omega, hb.1⟩
    have hall : ∀ y ∈ comp N (layL hs t) p, y ∈ layL hs' t := fun y hy => by
      have hyn := comp_bd hy
      have hyl := (comp_in hpl hy).1
      have hce := comp_eq hpl hp hy
      have hyb : bigS N hs k t y := by
        refine ⟨(lay_mem.mp hyl).2, ?_⟩
        rw [hce]
        rcases hb.2 with h | h
        · exact .inl h
        · refine .inr (h.trans ?_)
          exact (comp_eq (List.mem_range.mpr hp) hp (comp_mono (lay_range hl) hy)).symm
      exact lay_mem.mpr ⟨by omega, big_star hl (hv y hyn) hyb⟩
    have hce : comp N (layL hs' t) p = comp N (layL hs t) p := incr_ext (comp_lt _ _ _) (comp_lt _ _ _) fun y => by
      refine ⟨comp_mono hsub, fun hy => ?_⟩
      refine comp_mem.mpr ⟨comp_bd hy, (comp_mem.mp hy).2.restrict fun z hz hzk => ?_⟩
      exact hall z (comp_mem.mpr ⟨by have := (lay_mem.mp hzk).1; omega, hz⟩)
    exact ⟨big_star hl (hv p hp) hb, by rw [hce]; exact hb.2⟩
  · intro hb
    have h1 := hle p hp
    have hm : ∀ y ∈ comp N (layL hs' t) p, y ∈ comp N (layL hs t) p := fun y hy => comp_mono hsub hy
    refine ⟨by have := hb.1; omega, ?_⟩
    rcases hb.2 with h | h
    · exact .inl (Nat.lt_of_lt_of_le h (comp_len_le hm))
    · refine .inr (incr_ext (comp_lt _ _ _) (comp_lt _ _ _) fun y => ⟨comp_mono (lay_range hl), fun hy => hm y (by rw [h]; exact hy)⟩)
/-- without bumps each point lies in a great part -/
theorem big_smooth (hl : hs.length = N.n) (hb : bumpsL N hs k = []) (hp : p < N.n) : bigS N hs k (hat hs p) p := by
  refine ⟨Int.le_refl _, ?_⟩
  refine Classical.byContradiction fun hz => ?_
  rw [not_or] at hz
  obtain ⟨hz1, hz2⟩ := hz
  have hpl : p ∈ layL hs (hat hs p) := lay_mem.mpr ⟨by omega, Int.le_refl _⟩
  have hps : p ∈ comp N (layL hs (hat hs p)) p := comp_self hp
  obtain ⟨hm1, hm2⟩ := mx_spec ((comp N (layL hs (hat hs p)) p).map (hat hs)) (by rw [Ne, List.map_eq_nil_iff]; intro z; rw [z] at hps; cases hps)
  obtain ⟨x, hx, hxm⟩ := List.mem_map.mp hm1
  have hxmax : ∀ y ∈ comp N (layL hs (hat hs p)) p, hat hs y ≤ hat hs x := fun y hy => by
    rw [hxm]; exact hm2 _ (List.mem_map_of_mem hy)
  have hxn := comp_bd hx
  have hxl := (comp_in hpl hx).1
  have hxt := (lay_mem.mp hxl).2
  have hce := comp_eq hpl hp hx
  have hsub : ∀ y ∈ flat N hs x, y ∈ comp N (layL hs (hat hs p)) p := fun y hy => by
    rw [← hce]
    exact comp_mono (lev_lay hxt) hy
  have hflen := incr_sub_len (flat_lt N hs x) (comp_lt N (layL hs (hat hs p)) p) hsub
  have hcirc : comp N (List.range N.n) x = comp N (List.range N.n) p := comp_eq (List.mem_range.mpr hp) hp (comp_mono (lay_range hl) hx)
  have hrn : rimL N (flat N hs x) ≠ [] := fun hr => by
    apply hz2
    refine incr_ext (comp_lt _ _ _) (comp_lt _ _ _) fun y => ⟨comp_mono (lay_range hl), fun hy => ?_⟩
    rw [← hcirc] at hy
    refine hsub y (comp_closed (flat_self hxn) (fun v hv w hw _ => ?_) hy)
    refine Classical.byContradiction fun hwf => ?_
    have : w ∈ rimL N (flat N hs x) := rimL_mem.mpr ⟨hwf, v, hv, hw⟩
    rw [hr] at this; cases this
  have hup : upB N hs (flat N hs x) = true := by
    unfold upB
    rw [Bool.and_eq_true, decide_eq_true_eq, decide_eq_true_eq]
    refine ⟨hrn, fun y hy => ?_⟩
    obtain ⟨hyf, u, hu, hyu⟩ := rimL_mem.mp hy
    have hyn := (near_mem.mp hyu).1
    have hhead : hat hs ((flat N hs x).headD 0) = hat hs x := by
      cases e : flat N hs x with
      | nil => exact absurd e (flat_ne hxn)
      | cons z r => exact flat_hat hl hxn (by rw [e]; simp)
    rw [hhead]
    refine Classical.byContradiction fun hlt => ?_
    have huc := hsub u hu
    have hyc : y ∈ comp N (layL hs (hat hs p)) p := comp_mem.mpr ⟨hyn, .step (comp_mem.mp huc).2 hyu (lay_mem.mpr ⟨by omega, by omega⟩)⟩
    have := hxmax y hyc
    exact hyf (flat_step hl hxn hu hyu (by omega))
  have : flat N hs x ∈ bumpsL N hs k := List.mem_filter.mpr ⟨flat_in_flatsL hl hxn, by rw [hup, decide_eq_true (show (flat N hs x).length ≤ k by omega)]; rfl⟩
  rw [hb] at this
  cases this
end
/-! the row cut, as the law tells it -/
noncomputable def cutF (N : Net) (hs : List Int) (k p : Nat) (b t : Int) : Int := if t ≤ hat hs p ∧ k < (comp N (layL hs t) p).length then max b t else b
noncomputable def cut0 (N : Net) (hs : List Int) (p : Nat) : Int := mn ((comp N (List.range N.n) p).map (hat hs))
noncomputable def cutP (N : Net) (hs : List Int) (k p : Nat) : Int := (sortset hs).foldl (cutF N hs k p) (cut0 N hs p)
noncomputable def cutR (N : Net) (hs : List Int) (k : Nat) : List Int := (List.range N.n).map (cutP N hs k)
section
variable {N : Net} {hs : List Int} {k p : Nat}
theorem cutF_fold (l : List Int) : ∀ b, (l.foldl (cutF N hs k p) b = b ∨ ∃ t ∈ l, (t ≤ hat hs p ∧ k < (comp N (layL hs t) p).length) ∧ l.foldl (cutF N hs k p) b = t) ∧ b ≤ l.foldl (cutF N hs k p) b ∧ ∀ t ∈ l, (t ≤ hat hs p ∧ k < (comp N (layL hs t) p).length) → t ≤ l.foldl (cutF N hs k p) b := by
  induction l with
  | nil => intro b; exact ⟨.inl rfl, Int.le_refl _, fun _ h => nomatch h⟩
  | cons t l ih =>
    intro b
    rw [List.foldl_cons]
    obtain ⟨h1, h2, h3⟩ := ih (cutF N hs k p b t)
    have hb : b ≤ cutF N hs k p b t := by unfold cutF; split <;> omega
    refine ⟨?_, by omega, fun u hu hc => ?_⟩
    · rcases h1 with h1 | ⟨u, hu, hc, h1⟩
      · rw [h1]
        unfold cutF
        split
        · rename_i hc
          rcases Int.le_total b t with z | z
          · exact .inr ⟨t, by simp, hc, by omega⟩
          · exact .inl (by omega)
        · exact .inl rfl
      · exact .inr ⟨u, List.mem_cons_of_mem _ hu, hc, h1⟩
    · rcases List.mem_cons.mp hu with rfl | hu
      · have : u ≤ cutF N hs k p b u := by unfold cutF; rw [if_pos hc]; omega
        omega
      · exact h3 u hu hc
theorem hat_mem (h : p < hs.length) : hat hs p ∈ hs := by
  unfold hat
  rw [List.getD_eq_getElem?_getD, List.getElem?_eq_getElem h]
  exact List.getElem_mem _
theorem mem_hat {v : Int} (h : v ∈ hs) : ∃ i, i < hs.length ∧ hat hs i = v := by
  obtain ⟨i, hi, e⟩ := List.getElem_of_mem h
  refine ⟨i, hi, ?_⟩
  unfold hat
  rw [List.getD_eq_getElem?_getD, List.getElem?_eq_getElem hi]; exact e
theorem cut0_ne (hp : p < N.n) : (comp N (List.range N.n) p).map (hat hs) ≠ [] := by
  rw [Ne, List.map_eq_nil_iff]
  intro z
  have := comp_self (N := N) (kept := List.range N.n) hp
  rw [z] at this; cases this
theorem cut0_le (hp : p < N.n) {x : Nat} (hx : x ∈ comp N (List.range N.n) p) : cut0 N hs p ≤ hat hs x := (mn_spec _ (cut0_ne hp)).2 _ (List.mem_map_of_mem hx)
theorem cut0_big (hl : hs.length = N.n) (hp : p < N.n) : bigS N hs k (cut0 N hs p) p := by
  refine ⟨cut0_le hp (comp_self hp), .inr (incr_ext (comp_lt _ _ _) (comp_lt _ _ _) fun y => ⟨comp_mono (lay_range hl), fun hy => ?_⟩)⟩
  refine comp_mem.mpr ⟨comp_bd hy, (comp_mem.mp hy).2.restrict fun z hz hzk => ?_⟩
  have hzn := List.mem_range.mp hzk
  exact lay_mem.mpr ⟨by omega, cut0_le hp (comp_mem.mpr ⟨hzn, hz⟩)⟩
/-- the row cut is the greatest height at which p lies in a great part -/
theorem cutP_is (hl : hs.length = N.n) (hp : p < N.n) : bigS N hs k (cutP N hs k p) p ∧ ∀ t, bigS N hs k t p → t ≤ cutP N hs k p := by
  obtain ⟨h1, h2, h3⟩ := cutF_fold (N := N) (hs := hs) (k := k) (p := p) (sortset hs) (cut0 N hs p)
  refine ⟨?_, fun t ht => ?_⟩
  · rcases h1 with e | ⟨t, ht, hc, e⟩
    · unfold cutP; rw [e]; exact cut0_big hl hp
    · unfold cutP; rw [e]; exact ⟨hc.1, .inl hc.2⟩
  · rcases ht.2 with hk | hk
    · -- the least height not below t
      obtain ⟨m, hm1, hm2⟩ : ∃ m, m ∈ hs.filter (fun h => decide (t ≤ h)) ∧ ∀ y ∈ hs.filter (fun h => decide (t ≤ h)), m ≤ y := by
        have hne : hs.filter (fun h => decide (t ≤ h)) ≠ [] := by
          intro z
          have : hat hs p ∈ hs.filter (fun h => decide (t ≤ h)) := List.mem_filter.mpr ⟨hat_mem (by omega), by simpa using ht.1⟩
          rw [z] at this; cases this
        exact ⟨_, mn_spec _ hne⟩
      obtain ⟨hm3, hm4⟩ := List.mem_filter.mp hm1
      have hm4 : t ≤ m := by simpa using hm4
      have hlay : layL hs m = layL hs t := by
        unfold layL
        refine List.filter_congr fun i hi => ?_
        have hi' := List.mem_range.mp hi
        rw [decide_eq_decide]
        constructor
        · intro h; exact Int.le_trans hm4 h
        · intro h
          exact hm2 (hat hs i) (List.mem_filter.mpr ⟨hat_mem hi', by simpa using h⟩)
      have hmp : m ≤ hat hs p := hm2 _ (List.mem_filter.mpr ⟨hat_mem (by omega), by simpa using ht.1⟩)
      have := h3 m ((sortset_mem _ _).mpr hm3) ⟨hmp, by rw [hlay]; exact hk⟩
      unfold cutP
      omega
    · have : t ≤ cut0 N hs p := by
        obtain ⟨hm1, hm2⟩ := mn_spec _ (cut0_ne (hs := hs) hp)
        obtain ⟨x, hx, e⟩ := List.mem_map.mp hm1
        have hpl : p ∈ layL hs t := lay_mem.mpr ⟨by omega, ht.1⟩
        rw [← hk] at hx
        have := (lay_mem.mp (comp_in hpl hx).1).2
        unfold cut0
        rw [← e]; exact this
      unfold cutP
      omega
theorem cutP_eq (hl : hs.length = N.n) (hp : p < N.n) {v : Int} (h1 : bigS N hs k v p) (h2 : ∀ t, bigS N hs k t p → t ≤ v) : v = cutP N hs k p := by
  obtain ⟨h3, h4⟩ := cutP_is (k := k) hl hp
  have := h2 _ h3
  have := h4 _ h1
  omega
theorem cutR_len (N : Net) (hs : List Int) (k : Nat) : (cutR N hs k).length = N.n := by unfold cutR; rw [List.length_map, List.length_range]
theorem cutR_hat (hp : p < N.n) : hat (cutR N hs k) p = cutP N hs k p := by
  unfold cutR hat
  rw [List.getD_eq_getElem?_getD, List.getElem?_map, List.getElem?_range hp]; rfl
theorem cutP_mem (hl : hs.length = N.n) (hp : p < N.n) : cutP N hs k p ∈ hs := by
  obtain ⟨h1, _⟩ := cutF_fold (N := N) (hs := hs) (k := k) (p := p) (sortset hs) (cut0 N hs p)
  rcases h1 with e | ⟨t, ht, hc, e⟩
  · unfold cutP
    rw [e]
    obtain ⟨hm1, _⟩ := mn_spec _ (cut0_ne (hs := hs) hp)
    obtain ⟨x, hx, e2⟩ := List.mem_map.mp hm1
    unfold cut0
    rw [← e2]
    exact hat_mem (by have := comp_bd hx; omega)
  · unfold cutP
    rw [e]
    exact (sortset_mem _ _).mp ht
theorem cutR_ok {n : Nat} (hn : n = N.n) (h : RowOk n hs) : RowOk n (cutR N hs k) := by
  subst hn
  refine ⟨cutR_len _ _ _, fun v hv => ?_⟩
  obtain ⟨p, hp, rfl⟩ := List.mem_map.mp hv
  exact h.bnd _ (cutP_mem h.len (List.mem_range.mp hp))
/-- two rows of the same heights -/
theorem row_ext {xs ys : List Int} (h : xs.length = ys.length) (e : ∀ i, i < xs.length → hat xs i = hat ys i) : xs = ys := by
  apply List.ext_getElem h
  intro i h1 h2
  have := e i h1
  unfold hat at this
  rwa [List.getD_eq_getElem?_getD, List.getD_eq_getElem?_getD, List.getElem?_eq_getElem h1, List.getElem?_eq_getElem h2] at this
/-- a row without bumps is its own cut -/
theorem cut_smooth (hl : hs.length = N.n) (hb : bumpsL N hs k = []) : cutR N hs k = hs := by
  refine row_ext (by rw [cutR_len, hl]) fun i hi => ?_
  rw [cutR_len] at hi
  rw [cutR_hat hi]
  exact (cutP_eq hl hi (big_smooth hl hb hi) fun t ht => ht.1).symm
/-- what a pass leaves has the same cut -/
theorem cut_pass {hs' : List Int} (hl : hs.length = N.n) (hl' : hs'.length = N.n) (hv : ∀ p, p < N.n → hat hs' p = hat hs p ∨ ∃ f ∈ bumpsL N hs k, p ∈ f ∧ hat hs' p = mx (rimV N hs f)) : cutR N hs' k = cutR N hs k := by
  refine row_ext (by rw [cutR_len, cutR_len]) fun i hi => ?_
  rw [cutR_len] at hi
  rw [cutR_hat hi, cutR_hat hi]
  obtain ⟨h1, h2⟩ := cutP_is (k := k) hl' hi
  exact cutP_eq hl hi ((big_pass hl hl' hv hi).mpr h1) fun t ht => h2 t ((big_pass hl hl' hv hi).mp ht)
end
end VS
/-! VLOW: a pass over bumps; rows shaved. -/
namespace VS
open PySem PySem.Spec
theorem sum_map_lt {α : Type} {f g : α → Nat} : ∀ {l : List α}, (∀ i ∈ l, f i ≤ g i) → (∃ i ∈ l, f i < g i) → (l.map f).sum < (l.map g).sum
  | [], _, h => by obtain ⟨i, hi, _⟩ := h; cases hi
  | x :: l, hle, h => by
    have hxl := hle x (by simp)
    have hall : (l.map f).sum ≤ (l.map g).sum := by
      have : ∀ l : List α, (∀ i ∈ l, f i ≤ g i) → (l.map f).sum ≤ (l.map g).sum := by
        intro l
        induction l with
        | nil => intro _; exact Nat.le_refl _
        | cons y l ih =>
          intro hy
          simp only [List.map_cons, List.sum_cons]
          have := ih fun i hi => hy i (by simp [hi])
          have := hy y (by simp)
          omega
      exact this l fun i hi => hle i (by simp [hi])
    simp only [List.map_cons, List.sum_cons]
    obtain ⟨i, hi, hlt⟩ := h
    rcases List.mem_cons.mp hi with rfl | hi
    · omega
    · have := sum_map_lt (fun i hi => hle i (by simp [hi])) ⟨i, hi, hlt⟩
      omega
def muR (N : Net) (r : List Int) : Nat := ((List.range N.n).map fun i => (hat r i + 99).toNat).sum
def lowV (N : Net) (r : List Int) (fs : List (List Nat)) (p : Nat) : Int := fs.foldl (fun v f => if p ∈ f then mx (rimV N r f) else v) (hat r p)
def lowR (N : Net) (r : List Int) (fs : List (List Nat)) : List Int := (List.range N.n).map (lowV N r fs)
theorem low_fold (N : Net) (r : List Int) (p : Nat) : ∀ (fs : List (List Nat)) (v : Int), (fs.foldl (fun v f => if p ∈ f then mx (rimV N r f) else v) v = v ∧ ∀ f ∈ fs, p ∉ f) ∨ ∃ f ∈ fs, p ∈ f ∧ fs.foldl (fun v f => if p ∈ f then mx (rimV N r f) else v) v = mx (rimV N r f)
  | [], v => .inl ⟨rfl, fun _ h => nomatch h⟩
  | f :: fs, v => by
    rw [List.foldl_cons]
    rcases low_fold N r p fs (if p ∈ f then mx (rimV N r f) else v) with ⟨h1, h2⟩ | ⟨g, hg, hp, h1⟩
    · by_cases hpf : p ∈ f
      · rw [if_pos hpf] at h1 ⊢
        exact .inr ⟨f, by simp, hpf, h1⟩
      · rw [if_neg hpf] at h1 ⊢
        refine .inl ⟨h1, fun g hg => ?_⟩
        rcases List.mem_cons.mp hg with rfl | hg
        · exact hpf
        · exact h2 g hg
    · exact .inr ⟨g, List.mem_cons_of_mem _ hg, hp, h1⟩
theorem low_snoc (N : Net) (r : List Int) (fs : List (List Nat)) (f : List Nat) (p : Nat) : lowV N r (fs ++ [f]) p = if p ∈ f then mx (rimV N r f) else lowV N r fs p := by
  unfold lowV
  rw [List.foldl_append]; rfl
theorem lowR_len (N : Net) (r : List Int) (fs : List (List Nat)) : (lowR N r fs).length = N.n := by unfold lowR; rw [List.length_map, List.length_range]
theorem lowR_hat {N : Net} {r : List Int} {fs : List (List Nat)} {p : Nat} (hp : p < N.n) : hat (lowR N r fs) p = lowV N r fs p := by
  unfold lowR hat
  rw [List.getD_eq_getElem?_getD, List.getElem?_map, List.getElem?_range hp]; rfl
section
variable {N : Net} {r : List Int} {k : Nat}
theorem low_is {fs : List (List Nat)} (hfs : ∀ f ∈ fs, f ∈ bumpsL N r k) (p : Nat) (hp : p < N.n) : hat (lowR N r fs) p = hat r p ∨ ∃ f ∈ bumpsL N r k, p ∈ f ∧ hat (lowR N r fs) p = mx (rimV N r f) := by
  rw [lowR_hat hp]
  rcases low_fold N r p fs (hat r p) with ⟨h1, _⟩ | ⟨f, hf, hpf, h1⟩
  · exact .inl h1
  · exact .inr ⟨f, hfs f hf, hpf, h1⟩
theorem bump_low {f : List Nat} {p : Nat} (hl : r.length = N.n) (hf : f ∈ bumpsL N r k) (hp : p ∈ f) : mx (rimV N r f) < hat r p := by
  obtain ⟨hpn, hfe, hfk, hrn, hrl⟩ := bump_is hl hf hp
  exact (mx_lt (rimV_ne.mpr hrn)).mpr fun z hz => by
    obtain ⟨y, hy, rfl⟩ := List.mem_map.mp hz
    exact hrl y hy
theorem low_ok {fs : List (List Nat)} (hr : RowOk N.n r) (hfs : ∀ f ∈ fs, f ∈ bumpsL N r k) : RowOk N.n (lowR N r fs) := by
  refine ⟨lowR_len _ _ _, fun v hv => ?_⟩
  obtain ⟨p, hp, rfl⟩ := List.mem_map.mp hv
  have hp' := List.mem_range.mp hp
  have hlen := hr.len
  have := low_is hfs p hp'
  rw [lowR_hat hp'] at this
  rcases this with e | ⟨f, hf, hpf, e⟩
  · rw [e]; exact hr.bnd _ (hat_mem (by omega))
  · rw [e]
    obtain ⟨hpn, hfe, hfk, hrn, hrl⟩ := bump_is hr.len hf hpf
    obtain ⟨y, hy, e2⟩ := List.mem_map.mp (mx_spec _ (rimV_ne.mpr hrn)).1
    rw [← e2]
    exact hr.bnd _ (hat_mem (by have := rimL_bd hy; omega))
theorem low_cut (hl : r.length = N.n) {fs : List (List Nat)} (hfs : ∀ f ∈ fs, f ∈ bumpsL N r k) : cutR N (lowR N r fs) k = cutR N r k :=
  cut_pass hl (lowR_len _ _ _) fun p hp => low_is hfs p hp
theorem low_mu (hr : RowOk N.n r) {fs : List (List Nat)} (hfs : ∀ f ∈ fs, f ∈ bumpsL N r k) (hne : fs ≠ []) : muR N (lowR N r fs) < muR N r := by
  have hlen := hr.len
  have hle : ∀ p, p < N.n → hat (lowR N r fs) p ≤ hat r p := fun p hp => by
    rcases low_is hfs p hp with e | ⟨f, hf, hpf, e⟩
    · omega
    · have := bump_low hr.len hf hpf; omega
  refine sum_map_lt (fun i hi => ?_) ?_
  · have := hle i (List.mem_range.mp hi); omega
  · obtain ⟨f, hf⟩ := List.exists_mem_of_ne_nil _ hne
    obtain ⟨q, hq, hlq, e⟩ := flatsL_mem.mp (List.mem_filter.mp (hfs f hf)).1
    have hqf : q ∈ f := by rw [e]; exact flat_self hq
    refine ⟨q, List.mem_range.mpr hq, ?_⟩
    have hlt : hat (lowR N r fs) q < hat r q := by
      rw [lowR_hat hq]
      rcases low_fold N r q fs (hat r q) with ⟨_, h2⟩ | ⟨g, hg, hqg, h1⟩
      · exact absurd hqf (h2 f hf)
      · have := bump_low hr.len (hfs g hg) hqg
        unfold lowV
        rw [h1]; exact this
    have hb := hr.bnd _ (hat_mem (show q < r.length by omega))
    have hb2 := (low_ok hr hfs).bnd _ (hat_mem (show q < (lowR N r fs).length by rw [lowR_len]; exact hq))
    omega
end
theorem set_step {n : Nat} {g : Nat → Int} {pp : List Nat} {x : Int} {y : Nat} (hy : y < n) : ((List.range n).map fun i => intD (if i ∈ pp then x else g i)).set y (intD x) = (List.range n).map fun i => intD (if i ∈ pp ++ [y] then x else g i) := by
  apply List.ext_getElem
  · simp
  · intro i h1 h2
    simp only [List.length_set, List.length_map, List.length_range] at h1
    rw [List.getElem_set]
    simp only [List.getElem_map, List.getElem_range, List.mem_append, List.mem_singleton]
    by_cases ey : y = i
    · subst ey; rw [if_pos rfl, if_pos (.inr rfl)]
    · rw [if_neg ey]
      by_cases ei : i ∈ pp
      · rw [if_pos ei, if_pos (.inl ei)]
      · rw [if_neg ei, if_neg (fun z => by rcases z with z | z; exact ei z; exact ey z.symm)]
/-! filled, shaved -/
noncomputable def fillR (N : Net) (hs : List Int) (k : Nat) : List Int := negR (cutR N (negR hs) k)
theorem fillR_ok {N : Net} {hs : List Int} {k : Nat} (h : RowOk N.n hs) : RowOk N.n (fillR N hs k) := negR_ok (cutR_ok rfl (negR_ok h))
noncomputable def shavR (N : Net) (hs : List Int) : Nat → List Int
  | 0 => hs
  | k + 1 => fillR N (cutR N (shavR N hs k) (k + 1)) (k + 1)
theorem shavR_ok {N : Net} {hs : List Int} {k : Nat} (h : RowOk N.n hs) : RowOk N.n (shavR N hs k) := by
  induction k with
  | zero => exact h
  | succ k ih => exact fillR_ok (cutR_ok rfl ih)
noncomputable def rowsL (N : Net) (hs : List Int) (k : Nat) : D := .list ((List.range (k + 1)).map fun s => rowD (shavR N hs s))
theorem atI_last {xs : List D} {x : D} : L2.atI (xs ++ [x]) (-1) = some x := by
  unfold L2.atI L2.ixN
  rw [List.length_append, List.length_cons, List.length_nil]
  rw [if_neg (by omega), if_pos (by omega)]
  have : (-1 + ((xs.length + (0 + 1) : Nat) : Int)).toNat = xs.length := by omega
  show (xs ++ [x])[(-1 + ((xs.length + (0 + 1) : Nat) : Int)).toNat]? = some x
  rw [this]
  simp
theorem rows_snoc (N : Net) (hs : List Int) (k : Nat) : (List.range (k + 1)).map (fun s => rowD (shavR N hs s)) = (List.range k).map (fun s => rowD (shavR N hs s)) ++ [rowD (shavR N hs k)] := by
  rw [List.range_succ, List.map_append]; rfl
theorem rows_last (N : Net) (hs : List Int) (k : Nat) : dIx (rowsL N hs k) (.int (-1)) = some (rowD (shavR N hs k)) := by
  unfold rowsL
  rw [dIx_list, rows_snoc]
  exact atI_last
theorem nd_rows {N : Net} {hs : List Int} {k : Nat} (h : RowOk N.n hs) (hn : N.n ≤ 12) (hk : k ≤ 100) : Nd 2 (rowsL N hs k) :=
  nd_list (ndA_map fun s _ => nd_row (by have := (shavR_ok (k := s) h).len; omega)) (by rw [List.length_map, List.length_range]; omega)
end VS
/-! VOPN: cuts are openings: below, again, in order; filled rows keep no bumps. -/
namespace VS
open PySem PySem.Spec
section
variable {N : Net} {hs gs : List Int} {k p x : Nat} {t : Int}
theorem cutP_le (hl : hs.length = N.n) (hp : p < N.n) : cutP N hs k p ≤ hat hs p := (cutP_is hl hp).1.1
theorem big_of (hl : hs.length = N.n) (hgl : gs.length = N.n) {k' : Nat} {t' : Int} (ht : t' ≤ hat gs p) (hk : k' ≤ k) (hsub : ∀ y ∈ comp N (layL hs t) p, y ∈ comp N (layL gs t') p) (hb : bigS N hs k t p) : bigS N gs k' t' p := by
  refine ⟨ht, ?_⟩
  rcases hb.2 with h | h
  · exact .inl (Nat.lt_of_lt_of_le (Nat.lt_of_le_of_lt hk h) (comp_len_le hsub))
  · exact .inr (incr_ext (comp_lt _ _ _) (comp_lt _ _ _) fun y => ⟨comp_mono (lay_range hgl), fun hy => hsub y (by rw [h]; exact hy)⟩)
theorem big_mono (hl : hs.length = N.n) (hgl : gs.length = N.n) (hle : ∀ p, p < N.n → hat hs p ≤ hat gs p) (hp : p < N.n) (hb : bigS N hs k t p) : bigS N gs k t p :=
  big_of hl hgl (by have := hle p hp; have := hb.1; omega) (Nat.le_refl _) (fun y hy => comp_mono (fun z hz => by
    obtain ⟨h1, h2⟩ := lay_mem.mp hz
    have := hle z (by omega)
    exact lay_mem.mpr ⟨by omega, by omega⟩) hy) hb
/-- greater rows have greater cuts -/
theorem cut_mono (hl : hs.length = N.n) (hgl : gs.length = N.n) (hle : ∀ p, p < N.n → hat hs p ≤ hat gs p) (hp : p < N.n) : cutP N hs k p ≤ cutP N gs k p :=
  (cutP_is hgl hp).2 _ (big_mono hl hgl hle hp (cutP_is hl hp).1)
theorem big_gen (hl : hs.length = N.n) (hgl : gs.length = N.n) (hle : ∀ p, p < N.n → hat gs p ≤ hat hs p) (star : ∀ t p, p < N.n → bigS N hs k t p → t ≤ hat gs p) (hp : p < N.n) : bigS N hs k t p ↔ bigS N gs k t p := by
  refine ⟨fun hb => ?_, big_mono hgl hl hle hp⟩
  have hpl : p ∈ layL hs t := lay_mem.mpr ⟨by omega, hb.1⟩
  refine big_of hl hgl (star t p hp hb) (Nat.le_refl _) (fun y hy => ?_) hb
  have hall : ∀ y ∈ comp N (layL hs t) p, y ∈ layL gs t := fun y hy => by
    have hyn := comp_bd hy
    have hyl := (comp_in hpl hy).1
    have hce := comp_eq hpl hp hy
    have hyb : bigS N hs k t y := by
      refine ⟨(lay_mem.mp hyl).2, ?_⟩
      rw [hce]
      rcases hb.2 with h | h
      · exact .inl h
      · refine .inr (h.trans ?_)
        exact (comp_eq (List.mem_range.mpr hp) hp (comp_mono (lay_range hl) hy)).symm
    exact lay_mem.mpr ⟨by omega, star t y hyn hyb⟩
  refine comp_mem.mpr ⟨comp_bd hy, (comp_mem.mp hy).2.restrict fun z hz hzk => ?_⟩
  exact hall z (comp_mem.mpr ⟨by have := (lay_mem.mp hzk).1; omega, hz⟩)
theorem big_cut (hl : hs.length = N.n) (hp : p < N.n) : bigS N hs k t p ↔ bigS N (cutR N hs k) k t p :=
  big_gen hl (cutR_len _ _ _) (fun q hq => by rw [cutR_hat hq]; exact cutP_le hl hq) (fun t q hq hb => by rw [cutR_hat hq]; exact (cutP_is hl hq).2 t hb) hp
/-- cutting again changes nothing -/
theorem cut_again (hl : hs.length = N.n) : cutR N (cutR N hs k) k = cutR N hs k := by
  refine row_ext (by rw [cutR_len, cutR_len]) fun i hi => ?_
  rw [cutR_len] at hi
  rw [cutR_hat hi, cutR_hat hi]
  obtain ⟨h1, h2⟩ := cutP_is (k := k) (cutR_len N hs k) hi
  exact cutP_eq hl hi ((big_cut hl hi).mpr h1) fun t ht => h2 t ((big_cut hl hi).mp ht)
/-- a row whose points lie in great parts has no bumps -/
theorem smooth_of (hl : hs.length = N.n) (h : ∀ p, p < N.n → bigS N hs k (hat hs p) p) : bumpsL N hs k = [] := by
  refine List.eq_nil_iff_forall_not_mem.mpr fun f hf => ?_
  obtain ⟨q, hq, hlq, e⟩ := flatsL_mem.mp (List.mem_filter.mp hf).1
  have hqf : q ∈ f := by rw [e]; exact flat_self hq
  have h1 := bump_low hl hf hqf
  have h2 := big_star (hs' := lowR N hs [f]) (k := k) (p := q) hl (.inr ⟨f, hf, hqf, by
    rw [lowR_hat hq]
    show (if q ∈ f then mx (rimV N hs f) else hat hs q) = _
    rw [if_pos hqf]⟩) (h q hq)
  rw [lowR_hat hq] at h2
  have e3 : lowV N hs [f] q = mx (rimV N hs f) := by
    show (if q ∈ f then mx (rimV N hs f) else hat hs q) = _
    rw [if_pos hqf]
  omega
theorem smooth_iff (hl : hs.length = N.n) : bumpsL N hs k = [] ↔ cutR N hs k = hs := by
  refine ⟨cut_smooth hl, fun h => smooth_of hl fun p hp => ?_⟩
  have := (cutP_is (k := k) hl hp).1
  rw [← cutR_hat hp, h] at this
  exact this
theorem cut_nob (hl : hs.length = N.n) : bumpsL N (cutR N hs k) k = [] := (smooth_iff (cutR_len _ _ _)).mpr (cut_again hl)
theorem nob_less {k' : Nat} (hk : k' ≤ k) (h : bumpsL N hs k = []) : bumpsL N hs k' = [] := by
  refine List.eq_nil_iff_forall_not_mem.mpr fun f hf => ?_
  have : f ∈ bumpsL N hs k := by
    obtain ⟨h1, h2⟩ := List.mem_filter.mp hf
    rw [Bool.and_eq_true, decide_eq_true_eq] at h2
    exact List.mem_filter.mpr ⟨h1, by rw [Bool.and_eq_true, decide_eq_true_eq]; exact ⟨by omega, h2.2⟩⟩
  rw [h] at this; cases this
end
theorem negR_neg (hs : List Int) : negR (negR hs) = hs := by
  unfold negR
  rw [List.map_map]
  refine (List.map_congr_left fun x _ => ?_).trans (List.map_id _)
  show - -x = x
  omega
theorem negR_len (hs : List Int) : (negR hs).length = hs.length := by unfold negR; rw [List.length_map]
section
variable {N : Net} {hs gs : List Int} {k p x : Nat} {t : Int}
theorem fillR_len (hl : hs.length = N.n) : (fillR N hs k).length = N.n := by unfold fillR; rw [negR_len, cutR_len]
theorem fill_hat (hp : p < N.n) : hat (fillR N hs k) p = -cutP N (negR hs) k p := by
  unfold fillR
  rw [hat_neg, cutR_hat hp]
theorem fill_ge (hl : hs.length = N.n) (hp : p < N.n) : hat hs p ≤ hat (fillR N hs k) p := by
  rw [fill_hat hp]
  have := cutP_le (N := N) (hs := negR hs) (k := k) (by rw [negR_len]; exact hl) hp
  rw [hat_neg] at this
  omega
theorem fill_mono (hl : hs.length = N.n) (hgl : gs.length = N.n) (hle : ∀ p, p < N.n → hat hs p ≤ hat gs p) (hp : p < N.n) : hat (fillR N hs k) p ≤ hat (fillR N gs k) p := by
  rw [fill_hat hp, fill_hat hp]
  have := cut_mono (N := N) (hs := negR gs) (gs := negR hs) (k := k) (by rw [negR_len]; exact hgl) (by rw [negR_len]; exact hl) (fun q hq => by
    rw [hat_neg, hat_neg]
    have := hle q hq
    omega) hp
  omega
theorem fill_again (hl : hs.length = N.n) : fillR N (fillR N hs k) k = fillR N hs k := by
  unfold fillR
  rw [negR_neg, cut_again (by rw [negR_len]; exact hl)]
theorem pits_neg (N : Net) (hs : List Int) (k : Nat) : pitsL N (negR hs) k = bumpsL N hs k := by
  rw [← bumpsL_neg, negR_neg]
theorem pits_iff (hl : hs.length = N.n) : pitsL N hs k = [] ↔ fillR N hs k = hs := by
  rw [← bumpsL_neg, smooth_iff (by rw [negR_len]; exact hl)]
  unfold fillR
  constructor
  · intro h; rw [h, negR_neg]
  · intro h
    have := congrArg negR h
    rwa [negR_neg] at this
theorem fill_nop (hl : hs.length = N.n) : pitsL N (fillR N hs k) k = [] := (pits_iff (fillR_len hl)).mpr (fill_again hl)
theorem nop_less {k' : Nat} (hk : k' ≤ k) (h : pitsL N hs k = []) : pitsL N hs k' = [] := by
  rw [← bumpsL_neg] at h ⊢
  exact nob_less hk h
/-- filling makes no bumps -/
theorem fill_nob (hl : hs.length = N.n) (hb : bumpsL N hs k = []) : bumpsL N (fillR N hs k) k = [] := by
  have hfl := fillR_len (k := k) hl
  have hnl : (negR hs).length = N.n := by rw [negR_len]; exact hl
  refine smooth_of hfl fun p hp => ?_
  refine Classical.byContradiction fun hz => ?_
  have hpl : p ∈ layL (fillR N hs k) (hat (fillR N hs k) p) := lay_mem.mpr ⟨by omega, Int.le_refl _⟩
  -- nowhere in the part is the row as high
  have hlow : ∀ y ∈ comp N (layL (fillR N hs k) (hat (fillR N hs k) p)) p, hat hs y < hat (fillR N hs k) p := fun y hy => by
    refine Classical.byContradiction fun hge => ?_
    apply hz
    have hyn := comp_bd hy
    have hce := comp_eq hpl hp hy
    have hyb := big_smooth hl hb hyn
    have : bigS N (fillR N hs k) k (hat (fillR N hs k) p) y := big_of hl hfl (by have := fill_ge (k := k) hl hyn; omega) (Nat.le_refl _) (fun z hz => comp_mono (fun w hw => by
      obtain ⟨h1, h2⟩ := lay_mem.mp hw
      have := fill_ge (k := k) hl (show w < N.n by omega)
      exact lay_mem.mpr ⟨by omega, by omega⟩) hz) hyb
    refine ⟨Int.le_refl _, ?_⟩
    rw [← hce]
    rcases this.2 with h | h
    · exact .inl h
    · refine .inr (h.trans ?_)
      exact comp_eq (List.mem_range.mpr hp) hp (comp_mono (lay_range hfl) hy)
  -- a point of the part beside one that is not
  have hnot : comp N (layL (fillR N hs k) (hat (fillR N hs k) p)) p ≠ comp N (List.range N.n) p := fun h => hz ⟨Int.le_refl _, .inr h⟩
  obtain ⟨u, hu, y, hy, hyc⟩ : ∃ u, u ∈ comp N (layL (fillR N hs k) (hat (fillR N hs k) p)) p ∧ ∃ y, y ∈ near N u ∧ y ∉ comp N (layL (fillR N hs k) (hat (fillR N hs k) p)) p := by
    refine Classical.byContradiction fun hno => hnot ?_
    refine incr_ext (comp_lt _ _ _) (comp_lt _ _ _) fun z => ⟨comp_mono (lay_range hfl), fun hzc => ?_⟩
    refine comp_closed (comp_self hp) (fun v hv w hw _ => ?_) hzc
    exact Classical.byContradiction fun hwc => hno ⟨v, hv, w, hw, hwc⟩
  have hun := comp_bd hu
  have hyn := (near_mem.mp hy).1
  have hyl : hat (fillR N hs k) y < hat (fillR N hs k) p := by
    refine Classical.byContradiction fun hge => hyc ?_
    exact comp_mem.mpr ⟨hyn, .step (comp_mem.mp hu).2 hy (lay_mem.mpr ⟨by omega, by omega⟩)⟩
  have hul := hlow u hu
  have hut := (lay_mem.mp (comp_in hpl hu).1).2
  rw [fill_hat hyn] at hyl
  rw [fill_hat hun] at hut
  obtain ⟨hyb, _⟩ := cutP_is (N := N) (hs := negR hs) (k := k) hnl hyn
  have hy1 := hyb.1
  rw [hat_neg] at hy1
  -- the level of both
  obtain ⟨s0, e1, e2, e3⟩ : ∃ s0 : Int, s0 ≤ cutP N (negR hs) k y ∧ s0 ≤ -hat hs u ∧ -hat (fillR N hs k) p < s0 := by
    rcases Int.le_total (cutP N (negR hs) k y) (-hat hs u) with h | h
    · exact ⟨_, Int.le_refl _, h, by omega⟩
    · exact ⟨_, h, Int.le_refl _, by omega⟩
  have hyl0 : y ∈ layL (negR hs) s0 := lay_mem.mpr ⟨by omega, by rw [hat_neg]; omega⟩
  have hul0 : u ∈ layL (negR hs) s0 := lay_mem.mpr ⟨by omega, by rw [hat_neg]; omega⟩
  have hcomp : u ∈ comp N (layL (negR hs) s0) y := comp_mem.mpr ⟨hun, .step .start (near_symm hun hy) hul0⟩
  have hce := comp_eq hyl0 hyn hcomp
  have hyb0 : bigS N (negR hs) k s0 y := big_of hnl hnl (lay_mem.mp hyl0).2 (Nat.le_refl _) (fun z hz => comp_mono (fun w hw => by
    obtain ⟨h1, h2⟩ := lay_mem.mp hw
    exact lay_mem.mpr ⟨h1, by omega⟩) hz) hyb
  have hub : bigS N (negR hs) k s0 u := by
    refine ⟨(lay_mem.mp hul0).2, ?_⟩
    rw [hce]
    rcases hyb0.2 with h | h
    · exact .inl h
    · refine .inr (h.trans ?_)
      exact (comp_eq (List.mem_range.mpr hyn) hyn (comp_mono (lay_range hnl) hcomp)).symm
  have := (cutP_is (N := N) (hs := negR hs) (k := k) hnl hun).2 s0 hub
  omega
/-- cutting makes no pits -/
theorem cut_nop (hl : hs.length = N.n) (hb : pitsL N hs k = []) : pitsL N (cutR N hs k) k = [] := by
  have h1 := fill_nob (N := N) (hs := negR hs) (k := k) (by rw [negR_len]; exact hl) (by rw [bumpsL_neg]; exact hb)
  unfold fillR at h1
  rw [negR_neg, bumpsL_neg] at h1
  exact h1
/-- smooth rows: no bumps, no pits -/
def Smooth (N : Net) (hs : List Int) (k : Nat) : Prop := bumpsL N hs k = [] ∧ pitsL N hs k = []
theorem Smooth.less {k' : Nat} (h : Smooth N hs k) (hk : k' ≤ k) : Smooth N hs k' := ⟨nob_less hk h.1, nop_less hk h.2⟩
theorem Smooth.cut (hl : hs.length = N.n) (h : Smooth N hs k) : cutR N hs k = hs := (smooth_iff hl).mp h.1
theorem Smooth.fill (hl : hs.length = N.n) (h : Smooth N hs k) : fillR N hs k = hs := (pits_iff hl).mp h.2
theorem smooth_cf (hl : hs.length = N.n) : Smooth N (fillR N (cutR N hs k) k) k := ⟨fill_nob (cutR_len _ _ _) (cut_nob hl), fill_nop (cutR_len _ _ _)⟩
theorem smooth_fc (hl : hs.length = N.n) : Smooth N (cutR N (fillR N hs k) k) k := ⟨cut_nob (fillR_len hl), cut_nop (fillR_len hl) (fill_nop hl)⟩
/-- cut, then filled, is below filled, then cut -/
theorem cf_le_fc (hl : hs.length = N.n) (hp : p < N.n) : hat (fillR N (cutR N hs k) k) p ≤ hat (cutR N (fillR N hs k) k) p := by
  have hs1 := smooth_cf (k := k) hl
  have e := hs1.cut (fillR_len (cutR_len _ _ _))
  rw [← e, cutR_hat hp, cutR_hat hp]
  refine cut_mono (fillR_len (cutR_len _ _ _)) (fillR_len hl) (fun q hq => ?_) hp
  refine fill_mono (cutR_len _ _ _) hl (fun q hq => ?_) hq
  rw [cutR_hat hq]
  exact cutP_le hl hq
theorem smooth0 (hl : hs.length = N.n) : Smooth N hs 0 := by
  have : ∀ f ∈ flatsL N hs, ¬ f.length ≤ 0 := fun f hf => by
    obtain ⟨q, hq, _, e⟩ := flatsL_mem.mp hf
    have := flat_ne (hs := hs) hq
    rw [← e] at this
    intro z
    exact this (List.eq_nil_of_length_eq_zero (by omega))
  refine ⟨List.filter_eq_nil_iff.mpr fun f hf => ?_, List.filter_eq_nil_iff.mpr fun f hf => ?_⟩
  · rw [decide_eq_false (this f hf)]; simp
  · rw [decide_eq_false (this f hf)]; simp
end
theorem shavR_len {N : Net} {hs : List Int} (hl : hs.length = N.n) : ∀ k, (shavR N hs k).length = N.n
  | 0 => hl
  | _ + 1 => fillR_len (cutR_len _ _ _)
theorem shav_smooth {N : Net} {hs : List Int} (hl : hs.length = N.n) : ∀ k, Smooth N (shavR N hs k) k
  | 0 => smooth0 hl
  | k + 1 => smooth_cf (shavR_len hl k)
/-- smooth rows are shaved to themselves -/
theorem shav_id {N : Net} {hs : List Int} (hl : hs.length = N.n) {k : Nat} (h : Smooth N hs k) : ∀ j, j ≤ k → shavR N hs j = hs
  | 0, _ => rfl
  | j + 1, hj => by
    rw [shavR, shav_id hl h j (by omega), (h.less hj).cut hl, (h.less hj).fill hl]
theorem shav_again {N : Net} {hs : List Int} (hl : hs.length = N.n) (k : Nat) : shavR N (shavR N hs k) k = shavR N hs k := shav_id (shavR_len hl k) (shav_smooth hl k) k (Nat.le_refl _)
theorem shav_iff {N : Net} {hs : List Int} (hl : hs.length = N.n) (k : Nat) : shavR N hs k = hs ↔ Smooth N hs k := by
  refine ⟨fun h => ?_, fun h => shav_id hl h k (Nat.le_refl _)⟩
  have := shav_smooth hl k
  rwa [h] at this
/-- a part within its circle -/
theorem comp_within {N : Net} {hs : List Int} {t : Int} {x : Nat} (hl : hs.length = N.n) (hx : x < N.n) (ht : t ≤ hat hs x) : comp N ((comp N (List.range N.n) x).filter fun y => decide (t ≤ hat hs y)) x = comp N (layL hs t) x := by
  refine incr_ext (comp_lt _ _ _) (comp_lt _ _ _) fun y => ⟨comp_mono fun z hz => ?_, fun hy => ?_⟩
  · obtain ⟨h1, h2⟩ := List.mem_filter.mp hz
    exact lay_mem.mpr ⟨by have := comp_bd h1; omega, by simpa using h2⟩
  · refine comp_mem.mpr ⟨comp_bd hy, (comp_mem.mp hy).2.restrict fun z hz hzk => ?_⟩
    obtain ⟨h1, h2⟩ := lay_mem.mp hzk
    refine List.mem_filter.mpr ⟨?_, by simpa using h2⟩
    exact comp_mem.mpr ⟨by omega, hz.mono (lay_range hl)⟩
end VS
/-! VHIS: heights as rows are shaved. -/
namespace VS
open PySem PySem.Spec
noncomputable def histL (N : Net) (hs : List Int) (p k : Nat) : List Int := (List.range (k + 1)).map fun s => hat (shavR N hs s) p
theorem histL_len (N : Net) (hs : List Int) (p k : Nat) : (histL N hs p k).length = k + 1 := by unfold histL; rw [List.length_map, List.length_range]
theorem hist_hat {N : Net} {hs : List Int} {p k s : Nat} (h : s ≤ k) : hat (histL N hs p k) s = hat (shavR N hs s) p := by
  unfold histL hat
  rw [List.getD_eq_getElem?_getD, List.getElem?_map, List.getElem?_range (by omega)]; rfl
noncomputable def firstsL (N : Net) (hs : List Int) (p : Nat) : List Nat := (List.range (N.n + 1)).filter fun s => decide (hat (shavR N hs s) p ≠ hat hs p)
def headO : List Nat → D
  | [] => .none
  | s :: _ => natD s
theorem firsts_none {N : Net} {hs : List Int} {p : Nat} (h : ∀ i, i < N.n → hat (shavR N hs (1 + i)) p = hat hs p) : firstsL N hs p = [] := by
  unfold firstsL
  rw [List.filter_eq_nil_iff]
  intro s hs'
  have hs2 := List.mem_range.mp hs'
  rw [decide_eq_true_eq]
  intro z
  cases s with
  | zero => exact z rfl
  | succ s => exact z (by have := h s (by omega); rwa [Nat.add_comm] at this)
theorem firsts_some {N : Net} {hs : List Int} {p x : Nat} (hx : x < N.n) (h : ∀ i, i < x → hat (shavR N hs (1 + i)) p = hat hs p) (hz : hat (shavR N hs (1 + x)) p ≠ hat hs p) : headO (firstsL N hs p) = natD (1 + x) := by
  have e : List.range (N.n + 1) = List.range (1 + x) ++ (List.range (N.n - x)).map fun i => (1 + x) + i := by
    rw [show N.n + 1 = (1 + x) + (N.n - x) by omega, List.range_add]
  have e1 : (List.range (1 + x)).filter (fun s => decide (hat (shavR N hs s) p ≠ hat hs p)) = [] := by
    rw [List.filter_eq_nil_iff]
    intro s hs'
    have hs2 := List.mem_range.mp hs'
    rw [decide_eq_true_eq]
    intro z
    cases s with
    | zero => exact z rfl
    | succ s => exact z (by have := h s (by omega); rwa [Nat.add_comm] at this)
  obtain ⟨m, em⟩ : ∃ m, N.n - x = m + 1 := ⟨N.n - x - 1, by omega⟩
  unfold firstsL
  rw [e, List.filter_append, e1, List.nil_append, em, List.range_succ_eq_map, List.map_cons, List.filter_cons, if_pos (by rw [decide_eq_true_eq]; exact hz)]
  rfl
noncomputable def lastsL (N : Net) (hs : List Int) : List Nat := ((List.range N.n).filter fun i => decide (shavR N hs (1 + i) ≠ shavR N hs i)).map fun i => 1 + i
theorem lastsL_len (N : Net) (hs : List Int) : (lastsL N hs).length ≤ N.n := by
  unfold lastsL
  rw [List.length_map]
  have := List.length_filter_le (fun i => decide (shavR N hs (1 + i) ≠ shavR N hs i)) (List.range N.n)
  rwa [List.length_range] at this
def lastN (xs : List Nat) : Nat := (mx (toI (0 :: xs))).toNat
theorem last_max (xs : List Nat) : dMaxG [natL ([0] ++ xs)] = some (natD (lastN xs)) := by
  rw [natL_toI, max_ints (by simp [toI])]
  have h := (mx_spec (toI (0 :: xs)) (by simp [toI])).1
  obtain ⟨y, e, _⟩ := mem_toI.mp h
  show some (intD (mx (toI (0 :: xs)))) = some (natD (lastN xs))
  unfold lastN
  rw [e]
  rfl
noncomputable def untL (N : Net) (hs : List Int) (k : Nat) : List Nat := (List.range N.n).filter fun p => (List.range (k + 1)).all fun s => decide (hat (shavR N hs s) p = hat hs p)
theorem len_rows (N : Net) (hs : List Int) (k : Nat) : dLen [rowsL N hs k] = some (natD (k + 1)) := by
  unfold rowsL
  rw [dLen_list, List.length_map, List.length_range]
theorem ix_rows {N : Net} {hs : List Int} {k s : Nat} (h : s ≤ k) : dIx (rowsL N hs k) (natD s) = some (rowD (shavR N hs s)) := by
  unfold rowsL
  rw [show natD s = PyData.int (s : Int) from rfl, dIx_list]
  exact atI_of (by rw [List.getElem?_map, List.getElem?_range (by omega)]; rfl)
theorem eqA_int : ∀ (xs ys : List Int), PyData.eqvAll (xs.map intD) (ys.map intD) = decide (xs = ys)
  | [], [] => rfl
  | [], _ :: _ => rfl
  | _ :: _, [] => rfl
  | x :: xs, y :: ys => by
    rw [List.map_cons, List.map_cons, PyData.eqvAll, eqA_int xs ys]
    show (PyData.eqv (.int x) (.int y) && _) = _
    rw [PyData.eqv]
    by_cases e : x = y
    · subst e; simp
    · simp [e]
theorem shaped_row {xs : List Int} (h : xs.length ≤ 1000) : SeqAt.shaped (rowD xs) = true := (nd_row h).shaped (by decide)
theorem eq_row {xs ys : List Int} (h : xs.length ≤ 1000) (h' : ys.length ≤ 1000) : dEq (rowD xs) (rowD ys) = some (.bool (decide (xs = ys))) := by
  unfold dEq
  rw [if_pos ⟨shaped_row h, shaped_row h'⟩]
  unfold rowD
  rw [PyData.eqv, eqA_int]
theorem ne_row {xs ys : List Int} (h : xs.length ≤ 1000) (h' : ys.length ≤ 1000) : dNe (rowD xs) (rowD ys) = some (.bool (decide (xs ≠ ys))) := by
  unfold dNe
  rw [if_pos ⟨shaped_row h, shaped_row h'⟩]
  unfold rowD
  rw [PyData.eqv, eqA_int, decide_not]
theorem cut_to {α : Type} (xs : List α) (k : Nat) : cutL xs none (some (k : Int)) = xs.take k := by
  unfold cutL
  rw [HT.sIx_none, HT.sIx_nat, List.drop_zero, Nat.sub_zero]
  rcases Nat.le_total k xs.length with h | h
  · rw [Nat.min_eq_left h]
  · rw [Nat.min_eq_right h, List.take_of_length_le (Nat.le_refl _), List.take_of_length_le h]
theorem lenset_one {ns : List Int} {v : Int} (hne : ns ≠ []) (h : ∀ x ∈ ns, x = v) (hl : ns.length ≤ 1000) : dlenset (.list (ns.map intD)) = some (natD 1) := by
  unfold dlenset
  rw [nums_ints]
  show (if ns.length ≤ 1000 then _ else _) = _
  rw [if_pos hl]
  have : sortset ns = [v] := by
    refine sorted_unique (sortset_lt ns) (by simp) fun k => ?_
    rw [sortset_mem, List.mem_singleton]
    constructor
    · exact h k
    · rintro rfl
      obtain ⟨x, hx⟩ := List.exists_mem_of_ne_nil _ hne
      have := h x hx
      rwa [this] at hx
  rw [this]; rfl
/-- at the end each circle is one flat -/
theorem cut_all {N : Net} {hs : List Int} {s x : Nat} (hs' : s < N.n) (hx : x ∈ comp N (List.range N.n) s) {k : Nat} (hk : N.n ≤ k) : cutP N hs k x = cut0 N hs s := by
  have hxn := comp_bd hx
  have h0 : ∀ (l : List Int) (b : Int), l.foldl (cutF N hs k x) b = b := by
    intro l
    induction l with
    | nil => intro b; rfl
    | cons t l ih =>
      intro b
      rw [List.foldl_cons]
      have : cutF N hs k x b t = b := by
        unfold cutF
        rw [if_neg (fun z => by have := comp_len N (layL hs t) x; omega)]
      rw [this, ih]
  unfold cutP
  rw [h0]
  unfold cut0
  rw [comp_eq (List.mem_range.mpr hs') hs' hx]
theorem shav_flat {N : Net} {hs : List Int} (h1 : 1 ≤ N.n) {s x : Nat} (hs' : s < N.n) (hx : x ∈ comp N (List.range N.n) s) : hat (shavR N hs N.n) x = hat (shavR N hs N.n) s := by
  obtain ⟨m, em⟩ : ∃ m, N.n = m + 1 := ⟨N.n - 1, by omega⟩
  have hxn := comp_bd hx
  have e : shavR N hs N.n = fillR N (cutR N (shavR N hs m) N.n) N.n := by
    have : shavR N hs (m + 1) = fillR N (cutR N (shavR N hs m) (m + 1)) (m + 1) := rfl
    rw [← em] at this
    exact this
  rw [e, fill_hat hxn, fill_hat hs', cut_all hs' hx (Nat.le_refl _), cut_all hs' (comp_self hs') (Nat.le_refl _)]
end VS
/-! VALL: all low rows. -/
namespace VS
open PySem PySem.Spec
def allR (m : Nat) : Nat → List (List Int)
  | 0 => [[]]
  | n + 1 => (allR m n).flatMap fun t => (List.range (m + 1)).map fun h : Nat => t ++ [(h : Int)]
theorem flatMap_len {α β : Type} (f : α → List β) (c : Nat) (h : ∀ x, (f x).length = c) : ∀ l : List α, (l.flatMap f).length = l.length * c
  | [] => by simp
  | x :: l => by rw [List.flatMap_cons, List.length_append, h, flatMap_len f c h l, List.length_cons, Nat.add_mul]; omega
theorem allR_len (m : Nat) : ∀ n, (allR m n).length = (m + 1) ^ n
  | 0 => rfl
  | n + 1 => by
    rw [allR, flatMap_len _ (m + 1) (fun t => by rw [List.length_map, List.length_range]), allR_len m n, Nat.pow_succ]
theorem allR_mem (m : Nat) : ∀ (n : Nat) (t : List Int), t ∈ allR m n ↔ t.length = n ∧ ∀ x ∈ t, 0 ≤ x ∧ x ≤ (m : Int)
  | 0, t => by
    rw [allR, List.mem_singleton]
    constructor
    · rintro rfl; exact ⟨rfl, fun _ h => nomatch h⟩
    · rintro ⟨h, _⟩; exact List.eq_nil_of_length_eq_zero h
  | n + 1, t => by
    rw [allR, List.mem_flatMap]
    constructor
    · rintro ⟨u, hu, ht⟩
      obtain ⟨h, hh, rfl⟩ := List.mem_map.mp ht
      obtain ⟨h1, h2⟩ := (allR_mem m n u).mp hu
      refine ⟨by rw [List.length_append, h1]; rfl, fun x hx => ?_⟩
      rcases List.mem_append.mp hx with hx | hx
      · exact h2 x hx
      · simp at hx; subst hx
        have := List.mem_range.mp hh
        omega
    · rintro ⟨h1, h2⟩
      rcases List.eq_nil_or_concat t with rfl | ⟨u, y, rfl⟩
      · simp at h1
      · rw [List.concat_eq_append] at *
        rw [List.length_append, List.length_cons, List.length_nil] at h1
        have hy := h2 y (by simp)
        refine ⟨u, (allR_mem m n u).mpr ⟨by omega, fun x hx => h2 x (List.mem_append_left _ hx)⟩, List.mem_map.mpr ⟨y.toNat, List.mem_range.mpr (by omega), ?_⟩⟩
        rw [show ((y.toNat : Nat) : Int) = y by omega]
def rowsD (ts : List (List Int)) : D := .list (ts.map rowD)
theorem nd_rowsD {ts : List (List Int)} (hl : ts.length ≤ 1000) (h : ∀ t ∈ ts, t.length ≤ 1000) : Nd 2 (rowsD ts) := nd_list (ndA_map fun t ht => nd_row (h t ht)) (by rw [List.length_map]; exact hl)
theorem eqv_rowD (xs ys : List Int) : PyData.eqv (rowD xs) (rowD ys) = decide (xs = ys) := by
  unfold rowD
  rw [PyData.eqv, eqA_int]
theorem in_rowsD {x : List Int} {ts : List (List Int)} (hx : x.length ≤ 1000) (hl : ts.length ≤ 1000) (h : ∀ t ∈ ts, t.length ≤ 1000) : dIn (rowD x) (rowsD ts) = some (.bool (decide (x ∈ ts))) := by
  unfold dIn rowsD
  show (if SeqAt.shaped (rowD x) = true ∧ SeqAt.shaped (.list (ts.map rowD)) = true then some ((ts.map rowD).any fun z => PyData.eqv z (rowD x)) else none).map PyData.bool = _
  rw [if_pos ⟨shaped_row hx, (nd_rowsD hl h).shaped (by decide)⟩]
  show some (PyData.bool _) = _
  congr 2
  clear h hl
  rw [List.any_map]
  induction ts with
  | nil => rfl
  | cons y ys ih =>
    rw [List.any_cons, ih]
    show (PyData.eqv (rowD y) (rowD x) || _) = _
    rw [eqv_rowD]
    by_cases e : y = x
    · subst e; simp
    · have e' : x ≠ y := fun z => e z.symm
      simp [e, e']
theorem notIn_rowsD {x : List Int} {ts : List (List Int)} (hx : x.length ≤ 1000) (hl : ts.length ≤ 1000) (h : ∀ t ∈ ts, t.length ≤ 1000) : dNotIn (rowD x) (rowsD ts) = some (.bool (decide (x ∉ ts))) := by
  rw [notIn_of (in_rowsD hx hl h), decide_not]
theorem dAdd_rowsD {a b : List (List Int)} (h : a.length + b.length ≤ 10000) : dAdd (rowsD a) (rowsD b) = some (rowsD (a ++ b)) := by
  unfold rowsD
  rw [dAdd_lst (by simpa using h), List.map_append]
theorem dAdd_rowD {a b : List Int} (h : a.length + b.length ≤ 10000) : dAdd (rowD a) (rowD b) = some (rowD (a ++ b)) := by
  unfold rowD
  rw [dAdd_tup (by simpa using h), List.map_append]
/-- points at which t is above hs, below hs -/
def overI (n : Nat) (t hs : List Int) : List Nat := (List.range n).filter fun i => decide (hat hs i < hat t i)
def underI (n : Nat) (t hs : List Int) : List Nat := (List.range n).filter fun i => decide (hat t i < hat hs i)
theorem overI_nil {n : Nat} {t hs : List Int} : overI n t hs = [] ↔ ∀ i, i < n → hat t i ≤ hat hs i := by
  unfold overI
  rw [List.filter_eq_nil_iff]
  simp only [List.mem_range, decide_eq_true_eq]
  constructor
  · intro h i hi; have := h i hi; omega
  · intro h i hi; have := h i hi; omega
theorem underI_nil {n : Nat} {t hs : List Int} : underI n t hs = [] ↔ ∀ i, i < n → hat hs i ≤ hat t i := by
  unfold underI
  rw [List.filter_eq_nil_iff]
  simp only [List.mem_range, decide_eq_true_eq]
  constructor
  · intro h i hi; have := h i hi; omega
  · intro h i hi; have := h i hi; omega
noncomputable def lowS (N : Net) (hs : List Int) (k m : Nat) : List (List Int) := ((allR m N.n).filter fun t => decide (overI N.n t hs = [])).filter fun t => decide (bumpsL N t k = [])
noncomputable def highS (N : Net) (hs : List Int) (k m : Nat) : List (List Int) := ((allR m N.n).filter fun t => decide (underI N.n t hs = [])).filter fun t => decide (pitsL N t k = [])
section
variable {N : Net} {hs : List Int} {k m : Nat}
theorem lowS_mem {t : List Int} : t ∈ lowS N hs k m ↔ (t.length = N.n ∧ ∀ x ∈ t, 0 ≤ x ∧ x ≤ (m : Int)) ∧ (∀ i, i < N.n → hat t i ≤ hat hs i) ∧ bumpsL N t k = [] := by
  unfold lowS
  rw [List.mem_filter, List.mem_filter, allR_mem, decide_eq_true_eq, decide_eq_true_eq, overI_nil, and_assoc]
theorem highS_mem {t : List Int} : t ∈ highS N hs k m ↔ (t.length = N.n ∧ ∀ x ∈ t, 0 ≤ x ∧ x ≤ (m : Int)) ∧ (∀ i, i < N.n → hat hs i ≤ hat t i) ∧ pitsL N t k = [] := by
  unfold highS
  rw [List.mem_filter, List.mem_filter, allR_mem, decide_eq_true_eq, decide_eq_true_eq, underI_nil, and_assoc]
theorem cut_in (hl : hs.length = N.n) (hb : ∀ x ∈ hs, 0 ≤ x ∧ x ≤ (m : Int)) : cutR N hs k ∈ lowS N hs k m := by
  refine lowS_mem.mpr ⟨⟨cutR_len _ _ _, fun x hx => ?_⟩, fun i hi => ?_, cut_nob hl⟩
  · obtain ⟨p, hp, rfl⟩ := List.mem_map.mp hx
    exact hb _ (cutP_mem hl (List.mem_range.mp hp))
  · rw [cutR_hat hi]; exact cutP_le hl hi
theorem cut_max (hl : hs.length = N.n) {t : List Int} (ht : t ∈ lowS N hs k m) {i : Nat} (hi : i < N.n) : hat t i ≤ hat (cutR N hs k) i := by
  obtain ⟨⟨h1, _⟩, h2, h3⟩ := lowS_mem.mp ht
  have e := cut_smooth h1 h3
  rw [cutR_hat hi]
  have := cut_mono (k := k) h1 hl h2 hi
  rw [← cutR_hat hi, e] at this
  exact this
theorem fill_mem {n : Nat} (hn : n = N.n) (hl : hs.length = n) {x : Int} (hx : x ∈ fillR N hs k) : x ∈ hs := by
  subst hn
  unfold fillR at hx
  obtain ⟨y, hy, rfl⟩ := List.mem_map.mp hx
  obtain ⟨p, hp, rfl⟩ := List.mem_map.mp hy
  have := cutP_mem (N := N) (hs := negR hs) (k := k) (by rw [negR_len]; exact hl) (List.mem_range.mp hp)
  obtain ⟨z, hz, e⟩ := List.mem_map.mp this
  rw [← e, Int.neg_neg]
  exact hz
theorem fill_in (hl : hs.length = N.n) (hb : ∀ x ∈ hs, 0 ≤ x ∧ x ≤ (m : Int)) : fillR N hs k ∈ highS N hs k m :=
  highS_mem.mpr ⟨⟨fillR_len hl, fun x hx => hb _ (fill_mem rfl hl hx)⟩, fun i hi => fill_ge hl hi, fill_nop hl⟩
theorem fill_min (hl : hs.length = N.n) {t : List Int} (ht : t ∈ highS N hs k m) {i : Nat} (hi : i < N.n) : hat (fillR N hs k) i ≤ hat t i := by
  obtain ⟨⟨h1, _⟩, h2, h3⟩ := highS_mem.mp ht
  have e := (pits_iff h1).mp h3
  have := fill_mono (k := k) hl h1 h2 hi
  rw [e] at this
  exact this
theorem best_cut (hl : hs.length = N.n) (hb : ∀ x ∈ hs, 0 ≤ x ∧ x ≤ (m : Int)) : ((List.range N.n).map fun i => mx ((lowS N hs k m).map fun t => hat t i)) = cutR N hs k := by
  unfold cutR
  refine List.map_congr_left fun i hi => ?_
  have hi' := List.mem_range.mp hi
  have hin := cut_in (k := k) hl hb
  rw [← cutR_hat hi']
  refine (mx_eq (List.mem_map_of_mem (f := fun t => hat t i) hin) fun y hy => ?_).symm
  obtain ⟨t, ht, rfl⟩ := List.mem_map.mp hy
  exact cut_max hl ht hi'
theorem best_fill (hl : hs.length = N.n) (hb : ∀ x ∈ hs, 0 ≤ x ∧ x ≤ (m : Int)) : ((List.range N.n).map fun i => mn ((highS N hs k m).map fun t => hat t i)) = fillR N hs k := by
  refine row_ext (by rw [List.length_map, List.length_range, fillR_len hl]) fun i hi => ?_
  rw [List.length_map, List.length_range] at hi
  have hin := fill_in (k := k) hl hb
  have e : hat ((List.range N.n).map fun i => mn ((highS N hs k m).map fun t => hat t i)) i = mn ((highS N hs k m).map fun t => hat t i) := by
    unfold hat
    rw [List.getD_eq_getElem?_getD, List.getElem?_map, List.getElem?_range hi]; rfl
  rw [e]
  refine (mn_eq (List.mem_map_of_mem (f := fun t => hat t i) hin) fun y hy => ?_).symm
  obtain ⟨t, ht, rfl⟩ := List.mem_map.mp hy
  exact fill_min hl ht hi
end
end VS
/-! VLAY: layers of rows cut are layers opened. -/
namespace VS
open PySem PySem.Spec
section
variable {N : Net} {kept : List Nat} {s x p k : Nat} {hs : List Int} {t : Int}
theorem incr_min {l : List Nat} (h : l.Pairwise (· < ·)) (hx : x ∈ l) : ∃ m, m ∈ l ∧ ∀ y ∈ l, m ≤ y := by
  cases l with
  | nil => cases hx
  | cons y r => exact ⟨y, by simp, fun z hz => by
      rcases List.mem_cons.mp hz with rfl | hz
      · exact Nat.le_refl _
      · exact Nat.le_of_lt ((List.pairwise_cons.mp h).1 z hz)⟩
theorem parts_mem (hk : kept.Pairwise (· < ·)) (hb : ∀ x ∈ kept, x < N.n) (hs : s ∈ kept) : comp N kept s ∈ partsL N kept := by
  have hsn := hb s hs
  obtain ⟨m, hm1, hm2⟩ := incr_min (comp_lt N kept s) (comp_self hsn)
  have hce := comp_eq hs hsn hm1
  rw [partsL_eq hk hb]
  refine List.mem_map.mpr ⟨m, List.mem_filter.mpr ⟨(comp_in hs hm1).1, ?_⟩, hce⟩
  unfold leastIn
  rw [decide_eq_true_eq, hce]
  exact hm2
theorem circ_mem {f : List Nat} (hx : x ∈ f) (hf : f ∈ partsL N (List.range N.n)) : f = comp N (List.range N.n) x := by
  obtain ⟨s, hs, rfl⟩ := partsL_is hf
  exact (comp_eq hs (List.mem_range.mp hs) hx).symm
theorem circ_in (hx : x < N.n) : comp N (List.range N.n) x ∈ partsL N (List.range N.n) := parts_mem (range_lt _) range_bd (List.mem_range.mpr hx)
theorem openU_nodup (hk : kept.Pairwise (· < ·)) (hb : ∀ x ∈ kept, x < N.n) : (openU N kept k).Nodup := by
  unfold openU List.Nodup
  rw [List.pairwise_flatten]
  refine ⟨fun l hl => ?_, ?_⟩
  · obtain ⟨s, _, rfl⟩ := partsL_is (List.mem_filter.mp hl).1
    exact (comp_lt _ _ _).imp fun {a b} q => Nat.ne_of_lt q
  · refine List.Pairwise.filter _ ?_
    rw [partsL_eq hk hb, List.pairwise_map]
    refine (List.Pairwise.filter _ hk).imp_of_mem fun {a b} ha hb2 hab x hx y hy e => ?_
    subst e
    obtain ⟨ha1, ha2⟩ := List.mem_filter.mp ha
    obtain ⟨hb1, hb2⟩ := List.mem_filter.mp hb2
    have := comp_disj ha1 (hb a ha1) hb1 (hb b hb1) hx hy
    unfold leastIn at ha2 hb2
    rw [decide_eq_true_eq] at ha2 hb2
    have := hb2 a (by rw [← this]; exact comp_self (hb a ha1))
    omega
theorem openL_mem (hk : kept.Pairwise (· < ·)) (hb : ∀ x ∈ kept, x < N.n) : x ∈ openL N kept k ↔ x ∈ kept ∧ (k < (comp N kept x).length ∨ comp N kept x = comp N (List.range N.n) x) := by
  unfold openL
  rw [(List.mergeSort_perm _ natle).mem_iff]
  unfold openU
  rw [List.mem_flatten]
  constructor
  · rintro ⟨l, hl, hx⟩
    obtain ⟨h1, h2⟩ := List.mem_filter.mp hl
    obtain ⟨s, hs, rfl⟩ := partsL_is h1
    have hce := comp_eq hs (hb s hs) hx
    refine ⟨(comp_in hs hx).1, ?_⟩
    unfold bigL at h2
    rw [Bool.or_eq_true, decide_eq_true_eq, decide_eq_true_eq] at h2
    rw [hce]
    rcases h2 with h | h
    · exact .inl h
    · exact .inr (circ_mem hx h)
  · rintro ⟨hx, h⟩
    refine ⟨_, List.mem_filter.mpr ⟨parts_mem hk hb hx, ?_⟩, comp_self (hb x hx)⟩
    unfold bigL
    rw [Bool.or_eq_true, decide_eq_true_eq, decide_eq_true_eq]
    rcases h with h | h
    · exact .inl h
    · exact .inr (by rw [h]; exact circ_in (hb x hx))
theorem openL_lt (hk : kept.Pairwise (· < ·)) (hb : ∀ x ∈ kept, x < N.n) : (openL N kept k).Pairwise (· < ·) := sort_nat_lt (openU_nodup hk hb)
theorem lay_lt (hs : List Int) (t : Int) : (layL hs t).Pairwise (· < ·) := List.Pairwise.filter _ List.pairwise_lt_range
theorem big_less (hl : hs.length = N.n) {t' : Int} (ht : t' ≤ t) (hb : bigS N hs k t p) : bigS N hs k t' p :=
  big_of hl hl (by have := hb.1; omega) (Nat.le_refl _) (fun y hy => comp_mono (fun z hz => by
    obtain ⟨h1, h2⟩ := lay_mem.mp hz
    exact lay_mem.mpr ⟨h1, by omega⟩) hy) hb
theorem cut_big (hl : hs.length = N.n) (hp : p < N.n) : t ≤ cutP N hs k p ↔ bigS N hs k t p :=
  ⟨fun h => big_less hl h (cutP_is hl hp).1, fun h => (cutP_is hl hp).2 t h⟩
/-- a layer of the row cut is the layer opened -/
theorem lay_cut (hl : hs.length = N.n) : openL N (layL hs t) k = layL (cutR N hs k) t := by
  have hb : ∀ x ∈ layL hs t, x < N.n := fun x hx => by have := (lay_mem.mp hx).1; omega
  refine incr_ext (openL_lt (lay_lt hs t) hb) (lay_lt _ _) fun x => ?_
  rw [openL_mem (lay_lt hs t) hb, lay_mem, lay_mem, cutR_len]
  constructor
  · rintro ⟨⟨h1, h2⟩, h3⟩
    have hx : x < N.n := by omega
    exact ⟨hx, by rw [cutR_hat hx, cut_big hl hx]; exact ⟨h2, h3⟩⟩
  · rintro ⟨hx, h2⟩
    rw [cutR_hat hx, cut_big hl hx] at h2
    exact ⟨⟨by omega, h2.1⟩, h2.2⟩
theorem rest_lay (hl : hs.length = N.n) : restL N.n (layL hs t) = layL (negR hs) (1 - t) := by
  refine incr_ext (restL_lt _ _) (lay_lt _ _) fun x => ?_
  rw [restL_mem, lay_mem, lay_mem, negR_len, hat_neg]
  constructor
  · rintro ⟨h1, h2⟩
    exact ⟨by omega, Classical.byContradiction fun z => h2 ⟨by omega, by omega⟩⟩
  · rintro ⟨h1, h2⟩
    exact ⟨by omega, fun z => by have := z.2; omega⟩
/-- a layer of the row filled is the layer closed -/
theorem lay_fill (hl : hs.length = N.n) : closeL N (layL hs t) k = layL (fillR N hs k) t := by
  have hnl : (negR hs).length = N.n := by rw [negR_len]; exact hl
  unfold closeL
  rw [rest_lay hl, lay_cut hnl, rest_lay (cutR_len _ _ _)]
  show layL (fillR N hs k) (1 - (1 - t)) = _
  rw [show 1 - (1 - t) = t by omega]
theorem lay_shave (hl : hs.length = N.n) : ∀ k, shaveL N k (layL hs t) = layL (shavR N hs k) t
  | 0 => rfl
  | k + 1 => by
    rw [shaveL, lay_shave hl k, lay_cut (shavR_len hl k), lay_fill (cutR_len _ _ _)]
    rfl
/-- all layers open: the row is its own cut -/
theorem lay_all (hl : hs.length = N.n) (h : ∀ t ∈ hs, openL N (layL hs t) k = layL hs t) : cutR N hs k = hs := by
  refine row_ext (by rw [cutR_len, hl]) fun i hi => ?_
  rw [cutR_len] at hi
  have h1 := h (hat hs i) (hat_mem (by omega))
  rw [lay_cut hl] at h1
  have h2 : i ∈ layL hs (hat hs i) := lay_mem.mpr ⟨by omega, Int.le_refl _⟩
  rw [← h1] at h2
  have h3 := (lay_mem.mp h2).2
  have h4 := cutP_le (k := k) hl hi
  rw [cutR_hat hi] at h3 ⊢
  omega
end
theorem ne_ptsD {xs ys : List Nat} (h : xs.length ≤ 1000) (h' : ys.length ≤ 1000) : dNe (ptsD xs) (ptsD ys) = some (.bool (decide (xs ≠ ys))) := by
  unfold dNe
  rw [if_pos ⟨shaped_pts h, shaped_pts h'⟩, eqv_ptsD, decide_not]
theorem min_row {hs : List Int} (h : hs ≠ []) : dMinG [rowD hs] = some (intD (mn hs)) := by
  have hn : numsD (rowD hs) = some hs := by
    unfold numsD rowD
    show intsOf (hs.map intD) = _
    exact intsOf_map hs
  have : dMin [rowD hs] = some (.int (mn hs)) := by
    unfold dMin
    simp only [hn]
    cases hs with
    | nil => exact absurd rfl h
    | cons x r => rfl
  show (match dMin [rowD hs] with | some d => some d | none => bestOf minG [rowD hs]) = _
  rw [this]
theorem notIn_bools {bs : List Bool} (hl : bs.length ≤ 1000) : dNotIn (.bool false) (.list (bs.map PyData.bool)) = some (.bool (bs.all id)) := by
  have hs : SeqAt.shaped (.list (bs.map PyData.bool)) = true := (nd_list (ndA_map fun b _ => nd_bool 0 b) (by rw [List.length_map]; exact hl)).shaped (by decide)
  unfold dNotIn
  show ((if SeqAt.shaped (.bool false) = true ∧ SeqAt.shaped (.list (bs.map PyData.bool)) = true then some ((bs.map PyData.bool).any fun z => PyData.eqv z (.bool false)) else none).map fun b => PyData.bool (!b)) = _
  rw [if_pos ⟨rfl, hs⟩]
  show some (PyData.bool _) = _
  congr 2
  clear hs hl
  rw [List.any_map]
  induction bs with
  | nil => rfl
  | cons b bs ih =>
    rw [List.any_cons, List.all_cons, ← ih]
    cases b <;> simp [PyData.eqv]
theorem sortset_head {hs : List Int} (hne : hs ≠ []) : ∃ r, sortset hs = mn hs :: r := by
  obtain ⟨h1, h2⟩ := mn_spec hs hne
  cases e : sortset hs with
  | nil =>
    have := (sortset_mem (mn hs) hs).mpr h1
    rw [e] at this; cases this
  | cons y r =>
    have hy : y ∈ hs := (sortset_mem y hs).mp (by rw [e]; simp)
    have hm : mn hs ∈ y :: r := by rw [← e]; exact (sortset_mem _ _).mpr h1
    have h3 := h2 y hy
    rcases List.mem_cons.mp hm with h | h
    · exact ⟨r, by rw [h]⟩
    · have hlt := sortset_lt hs
      rw [e] at hlt
      have := (List.pairwise_cons.mp hlt).1 _ h
      omega
theorem lay_least {hs : List Int} (hne : hs ≠ []) : layL hs (mn hs) = List.range hs.length := by
  unfold layL
  refine List.filter_eq_self.mpr fun i hi => ?_
  rw [decide_eq_true_eq]
  exact (mn_spec hs hne).2 _ (hat_mem (List.mem_range.mp hi))
end VS
/-! law_k54_across_cuts_and_layers: the text, the defs. -/
namespace K54
open PySem PySem.Spec PyProof.Rows L2 VS
def topS (i : Nat) : Stmt := PySem.Challenge.pw_shavenets_k54_across_cuts_and_layers.main.body.getD i (.Pass ⟨0, 0, 0, 0⟩)
abbrev s__law_taken : Stmt := topS 55
theorem S__law_taken : FnScope ["_law_row", "_law_many", "_law_found", "_law_cell"] ["_law_row", "_law_many"] (defScope s__law_taken) := ⟨rfl, rfl, rfl, by decide +kernel, rfl, by decide +kernel, by decide +kernel⟩
abbrev s__law_net : Stmt := topS 56
abbrev N__law_net : List Str := ["_law_row", "_law_most", "_law_many", "_law_joins", "_law_point", "_law_other", "_law_turn", "_law_one"]
theorem S__law_net : FnScope N__law_net ["_law_row", "_law_most"] (defScope s__law_net) := ⟨rfl, rfl, rfl, by decide +kernel, rfl, by decide +kernel, by decide +kernel⟩
abbrev ty__law_net_0 : List Ty := [.rw, .fz, .fz, .ow, .fz, .fz, .fz, .fz]
def b__law_net : WS := (wseq (wpar2 2 3 (wcons (w2 dAdd (wcst (.int 1)) (wcall 1 wTaken (wcons (wvar 1) wnil))) (wcons wdictT0 wnil))) (wseq (wfor (wiRng2 (wcons (wcst (.int 1)) (wcons (wvar 2) wnil))) (wgn 4) (wifs (wtest (w2 dGtG (wcall 1 wTaken (wcons (wcst (.int 8)) wnil)) (wcst (.int 0)))) (wseq (wset 5 (wif (wtest (w2 dEq (wcall 1 wTaken (wcons (wcst (.int 2)) wnil)) (wcst (.int 0)))) (w2 dSub (wvar 4) (wcst (.int 1))) (wcall 1 wTaken (wcons (wvar 4) wnil)))) (wdput 3 (wtup (wcons (wvar 5) (wcons (wvar 4) wnil))) (wcst (.bool true)))) wskip)) (wseq (wfor (wiRng1 (wcons (wif (wtest (w2 dGtG (wvar 2) (wcst (.int 2)))) (wcall 1 wTaken (wcons (wvar 2) wnil)) (wcst (.int 0))) wnil)) (wgn 6) (wseq (wpar2 7 5 (wcons (wcall 1 wTaken (wcons (wvar 2) wnil)) (wcons (wcall 1 wTaken (wcons (wvar 2) wnil)) wnil))) (wifs (wtest (w2 dNe (wvar 7) (wvar 5))) (wdput 3 (wtup (wcons (wn dMinG (wcons (wvar 7) (wcons (wvar 5) wnil))) (wcons (wn dMaxG (wcons (wvar 7) (wcons (wvar 5) wnil))) wnil))) (wcst (.bool true))) wskip))) (wret (wtup (wcons (wvar 2) (wcons (wn dTuple (wcons (wn dSortG (wcons (wvar 3) wnil)) wnil)) wnil)))))))
def w__law_net : WF := fun ds Q => b__law_net { nx := fun _ => Q .none, rt := Q } (some .none :: (ds.map some ++ List.replicate (N__law_net.length - 2) none))
abbrev s__law_pick : Stmt := topS 57
abbrev N__law_pick : List Str := ["_law_row", "_law_things"]
theorem S__law_pick : FnScope N__law_pick ["_law_row", "_law_things"] (defScope s__law_pick) := ⟨rfl, rfl, rfl, by decide +kernel, rfl, by decide +kernel, by decide +kernel⟩
def b__law_pick : WS := (wret (w2 dIx (wvar 1) (wcall 1 wTaken (wcons (wn dLen (wcons (wvar 1) wnil)) wnil))))
def w__law_pick : WF := fun ds Q => b__law_pick { nx := fun _ => Q .none, rt := Q } (some .none :: (ds.map some ++ List.replicate (N__law_pick.length - 2) none))
abbrev s__law_heights : Stmt := topS 58
abbrev N__law_heights : List Str := ["_law_row", "_law_many", "_law_top", "_law_lift", "_law_point"]
theorem S__law_heights : FnScope N__law_heights ["_law_row", "_law_many", "_law_top"] (defScope s__law_heights) := ⟨rfl, rfl, rfl, by decide +kernel, rfl, by decide +kernel, by decide +kernel⟩
abbrev ty__law_heights_0 : List Ty := [.rw, .fz, .fz, .fz, .fz]
def b__law_heights : WS := (wseq (wset 3 (wcall 1 w__law_pick (wcons (wlst (wcons (wcst (.int 0)) (wcons (wcst (.int 0)) (wcons (w2 dSub (wcst (.int 0)) (w2 dFdiv (wvar 2) (wcst (.int 2)))) wnil)))) wnil))) (wret (wn dTuple (wcons (wlc (wiRng1 (wcons (wvar 1) wnil)) (wgn 4) wyes (w2 dAdd (wcall 1 wTaken (wcons (w2 dAdd (wvar 2) (wcst (.int 1))) wnil)) (wvar 3)) [4]) wnil))))
def w__law_heights : WF := fun ds Q => b__law_heights { nx := fun _ => Q .none, rt := Q } (some .none :: (ds.map some ++ List.replicate (N__law_heights.length - 3) none))
abbrev s_tuple_of : Stmt := topS 13
abbrev N_tuple_of : List Str := ["value", "low", "high"]
theorem S_tuple_of : FnScope N_tuple_of ["value", "low", "high"] (defScope s_tuple_of) := ⟨rfl, rfl, rfl, by decide +kernel, rfl, by decide +kernel, by decide +kernel⟩
def b_tuple_of : WS := (wret (wandV (w1 (dIsi "tuple") (wvar 0)) (wchain dLeG dLeG (wvar 1) (wn dLen (wcons (wvar 0) wnil)) (wvar 2))))
def w_tuple_of : WF := fun ds Q => b_tuple_of { nx := fun _ => Q .none, rt := Q } (ds.map some ++ List.replicate (N_tuple_of.length - 3) none)
abbrev s_whole : Stmt := topS 10
abbrev N_whole : List Str := ["value"]
theorem S_whole : FnScope N_whole ["value"] (defScope s_whole) := ⟨rfl, rfl, rfl, by decide +kernel, rfl, by decide +kernel, by decide +kernel⟩
def b_whole : WS := (wret (wandV (w1 (dIsi "int") (wvar 0)) (wnotV (w1 (dIsi "bool") (wvar 0)))))
def w_whole : WF := fun ds Q => b_whole { nx := fun _ => Q .none, rt := Q } (ds.map some ++ List.replicate (N_whole.length - 1) none)
abbrev s_within : Stmt := topS 11
abbrev N_within : List Str := ["value", "low", "high"]
theorem S_within : FnScope N_within ["value", "low", "high"] (defScope s_within) := ⟨rfl, rfl, rfl, by decide +kernel, rfl, by decide +kernel, by decide +kernel⟩
def b_within : WS := (wret (wandV (wcall 1 w_whole (wcons (wvar 0) wnil)) (wchain dLeG dLeG (wvar 1) (wvar 0) (wvar 2))))
def w_within : WF := fun ds Q => b_within { nx := fun _ => Q .none, rt := Q } (ds.map some ++ List.replicate (N_within.length - 3) none)
abbrev s_need_net : Stmt := topS 14
abbrev N_need_net : List Str := ["net", "index", "pair", "point"]
theorem S_need_net : FnScope N_need_net ["net"] (defScope s_need_net) := ⟨rfl, rfl, rfl, by decide +kernel, rfl, by decide +kernel, by decide +kernel⟩
abbrev ty_need_net_0 : List Ty := [.fz, .fz, .fz, .fz]
def b_need_net : WS := (wseq (wifs (wor (wnot (wtest (wcall 3 w_tuple_of (wcons (wvar 0) (wcons (wcst (.int 2)) (wcons (wcst (.int 2)) wnil)))))) (wor (wnot (wtest (wcall 3 w_within (wcons (w2 dIx (wvar 0) (wcst (.int 0))) (wcons (wcst (.int 1)) (wcons (wcst (.int 12)) wnil)))))) (wnot (wtest (wcall 3 w_tuple_of (wcons (w2 dIx (wvar 0) (wcst (.int 1))) (wcons (wcst (.int 0)) (wcons (wcst (.int 66)) wnil)))))))) wnever wskip) (wfor (wiEnum (wcons (w2 dIx (wvar 0) (wcst (.int 1))) wnil)) (wgt 2 (wgcons (wgn 1) (wgcons (wgn 2) wgnil))) (wseq (wifs (wor (wnot (wtest (wcall 3 w_tuple_of (wcons (wvar 2) (wcons (wcst (.int 2)) (wcons (wcst (.int 2)) wnil)))))) (wnot (wtest (wn dAll (wcons (wlc (wiSeq (wvar 2)) (wgn 3) wyes (wcall 3 w_within (wcons (wvar 3) (wcons (wcst (.int 0)) (wcons (w2 dSub (w2 dIx (wvar 0) (wcst (.int 0))) (wcst (.int 1))) wnil)))) [3]) wnil))))) wnever wskip) (wifs (wor (wtest (w2 dGeG (w2 dIx (wvar 2) (wcst (.int 0))) (w2 dIx (wvar 2) (wcst (.int 1))))) (wand (wtest (w2 dGtG (wvar 1) (wcst (.int 0)))) (wtest (w2 dLeG (wvar 2) (w2 dIx (w2 dIx (wvar 0) (wcst (.int 1))) (w2 dSub (wvar 1) (wcst (.int 1)))))))) wnever wskip))))
def w_need_net : WF := fun ds Q => b_need_net { nx := fun _ => Q .none, rt := Q } (ds.map some ++ List.replicate (N_need_net.length - 1) none)
abbrev s_need_row : Stmt := topS 15
abbrev N_need_row : List Str := ["net", "row", "index", "height"]
theorem S_need_row : FnScope N_need_row ["net", "row"] (defScope s_need_row) := ⟨rfl, rfl, rfl, by decide +kernel, rfl, by decide +kernel, by decide +kernel⟩
abbrev ty_need_row_0 : List Ty := [.fz, .fz, .fz, .fz]
def b_need_row : WS := (wseq (wifs (wnot (wtest (wcall 3 w_tuple_of (wcons (wvar 1) (wcons (w2 dIx (wvar 0) (wcst (.int 0))) (wcons (w2 dIx (wvar 0) (wcst (.int 0))) wnil)))))) wnever wskip) (wfor (wiEnum (wcons (wvar 1) wnil)) (wgt 2 (wgcons (wgn 2) (wgcons (wgn 3) wgnil))) (wifs (wnot (wtest (wcall 3 w_within (wcons (wvar 3) (wcons (w1 dNeg (wcst (.int 99))) (wcons (wcst (.int 99)) wnil)))))) wnever wskip)))
def w_need_row : WF := fun ds Q => b_need_row { nx := fun _ => Q .none, rt := Q } (ds.map some ++ List.replicate (N_need_row.length - 2) none)
abbrev s_need_both : Stmt := topS 16
abbrev N_need_both : List Str := ["net", "row"]
theorem S_need_both : FnScope N_need_both ["net", "row"] (defScope s_need_both) := ⟨rfl, rfl, rfl, by decide +kernel, rfl, by decide +kernel, by decide +kernel⟩
abbrev ty_need_both_0 : List Ty := [.fz, .fz]
def b_need_both : WS := (wseq (wexpr (wcall 1 w_need_net (wcons (wvar 0) wnil))) (wexpr (wcall 2 w_need_row (wcons (wvar 0) (wcons (wvar 1) wnil)))))
def w_need_both : WF := fun ds Q => b_need_both { nx := fun _ => Q .none, rt := Q } (ds.map some ++ List.replicate (N_need_both.length - 2) none)
abbrev s_need_number : Stmt := topS 12
abbrev N_need_number : List Str := ["value", "low", "high"]
theorem S_need_number : FnScope N_need_number ["value", "low", "high"] (defScope s_need_number) := ⟨rfl, rfl, rfl, by decide +kernel, rfl, by decide +kernel, by decide +kernel⟩
abbrev ty_need_number_0 : List Ty := [.fz, .fz, .fz]
def b_need_number : WS := (wifs (wnot (wtest (wcall 3 w_within (wcons (wvar 0) (wcons (wvar 1) (wcons (wvar 2) wnil)))))) wnever wskip)
def w_need_number : WF := fun ds Q => b_need_number { nx := fun _ => Q .none, rt := Q } (ds.map some ++ List.replicate (N_need_number.length - 3) none)
abbrev s_need_size : Stmt := topS 19
abbrev N_need_size : List Str := ["net", "size"]
theorem S_need_size : FnScope N_need_size ["net", "size"] (defScope s_need_size) := ⟨rfl, rfl, rfl, by decide +kernel, rfl, by decide +kernel, by decide +kernel⟩
abbrev ty_need_size_0 : List Ty := [.fz, .fz]
def b_need_size : WS := (wexpr (wcall 3 w_need_number (wcons (wvar 1) (wcons (wcst (.int 0)) (wcons (w2 dIx (wvar 0) (wcst (.int 0))) wnil)))))
def w_need_size : WF := fun ds Q => b_need_size { nx := fun _ => Q .none, rt := Q } (ds.map some ++ List.replicate (N_need_size.length - 2) none)
abbrev s_flat_with : Stmt := topS 43
abbrev N_flat_with : List Str := ["near", "row", "point", "found", "rim", "here", "other"]
theorem S_flat_with : FnScope N_flat_with ["near", "row", "point"] (defScope s_flat_with) := ⟨rfl, rfl, rfl, by decide +kernel, rfl, by decide +kernel, by decide +kernel⟩
abbrev ty_flat_with_0 : List Ty := [.fz, .fz, .fz, .ow, .ow, .fz, .fz]
abbrev ty_flat_with_1 : List Ty := [.fz, .fz, .fz, .fz, .ow, .fz, .fz]
def b_flat_with : WS := (wseq (wpar2 3 4 (wcons (wdisp1 (wvar 2) (wcst (.bool true))) (wcons (wlst (wcons (wvar 2) wnil)) wnil))) (wseq (wwhile (wtest (w2 dNe (wvar 4) (wlst wnil))) (wseq (wpop 5 4) (wfor (wiSeq (w2 dIx (wvar 0) (wvar 5))) (wgn 6) (wifs (wand (wtest (w2 dEq (w2 dIx (wvar 1) (wvar 6)) (w2 dIx (wvar 1) (wvar 5)))) (wtest (w2 dNotIn (wvar 6) (wvar 3)))) (wseq (wdput 3 (wvar 6) (wcst (.bool true))) (wappend 4 (wvar 6))) wskip)))) (wret (wvar 3))))
def w_flat_with : WF := fun ds Q => b_flat_with { nx := fun _ => Q .none, rt := Q } (ds.map some ++ List.replicate (N_flat_with.length - 3) none)
abbrev s_flats_of : Stmt := topS 42
abbrev N_flats_of : List Str := ["near", "row", "found", "done", "point", "told"]
theorem S_flats_of : FnScope N_flats_of ["near", "row"] (defScope s_flats_of) := ⟨rfl, rfl, rfl, by decide +kernel, rfl, by decide +kernel, by decide +kernel⟩
abbrev ty_flats_of_0 : List Ty := [.fz, .fz, .ow, .ow, .fz, .fz]
abbrev ty_flats_of_1 : List Ty := [.fz, .fz, .fz, .ow, .fz, .fz]
def b_flats_of : WS := (wseq (wpar2 2 3 (wcons (wlst wnil) (wcons wdict0 wnil))) (wseq (wfor (wiRng1 (wcons (wn dLen (wcons (wvar 1) wnil)) wnil)) (wgn 4) (wifs (wtest (w2 dNotIn (wvar 4) (wvar 3))) (wseq (wset 5 (wcall 3 w_flat_with (wcons (wvar 0) (wcons (wvar 1) (wcons (wvar 4) wnil))))) (wseq (wappend 2 (wn dTuple (wcons (wn dSortG (wcons (wvar 5) wnil)) wnil))) (wupd 3 (wvar 5)))) wskip)) (wret (wvar 2))))
def w_flats_of : WF := fun ds Q => b_flats_of { nx := fun _ => Q .none, rt := Q } (ds.map some ++ List.replicate (N_flats_of.length - 2) none)
abbrev s_rim_of : Stmt := topS 25
abbrev N_rim_of : List Str := ["near", "points", "found", "here", "point"]
theorem S_rim_of : FnScope N_rim_of ["near", "points"] (defScope s_rim_of) := ⟨rfl, rfl, rfl, by decide +kernel, rfl, by decide +kernel, by decide +kernel⟩
abbrev ty_rim_of_0 : List Ty := [.fz, .fz, .ow, .fz, .fz]
def b_rim_of : WS := (wseq (wset 2 wdict0) (wseq (wfor (wiSeq (wvar 1)) (wgn 3) (wfor (wiSeq (w2 dIx (wvar 0) (wvar 3))) (wgn 4) (wifs (wtest (w2 dNotIn (wvar 4) (wvar 1))) (wdput 2 (wvar 4) (wcst (.bool true))) wskip))) (wret (wn dSortG (wcons (wvar 2) wnil)))))
def w_rim_of : WF := fun ds Q => b_rim_of { nx := fun _ => Q .none, rt := Q } (ds.map some ++ List.replicate (N_rim_of.length - 2) none)
abbrev s_is_bump : Stmt := topS 44
abbrev N_is_bump : List Str := ["near", "row", "flat", "around", "point"]
theorem S_is_bump : FnScope N_is_bump ["near", "row", "flat"] (defScope s_is_bump) := ⟨rfl, rfl, rfl, by decide +kernel, rfl, by decide +kernel, by decide +kernel⟩
abbrev ty_is_bump_0 : List Ty := [.fz, .fz, .fz, .fz, .fz]
def b_is_bump : WS := (wseq (wset 3 (wcall 2 w_rim_of (wcons (wvar 0) (wcons (wvar 2) wnil)))) (wret (wandV (w2 dNe (wvar 3) (wlst wnil)) (w2 dLtG (wn dMaxG (wcons (wlc (wiSeq (wvar 3)) (wgn 4) wyes (w2 dIx (wvar 1) (wvar 4)) [4]) wnil)) (w2 dIx (wvar 1) (w2 dIx (wvar 2) (wcst (.int 0))))))))
def w_is_bump : WF := fun ds Q => b_is_bump { nx := fun _ => Q .none, rt := Q } (ds.map some ++ List.replicate (N_is_bump.length - 3) none)
abbrev s_bumps_of : Stmt := topS 45
abbrev N_bumps_of : List Str := ["near", "row", "size", "flat"]
theorem S_bumps_of : FnScope N_bumps_of ["near", "row", "size"] (defScope s_bumps_of) := ⟨rfl, rfl, rfl, by decide +kernel, rfl, by decide +kernel, by decide +kernel⟩
def b_bumps_of : WS := (wret (wlc (wiSeq (wcall 2 w_flats_of (wcons (wvar 0) (wcons (wvar 1) wnil)))) (wgn 3) (wand (wtest (w2 dLeG (wn dLen (wcons (wvar 3) wnil)) (wvar 2))) (wtest (wcall 3 w_is_bump (wcons (wvar 0) (wcons (wvar 1) (wcons (wvar 3) wnil)))))) (wvar 3) [3]))
def w_bumps_of : WF := fun ds Q => b_bumps_of { nx := fun _ => Q .none, rt := Q } (ds.map some ++ List.replicate (N_bumps_of.length - 3) none)
abbrev s_cut_of : Stmt := topS 47
abbrev N_cut_of : List Str := ["near", "row", "size", "some", "later", "flat", "height", "point"]
theorem S_cut_of : FnScope N_cut_of ["near", "row", "size"] (defScope s_cut_of) := ⟨rfl, rfl, rfl, by decide +kernel, rfl, by decide +kernel, by decide +kernel⟩
abbrev ty_cut_of_0 : List Ty := [.fz, .fz, .fz, .fz, .ow, .fz, .fz, .fz]
abbrev ty_cut_of_1 : List Ty := [.fz, .fz, .fz, .fz, .fz, .fz, .fz, .fz]
def b_cut_of : WS := (wwhile (wtest (wcst (.bool true))) (wseq (wset 3 (wcall 3 w_bumps_of (wcons (wvar 0) (wcons (wvar 1) (wcons (wvar 2) wnil))))) (wseq (wifs (wtest (w2 dEq (wvar 3) (wlst wnil))) (wret (wvar 1)) wskip) (wseq (wset 4 (w1 dSeqL (wvar 1))) (wseq (wfor (wiSeq (wvar 3)) (wgn 5) (wseq (wset 6 (wn dMaxG (wcons (wlc (wiSeq (wcall 2 w_rim_of (wcons (wvar 0) (wcons (wvar 5) wnil)))) (wgn 7) wyes (w2 dIx (wvar 1) (wvar 7)) [7]) wnil))) (wfor (wiSeq (wvar 5)) (wgn 7) (wseti 4 (wvar 7) (wvar 6))))) (wseq (wset 1 (wn dTuple (wcons (wvar 4) wnil))) wskip))))))
def w_cut_of : WF := fun ds Q => b_cut_of { nx := fun _ => Q .none, rt := Q } (ds.map some ++ List.replicate (N_cut_of.length - 3) none)
abbrev s_near_of : Stmt := topS 21
abbrev N_near_of : List Str := ["net", "found", "one", "other", "point", "points"]
theorem S_near_of : FnScope N_near_of ["net"] (defScope s_near_of) := ⟨rfl, rfl, rfl, by decide +kernel, rfl, by decide +kernel, by decide +kernel⟩
abbrev ty_near_of_0 : List Ty := [.fz, .oo, .fz, .fz, .fz, .fz]
abbrev ty_near_of_1 : List Ty := [.fz, .fz, .fz, .fz, .fz, .fz]
def b_near_of : WS := (wseq (wset 1 (wlc (wiRng1 (wcons (w2 dIx (wvar 0) (wcst (.int 0))) wnil)) (wgn 4) wyes (wlst wnil) [4])) (wseq (wfor (wiSeq (w2 dIx (wvar 0) (wcst (.int 1)))) (wgt 2 (wgcons (wgn 2) (wgcons (wgn 3) wgnil))) (wseq (wappend2 1 (wvar 2) (wvar 3)) (wappend2 1 (wvar 3) (wvar 2)))) (wret (wlc (wiSeq (wvar 1)) (wgn 5) wyes (wn dSortG (wcons (wvar 5) wnil)) [5]))))
def w_near_of : WF := fun ds Q => b_near_of { nx := fun _ => Q .none, rt := Q } (ds.map some ++ List.replicate (N_near_of.length - 1) none)
abbrev s_cut : Stmt := topS 50
abbrev N_cut : List Str := ["net", "row", "size"]
theorem S_cut : FnScope N_cut ["net", "row", "size"] (defScope s_cut) := ⟨rfl, rfl, rfl, by decide +kernel, rfl, by decide +kernel, by decide +kernel⟩
abbrev ty_cut_0 : List Ty := [.fz, .fz, .fz]
def b_cut : WS := (wseq (wexpr (wcall 2 w_need_both (wcons (wvar 0) (wcons (wvar 1) wnil)))) (wseq (wexpr (wcall 2 w_need_size (wcons (wvar 0) (wcons (wvar 2) wnil)))) (wret (wcall 3 w_cut_of (wcons (wcall 1 w_near_of (wcons (wvar 0) wnil)) (wcons (wvar 1) (wcons (wvar 2) wnil)))))))
def w_cut : WF := fun ds Q => b_cut { nx := fun _ => Q .none, rt := Q } (ds.map some ++ List.replicate (N_cut.length - 3) none)
abbrev s_turned : Stmt := topS 48
abbrev N_turned : List Str := ["row", "height"]
theorem S_turned : FnScope N_turned ["row"] (defScope s_turned) := ⟨rfl, rfl, rfl, by decide +kernel, rfl, by decide +kernel, by decide +kernel⟩
def b_turned : WS := (wret (wn dTuple (wcons (wlc (wiSeq (wvar 0)) (wgn 1) wyes (w1 dNeg (wvar 1)) [1]) wnil)))
def w_turned : WF := fun ds Q => b_turned { nx := fun _ => Q .none, rt := Q } (ds.map some ++ List.replicate (N_turned.length - 1) none)
abbrev s_fill_of : Stmt := topS 49
abbrev N_fill_of : List Str := ["near", "row", "size"]
theorem S_fill_of : FnScope N_fill_of ["near", "row", "size"] (defScope s_fill_of) := ⟨rfl, rfl, rfl, by decide +kernel, rfl, by decide +kernel, by decide +kernel⟩
def b_fill_of : WS := (wret (wcall 1 w_turned (wcons (wcall 3 w_cut_of (wcons (wvar 0) (wcons (wcall 1 w_turned (wcons (wvar 1) wnil)) (wcons (wvar 2) wnil)))) wnil)))
def w_fill_of : WF := fun ds Q => b_fill_of { nx := fun _ => Q .none, rt := Q } (ds.map some ++ List.replicate (N_fill_of.length - 3) none)
abbrev s_fill : Stmt := topS 51
abbrev N_fill : List Str := ["net", "row", "size"]
theorem S_fill : FnScope N_fill ["net", "row", "size"] (defScope s_fill) := ⟨rfl, rfl, rfl, by decide +kernel, rfl, by decide +kernel, by decide +kernel⟩
abbrev ty_fill_0 : List Ty := [.fz, .fz, .fz]
def b_fill : WS := (wseq (wexpr (wcall 2 w_need_both (wcons (wvar 0) (wcons (wvar 1) wnil)))) (wseq (wexpr (wcall 2 w_need_size (wcons (wvar 0) (wcons (wvar 2) wnil)))) (wret (wcall 3 w_fill_of (wcons (wcall 1 w_near_of (wcons (wvar 0) wnil)) (wcons (wvar 1) (wcons (wvar 2) wnil)))))))
def w_fill : WF := fun ds Q => b_fill { nx := fun _ => Q .none, rt := Q } (ds.map some ++ List.replicate (N_fill.length - 3) none)
abbrev s_shaved_rows : Stmt := topS 52
abbrev N_shaved_rows : List Str := ["near", "row", "size", "found", "step"]
theorem S_shaved_rows : FnScope N_shaved_rows ["near", "row", "size"] (defScope s_shaved_rows) := ⟨rfl, rfl, rfl, by decide +kernel, rfl, by decide +kernel, by decide +kernel⟩
abbrev ty_shaved_rows_0 : List Ty := [.fz, .fz, .fz, .fz, .fz]
abbrev ty_shaved_rows_1 : List Ty := [.fz, .fz, .fz, .ow, .fz]
def b_shaved_rows : WS := (wseq (wset 3 (wlst (wcons (wvar 1) wnil))) (wseq (wfor (wiRng2 (wcons (wcst (.int 1)) (wcons (w2 dAdd (wvar 2) (wcst (.int 1))) wnil))) (wgn 4) (wappend 3 (wcall 3 w_fill_of (wcons (wvar 0) (wcons (wcall 3 w_cut_of (wcons (wvar 0) (wcons (w2 dIx (wvar 3) (w1 dNeg (wcst (.int 1)))) (wcons (wvar 4) wnil)))) (wcons (wvar 4) wnil)))))) (wret (wvar 3))))
def w_shaved_rows : WF := fun ds Q => b_shaved_rows { nx := fun _ => Q .none, rt := Q } (ds.map some ++ List.replicate (N_shaved_rows.length - 3) none)
abbrev s_shave : Stmt := topS 53
abbrev N_shave : List Str := ["net", "row", "size"]
theorem S_shave : FnScope N_shave ["net", "row", "size"] (defScope s_shave) := ⟨rfl, rfl, rfl, by decide +kernel, rfl, by decide +kernel, by decide +kernel⟩
abbrev ty_shave_0 : List Ty := [.fz, .fz, .fz]
def b_shave : WS := (wseq (wexpr (wcall 2 w_need_both (wcons (wvar 0) (wcons (wvar 1) wnil)))) (wseq (wexpr (wcall 2 w_need_size (wcons (wvar 0) (wcons (wvar 2) wnil)))) (wret (w2 dIx (wcall 3 w_shaved_rows (wcons (wcall 1 w_near_of (wcons (wvar 0) wnil)) (wcons (wvar 1) (wcons (wvar 2) wnil)))) (w1 dNeg (wcst (.int 1)))))))
def w_shave : WF := fun ds Q => b_shave { nx := fun _ => Q .none, rt := Q } (ds.map some ++ List.replicate (N_shave.length - 3) none)
abbrev s_layer : Stmt := topS 36
abbrev N_layer : List Str := ["net", "row", "level", "point"]
theorem S_layer : FnScope N_layer ["net", "row", "level"] (defScope s_layer) := ⟨rfl, rfl, rfl, by decide +kernel, rfl, by decide +kernel, by decide +kernel⟩
abbrev ty_layer_0 : List Ty := [.fz, .fz, .fz, .fz]
def b_layer : WS := (wseq (wexpr (wcall 2 w_need_both (wcons (wvar 0) (wcons (wvar 1) wnil)))) (wseq (wexpr (wcall 3 w_need_number (wcons (wvar 2) (wcons (w1 dNeg (wcst (.int 99))) (wcons (wcst (.int 99)) wnil))))) (wret (wn dTuple (wcons (wlc (wiRng1 (wcons (w2 dIx (wvar 0) (wcst (.int 0))) wnil)) (wgn 3) (wtest (w2 dGeG (w2 dIx (wvar 1) (wvar 3)) (wvar 2))) (wvar 3) [3]) wnil)))))
def w_layer : WF := fun ds Q => b_layer { nx := fun _ => Q .none, rt := Q } (ds.map some ++ List.replicate (N_layer.length - 3) none)
abbrev s_is_points : Stmt := topS 17
abbrev N_is_points : List Str := ["net", "value", "point", "at"]
theorem S_is_points : FnScope N_is_points ["net", "value"] (defScope s_is_points) := ⟨rfl, rfl, rfl, by decide +kernel, rfl, by decide +kernel, by decide +kernel⟩
abbrev ty_is_points_0 : List Ty := [.fz, .fz, .fz, .fz]
def b_is_points : WS := (wseq (wifs (wor (wnot (wtest (wcall 3 w_tuple_of (wcons (wvar 1) (wcons (wcst (.int 0)) (wcons (w2 dIx (wvar 0) (wcst (.int 0))) wnil)))))) (wnot (wtest (wn dAll (wcons (wlc (wiSeq (wvar 1)) (wgn 2) wyes (wcall 3 w_within (wcons (wvar 2) (wcons (wcst (.int 0)) (wcons (w2 dSub (w2 dIx (wvar 0) (wcst (.int 0))) (wcst (.int 1))) wnil)))) [2]) wnil))))) (wret (wcst (.bool false))) wskip) (wret (wn dAll (wcons (wlc (wiRng1 (wcons (w2 dSub (wn dLen (wcons (wvar 1) wnil)) (wcst (.int 1))) wnil)) (wgn 3) wyes (w2 dLtG (w2 dIx (wvar 1) (wvar 3)) (w2 dIx (wvar 1) (w2 dAdd (wvar 3) (wcst (.int 1))))) [3]) wnil))))
def w_is_points : WF := fun ds Q => b_is_points { nx := fun _ => Q .none, rt := Q } (ds.map some ++ List.replicate (N_is_points.length - 2) none)
abbrev s_need_points : Stmt := topS 18
abbrev N_need_points : List Str := ["net", "points"]
theorem S_need_points : FnScope N_need_points ["net", "points"] (defScope s_need_points) := ⟨rfl, rfl, rfl, by decide +kernel, rfl, by decide +kernel, by decide +kernel⟩
abbrev ty_need_points_0 : List Ty := [.fz, .fz]
def b_need_points : WS := (wifs (wnot (wtest (wcall 2 w_is_points (wcons (wvar 0) (wcons (wvar 1) wnil))))) wnever wskip)
def w_need_points : WF := fun ds Q => b_need_points { nx := fun _ => Q .none, rt := Q } (ds.map some ++ List.replicate (N_need_points.length - 2) none)
abbrev s_reach : Stmt := topS 22
abbrev N_reach : List Str := ["near", "start", "kept", "found", "rim", "here", "point"]
theorem S_reach : FnScope N_reach ["near", "start", "kept"] (defScope s_reach) := ⟨rfl, rfl, rfl, by decide +kernel, rfl, by decide +kernel, by decide +kernel⟩
abbrev ty_reach_0 : List Ty := [.fz, .fz, .fz, .ow, .ow, .fz, .fz]
def b_reach : WS := (wseq (wpar2 3 4 (wcons (wdisp1 (wvar 1) (wcst (.bool true))) (wcons (wlst (wcons (wvar 1) wnil)) wnil))) (wseq (wwhile (wtest (w2 dNe (wvar 4) (wlst wnil))) (wseq (wpop 5 4) (wfor (wiSeq (w2 dIx (wvar 0) (wvar 5))) (wgn 6) (wifs (wand (wtest (w2 dIn (wvar 6) (wvar 2))) (wtest (w2 dNotIn (wvar 6) (wvar 3)))) (wseq (wdput 3 (wvar 6) (wcst (.bool true))) (wappend 4 (wvar 6))) wskip)))) (wret (wn dTuple (wcons (wn dSortG (wcons (wvar 3) wnil)) wnil)))))
def w_reach : WF := fun ds Q => b_reach { nx := fun _ => Q .none, rt := Q } (ds.map some ++ List.replicate (N_reach.length - 3) none)
abbrev s_parts_of : Stmt := topS 23
abbrev N_parts_of : List Str := ["near", "kept", "left", "found", "part", "point"]
theorem S_parts_of : FnScope N_parts_of ["near", "kept"] (defScope s_parts_of) := ⟨rfl, rfl, rfl, by decide +kernel, rfl, by decide +kernel, by decide +kernel⟩
abbrev ty_parts_of_0 : List Ty := [.fz, .fz, .fz, .ow, .fz, .fz]
abbrev ty_parts_of_1 : List Ty := [.fz, .fz, .fz, .fz, .fz, .fz]
def b_parts_of : WS := (wseq (wpar2 2 3 (wcons (wn dSortG (wcons (wvar 1) wnil)) (wcons (wlst wnil) wnil))) (wseq (wwhile (wtest (w2 dNe (wvar 2) (wlst wnil))) (wseq (wset 4 (wcall 3 w_reach (wcons (wvar 0) (wcons (w2 dIx (wvar 2) (wcst (.int 0))) (wcons (wvar 1) wnil))))) (wseq (wappend 3 (wvar 4)) (wset 2 (wlc (wiSeq (wvar 2)) (wgn 5) (wtest (w2 dNotIn (wvar 5) (wvar 4))) (wvar 5) [5]))))) (wret (wvar 3))))
def w_parts_of : WF := fun ds Q => b_parts_of { nx := fun _ => Q .none, rt := Q } (ds.map some ++ List.replicate (N_parts_of.length - 2) none)
abbrev s_circles_of : Stmt := topS 24
abbrev N_circles_of : List Str := ["net", "point"]
theorem S_circles_of : FnScope N_circles_of ["net"] (defScope s_circles_of) := ⟨rfl, rfl, rfl, by decide +kernel, rfl, by decide +kernel, by decide +kernel⟩
def b_circles_of : WS := (wret (wcall 2 w_parts_of (wcons (wcall 1 w_near_of (wcons (wvar 0) wnil)) (wcons (wdc (wiRng1 (wcons (w2 dIx (wvar 0) (wcst (.int 0))) wnil)) (wgn 1) wyes (wvar 1) (wcst (.bool true)) [1]) wnil))))
def w_circles_of : WF := fun ds Q => b_circles_of { nx := fun _ => Q .none, rt := Q } (ds.map some ++ List.replicate (N_circles_of.length - 1) none)
abbrev s_need_lot : Stmt := topS 29
abbrev N_need_lot : List Str := ["net", "points", "size"]
theorem S_need_lot : FnScope N_need_lot ["net", "points", "size"] (defScope s_need_lot) := ⟨rfl, rfl, rfl, by decide +kernel, rfl, by decide +kernel, by decide +kernel⟩
abbrev ty_need_lot_0 : List Ty := [.fz, .fz, .fz]
def b_need_lot : WS := (wseq (wexpr (wcall 1 w_need_net (wcons (wvar 0) wnil))) (wseq (wexpr (wcall 2 w_need_points (wcons (wvar 0) (wcons (wvar 1) wnil)))) (wseq (wexpr (wcall 2 w_need_size (wcons (wvar 0) (wcons (wvar 2) wnil)))) (wret (wtup (wcons (wcall 1 w_near_of (wcons (wvar 0) wnil)) (wcons (wcall 1 w_circles_of (wcons (wvar 0) wnil)) wnil)))))))
def w_need_lot : WF := fun ds Q => b_need_lot { nx := fun _ => Q .none, rt := Q } (ds.map some ++ List.replicate (N_need_lot.length - 3) none)
abbrev s_open_of : Stmt := topS 27
abbrev N_open_of : List Str := ["near", "whole", "points", "size", "found", "part", "point"]
theorem S_open_of : FnScope N_open_of ["near", "whole", "points", "size"] (defScope s_open_of) := ⟨rfl, rfl, rfl, by decide +kernel, rfl, by decide +kernel, by decide +kernel⟩
abbrev ty_open_of_0 : List Ty := [.fz, .fz, .fz, .fz, .fz, .fz, .fz]
def b_open_of : WS := (wseq (wset 4 (wlst wnil)) (wseq (wfor (wiSeq (wcall 2 w_parts_of (wcons (wvar 0) (wcons (wdc (wiSeq (wvar 2)) (wgn 6) wyes (wvar 6) (wcst (.bool true)) [6]) wnil)))) (wgn 5) (wifs (wor (wtest (w2 dGtG (wn dLen (wcons (wvar 5) wnil)) (wvar 3))) (wtest (w2 dIn (wvar 5) (wvar 1)))) (wset 4 (w2 dAdd (wvar 4) (wn dList (wcons (wvar 5) wnil)))) wskip)) (wret (wn dTuple (wcons (wn dSortG (wcons (wvar 4) wnil)) wnil)))))
def w_open_of : WF := fun ds Q => b_open_of { nx := fun _ => Q .none, rt := Q } (ds.map some ++ List.replicate (N_open_of.length - 4) none)
abbrev s_is_open_set : Stmt := topS 34
abbrev N_is_open_set : List Str := ["net", "points", "size", "near", "whole"]
theorem S_is_open_set : FnScope N_is_open_set ["net", "points", "size"] (defScope s_is_open_set) := ⟨rfl, rfl, rfl, by decide +kernel, rfl, by decide +kernel, by decide +kernel⟩
abbrev ty_is_open_set_0 : List Ty := [.fz, .fz, .fz, .fz, .fz]
def b_is_open_set : WS := (wseq (wunp (wcall 3 w_need_lot (wcons (wvar 0) (wcons (wvar 1) (wcons (wvar 2) wnil)))) (wgt 2 (wgcons (wgn 3) (wgcons (wgn 4) wgnil)))) (wret (w2 dEq (wcall 4 w_open_of (wcons (wvar 3) (wcons (wvar 4) (wcons (wvar 1) (wcons (wvar 2) wnil))))) (wvar 1))))
def w_is_open_set : WF := fun ds Q => b_is_open_set { nx := fun _ => Q .none, rt := Q } (ds.map some ++ List.replicate (N_is_open_set.length - 3) none)
abbrev s_open_set : Stmt := topS 30
abbrev N_open_set : List Str := ["net", "points", "size", "near", "whole"]
theorem S_open_set : FnScope N_open_set ["net", "points", "size"] (defScope s_open_set) := ⟨rfl, rfl, rfl, by decide +kernel, rfl, by decide +kernel, by decide +kernel⟩
abbrev ty_open_set_0 : List Ty := [.fz, .fz, .fz, .fz, .fz]
def b_open_set : WS := (wseq (wunp (wcall 3 w_need_lot (wcons (wvar 0) (wcons (wvar 1) (wcons (wvar 2) wnil)))) (wgt 2 (wgcons (wgn 3) (wgcons (wgn 4) wgnil)))) (wret (wcall 4 w_open_of (wcons (wvar 3) (wcons (wvar 4) (wcons (wvar 1) (wcons (wvar 2) wnil)))))))
def w_open_set : WF := fun ds Q => b_open_set { nx := fun _ => Q .none, rt := Q } (ds.map some ++ List.replicate (N_open_set.length - 3) none)
abbrev s_rest_of : Stmt := topS 28
abbrev N_rest_of : List Str := ["many", "points", "point"]
theorem S_rest_of : FnScope N_rest_of ["many", "points"] (defScope s_rest_of) := ⟨rfl, rfl, rfl, by decide +kernel, rfl, by decide +kernel, by decide +kernel⟩
def b_rest_of : WS := (wret (wn dTuple (wcons (wlc (wiRng1 (wcons (wvar 0) wnil)) (wgn 2) (wtest (w2 dNotIn (wvar 2) (wvar 1))) (wvar 2) [2]) wnil)))
def w_rest_of : WF := fun ds Q => b_rest_of { nx := fun _ => Q .none, rt := Q } (ds.map some ++ List.replicate (N_rest_of.length - 2) none)
abbrev s_close_of : Stmt := topS 31
abbrev N_close_of : List Str := ["near", "whole", "points", "size", "rest"]
theorem S_close_of : FnScope N_close_of ["near", "whole", "points", "size"] (defScope s_close_of) := ⟨rfl, rfl, rfl, by decide +kernel, rfl, by decide +kernel, by decide +kernel⟩
abbrev ty_close_of_0 : List Ty := [.fz, .fz, .fz, .fz, .fz]
def b_close_of : WS := (wseq (wset 4 (wcall 4 w_open_of (wcons (wvar 0) (wcons (wvar 1) (wcons (wcall 2 w_rest_of (wcons (wn dLen (wcons (wvar 0) wnil)) (wcons (wvar 2) wnil))) (wcons (wvar 3) wnil)))))) (wret (wcall 2 w_rest_of (wcons (wn dLen (wcons (wvar 0) wnil)) (wcons (wvar 4) wnil)))))
def w_close_of : WF := fun ds Q => b_close_of { nx := fun _ => Q .none, rt := Q } (ds.map some ++ List.replicate (N_close_of.length - 4) none)
abbrev s_close_set : Stmt := topS 32
abbrev N_close_set : List Str := ["net", "points", "size", "near", "whole"]
theorem S_close_set : FnScope N_close_set ["net", "points", "size"] (defScope s_close_set) := ⟨rfl, rfl, rfl, by decide +kernel, rfl, by decide +kernel, by decide +kernel⟩
abbrev ty_close_set_0 : List Ty := [.fz, .fz, .fz, .fz, .fz]
def b_close_set : WS := (wseq (wunp (wcall 3 w_need_lot (wcons (wvar 0) (wcons (wvar 1) (wcons (wvar 2) wnil)))) (wgt 2 (wgcons (wgn 3) (wgcons (wgn 4) wgnil)))) (wret (wcall 4 w_close_of (wcons (wvar 3) (wcons (wvar 4) (wcons (wvar 1) (wcons (wvar 2) wnil)))))))
def w_close_set : WF := fun ds Q => b_close_set { nx := fun _ => Q .none, rt := Q } (ds.map some ++ List.replicate (N_close_set.length - 3) none)
abbrev s_shave_set : Stmt := topS 33
abbrev N_shave_set : List Str := ["net", "points", "size", "near", "whole", "step"]
theorem S_shave_set : FnScope N_shave_set ["net", "points", "size"] (defScope s_shave_set) := ⟨rfl, rfl, rfl, by decide +kernel, rfl, by decide +kernel, by decide +kernel⟩
abbrev ty_shave_set_0 : List Ty := [.fz, .fz, .fz, .fz, .fz, .fz]
def b_shave_set : WS := (wseq (wunp (wcall 3 w_need_lot (wcons (wvar 0) (wcons (wvar 1) (wcons (wvar 2) wnil)))) (wgt 2 (wgcons (wgn 3) (wgcons (wgn 4) wgnil)))) (wseq (wfor (wiRng2 (wcons (wcst (.int 1)) (wcons (w2 dAdd (wvar 2) (wcst (.int 1))) wnil))) (wgn 5) (wset 1 (wcall 4 w_close_of (wcons (wvar 3) (wcons (wvar 4) (wcons (wcall 4 w_open_of (wcons (wvar 3) (wcons (wvar 4) (wcons (wvar 1) (wcons (wvar 5) wnil))))) (wcons (wvar 5) wnil))))))) (wret (wvar 1))))
def w_shave_set : WF := fun ds Q => b_shave_set { nx := fun _ => Q .none, rt := Q } (ds.map some ++ List.replicate (N_shave_set.length - 3) none)
abbrev s_is_layer : Stmt := topS 39
abbrev N_is_layer : List Str := ["net", "value"]
theorem S_is_layer : FnScope N_is_layer ["net", "value"] (defScope s_is_layer) := ⟨rfl, rfl, rfl, by decide +kernel, rfl, by decide +kernel, by decide +kernel⟩
abbrev ty_is_layer_0 : List Ty := [.fz, .fz]
def b_is_layer : WS := (wseq (wifs (wor (wnot (wtest (wcall 3 w_tuple_of (wcons (wvar 1) (wcons (wcst (.int 2)) (wcons (wcst (.int 2)) wnil)))))) (wnot (wtest (wcall 3 w_within (wcons (w2 dIx (wvar 1) (wcst (.int 0))) (wcons (w1 dNeg (wcst (.int 99))) (wcons (wcst (.int 99)) wnil))))))) (wret (wcst (.bool false))) wskip) (wret (wandV (wcall 2 w_is_points (wcons (wvar 0) (wcons (w2 dIx (wvar 1) (wcst (.int 1))) wnil))) (w2 dNe (w2 dIx (wvar 1) (wcst (.int 1))) (wtup wnil)))))
def w_is_layer : WF := fun ds Q => b_is_layer { nx := fun _ => Q .none, rt := Q } (ds.map some ++ List.replicate (N_is_layer.length - 2) none)
abbrev s_stacked : Stmt := topS 40
abbrev N_stacked : List Str := ["net", "value", "lesser", "greater", "found", "level", "points", "point", "told"]
theorem S_stacked : FnScope N_stacked ["net", "value"] (defScope s_stacked) := ⟨rfl, rfl, rfl, by decide +kernel, rfl, by decide +kernel, by decide +kernel⟩
abbrev ty_stacked_0 : List Ty := [.fz, .fz, .fz, .fz, .fz, .fz, .fz, .fz, .fz]
abbrev ty_stacked_1 : List Ty := [.fz, .fz, .fz, .fz, .ow, .fz, .fz, .fz, .fz]
def b_stacked : WS := (wseq (wexpr (wcall 1 w_need_net (wcons (wvar 0) wnil))) (wseq (wifs (wor (wnot (wtest (w1 (dIsi "list") (wvar 1)))) (wor (wtest (w2 dEq (wvar 1) (wlst wnil))) (wnot (wtest (wn dAll (wcons (wlc (wiSeq (wvar 1)) (wgn 8) wyes (wcall 2 w_is_layer (wcons (wvar 0) (wcons (wvar 8) wnil))) [8]) wnil)))))) wnever wskip) (wseq (wifs (wtest (w2 dNe (w2 dIx (w2 dIx (wvar 1) (wcst (.int 0))) (wcst (.int 1))) (wrngtuple (wrg1 (w2 dIx (wvar 0) (wcst (.int 0))))))) wnever wskip) (wseq (wfor (wiZip (wcons (wvar 1) (wcons (wslice (wvar 1) (wsm (wcst (.int 1))) wno) wnil))) (wgt 2 (wgcons (wgn 2) (wgcons (wgn 3) wgnil))) (wseq (wifs (wor (wtest (w2 dLeG (w2 dIx (wvar 3) (wcst (.int 0))) (w2 dIx (wvar 2) (wcst (.int 0))))) (wtest (w2 dGeG (wn dLen (wcons (w2 dIx (wvar 3) (wcst (.int 1))) wnil)) (wn dLen (wcons (w2 dIx (wvar 2) (wcst (.int 1))) wnil))))) wnever wskip) (wifs (wnot (wtest (wn dAll (wcons (wlc (wiSeq (w2 dIx (wvar 3) (wcst (.int 1)))) (wgn 7) wyes (w2 dIn (wvar 7) (w2 dIx (wvar 2) (wcst (.int 1)))) [7]) wnil)))) wnever wskip))) (wseq (wset 4 (w2 dRepL (wlst (wcons (wcst (.int 0)) wnil)) (w2 dIx (wvar 0) (wcst (.int 0))))) (wseq (wfor (wiSeq (wvar 1)) (wgt 2 (wgcons (wgn 5) (wgcons (wgn 6) wgnil))) (wfor (wiSeq (wvar 6)) (wgn 7) (wseti 4 (wvar 7) (wvar 5)))) (wret (wn dTuple (wcons (wvar 4) wnil)))))))))
def w_stacked : WF := fun ds Q => b_stacked { nx := fun _ => Q .none, rt := Q } (ds.map some ++ List.replicate (N_stacked.length - 2) none)
abbrev s_layers_of : Stmt := topS 38
abbrev N_layers_of : List Str := ["row", "found", "level", "height", "point"]
theorem S_layers_of : FnScope N_layers_of ["row"] (defScope s_layers_of) := ⟨rfl, rfl, rfl, by decide +kernel, rfl, by decide +kernel, by decide +kernel⟩
abbrev ty_layers_of_0 : List Ty := [.fz, .fz, .fz, .fz, .fz]
abbrev ty_layers_of_1 : List Ty := [.fz, .ow, .fz, .fz, .fz]
def b_layers_of : WS := (wseq (wset 1 (wlst wnil)) (wseq (wfor (wiSeq (wn dSortG (wcons (wdc (wiSeq (wvar 0)) (wgn 3) wyes (wvar 3) (wcst (.bool true)) [3]) wnil))) (wgn 2) (wappend 1 (wtup (wcons (wvar 2) (wcons (wn dTuple (wcons (wlc (wiRng1 (wcons (wn dLen (wcons (wvar 0) wnil)) wnil)) (wgn 4) (wtest (w2 dGeG (w2 dIx (wvar 0) (wvar 4)) (wvar 2))) (wvar 4) [4]) wnil)) wnil))))) (wret (wvar 1))))
def w_layers_of : WF := fun ds Q => b_layers_of { nx := fun _ => Q .none, rt := Q } (ds.map some ++ List.replicate (N_layers_of.length - 1) none)
abbrev s_layers : Stmt := topS 37
abbrev N_layers : List Str := ["net", "row"]
theorem S_layers : FnScope N_layers ["net", "row"] (defScope s_layers) := ⟨rfl, rfl, rfl, by decide +kernel, rfl, by decide +kernel, by decide +kernel⟩
abbrev ty_layers_0 : List Ty := [.fz, .fz]
def b_layers : WS := (wseq (wexpr (wcall 2 w_need_both (wcons (wvar 0) (wcons (wvar 1) wnil)))) (wret (wcall 1 w_layers_of (wcons (wvar 1) wnil))))
def w_layers : WF := fun ds Q => b_layers { nx := fun _ => Q .none, rt := Q } (ds.map some ++ List.replicate (N_layers.length - 2) none)
abbrev s_law : Stmt := topS 59
abbrev N_law : List Str := ["_law_script", "_law_row", "_law_net_here", "_law_many", "_law_heights_here", "_law_size", "_law_low", "_law_high", "_law_told", "_law_turn", "_law_level", "_law_lot", "_law_open_ones"]
theorem S_law : FnScope N_law ["_law_script"] (defScope s_law) := ⟨rfl, rfl, rfl, by decide +kernel, rfl, by decide +kernel, by decide +kernel⟩
abbrev ty_law_0 : List Ty := [.fz, .rw, .fz, .fz, .fz, .fz, .fz, .fz, .fz, .fz, .fz, .fz, .fz]
def b_law : WS := (wseq (wset 2 (wcall 1 w__law_net (wcons (wcst (.int 12)) wnil))) (wseq (wset 3 (w2 dIx (wvar 2) (wcst (.int 0)))) (wseq (wpar2 4 5 (wcons (wcall 2 w__law_heights (wcons (wvar 3) (wcons (wcall 1 w__law_pick (wcons (wlst (wcons (wcst (.int 3)) (wcons (wcst (.int 20)) wnil))) wnil)) wnil))) (wcons (wcall 1 wTaken (wcons (w2 dAdd (wvar 3) (wcst (.int 1))) wnil)) wnil))) (wseq (wpar3 6 7 8 (wcons (wcall 3 w_cut (wcons (wvar 2) (wcons (wvar 4) (wcons (wvar 5) wnil)))) (wcons (wcall 3 w_fill (wcons (wvar 2) (wcons (wvar 4) (wcons (wvar 5) wnil)))) (wcons (wcall 3 w_shave (wcons (wvar 2) (wcons (wvar 4) (wcons (wvar 5) wnil)))) wnil)))) (wseq (wfor (wiRng1 (wcons (wcst (.int 4)) wnil)) (wgn 9) (wseq (wset 10 (w2 dAdd (wcall 1 w__law_pick (wcons (wvar 4) wnil)) (wcall 1 wTaken (wcons (wcst (.int 2)) wnil)))) (wseq (wset 11 (wcall 3 w_layer (wcons (wvar 2) (wcons (wvar 4) (wcons (wvar 10) wnil))))) (wseq (wifs (wtest (w2 dNe (wcall 3 w_layer (wcons (wvar 2) (wcons (wvar 6) (wcons (wvar 10) wnil)))) (wcall 3 w_open_set (wcons (wvar 2) (wcons (wvar 11) (wcons (wvar 5) wnil)))))) (wret (wcst (.bool false))) wskip) (wseq (wifs (wtest (w2 dNe (wcall 3 w_layer (wcons (wvar 2) (wcons (wvar 7) (wcons (wvar 10) wnil)))) (wcall 3 w_close_set (wcons (wvar 2) (wcons (wvar 11) (wcons (wvar 5) wnil)))))) (wret (wcst (.bool false))) wskip) (wifs (wtest (w2 dNe (wcall 3 w_layer (wcons (wvar 2) (wcons (wvar 8) (wcons (wvar 10) wnil)))) (wcall 3 w_shave_set (wcons (wvar 2) (wcons (wvar 11) (wcons (wvar 5) wnil)))))) (wret (wcst (.bool false))) wskip)))))) (wseq (wifs (wor (wtest (w2 dNe (wcall 2 w_stacked (wcons (wvar 2) (wcons (wcall 2 w_layers (wcons (wvar 2) (wcons (wvar 6) wnil))) wnil))) (wvar 6))) (wtest (w2 dNe (w2 dIx (wcall 2 w_layers (wcons (wvar 2) (wcons (wvar 4) wnil))) (wcst (.int 0))) (wtup (wcons (wn dMinG (wcons (wvar 4) wnil)) (wcons (wrngtuple (wrg1 (wvar 3))) wnil)))))) (wret (wcst (.bool false))) wskip) (wseq (wset 12 (wlc (wiSeq (wcall 2 w_layers (wcons (wvar 2) (wcons (wvar 6) wnil)))) (wgt 2 (wgcons (wgn 10) (wgcons (wgn 11) wgnil))) wyes (wcall 3 w_is_open_set (wcons (wvar 2) (wcons (wvar 11) (wcons (wvar 5) wnil)))) [10, 11])) (wseq (wifs (wnot (wtest (w2 dNotIn (wcst (.bool false)) (wvar 12)))) (wret (wcst (.bool false))) wskip) (wret (w2 dEq (w2 dNotIn (wcst (.bool false)) (wlc (wiSeq (wcall 2 w_layers (wcons (wvar 2) (wcons (wvar 4) wnil)))) (wgt 2 (wgcons (wgn 10) (wgcons (wgn 11) wgnil))) wyes (wcall 3 w_is_open_set (wcons (wvar 2) (wcons (wvar 11) (wcons (wvar 5) wnil)))) [10, 11])) (w2 dEq (wvar 6) (wvar 4))))))))))))
end K54
namespace K54
open PySem PySem.Spec PyProof.Rows L2 VS
section
variable {P : Program} {w : World} {K : PySem.W.Frag} {mg : Str → Option Value} {base : Heap}
theorem d__law_taken {f : Addr} {fd : FuncData} (F : Fun K "_law_taken" "_law_taken" s__law_taken f fd) (hg : mg "_law_taken" = some (.ref f)) (hb : Binds K fd ["_law_row", "_law_many"] []) (b_int : mg "int" = none) (b_len : mg "len" = none) : FnG P w K mg base 1 "_law_taken" ["_law_row", "_law_many"] (spR K 1 wTaken) :=
  ⟨f, fd, F.ok S__law_taken (fun vs H Q E h => (by obtain ⟨r, vs', p, ds, P, rfl, _, _, _, r, hl, _⟩ := h; rw [List.length_cons, r.len, hl]; rfl)) (fun cdv A outer s H vs Q E hr h => ⟨t_taken K, (pss_cons (ps_if (pt_cmpR op_gt (pe_ix ix_list (pv 0) pe_int (fun _ _ => rfl)) pe_int (nomark _)) (pss_cons (ps_set (i := 2) S__law_taken.nd rfl (.inl rfl) (pe_op op_modN (pe_callTy call_int1 (by rfl) b_int boot_int (pa_cons (pe_ix ix_list (pv 0) pe_int (fun _ _ => rfl)) pa_nil)) (pv 1)))
  (pss_cons (ps_asg (pe_op op_fdivN (pe_ix ix_list (pv 0) pe_int (fun _ _ => rfl)) (pv 1)) (pg_sub (pv 0) pe_int set_list))
  (pss_one (ps_ret (pv 2))))) pss_nil)
  (pss_cons (ps_asg (pe_op op_add (pe_ix ix_list (pv 0) pe_int (fun _ _ => rfl)) pe_int) (pg_sub (pv 0) pe_int set_list))
  (pss_cons (ps_if (pt_cmpR op_gt (pe_ix ix_list (pv 0) pe_int (fun _ _ => rfl)) (pe_callB call_len_seq (by rfl) b_len boot_len (pa_cons (pe_ix ix_list (pv 0) pe_int (fun _ _ => rfl)) pa_nil)) (nomark _)) (pss_cons (ps_asg (pe_op op_modN (pe_callTy call_int1 (by rfl) b_int boot_int (pa_cons (pe_op op_add (pe_op op_mul (pe_ix ix_list (pv 0) pe_int (fun _ _ => rfl)) pe_int) pe_int) pa_nil)) pe_int) (pg_sub (pv 0) pe_int set_list))
  (pss_one (ps_ret (pe_op op_modN (pe_callTy call_int1 (by rfl) b_int boot_int (pa_cons (pe_op op_fdivN (pe_ix ix_list (pv 0) pe_int (fun _ _ => rfl)) pe_int) pa_nil)) (pv 1))))) pss_nil)
  (pss_cons (ps_set (i := 3) S__law_taken.nd rfl (.inl rfl) (pe_ix ix_list (pe_ix ix_list (pv 0) pe_int (fun _ _ => rfl)) (pe_op op_sub (pe_ix ix_list (pv 0) pe_int (fun _ _ => rfl)) pe_int) (fun _ _ => rfl)))
  (pss_cons (ps_asg (pe_op op_modN (pe_callTy call_int1 (by rfl) b_int boot_int (pa_cons (pe_op op_add (pe_op op_add (pe_op op_mul (pe_ix ix_list (pv 0) pe_int (fun _ _ => rfl)) pe_int) (pv 3)) pe_int) pa_nil)) pe_int) (pg_sub (pv 0) pe_int set_list))
  (pss_cons (ps_if (pt_cmpR op_ge (pv 3) (pe_op op_pow pe_int pe_int) (nomark _)) (pss_one (ps_asg (pe_op op_fdivN (pv 3) (pv 1)) (pg_sub (pv 0) pe_int set_list))) pss_nil)
  (pss_one (ps_ret (pe_op op_modN (pe_callTy call_int1 (by rfl) b_int boot_int (pa_cons (pv 3) pa_nil)) (pv 1)))))))))), pure_taken K vs H Q E h⟩), hg, F.kp, hb⟩
theorem d__law_net {f : Addr} {fd : FuncData} (F : Fun K "_law_net" "_law_net" s__law_net f fd) (hg : mg "_law_net" = some (.ref f)) (hb : Binds K fd ["_law_row", "_law_most"] []) (b_max : mg "max" = none) (b_min : mg "min" = none) (b_range : mg "range" = none) (b_sorted : mg "sorted" = none) (b_tuple : mg "tuple" = none) (G__law_taken : FnG P w K mg base 1 "_law_taken" ["_law_row", "_law_many"] (spR K 1 wTaken)) : FnG P w K mg base 2 "_law_net" ["_law_row", "_law_most"] (spR K 1 w__law_net) :=
  fn_goodR F S__law_net hg hb rfl (by decide) fun cdv A outer s H E hr => ⟨[],
  (vss_cons (τ1 := ty__law_net_0) (vs_par2 rfl S__law_net.nd rfl rfl (by decide) rfl rfl (vx_cons (i := 2) (ve_op o_add g_add (VE.vb ve_int) (VE.vb (ve_callR G__law_taken (hr.mono (by decide)) (by rfl) (pv 0) (vs_cons (ve_var (pv 1)) vs_nil)))) (vx_consF (i := 3) vf_dictT0 vx_nil)) (by kernel_rfl))
  (vss_cons (τ1 := ty__law_net_0) (vs_for (L := [4]) PassesOwn.never rfl (vi_rng2 (by rfl) b_range (va_cons (VE.vb ve_int) (va_cons (VE.vb (ve_var (pv 2))) va_nil))) (vg_name (i := 4) S__law_net.nd rfl (by first | exact .inl rfl | exact .inr rfl)) (vss_one (vs_if (vt_cmp (o_gtG (u64 hr)) g_gtG (VE.vb (ve_callR G__law_taken (hr.mono (by decide)) (by rfl) (pv 0) (vs_cons ve_int vs_nil))) (VE.vb ve_int) (nomark _)) (vss_cons (τ1 := ty__law_net_0) (vs_setP (ps_set (i := 5) S__law_net.nd rfl (.inl rfl) (ve_if (vt_cmp (op_eqD (u64 hr)) g_eq (VE.vb (ve_callR G__law_taken (hr.mono (by decide)) (by rfl) (pv 0) (vs_cons ve_int vs_nil))) (VE.vb ve_int) (nomark _)) (ve_op op_sub g_sub (VE.vb (ve_var (pv 4))) (VE.vb ve_int)) (ve_callR G__law_taken (hr.mono (by decide)) (by rfl) (pv 0) (vs_cons (ve_var (pv 4)) vs_nil)))))
  (vss_one (vs_dput (u1 hr) (pv 3) (ve_tup (vs_cons (ve_var (pv 5)) (vs_cons (ve_var (pv 4)) vs_nil))) ve_bl))) vss_nil)))
  (vss_cons (τ1 := ty__law_net_0) (vs_for (L := [6]) PassesOwn.never rfl (vi_rng1 (by rfl) b_range (va_cons (VE.vb (ve_if (vt_cmp (o_gtG (u64 hr)) g_gtG (VE.vb (ve_var (pv 2))) (VE.vb ve_int) (nomark _)) (ve_callR G__law_taken (hr.mono (by decide)) (by rfl) (pv 0) (vs_cons (ve_var (pv 2)) vs_nil)) ve_int)) va_nil)) (vg_name (i := 6) S__law_net.nd rfl (by first | exact .inl rfl | exact .inr rfl)) (vss_cons (τ1 := ty__law_net_0) (vs_par2 rfl S__law_net.nd rfl rfl (by decide) rfl rfl (vx_cons (i := 7) (ve_callR G__law_taken (hr.mono (by decide)) (by rfl) (pv 0) (vs_cons (ve_var (pv 2)) vs_nil)) (vx_cons (i := 5) (ve_callR G__law_taken (hr.mono (by decide)) (by rfl) (pv 0) (vs_cons (ve_var (pv 2)) vs_nil)) vx_nil)) (by kernel_rfl))
  (vss_one (vs_if (vt_cmp (op_neD (u64 hr)) g_ne (VE.vb (ve_var (pv 7))) (VE.vb (ve_var (pv 5))) (nomark _)) (vss_one (vs_dput (u1 hr) (pv 3) (ve_tup (vs_cons (ve_callB (c_minG (u65 hr) rfl) g_minG (by rfl) b_min boot_min (va_cons (VE.vb (ve_var (pv 7))) (va_cons (VE.vb (ve_var (pv 5))) va_nil))) (vs_cons (ve_callB (c_maxG (u65 hr) rfl) g_maxG (by rfl) b_max boot_max (va_cons (VE.vb (ve_var (pv 7))) (va_cons (VE.vb (ve_var (pv 5))) va_nil))) vs_nil))) ve_bl)) vss_nil))))
  (vss_one (vs_ret (ve_tup (vs_cons (ve_var (pv 2)) (vs_cons (ve_callTy call_tuple_of g_tuple (by rfl) b_tuple boot_tuple (va_cons (VE.vb (ve_callB (c_sortG (u64 hr) rfl) g_sortG (by rfl) b_sorted boot_sorted (va_cons (vb_own (pv 3)) va_nil))) va_nil)) vs_nil))))))))⟩
theorem d__law_pick {f : Addr} {fd : FuncData} (F : Fun K "_law_pick" "_law_pick" s__law_pick f fd) (hg : mg "_law_pick" = some (.ref f)) (hb : Binds K fd ["_law_row", "_law_things"] []) (b_len : mg "len" = none) (G__law_taken : FnG P w K mg base 1 "_law_taken" ["_law_row", "_law_many"] (spR K 1 wTaken)) : FnG P w K mg base 2 "_law_pick" ["_law_row", "_law_things"] (spR K 1 w__law_pick) :=
  fn_goodR F S__law_pick hg hb rfl (by decide) fun cdv A outer s H E hr => ⟨[],
  (vss_one (vs_ret (ve_ix (o_ix (u1 hr)) g_ix (VE.vb (ve_var (pv 1))) (VE.vb (ve_callR G__law_taken (hr.mono (by decide)) (by rfl) (pv 0) (vs_cons (ve_callB c_len g_len (by rfl) b_len boot_len (va_cons (VE.vb (ve_var (pv 1))) va_nil)) vs_nil))) (fun _ _ => rfl))))⟩
theorem d__law_heights {f : Addr} {fd : FuncData} (F : Fun K "_law_heights" "_law_heights" s__law_heights f fd) (hg : mg "_law_heights" = some (.ref f)) (hb : Binds K fd ["_law_row", "_law_many", "_law_top"] []) (b_range : mg "range" = none) (b_tuple : mg "tuple" = none) (G__law_pick : FnG P w K mg base 2 "_law_pick" ["_law_row", "_law_things"] (spR K 1 w__law_pick)) (G__law_taken : FnG P w K mg base 1 "_law_taken" ["_law_row", "_law_many"] (spR K 1 wTaken)) : FnG P w K mg base 3 "_law_heights" ["_law_row", "_law_many", "_law_top"] (spR K 2 w__law_heights) :=
  fn_goodR F S__law_heights hg hb rfl (by decide) fun cdv A outer s H E hr => ⟨[],
  (vss_cons (τ1 := ty__law_heights_0) (vs_setP (ps_set (i := 3) S__law_heights.nd rfl (.inr rfl) (ve_callR G__law_pick (hr.mono (by decide)) (by rfl) (pv 0) (vs_cons (ve_lst (vs_cons ve_int (vs_cons ve_int (vs_cons (ve_op op_sub g_sub (VE.vb ve_int) (VE.vb (ve_op op_fdivN g_fdiv (VE.vb (ve_var (pv 2))) (VE.vb ve_int)))) vs_nil)))) vs_nil))))
  (vss_one (vs_ret (ve_callTy call_tuple_of g_tuple (by rfl) b_tuple boot_tuple (va_cons (VE.vb (VF.ve (vf_lc rfl S__law_heights.nd (vi_rng1 (by rfl) b_range (va_cons (VE.vb (ve_var (pv 1))) va_nil)) (blkOk_by (own := [(PySem.Str.ofString "_law_point", 4)]) (by kernel_rfl)) (fun _ _ _ _ _ => (vg_name (i := 4) S__law_heights.nd rfl (by first | exact .inl rfl | exact .inr rfl))) (fun _ _ _ _ _ => vts_nil) (fun _ _ _ _ _ => (ve_op o_add g_add (VE.vb (ve_callR G__law_taken (hr.mono (by decide)) (by rfl) (pv 0) (vs_cons (ve_op o_add g_add (VE.vb (ve_var (pv 2))) (VE.vb ve_int)) vs_nil))) (VE.vb (ve_var (pv 3)))))))) va_nil)))))⟩
theorem d_tuple_of {f : Addr} {fd : FuncData} (F : Fun K "tuple_of" "tuple_of" s_tuple_of f fd) (hg : mg "tuple_of" = some (.ref f)) (hb : Binds K fd ["value", "low", "high"] []) (b_isinstance : mg "isinstance" = none) (b_len : mg "len" = none) (b_tuple : mg "tuple" = none) : FnG P w K mg base 1 "tuple_of" ["value", "low", "high"] (spF K 3 w_tuple_of) :=
  fn_good F S_tuple_of hg hb rfl (by decide) fun cdv A outer s H E hr => ⟨[],
  (vss_one (vs_ret (ve_and (ve_isi (by rfl) b_isinstance (by rfl) b_tuple boot_tuple isi_tuple (VE.vb (ve_var (pv 0)))) (ve_one (ve_chain (o_leG (u64 hr)) g_leG (o_leG (u64 hr)) g_leG (VE.vb (ve_var (pv 1))) (VE.vb (ve_callB c_len g_len (by rfl) b_len boot_len (va_cons (VE.vb (ve_var (pv 0))) va_nil))) (VE.vb (ve_var (pv 2))))))))⟩
theorem d_whole {f : Addr} {fd : FuncData} (F : Fun K "whole" "whole" s_whole f fd) (hg : mg "whole" = some (.ref f)) (hb : Binds K fd ["value"] []) (b_bool : mg "bool" = none) (b_int : mg "int" = none) (b_isinstance : mg "isinstance" = none) : FnG P w K mg base 1 "whole" ["value"] (spF K 1 w_whole) :=
  fn_good F S_whole hg hb rfl (by decide) fun cdv A outer s H E hr => ⟨[],
  (vss_one (vs_ret (ve_and (ve_isi (by rfl) b_isinstance (by rfl) b_int boot_int isi_int (VE.vb (ve_var (pv 0)))) (ve_one (ve_not (ve_isi (by rfl) b_isinstance (by rfl) b_bool boot_bool isi_bool (VE.vb (ve_var (pv 0)))))))))⟩
theorem d_within {f : Addr} {fd : FuncData} (F : Fun K "within" "within" s_within f fd) (hg : mg "within" = some (.ref f)) (hb : Binds K fd ["value", "low", "high"] []) (G_whole : FnG P w K mg base 1 "whole" ["value"] (spF K 1 w_whole)) : FnG P w K mg base 2 "within" ["value", "low", "high"] (spF K 3 w_within) :=
  fn_good F S_within hg hb rfl (by decide) fun cdv A outer s H E hr => ⟨[],
  (vss_one (vs_ret (ve_and (ve_call G_whole (hr.mono (by decide)) (by rfl) (vs_cons (ve_var (pv 0)) vs_nil)) (ve_one (ve_chain (o_leG (u64 hr)) g_leG (o_leG (u64 hr)) g_leG (VE.vb (ve_var (pv 1))) (VE.vb (ve_var (pv 0))) (VE.vb (ve_var (pv 2))))))))⟩
theorem d_need_net {f : Addr} {fd : FuncData} (F : Fun K "need_net" "need_net" s_need_net f fd) (hg : mg "need_net" = some (.ref f)) (hb : Binds K fd ["net"] []) (b_all : mg "all" = none) (b_enumerate : mg "enumerate" = none) (c_MOST_POINTS : ∃ t, mg "MOST_POINTS" = some (.int 12 t)) (G_tuple_of : FnG P w K mg base 1 "tuple_of" ["value", "low", "high"] (spF K 3 w_tuple_of)) (G_within : FnG P w K mg base 2 "within" ["value", "low", "high"] (spF K 3 w_within)) : FnG P w K mg base 3 "need_net" ["net"] (spF K 1 w_need_net) :=
  fn_good F S_need_net hg hb rfl (by decide) fun cdv A outer s H E hr => ⟨ty_need_net_0,
  (vss_cons (τ1 := ty_need_net_0) (vs_if (VW.vt (vw_or (vt_not (vt_val (ve_call G_tuple_of (hr.mono (by decide)) (by rfl) (vs_cons (ve_var (pv 0)) (vs_cons ve_int (vs_cons ve_int vs_nil)))))) (vw_or (vt_not (vt_val (ve_call G_within (hr.mono (by decide)) (by rfl) (vs_cons (ve_ix (o_ix (u1 hr)) g_ix (VE.vb (ve_var (pv 0))) (VE.vb ve_int) (fun _ _ => rfl)) (vs_cons ve_int (vs_cons (ve_globE (by rfl) c_MOST_POINTS) vs_nil)))))) (vw_or1 (vt_not (vt_val (ve_call G_tuple_of (hr.mono (by decide)) (by rfl) (vs_cons (ve_ix (o_ix (u1 hr)) g_ix (VE.vb (ve_var (pv 0))) (VE.vb ve_int) (fun _ _ => rfl)) (vs_cons ve_int (vs_cons ve_int vs_nil)))))))))) (vss_one vs_never) vss_nil)
  (vss_one (vs_for (L := [1, 2]) PassesOwn.never rfl (vi_enum (by rfl) b_enumerate (vs_cons (ve_ix (o_ix (u1 hr)) g_ix (VE.vb (ve_var (pv 0))) (VE.vb ve_int) (fun _ _ => rfl)) vs_nil)) (vg_tup rfl (vgs_cons (vg_name (i := 1) S_need_net.nd rfl (by first | exact .inl rfl | exact .inr rfl)) (vgs_cons (vg_name (i := 2) S_need_net.nd rfl (by first | exact .inl rfl | exact .inr rfl)) vgs_nil))) (vss_cons (τ1 := ty_need_net_0) (vs_if (VW.vt (vw_or (vt_not (vt_val (ve_call G_tuple_of (hr.mono (by decide)) (by rfl) (vs_cons (ve_var (pv 2)) (vs_cons ve_int (vs_cons ve_int vs_nil)))))) (vw_or1 (vt_not (vt_val (ve_callB (cr_all rfl) g_all (by rfl) b_all boot_all (va_cons (VE.vb (VF.ve (vf_lc rfl S_need_net.nd (vi_seq (ve_var (pv 2))) (blkOk_by (own := [(PySem.Str.ofString "point", 3)]) (by kernel_rfl)) (fun _ _ _ _ _ => (vg_name (i := 3) S_need_net.nd rfl (by first | exact .inl rfl | exact .inr rfl))) (fun _ _ _ _ _ => vts_nil) (fun _ _ _ _ _ => (ve_call G_within (hr.mono (by decide)) (by rfl) (vs_cons (ve_var (pv 3)) (vs_cons ve_int (vs_cons (ve_op op_sub g_sub (VE.vb (ve_ix (o_ix (u1 hr)) g_ix (VE.vb (ve_var (pv 0))) (VE.vb ve_int) (fun _ _ => rfl))) (VE.vb ve_int)) vs_nil)))))))) va_nil))))))) (vss_one vs_never) vss_nil)
  (vss_one (vs_if (VW.vt (vw_or (vt_cmp (o_geG (u64 hr)) g_geG (VE.vb (ve_ix (o_ix (u1 hr)) g_ix (VE.vb (ve_var (pv 2))) (VE.vb ve_int) (fun _ _ => rfl))) (VE.vb (ve_ix (o_ix (u1 hr)) g_ix (VE.vb (ve_var (pv 2))) (VE.vb ve_int) (fun _ _ => rfl))) (nomark _)) (vw_or1 (VW.vt (vw_and (vt_cmp (o_gtG (u64 hr)) g_gtG (VE.vb (ve_var (pv 1))) (VE.vb ve_int) (nomark _)) (vw_and1 (vt_cmp (o_leG (u64 hr)) g_leG (VE.vb (ve_var (pv 2))) (VE.vb (ve_ix (o_ix (u1 hr)) g_ix (VE.vb (ve_ix (o_ix (u1 hr)) g_ix (VE.vb (ve_var (pv 0))) (VE.vb ve_int) (fun _ _ => rfl))) (VE.vb (ve_op op_sub g_sub (VE.vb (ve_var (pv 1))) (VE.vb ve_int))) (fun _ _ => rfl))) (nomark _)))))))) (vss_one vs_never) vss_nil))))))⟩
theorem d_need_row {f : Addr} {fd : FuncData} (F : Fun K "need_row" "need_row" s_need_row f fd) (hg : mg "need_row" = some (.ref f)) (hb : Binds K fd ["net", "row"] []) (b_enumerate : mg "enumerate" = none) (c_MOST_HEIGHT : ∃ t, mg "MOST_HEIGHT" = some (.int 99 t)) (G_tuple_of : FnG P w K mg base 1 "tuple_of" ["value", "low", "high"] (spF K 3 w_tuple_of)) (G_within : FnG P w K mg base 2 "within" ["value", "low", "high"] (spF K 3 w_within)) : FnG P w K mg base 3 "need_row" ["net", "row"] (spF K 2 w_need_row) :=
  fn_good F S_need_row hg hb rfl (by decide) fun cdv A outer s H E hr => ⟨ty_need_row_0,
  (vss_cons (τ1 := ty_need_row_0) (vs_if (vt_not (vt_val (ve_call G_tuple_of (hr.mono (by decide)) (by rfl) (vs_cons (ve_var (pv 1)) (vs_cons (ve_ix (o_ix (u1 hr)) g_ix (VE.vb (ve_var (pv 0))) (VE.vb ve_int) (fun _ _ => rfl)) (vs_cons (ve_ix (o_ix (u1 hr)) g_ix (VE.vb (ve_var (pv 0))) (VE.vb ve_int) (fun _ _ => rfl)) vs_nil)))))) (vss_one vs_never) vss_nil)
  (vss_one (vs_for (L := [2, 3]) PassesOwn.never rfl (vi_enum (by rfl) b_enumerate (vs_cons (ve_var (pv 1)) vs_nil)) (vg_tup rfl (vgs_cons (vg_name (i := 2) S_need_row.nd rfl (by first | exact .inl rfl | exact .inr rfl)) (vgs_cons (vg_name (i := 3) S_need_row.nd rfl (by first | exact .inl rfl | exact .inr rfl)) vgs_nil))) (vss_one (vs_if (vt_not (vt_val (ve_call G_within (hr.mono (by decide)) (by rfl) (vs_cons (ve_var (pv 3)) (vs_cons (ve_un un_neg g_neg (VE.vb (ve_globE (by rfl) c_MOST_HEIGHT))) (vs_cons (ve_globE (by rfl) c_MOST_HEIGHT) vs_nil)))))) (vss_one vs_never) vss_nil)))))⟩
theorem d_need_both {f : Addr} {fd : FuncData} (F : Fun K "need_both" "need_both" s_need_both f fd) (hg : mg "need_both" = some (.ref f)) (hb : Binds K fd ["net", "row"] []) (G_need_net : FnG P w K mg base 3 "need_net" ["net"] (spF K 1 w_need_net)) (G_need_row : FnG P w K mg base 3 "need_row" ["net", "row"] (spF K 2 w_need_row)) : FnG P w K mg base 4 "need_both" ["net", "row"] (spF K 2 w_need_both) :=
  fn_good F S_need_both hg hb rfl (by decide) fun cdv A outer s H E hr => ⟨ty_need_both_0,
  (vss_cons (τ1 := ty_need_both_0) (vs_expr (ve_call G_need_net (hr.mono (by decide)) (by rfl) (vs_cons (ve_var (pv 0)) vs_nil)))
  (vss_one (vs_expr (ve_call G_need_row (hr.mono (by decide)) (by rfl) (vs_cons (ve_var (pv 0)) (vs_cons (ve_var (pv 1)) vs_nil))))))⟩
theorem d_need_number {f : Addr} {fd : FuncData} (F : Fun K "need_number" "need_number" s_need_number f fd) (hg : mg "need_number" = some (.ref f)) (hb : Binds K fd ["value", "low", "high"] []) (G_within : FnG P w K mg base 2 "within" ["value", "low", "high"] (spF K 3 w_within)) : FnG P w K mg base 3 "need_number" ["value", "low", "high"] (spF K 3 w_need_number) :=
  fn_good F S_need_number hg hb rfl (by decide) fun cdv A outer s H E hr => ⟨ty_need_number_0,
  (vss_one (vs_if (vt_not (vt_val (ve_call G_within (hr.mono (by decide)) (by rfl) (vs_cons (ve_var (pv 0)) (vs_cons (ve_var (pv 1)) (vs_cons (ve_var (pv 2)) vs_nil)))))) (vss_one vs_never) vss_nil))⟩
theorem d_need_size {f : Addr} {fd : FuncData} (F : Fun K "need_size" "need_size" s_need_size f fd) (hg : mg "need_size" = some (.ref f)) (hb : Binds K fd ["net", "size"] []) (G_need_number : FnG P w K mg base 3 "need_number" ["value", "low", "high"] (spF K 3 w_need_number)) : FnG P w K mg base 4 "need_size" ["net", "size"] (spF K 2 w_need_size) :=
  fn_good F S_need_size hg hb rfl (by decide) fun cdv A outer s H E hr => ⟨ty_need_size_0,
  (vss_one (vs_expr (ve_call G_need_number (hr.mono (by decide)) (by rfl) (vs_cons (ve_var (pv 1)) (vs_cons ve_int (vs_cons (ve_ix (o_ix (u1 hr)) g_ix (VE.vb (ve_var (pv 0))) (VE.vb ve_int) (fun _ _ => rfl)) vs_nil))))))⟩
theorem d_flat_with {f : Addr} {fd : FuncData} (F : Fun K "flat_with" "flat_with" s_flat_with f fd) (hg : mg "flat_with" = some (.ref f)) (hb : Binds K fd ["near", "row", "point"] [])  : FnG P w K mg base 1 "flat_with" ["near", "row", "point"] (spF K 3 w_flat_with) :=
  fn_good F S_flat_with hg hb rfl (by decide) fun cdv A outer s H E hr => ⟨[],
  (vss_cons (τ1 := ty_flat_with_0) (vs_par2 rfl S_flat_with.nd rfl rfl (by decide) rfl rfl (vx_consF (i := 3) (vf_disp1 (ve_var (pv 2)) ve_bl) (vx_consF (i := 4) (vf_lst (vs_cons (ve_var (pv 2)) vs_nil)) vx_nil)) (by kernel_rfl))
  (vss_cons (τ1 := ty_flat_with_0) (vs_while PassesOwn.never (vt_cmp (op_neD (u64 hr)) g_ne (vb_own (pv 4)) (VE.vb (ve_lst vs_nil)) (nomark _)) (vss_cons (τ1 := ty_flat_with_0) (vs_popP (j := 5) (ps_set (i := 5) S_flat_with.nd rfl (.inl rfl) (pe_pop (pv 4))))
  (vss_one (vs_for (L := [6]) PassesOwn.never rfl (vi_seq (ve_ix (o_ix (u1 hr)) g_ix (VE.vb (ve_var (pv 0))) (VE.vb (ve_var (pv 5))) (fun _ _ => rfl))) (vg_name (i := 6) S_flat_with.nd rfl (by first | exact .inl rfl | exact .inr rfl)) (vss_one (vs_if (VW.vt (vw_and (vt_cmp (op_eqD (u64 hr)) g_eq (VE.vb (ve_ix (o_ix (u1 hr)) g_ix (VE.vb (ve_var (pv 1))) (VE.vb (ve_var (pv 6))) (fun _ _ => rfl))) (VE.vb (ve_ix (o_ix (u1 hr)) g_ix (VE.vb (ve_var (pv 1))) (VE.vb (ve_var (pv 5))) (fun _ _ => rfl))) (nomark _)) (vw_and1 (vt_cmp (o_notIn (u65 hr)) g_notIn (VE.vb (ve_var (pv 6))) (vb_own (pv 3)) (by with_unfolding_all rfl))))) (vss_cons (τ1 := ty_flat_with_0) (vs_dput (u1 hr) (pv 3) (ve_var (pv 6)) ve_bl)
  (vss_one (vs_append (pv 4) (ve_var (pv 6))))) vss_nil))))))
  (vss_one (vs_weak (τ1 := ty_flat_with_1) (by decide +kernel) (vs_ret (ve_var (pv 3)))))))⟩
theorem d_flats_of {f : Addr} {fd : FuncData} (F : Fun K "flats_of" "flats_of" s_flats_of f fd) (hg : mg "flats_of" = some (.ref f)) (hb : Binds K fd ["near", "row"] []) (b_len : mg "len" = none) (b_range : mg "range" = none) (b_sorted : mg "sorted" = none) (b_tuple : mg "tuple" = none) (G_flat_with : FnG P w K mg base 1 "flat_with" ["near", "row", "point"] (spF K 3 w_flat_with)) : FnG P w K mg base 2 "flats_of" ["near", "row"] (spF K 2 w_flats_of) :=
  fn_good F S_flats_of hg hb rfl (by decide) fun cdv A outer s H E hr => ⟨[],
  (vss_cons (τ1 := ty_flats_of_0) (vs_par2 rfl S_flats_of.nd rfl rfl (by decide) rfl rfl (vx_consF (i := 2) (vf_lst vs_nil) (vx_consF (i := 3) vf_dict0 vx_nil)) (by kernel_rfl))
  (vss_cons (τ1 := ty_flats_of_0) (vs_for (L := [4]) PassesOwn.never rfl (vi_rng1 (by rfl) b_range (va_cons (VE.vb (ve_callB c_len g_len (by rfl) b_len boot_len (va_cons (VE.vb (ve_var (pv 1))) va_nil))) va_nil)) (vg_name (i := 4) S_flats_of.nd rfl (by first | exact .inl rfl | exact .inr rfl)) (vss_one (vs_if (vt_cmp (o_notIn (u65 hr)) g_notIn (VE.vb (ve_var (pv 4))) (vb_own (pv 3)) (by with_unfolding_all rfl)) (vss_cons (τ1 := ty_flats_of_0) (vs_setP (ps_set (i := 5) S_flats_of.nd rfl (.inl rfl) (ve_call G_flat_with (hr.mono (by decide)) (by rfl) (vs_cons (ve_var (pv 0)) (vs_cons (ve_var (pv 1)) (vs_cons (ve_var (pv 4)) vs_nil))))))
  (vss_cons (τ1 := ty_flats_of_0) (vs_append (pv 2) (ve_callTy call_tuple_of g_tuple (by rfl) b_tuple boot_tuple (va_cons (VE.vb (ve_callB (c_sortG (u64 hr) rfl) g_sortG (by rfl) b_sorted boot_sorted (va_cons (VE.vb (ve_var (pv 5))) va_nil))) va_nil)))
  (vss_one (vs_update (pv 3) (ve_var (pv 5)))))) vss_nil)))
  (vss_one (vs_weak (τ1 := ty_flats_of_1) (by decide +kernel) (vs_ret (ve_var (pv 2)))))))⟩
theorem d_rim_of {f : Addr} {fd : FuncData} (F : Fun K "rim_of" "rim_of" s_rim_of f fd) (hg : mg "rim_of" = some (.ref f)) (hb : Binds K fd ["near", "points"] []) (b_sorted : mg "sorted" = none) : FnG P w K mg base 1 "rim_of" ["near", "points"] (spF K 2 w_rim_of) :=
  fn_good F S_rim_of hg hb rfl (by decide) fun cdv A outer s H E hr => ⟨[],
  (vss_cons (τ1 := ty_rim_of_0) (vs_setOwnP (ps_set (i := 2) S_rim_of.nd rfl (.inl rfl) vf_dict0))
  (vss_cons (τ1 := ty_rim_of_0) (vs_for (L := [3]) PassesOwn.never rfl (vi_seq (ve_var (pv 1))) (vg_name (i := 3) S_rim_of.nd rfl (by first | exact .inl rfl | exact .inr rfl)) (vss_one (vs_for (L := [4]) PassesOwn.never rfl (vi_seq (ve_ix (o_ix (u1 hr)) g_ix (VE.vb (ve_var (pv 0))) (VE.vb (ve_var (pv 3))) (fun _ _ => rfl))) (vg_name (i := 4) S_rim_of.nd rfl (by first | exact .inl rfl | exact .inr rfl)) (vss_one (vs_if (vt_cmp (o_notIn (u65 hr)) g_notIn (VE.vb (ve_var (pv 4))) (VE.vb (ve_var (pv 1))) (by with_unfolding_all rfl)) (vss_one (vs_dput (u1 hr) (pv 2) (ve_var (pv 4)) ve_bl)) vss_nil)))))
  (vss_one (vs_ret (ve_callB (c_sortG (u64 hr) rfl) g_sortG (by rfl) b_sorted boot_sorted (va_cons (vb_own (pv 2)) va_nil))))))⟩
theorem d_is_bump {f : Addr} {fd : FuncData} (F : Fun K "is_bump" "is_bump" s_is_bump f fd) (hg : mg "is_bump" = some (.ref f)) (hb : Binds K fd ["near", "row", "flat"] []) (b_max : mg "max" = none) (G_rim_of : FnG P w K mg base 1 "rim_of" ["near", "points"] (spF K 2 w_rim_of)) : FnG P w K mg base 2 "is_bump" ["near", "row", "flat"] (spF K 3 w_is_bump) :=
  fn_good F S_is_bump hg hb rfl (by decide) fun cdv A outer s H E hr => ⟨[],
  (vss_cons (τ1 := ty_is_bump_0) (vs_setP (ps_set (i := 3) S_is_bump.nd rfl (.inl rfl) (ve_call G_rim_of (hr.mono (by decide)) (by rfl) (vs_cons (ve_var (pv 0)) (vs_cons (ve_var (pv 2)) vs_nil)))))
  (vss_one (vs_ret (ve_and (ve_cmp (op_neD (u64 hr)) g_ne (VE.vb (ve_var (pv 3))) (VE.vb (ve_lst vs_nil)) (nomark _)) (ve_one (ve_cmp (o_ltG (u64 hr)) g_ltG (VE.vb (ve_callB (c_maxG (u65 hr) rfl) g_maxG (by rfl) b_max boot_max (va_cons (VE.vb (VF.ve (vf_lc rfl S_is_bump.nd (vi_seq (ve_var (pv 3))) (blkOk_by (own := [(PySem.Str.ofString "point", 4)]) (by kernel_rfl)) (fun _ _ _ _ _ => (vg_name (i := 4) S_is_bump.nd rfl (by first | exact .inl rfl | exact .inr rfl))) (fun _ _ _ _ _ => vts_nil) (fun _ _ _ _ _ => (ve_ix (o_ix (u1 hr)) g_ix (VE.vb (ve_var (pv 1))) (VE.vb (ve_var (pv 4))) (fun _ _ => rfl)))))) va_nil))) (VE.vb (ve_ix (o_ix (u1 hr)) g_ix (VE.vb (ve_var (pv 1))) (VE.vb (ve_ix (o_ix (u1 hr)) g_ix (VE.vb (ve_var (pv 2))) (VE.vb ve_int) (fun _ _ => rfl))) (fun _ _ => rfl))) (nomark _)))))))⟩
theorem d_bumps_of {f : Addr} {fd : FuncData} (F : Fun K "bumps_of" "bumps_of" s_bumps_of f fd) (hg : mg "bumps_of" = some (.ref f)) (hb : Binds K fd ["near", "row", "size"] []) (b_len : mg "len" = none) (G_flats_of : FnG P w K mg base 2 "flats_of" ["near", "row"] (spF K 2 w_flats_of)) (G_is_bump : FnG P w K mg base 2 "is_bump" ["near", "row", "flat"] (spF K 3 w_is_bump)) : FnG P w K mg base 3 "bumps_of" ["near", "row", "size"] (spF K 3 w_bumps_of) :=
  fn_good F S_bumps_of hg hb rfl (by decide) fun cdv A outer s H E hr => ⟨[],
  (vss_one (vs_ret (VF.ve (vf_lc rfl S_bumps_of.nd (vi_seq (ve_call G_flats_of (hr.mono (by decide)) (by rfl) (vs_cons (ve_var (pv 0)) (vs_cons (ve_var (pv 1)) vs_nil)))) (blkOk_by (own := [(PySem.Str.ofString "flat", 3)]) (by kernel_rfl)) (fun _ _ _ _ _ => (vg_name (i := 3) S_bumps_of.nd rfl (by first | exact .inl rfl | exact .inr rfl))) (fun _ _ _ _ _ => (vts_one (VW.vt (vw_and (vt_cmp (o_leG (u64 hr)) g_leG (VE.vb (ve_callB c_len g_len (by rfl) b_len boot_len (va_cons (VE.vb (ve_var (pv 3))) va_nil))) (VE.vb (ve_var (pv 2))) (nomark _)) (vw_and1 (vt_val (ve_call G_is_bump (hr.mono (by decide)) (by rfl) (vs_cons (ve_var (pv 0)) (vs_cons (ve_var (pv 1)) (vs_cons (ve_var (pv 3)) vs_nil)))))))))) (fun _ _ _ _ _ => (ve_var (pv 3)))))))⟩
theorem d_cut_of {f : Addr} {fd : FuncData} (F : Fun K "cut_of" "cut_of" s_cut_of f fd) (hg : mg "cut_of" = some (.ref f)) (hb : Binds K fd ["near", "row", "size"] []) (b_list : mg "list" = none) (b_max : mg "max" = none) (b_tuple : mg "tuple" = none) (G_bumps_of : FnG P w K mg base 3 "bumps_of" ["near", "row", "size"] (spF K 3 w_bumps_of)) (G_rim_of : FnG P w K mg base 1 "rim_of" ["near", "points"] (spF K 2 w_rim_of)) : FnG P w K mg base 4 "cut_of" ["near", "row", "size"] (spF K 3 w_cut_of) :=
  fn_good F S_cut_of hg hb rfl (by decide) fun cdv A outer s H E hr => ⟨ty_cut_of_1,
  (vss_one (vs_while PassesOwn.never (vt_val ve_bl) (vss_cons (τ1 := ty_cut_of_1) (vs_setP (ps_set (i := 3) S_cut_of.nd rfl (.inl rfl) (ve_call G_bumps_of (hr.mono (by decide)) (by rfl) (vs_cons (ve_var (pv 0)) (vs_cons (ve_var (pv 1)) (vs_cons (ve_var (pv 2)) vs_nil))))))
  (vss_cons (τ1 := ty_cut_of_1) (vs_if (vt_cmp (op_eqD (u64 hr)) g_eq (VE.vb (ve_var (pv 3))) (VE.vb (ve_lst vs_nil)) (nomark _)) (vss_one (vs_ret (ve_var (pv 1)))) vss_nil)
  (vss_cons (τ1 := ty_cut_of_0) (vs_setOwnP (ps_set (i := 4) S_cut_of.nd rfl (.inl rfl) (vf_list (by rfl) b_list (VE.vb (ve_var (pv 1))))))
  (vss_cons (τ1 := ty_cut_of_0) (vs_for (L := [5]) PassesOwn.never rfl (vi_seq (ve_var (pv 3))) (vg_name (i := 5) S_cut_of.nd rfl (by first | exact .inl rfl | exact .inr rfl)) (vss_cons (τ1 := ty_cut_of_0) (vs_setP (ps_set (i := 6) S_cut_of.nd rfl (.inl rfl) (ve_callB (c_maxG (u65 hr) rfl) g_maxG (by rfl) b_max boot_max (va_cons (VE.vb (VF.ve (vf_lc rfl S_cut_of.nd (vi_seq (ve_call G_rim_of (hr.mono (by decide)) (by rfl) (vs_cons (ve_var (pv 0)) (vs_cons (ve_var (pv 5)) vs_nil)))) (blkOk_by (own := [(PySem.Str.ofString "point", 7)]) (by kernel_rfl)) (fun _ _ _ _ _ => (vg_name (i := 7) S_cut_of.nd rfl (by first | exact .inl rfl | exact .inr rfl))) (fun _ _ _ _ _ => vts_nil) (fun _ _ _ _ _ => (ve_ix (o_ix (u1 hr)) g_ix (VE.vb (ve_var (pv 1))) (VE.vb (ve_var (pv 7))) (fun _ _ => rfl)))))) va_nil))))
  (vss_one (vs_for (L := [7]) PassesOwn.never rfl (vi_seq (ve_var (pv 5))) (vg_name (i := 7) S_cut_of.nd rfl (by first | exact .inl rfl | exact .inr rfl)) (vss_one (vs_setiP (ps_asg (ve_var (pv 6)) (pg_sub (pv 4) (ve_var (pv 7)) set_list))))))))
  (vss_cons (τ1 := ty_cut_of_0) (vs_setP (ps_set (i := 1) S_cut_of.nd rfl (.inr rfl) (ve_callTy call_tuple_of g_tuple (by rfl) b_tuple boot_tuple (va_cons (vb_own (pv 4)) va_nil)))) (vss_end (by decide +kernel)))))))))⟩
theorem d_near_of {f : Addr} {fd : FuncData} (F : Fun K "near_of" "near_of" s_near_of f fd) (hg : mg "near_of" = some (.ref f)) (hb : Binds K fd ["net"] []) (b_range : mg "range" = none) (b_sorted : mg "sorted" = none) : FnG P w K mg base 1 "near_of" ["net"] (spF K 1 w_near_of) :=
  fn_good F S_near_of hg hb rfl (by decide) fun cdv A outer s H E hr => ⟨[],
  (vss_cons (τ1 := ty_near_of_0) (vs_setOOP (ps_setLcFF (i := 1) rfl S_near_of.nd rfl rfl (sw_true rfl rfl rfl (by decide +kernel)) (vi_rng1 (by rfl) b_range (va_cons (VE.vb (ve_ix (o_ix (u1 hr)) g_ix (VE.vb (ve_var (pv 0))) (VE.vb ve_int) (fun _ _ => rfl))) va_nil)) (blkOk_by (own := [(PySem.Str.ofString "point", 4)]) (by kernel_rfl)) (fun _ _ _ _ _ => (vg_name (i := 4) S_near_of.nd rfl (by first | exact .inl rfl | exact .inr rfl))) (fun _ _ _ _ _ => vts_nil) (fun _ _ _ _ _ => (vf_lst vs_nil))))
  (vss_cons (τ1 := ty_near_of_0) (vs_for (L := [2, 3]) PassesOwn.never rfl (vi_seq (ve_ix (o_ix (u1 hr)) g_ix (VE.vb (ve_var (pv 0))) (VE.vb ve_int) (fun _ _ => rfl))) (vg_tup rfl (vgs_cons (vg_name (i := 2) S_near_of.nd rfl (by first | exact .inl rfl | exact .inr rfl)) (vgs_cons (vg_name (i := 3) S_near_of.nd rfl (by first | exact .inl rfl | exact .inr rfl)) vgs_nil))) (vss_cons (τ1 := ty_near_of_0) (vs_append2 (pv 1) (VE.vb (ve_var (pv 2))) (fun _ _ => rfl) (ve_var (pv 3)))
  (vss_one (vs_append2 (pv 1) (VE.vb (ve_var (pv 3))) (fun _ _ => rfl) (ve_var (pv 2))))))
  (vss_one (vs_weak (τ1 := ty_near_of_1) (by decide +kernel) (vs_ret (VF.ve (vf_lc rfl S_near_of.nd (vi_seq (ve_var (pv 1))) (blkOk_by (own := [(PySem.Str.ofString "points", 5)]) (by kernel_rfl)) (fun _ _ _ _ _ => (vg_name (i := 5) S_near_of.nd rfl (by first | exact .inl rfl | exact .inr rfl))) (fun _ _ _ _ _ => vts_nil) (fun _ _ _ _ _ => (ve_callB (c_sortG (u64 hr) rfl) g_sortG (by rfl) b_sorted boot_sorted (va_cons (VE.vb (ve_var (pv 5))) va_nil))))))))))⟩
theorem d_cut {f : Addr} {fd : FuncData} (F : Fun K "cut" "cut" s_cut f fd) (hg : mg "cut" = some (.ref f)) (hb : Binds K fd ["net", "row", "size"] []) (G_cut_of : FnG P w K mg base 4 "cut_of" ["near", "row", "size"] (spF K 3 w_cut_of)) (G_near_of : FnG P w K mg base 1 "near_of" ["net"] (spF K 1 w_near_of)) (G_need_both : FnG P w K mg base 4 "need_both" ["net", "row"] (spF K 2 w_need_both)) (G_need_size : FnG P w K mg base 4 "need_size" ["net", "size"] (spF K 2 w_need_size)) : FnG P w K mg base 5 "cut" ["net", "row", "size"] (spF K 3 w_cut) :=
  fn_good F S_cut hg hb rfl (by decide) fun cdv A outer s H E hr => ⟨[],
  (vss_cons (τ1 := ty_cut_0) (vs_expr (ve_call G_need_both (hr.mono (by decide)) (by rfl) (vs_cons (ve_var (pv 0)) (vs_cons (ve_var (pv 1)) vs_nil))))
  (vss_cons (τ1 := ty_cut_0) (vs_expr (ve_call G_need_size (hr.mono (by decide)) (by rfl) (vs_cons (ve_var (pv 0)) (vs_cons (ve_var (pv 2)) vs_nil))))
  (vss_one (vs_ret (ve_call G_cut_of (hr.mono (by decide)) (by rfl) (vs_cons (ve_call G_near_of (hr.mono (by decide)) (by rfl) (vs_cons (ve_var (pv 0)) vs_nil)) (vs_cons (ve_var (pv 1)) (vs_cons (ve_var (pv 2)) vs_nil))))))))⟩
theorem d_turned {f : Addr} {fd : FuncData} (F : Fun K "turned" "turned" s_turned f fd) (hg : mg "turned" = some (.ref f)) (hb : Binds K fd ["row"] []) (b_tuple : mg "tuple" = none) : FnG P w K mg base 1 "turned" ["row"] (spF K 1 w_turned) :=
  fn_good F S_turned hg hb rfl (by decide) fun cdv A outer s H E hr => ⟨[],
  (vss_one (vs_ret (ve_callTy call_tuple_of g_tuple (by rfl) b_tuple boot_tuple (va_cons (VE.vb (VF.ve (vf_lc rfl S_turned.nd (vi_seq (ve_var (pv 0))) (blkOk_by (own := [(PySem.Str.ofString "height", 1)]) (by kernel_rfl)) (fun _ _ _ _ _ => (vg_name (i := 1) S_turned.nd rfl (by first | exact .inl rfl | exact .inr rfl))) (fun _ _ _ _ _ => vts_nil) (fun _ _ _ _ _ => (ve_un un_neg g_neg (VE.vb (ve_var (pv 1)))))))) va_nil))))⟩
theorem d_fill_of {f : Addr} {fd : FuncData} (F : Fun K "fill_of" "fill_of" s_fill_of f fd) (hg : mg "fill_of" = some (.ref f)) (hb : Binds K fd ["near", "row", "size"] []) (G_cut_of : FnG P w K mg base 4 "cut_of" ["near", "row", "size"] (spF K 3 w_cut_of)) (G_turned : FnG P w K mg base 1 "turned" ["row"] (spF K 1 w_turned)) : FnG P w K mg base 5 "fill_of" ["near", "row", "size"] (spF K 3 w_fill_of) :=
  fn_good F S_fill_of hg hb rfl (by decide) fun cdv A outer s H E hr => ⟨[],
  (vss_one (vs_ret (ve_call G_turned (hr.mono (by decide)) (by rfl) (vs_cons (ve_call G_cut_of (hr.mono (by decide)) (by rfl) (vs_cons (ve_var (pv 0)) (vs_cons (ve_call G_turned (hr.mono (by decide)) (by rfl) (vs_cons (ve_var (pv 1)) vs_nil)) (vs_cons (ve_var (pv 2)) vs_nil)))) vs_nil))))⟩
theorem d_fill {f : Addr} {fd : FuncData} (F : Fun K "fill" "fill" s_fill f fd) (hg : mg "fill" = some (.ref f)) (hb : Binds K fd ["net", "row", "size"] []) (G_fill_of : FnG P w K mg base 5 "fill_of" ["near", "row", "size"] (spF K 3 w_fill_of)) (G_near_of : FnG P w K mg base 1 "near_of" ["net"] (spF K 1 w_near_of)) (G_need_both : FnG P w K mg base 4 "need_both" ["net", "row"] (spF K 2 w_need_both)) (G_need_size : FnG P w K mg base 4 "need_size" ["net", "size"] (spF K 2 w_need_size)) : FnG P w K mg base 6 "fill" ["net", "row", "size"] (spF K 3 w_fill) :=
  fn_good F S_fill hg hb rfl (by decide) fun cdv A outer s H E hr => ⟨[],
  (vss_cons (τ1 := ty_fill_0) (vs_expr (ve_call G_need_both (hr.mono (by decide)) (by rfl) (vs_cons (ve_var (pv 0)) (vs_cons (ve_var (pv 1)) vs_nil))))
  (vss_cons (τ1 := ty_fill_0) (vs_expr (ve_call G_need_size (hr.mono (by decide)) (by rfl) (vs_cons (ve_var (pv 0)) (vs_cons (ve_var (pv 2)) vs_nil))))
  (vss_one (vs_ret (ve_call G_fill_of (hr.mono (by decide)) (by rfl) (vs_cons (ve_call G_near_of (hr.mono (by decide)) (by rfl) (vs_cons (ve_var (pv 0)) vs_nil)) (vs_cons (ve_var (pv 1)) (vs_cons (ve_var (pv 2)) vs_nil))))))))⟩
theorem d_shaved_rows {f : Addr} {fd : FuncData} (F : Fun K "shaved_rows" "shaved_rows" s_shaved_rows f fd) (hg : mg "shaved_rows" = some (.ref f)) (hb : Binds K fd ["near", "row", "size"] []) (b_range : mg "range" = none) (G_cut_of : FnG P w K mg base 4 "cut_of" ["near", "row", "size"] (spF K 3 w_cut_of)) (G_fill_of : FnG P w K mg base 5 "fill_of" ["near", "row", "size"] (spF K 3 w_fill_of)) : FnG P w K mg base 6 "shaved_rows" ["near", "row", "size"] (spF K 3 w_shaved_rows) :=
  fn_good F S_shaved_rows hg hb rfl (by decide) fun cdv A outer s H E hr => ⟨[],
  (vss_cons (τ1 := ty_shaved_rows_1) (vs_setOwnP (ps_set (i := 3) S_shaved_rows.nd rfl (.inl rfl) (vf_lst (vs_cons (ve_var (pv 1)) vs_nil))))
  (vss_cons (τ1 := ty_shaved_rows_1) (vs_for (L := [4]) PassesOwn.never rfl (vi_rng2 (by rfl) b_range (va_cons (VE.vb ve_int) (va_cons (VE.vb (ve_op o_add g_add (VE.vb (ve_var (pv 2))) (VE.vb ve_int))) va_nil))) (vg_name (i := 4) S_shaved_rows.nd rfl (by first | exact .inl rfl | exact .inr rfl)) (vss_one (vs_append (pv 3) (ve_call G_fill_of (hr.mono (by decide)) (by rfl) (vs_cons (ve_var (pv 0)) (vs_cons (ve_call G_cut_of (hr.mono (by decide)) (by rfl) (vs_cons (ve_var (pv 0)) (vs_cons (ve_ix (o_ix (u1 hr)) g_ix (vb_own (pv 3)) (VE.vb (ve_un un_neg g_neg (VE.vb ve_int))) (fun _ _ => rfl)) (vs_cons (ve_var (pv 4)) vs_nil)))) (vs_cons (ve_var (pv 4)) vs_nil)))))))
  (vss_one (vs_weak (τ1 := ty_shaved_rows_0) (by decide +kernel) (vs_ret (ve_var (pv 3)))))))⟩
theorem d_shave {f : Addr} {fd : FuncData} (F : Fun K "shave" "shave" s_shave f fd) (hg : mg "shave" = some (.ref f)) (hb : Binds K fd ["net", "row", "size"] []) (G_near_of : FnG P w K mg base 1 "near_of" ["net"] (spF K 1 w_near_of)) (G_need_both : FnG P w K mg base 4 "need_both" ["net", "row"] (spF K 2 w_need_both)) (G_need_size : FnG P w K mg base 4 "need_size" ["net", "size"] (spF K 2 w_need_size)) (G_shaved_rows : FnG P w K mg base 6 "shaved_rows" ["near", "row", "size"] (spF K 3 w_shaved_rows)) : FnG P w K mg base 7 "shave" ["net", "row", "size"] (spF K 3 w_shave) :=
  fn_good F S_shave hg hb rfl (by decide) fun cdv A outer s H E hr => ⟨[],
  (vss_cons (τ1 := ty_shave_0) (vs_expr (ve_call G_need_both (hr.mono (by decide)) (by rfl) (vs_cons (ve_var (pv 0)) (vs_cons (ve_var (pv 1)) vs_nil))))
  (vss_cons (τ1 := ty_shave_0) (vs_expr (ve_call G_need_size (hr.mono (by decide)) (by rfl) (vs_cons (ve_var (pv 0)) (vs_cons (ve_var (pv 2)) vs_nil))))
  (vss_one (vs_ret (ve_ix (o_ix (u1 hr)) g_ix (VE.vb (ve_call G_shaved_rows (hr.mono (by decide)) (by rfl) (vs_cons (ve_call G_near_of (hr.mono (by decide)) (by rfl) (vs_cons (ve_var (pv 0)) vs_nil)) (vs_cons (ve_var (pv 1)) (vs_cons (ve_var (pv 2)) vs_nil))))) (VE.vb (ve_un un_neg g_neg (VE.vb ve_int))) (fun _ _ => rfl))))))⟩
theorem d_layer {f : Addr} {fd : FuncData} (F : Fun K "layer" "layer" s_layer f fd) (hg : mg "layer" = some (.ref f)) (hb : Binds K fd ["net", "row", "level"] []) (b_range : mg "range" = none) (b_tuple : mg "tuple" = none) (c_MOST_HEIGHT : ∃ t, mg "MOST_HEIGHT" = some (.int 99 t)) (G_need_both : FnG P w K mg base 4 "need_both" ["net", "row"] (spF K 2 w_need_both)) (G_need_number : FnG P w K mg base 3 "need_number" ["value", "low", "high"] (spF K 3 w_need_number)) : FnG P w K mg base 5 "layer" ["net", "row", "level"] (spF K 3 w_layer) :=
  fn_good F S_layer hg hb rfl (by decide) fun cdv A outer s H E hr => ⟨[],
  (vss_cons (τ1 := ty_layer_0) (vs_expr (ve_call G_need_both (hr.mono (by decide)) (by rfl) (vs_cons (ve_var (pv 0)) (vs_cons (ve_var (pv 1)) vs_nil))))
  (vss_cons (τ1 := ty_layer_0) (vs_expr (ve_call G_need_number (hr.mono (by decide)) (by rfl) (vs_cons (ve_var (pv 2)) (vs_cons (ve_un un_neg g_neg (VE.vb (ve_globE (by rfl) c_MOST_HEIGHT))) (vs_cons (ve_globE (by rfl) c_MOST_HEIGHT) vs_nil)))))
  (vss_one (vs_ret (ve_callTy call_tuple_of g_tuple (by rfl) b_tuple boot_tuple (va_cons (VE.vb (VF.ve (vf_lc rfl S_layer.nd (vi_rng1 (by rfl) b_range (va_cons (VE.vb (ve_ix (o_ix (u1 hr)) g_ix (VE.vb (ve_var (pv 0))) (VE.vb ve_int) (fun _ _ => rfl))) va_nil)) (blkOk_by (own := [(PySem.Str.ofString "point", 3)]) (by kernel_rfl)) (fun _ _ _ _ _ => (vg_name (i := 3) S_layer.nd rfl (by first | exact .inl rfl | exact .inr rfl))) (fun _ _ _ _ _ => (vts_one (vt_cmp (o_geG (u64 hr)) g_geG (VE.vb (ve_ix (o_ix (u1 hr)) g_ix (VE.vb (ve_var (pv 1))) (VE.vb (ve_var (pv 3))) (fun _ _ => rfl))) (VE.vb (ve_var (pv 2))) (nomark _)))) (fun _ _ _ _ _ => (ve_var (pv 3)))))) va_nil))))))⟩
theorem d_is_points {f : Addr} {fd : FuncData} (F : Fun K "is_points" "is_points" s_is_points f fd) (hg : mg "is_points" = some (.ref f)) (hb : Binds K fd ["net", "value"] []) (b_all : mg "all" = none) (b_len : mg "len" = none) (b_range : mg "range" = none) (G_tuple_of : FnG P w K mg base 1 "tuple_of" ["value", "low", "high"] (spF K 3 w_tuple_of)) (G_within : FnG P w K mg base 2 "within" ["value", "low", "high"] (spF K 3 w_within)) : FnG P w K mg base 3 "is_points" ["net", "value"] (spF K 2 w_is_points) :=
  fn_good F S_is_points hg hb rfl (by decide) fun cdv A outer s H E hr => ⟨[],
  (vss_cons (τ1 := ty_is_points_0) (vs_if (VW.vt (vw_or (vt_not (vt_val (ve_call G_tuple_of (hr.mono (by decide)) (by rfl) (vs_cons (ve_var (pv 1)) (vs_cons ve_int (vs_cons (ve_ix (o_ix (u1 hr)) g_ix (VE.vb (ve_var (pv 0))) (VE.vb ve_int) (fun _ _ => rfl)) vs_nil)))))) (vw_or1 (vt_not (vt_val (ve_callB (cr_all rfl) g_all (by rfl) b_all boot_all (va_cons (VE.vb (VF.ve (vf_lc rfl S_is_points.nd (vi_seq (ve_var (pv 1))) (blkOk_by (own := [(PySem.Str.ofString "point", 2)]) (by kernel_rfl)) (fun _ _ _ _ _ => (vg_name (i := 2) S_is_points.nd rfl (by first | exact .inl rfl | exact .inr rfl))) (fun _ _ _ _ _ => vts_nil) (fun _ _ _ _ _ => (ve_call G_within (hr.mono (by decide)) (by rfl) (vs_cons (ve_var (pv 2)) (vs_cons ve_int (vs_cons (ve_op op_sub g_sub (VE.vb (ve_ix (o_ix (u1 hr)) g_ix (VE.vb (ve_var (pv 0))) (VE.vb ve_int) (fun _ _ => rfl))) (VE.vb ve_int)) vs_nil)))))))) va_nil))))))) (vss_one (vs_ret ve_bl)) vss_nil)
  (vss_one (vs_ret (ve_callB (cr_all rfl) g_all (by rfl) b_all boot_all (va_cons (VE.vb (VF.ve (vf_lc rfl S_is_points.nd (vi_rng1 (by rfl) b_range (va_cons (VE.vb (ve_op op_sub g_sub (VE.vb (ve_callB c_len g_len (by rfl) b_len boot_len (va_cons (VE.vb (ve_var (pv 1))) va_nil))) (VE.vb ve_int))) va_nil)) (blkOk_by (own := [(PySem.Str.ofString "at", 3)]) (by kernel_rfl)) (fun _ _ _ _ _ => (vg_name (i := 3) S_is_points.nd rfl (by first | exact .inl rfl | exact .inr rfl))) (fun _ _ _ _ _ => vts_nil) (fun _ _ _ _ _ => (ve_cmp (o_ltG (u64 hr)) g_ltG (VE.vb (ve_ix (o_ix (u1 hr)) g_ix (VE.vb (ve_var (pv 1))) (VE.vb (ve_var (pv 3))) (fun _ _ => rfl))) (VE.vb (ve_ix (o_ix (u1 hr)) g_ix (VE.vb (ve_var (pv 1))) (VE.vb (ve_op o_add g_add (VE.vb (ve_var (pv 3))) (VE.vb ve_int))) (fun _ _ => rfl))) (nomark _)))))) va_nil)))))⟩
theorem d_need_points {f : Addr} {fd : FuncData} (F : Fun K "need_points" "need_points" s_need_points f fd) (hg : mg "need_points" = some (.ref f)) (hb : Binds K fd ["net", "points"] []) (G_is_points : FnG P w K mg base 3 "is_points" ["net", "value"] (spF K 2 w_is_points)) : FnG P w K mg base 4 "need_points" ["net", "points"] (spF K 2 w_need_points) :=
  fn_good F S_need_points hg hb rfl (by decide) fun cdv A outer s H E hr => ⟨ty_need_points_0,
  (vss_one (vs_if (vt_not (vt_val (ve_call G_is_points (hr.mono (by decide)) (by rfl) (vs_cons (ve_var (pv 0)) (vs_cons (ve_var (pv 1)) vs_nil))))) (vss_one vs_never) vss_nil))⟩
theorem d_reach {f : Addr} {fd : FuncData} (F : Fun K "reach" "reach" s_reach f fd) (hg : mg "reach" = some (.ref f)) (hb : Binds K fd ["near", "start", "kept"] []) (b_sorted : mg "sorted" = none) (b_tuple : mg "tuple" = none) : FnG P w K mg base 1 "reach" ["near", "start", "kept"] (spF K 3 w_reach) :=
  fn_good F S_reach hg hb rfl (by decide) fun cdv A outer s H E hr => ⟨[],
  (vss_cons (τ1 := ty_reach_0) (vs_par2 rfl S_reach.nd rfl rfl (by decide) rfl rfl (vx_consF (i := 3) (vf_disp1 (ve_var (pv 1)) ve_bl) (vx_consF (i := 4) (vf_lst (vs_cons (ve_var (pv 1)) vs_nil)) vx_nil)) (by kernel_rfl))
  (vss_cons (τ1 := ty_reach_0) (vs_while PassesOwn.never (vt_cmp (op_neD (u64 hr)) g_ne (vb_own (pv 4)) (VE.vb (ve_lst vs_nil)) (nomark _)) (vss_cons (τ1 := ty_reach_0) (vs_popP (j := 5) (ps_set (i := 5) S_reach.nd rfl (.inl rfl) (pe_pop (pv 4))))
  (vss_one (vs_for (L := [6]) PassesOwn.never rfl (vi_seq (ve_ix (o_ix (u1 hr)) g_ix (VE.vb (ve_var (pv 0))) (VE.vb (ve_var (pv 5))) (fun _ _ => rfl))) (vg_name (i := 6) S_reach.nd rfl (by first | exact .inl rfl | exact .inr rfl)) (vss_one (vs_if (VW.vt (vw_and (vt_cmp (o_in (u65 hr)) g_in (VE.vb (ve_var (pv 6))) (VE.vb (ve_var (pv 2))) (by with_unfolding_all rfl)) (vw_and1 (vt_cmp (o_notIn (u65 hr)) g_notIn (VE.vb (ve_var (pv 6))) (vb_own (pv 3)) (by with_unfolding_all rfl))))) (vss_cons (τ1 := ty_reach_0) (vs_dput (u1 hr) (pv 3) (ve_var (pv 6)) ve_bl)
  (vss_one (vs_append (pv 4) (ve_var (pv 6))))) vss_nil))))))
  (vss_one (vs_ret (ve_callTy call_tuple_of g_tuple (by rfl) b_tuple boot_tuple (va_cons (VE.vb (ve_callB (c_sortG (u64 hr) rfl) g_sortG (by rfl) b_sorted boot_sorted (va_cons (vb_own (pv 3)) va_nil))) va_nil))))))⟩
theorem d_parts_of {f : Addr} {fd : FuncData} (F : Fun K "parts_of" "parts_of" s_parts_of f fd) (hg : mg "parts_of" = some (.ref f)) (hb : Binds K fd ["near", "kept"] []) (b_sorted : mg "sorted" = none) (G_reach : FnG P w K mg base 1 "reach" ["near", "start", "kept"] (spF K 3 w_reach)) : FnG P w K mg base 2 "parts_of" ["near", "kept"] (spF K 2 w_parts_of) :=
  fn_good F S_parts_of hg hb rfl (by decide) fun cdv A outer s H E hr => ⟨[],
  (vss_cons (τ1 := ty_parts_of_0) (vs_par2 rfl S_parts_of.nd rfl rfl (by decide) rfl rfl (vx_cons (i := 2) (ve_callB (c_sortG (u64 hr) rfl) g_sortG (by rfl) b_sorted boot_sorted (va_cons (VE.vb (ve_var (pv 1))) va_nil)) (vx_consF (i := 3) (vf_lst vs_nil) vx_nil)) (by kernel_rfl))
  (vss_cons (τ1 := ty_parts_of_0) (vs_while PassesOwn.never (vt_cmp (op_neD (u64 hr)) g_ne (VE.vb (ve_var (pv 2))) (VE.vb (ve_lst vs_nil)) (nomark _)) (vss_cons (τ1 := ty_parts_of_0) (vs_setP (ps_set (i := 4) S_parts_of.nd rfl (.inr rfl) (ve_call G_reach (hr.mono (by decide)) (by rfl) (vs_cons (ve_var (pv 0)) (vs_cons (ve_ix (o_ix (u1 hr)) g_ix (VE.vb (ve_var (pv 2))) (VE.vb ve_int) (fun _ _ => rfl)) (vs_cons (ve_var (pv 1)) vs_nil))))))
  (vss_cons (τ1 := ty_parts_of_0) (vs_append (pv 3) (ve_var (pv 4)))
  (vss_one (vs_setP (psF_E (ps_setLcF (i := 2) rfl S_parts_of.nd rfl rfl (sw_true rfl rfl rfl (by decide +kernel)) (vi_seq (ve_var (pv 2))) (blkOk_by (own := [(PySem.Str.ofString "point", 5)]) (by kernel_rfl)) (fun _ _ _ _ _ => (vg_name (i := 5) S_parts_of.nd rfl (by first | exact .inl rfl | exact .inr rfl))) (fun _ _ _ _ _ => (vts_one (vt_cmp (o_notIn (u65 hr)) g_notIn (VE.vb (ve_var (pv 5))) (VE.vb (ve_var (pv 4))) (by with_unfolding_all rfl)))) (fun _ _ _ _ _ => (ve_var (pv 5))))))))))
  (vss_one (vs_weak (τ1 := ty_parts_of_1) (by decide +kernel) (vs_ret (ve_var (pv 3)))))))⟩
theorem d_circles_of {f : Addr} {fd : FuncData} (F : Fun K "circles_of" "circles_of" s_circles_of f fd) (hg : mg "circles_of" = some (.ref f)) (hb : Binds K fd ["net"] []) (b_range : mg "range" = none) (G_near_of : FnG P w K mg base 1 "near_of" ["net"] (spF K 1 w_near_of)) (G_parts_of : FnG P w K mg base 2 "parts_of" ["near", "kept"] (spF K 2 w_parts_of)) : FnG P w K mg base 3 "circles_of" ["net"] (spF K 1 w_circles_of) :=
  fn_good F S_circles_of hg hb rfl (by decide) fun cdv A outer s H E hr => ⟨[],
  (vss_one (vs_ret (ve_call G_parts_of (hr.mono (by decide)) (by rfl) (vs_cons (ve_call G_near_of (hr.mono (by decide)) (by rfl) (vs_cons (ve_var (pv 0)) vs_nil)) (vs_cons (VF.ve (vf_dc rfl S_circles_of.nd (vi_rng1 (by rfl) b_range (va_cons (VE.vb (ve_ix (o_ix (u1 hr)) g_ix (VE.vb (ve_var (pv 0))) (VE.vb ve_int) (fun _ _ => rfl))) va_nil)) (blkOk_by (own := [(PySem.Str.ofString "point", 1)]) (by kernel_rfl)) (fun _ _ _ _ _ => (vg_name (i := 1) S_circles_of.nd rfl (by first | exact .inl rfl | exact .inr rfl))) (fun _ _ _ _ _ => vts_nil) (fun _ _ _ _ _ => (ve_var (pv 1))) (fun _ _ _ _ _ => ve_bl))) vs_nil)))))⟩
theorem d_need_lot {f : Addr} {fd : FuncData} (F : Fun K "need_lot" "need_lot" s_need_lot f fd) (hg : mg "need_lot" = some (.ref f)) (hb : Binds K fd ["net", "points", "size"] []) (G_circles_of : FnG P w K mg base 3 "circles_of" ["net"] (spF K 1 w_circles_of)) (G_near_of : FnG P w K mg base 1 "near_of" ["net"] (spF K 1 w_near_of)) (G_need_net : FnG P w K mg base 3 "need_net" ["net"] (spF K 1 w_need_net)) (G_need_points : FnG P w K mg base 4 "need_points" ["net", "points"] (spF K 2 w_need_points)) (G_need_size : FnG P w K mg base 4 "need_size" ["net", "size"] (spF K 2 w_need_size)) : FnG P w K mg base 5 "need_lot" ["net", "points", "size"] (spF K 3 w_need_lot) :=
  fn_good F S_need_lot hg hb rfl (by decide) fun cdv A outer s H E hr => ⟨[],
  (vss_cons (τ1 := ty_need_lot_0) (vs_expr (ve_call G_need_net (hr.mono (by decide)) (by rfl) (vs_cons (ve_var (pv 0)) vs_nil)))
  (vss_cons (τ1 := ty_need_lot_0) (vs_expr (ve_call G_need_points (hr.mono (by decide)) (by rfl) (vs_cons (ve_var (pv 0)) (vs_cons (ve_var (pv 1)) vs_nil))))
  (vss_cons (τ1 := ty_need_lot_0) (vs_expr (ve_call G_need_size (hr.mono (by decide)) (by rfl) (vs_cons (ve_var (pv 0)) (vs_cons (ve_var (pv 2)) vs_nil))))
  (vss_one (vs_ret (ve_tup (vs_cons (ve_call G_near_of (hr.mono (by decide)) (by rfl) (vs_cons (ve_var (pv 0)) vs_nil)) (vs_cons (ve_call G_circles_of (hr.mono (by decide)) (by rfl) (vs_cons (ve_var (pv 0)) vs_nil)) vs_nil))))))))⟩
theorem d_open_of {f : Addr} {fd : FuncData} (F : Fun K "open_of" "open_of" s_open_of f fd) (hg : mg "open_of" = some (.ref f)) (hb : Binds K fd ["near", "whole", "points", "size"] []) (b_len : mg "len" = none) (b_list : mg "list" = none) (b_sorted : mg "sorted" = none) (b_tuple : mg "tuple" = none) (G_parts_of : FnG P w K mg base 2 "parts_of" ["near", "kept"] (spF K 2 w_parts_of)) : FnG P w K mg base 3 "open_of" ["near", "whole", "points", "size"] (spF K 4 w_open_of) :=
  fn_good F S_open_of hg hb rfl (by decide) fun cdv A outer s H E hr => ⟨[],
  (vss_cons (τ1 := ty_open_of_0) (vs_setP (ps_set (i := 4) S_open_of.nd rfl (.inl rfl) (ve_lst vs_nil)))
  (vss_cons (τ1 := ty_open_of_0) (vs_for (L := [5]) PassesOwn.never rfl (vi_seq (ve_call G_parts_of (hr.mono (by decide)) (by rfl) (vs_cons (ve_var (pv 0)) (vs_cons (VF.ve (vf_dc rfl S_open_of.nd (vi_seq (ve_var (pv 2))) (blkOk_by (own := [(PySem.Str.ofString "point", 6)]) (by kernel_rfl)) (fun _ _ _ _ _ => (vg_name (i := 6) S_open_of.nd rfl (by first | exact .inl rfl | exact .inr rfl))) (fun _ _ _ _ _ => vts_nil) (fun _ _ _ _ _ => (ve_var (pv 6))) (fun _ _ _ _ _ => ve_bl))) vs_nil)))) (vg_name (i := 5) S_open_of.nd rfl (by first | exact .inl rfl | exact .inr rfl)) (vss_one (vs_if (VW.vt (vw_or (vt_cmp (o_gtG (u64 hr)) g_gtG (VE.vb (ve_callB c_len g_len (by rfl) b_len boot_len (va_cons (VE.vb (ve_var (pv 5))) va_nil))) (VE.vb (ve_var (pv 3))) (nomark _)) (vw_or1 (vt_cmp (o_in (u65 hr)) g_in (VE.vb (ve_var (pv 5))) (VE.vb (ve_var (pv 1))) (by with_unfolding_all rfl))))) (vss_one (vs_setP (ps_set (i := 4) S_open_of.nd rfl (.inl rfl) (ve_op o_add g_add (VE.vb (ve_var (pv 4))) (VE.vb (ve_callTy call_list_of g_list (by rfl) b_list boot_list (va_cons (VE.vb (ve_var (pv 5))) va_nil))))))) vss_nil)))
  (vss_one (vs_ret (ve_callTy call_tuple_of g_tuple (by rfl) b_tuple boot_tuple (va_cons (VE.vb (ve_callB (c_sortG (u64 hr) rfl) g_sortG (by rfl) b_sorted boot_sorted (va_cons (VE.vb (ve_var (pv 4))) va_nil))) va_nil))))))⟩
theorem d_is_open_set {f : Addr} {fd : FuncData} (F : Fun K "is_open_set" "is_open_set" s_is_open_set f fd) (hg : mg "is_open_set" = some (.ref f)) (hb : Binds K fd ["net", "points", "size"] []) (G_need_lot : FnG P w K mg base 5 "need_lot" ["net", "points", "size"] (spF K 3 w_need_lot)) (G_open_of : FnG P w K mg base 3 "open_of" ["near", "whole", "points", "size"] (spF K 4 w_open_of)) : FnG P w K mg base 6 "is_open_set" ["net", "points", "size"] (spF K 3 w_is_open_set) :=
  fn_good F S_is_open_set hg hb rfl (by decide) fun cdv A outer s H E hr => ⟨[],
  (vss_cons (τ1 := ty_is_open_set_0) (vs_unp (L := [3, 4]) (ve_call G_need_lot (hr.mono (by decide)) (by rfl) (vs_cons (ve_var (pv 0)) (vs_cons (ve_var (pv 1)) (vs_cons (ve_var (pv 2)) vs_nil)))) (vg_tup rfl (vgs_cons (vg_name (i := 3) S_is_open_set.nd rfl (by first | exact .inl rfl | exact .inr rfl)) (vgs_cons (vg_name (i := 4) S_is_open_set.nd rfl (by first | exact .inl rfl | exact .inr rfl)) vgs_nil))))
  (vss_one (vs_ret (ve_cmp (op_eqD (u64 hr)) g_eq (VE.vb (ve_call G_open_of (hr.mono (by decide)) (by rfl) (vs_cons (ve_var (pv 3)) (vs_cons (ve_var (pv 4)) (vs_cons (ve_var (pv 1)) (vs_cons (ve_var (pv 2)) vs_nil)))))) (VE.vb (ve_var (pv 1))) (nomark _)))))⟩
theorem d_open_set {f : Addr} {fd : FuncData} (F : Fun K "open_set" "open_set" s_open_set f fd) (hg : mg "open_set" = some (.ref f)) (hb : Binds K fd ["net", "points", "size"] []) (G_need_lot : FnG P w K mg base 5 "need_lot" ["net", "points", "size"] (spF K 3 w_need_lot)) (G_open_of : FnG P w K mg base 3 "open_of" ["near", "whole", "points", "size"] (spF K 4 w_open_of)) : FnG P w K mg base 6 "open_set" ["net", "points", "size"] (spF K 3 w_open_set) :=
  fn_good F S_open_set hg hb rfl (by decide) fun cdv A outer s H E hr => ⟨[],
  (vss_cons (τ1 := ty_open_set_0) (vs_unp (L := [3, 4]) (ve_call G_need_lot (hr.mono (by decide)) (by rfl) (vs_cons (ve_var (pv 0)) (vs_cons (ve_var (pv 1)) (vs_cons (ve_var (pv 2)) vs_nil)))) (vg_tup rfl (vgs_cons (vg_name (i := 3) S_open_set.nd rfl (by first | exact .inl rfl | exact .inr rfl)) (vgs_cons (vg_name (i := 4) S_open_set.nd rfl (by first | exact .inl rfl | exact .inr rfl)) vgs_nil))))
  (vss_one (vs_ret (ve_call G_open_of (hr.mono (by decide)) (by rfl) (vs_cons (ve_var (pv 3)) (vs_cons (ve_var (pv 4)) (vs_cons (ve_var (pv 1)) (vs_cons (ve_var (pv 2)) vs_nil))))))))⟩
theorem d_rest_of {f : Addr} {fd : FuncData} (F : Fun K "rest_of" "rest_of" s_rest_of f fd) (hg : mg "rest_of" = some (.ref f)) (hb : Binds K fd ["many", "points"] []) (b_range : mg "range" = none) (b_tuple : mg "tuple" = none) : FnG P w K mg base 1 "rest_of" ["many", "points"] (spF K 2 w_rest_of) :=
  fn_good F S_rest_of hg hb rfl (by decide) fun cdv A outer s H E hr => ⟨[],
  (vss_one (vs_ret (ve_callTy call_tuple_of g_tuple (by rfl) b_tuple boot_tuple (va_cons (VE.vb (VF.ve (vf_lc rfl S_rest_of.nd (vi_rng1 (by rfl) b_range (va_cons (VE.vb (ve_var (pv 0))) va_nil)) (blkOk_by (own := [(PySem.Str.ofString "point", 2)]) (by kernel_rfl)) (fun _ _ _ _ _ => (vg_name (i := 2) S_rest_of.nd rfl (by first | exact .inl rfl | exact .inr rfl))) (fun _ _ _ _ _ => (vts_one (vt_cmp (o_notIn (u65 hr)) g_notIn (VE.vb (ve_var (pv 2))) (VE.vb (ve_var (pv 1))) (by with_unfolding_all rfl)))) (fun _ _ _ _ _ => (ve_var (pv 2)))))) va_nil))))⟩
theorem d_close_of {f : Addr} {fd : FuncData} (F : Fun K "close_of" "close_of" s_close_of f fd) (hg : mg "close_of" = some (.ref f)) (hb : Binds K fd ["near", "whole", "points", "size"] []) (b_len : mg "len" = none) (G_open_of : FnG P w K mg base 3 "open_of" ["near", "whole", "points", "size"] (spF K 4 w_open_of)) (G_rest_of : FnG P w K mg base 1 "rest_of" ["many", "points"] (spF K 2 w_rest_of)) : FnG P w K mg base 4 "close_of" ["near", "whole", "points", "size"] (spF K 4 w_close_of) :=
  fn_good F S_close_of hg hb rfl (by decide) fun cdv A outer s H E hr => ⟨[],
  (vss_cons (τ1 := ty_close_of_0) (vs_setP (ps_set (i := 4) S_close_of.nd rfl (.inl rfl) (ve_call G_open_of (hr.mono (by decide)) (by rfl) (vs_cons (ve_var (pv 0)) (vs_cons (ve_var (pv 1)) (vs_cons (ve_call G_rest_of (hr.mono (by decide)) (by rfl) (vs_cons (ve_callB c_len g_len (by rfl) b_len boot_len (va_cons (VE.vb (ve_var (pv 0))) va_nil)) (vs_cons (ve_var (pv 2)) vs_nil))) (vs_cons (ve_var (pv 3)) vs_nil)))))))
  (vss_one (vs_ret (ve_call G_rest_of (hr.mono (by decide)) (by rfl) (vs_cons (ve_callB c_len g_len (by rfl) b_len boot_len (va_cons (VE.vb (ve_var (pv 0))) va_nil)) (vs_cons (ve_var (pv 4)) vs_nil))))))⟩
theorem d_close_set {f : Addr} {fd : FuncData} (F : Fun K "close_set" "close_set" s_close_set f fd) (hg : mg "close_set" = some (.ref f)) (hb : Binds K fd ["net", "points", "size"] []) (G_close_of : FnG P w K mg base 4 "close_of" ["near", "whole", "points", "size"] (spF K 4 w_close_of)) (G_need_lot : FnG P w K mg base 5 "need_lot" ["net", "points", "size"] (spF K 3 w_need_lot)) : FnG P w K mg base 6 "close_set" ["net", "points", "size"] (spF K 3 w_close_set) :=
  fn_good F S_close_set hg hb rfl (by decide) fun cdv A outer s H E hr => ⟨[],
  (vss_cons (τ1 := ty_close_set_0) (vs_unp (L := [3, 4]) (ve_call G_need_lot (hr.mono (by decide)) (by rfl) (vs_cons (ve_var (pv 0)) (vs_cons (ve_var (pv 1)) (vs_cons (ve_var (pv 2)) vs_nil)))) (vg_tup rfl (vgs_cons (vg_name (i := 3) S_close_set.nd rfl (by first | exact .inl rfl | exact .inr rfl)) (vgs_cons (vg_name (i := 4) S_close_set.nd rfl (by first | exact .inl rfl | exact .inr rfl)) vgs_nil))))
  (vss_one (vs_ret (ve_call G_close_of (hr.mono (by decide)) (by rfl) (vs_cons (ve_var (pv 3)) (vs_cons (ve_var (pv 4)) (vs_cons (ve_var (pv 1)) (vs_cons (ve_var (pv 2)) vs_nil))))))))⟩
theorem d_shave_set {f : Addr} {fd : FuncData} (F : Fun K "shave_set" "shave_set" s_shave_set f fd) (hg : mg "shave_set" = some (.ref f)) (hb : Binds K fd ["net", "points", "size"] []) (b_range : mg "range" = none) (G_close_of : FnG P w K mg base 4 "close_of" ["near", "whole", "points", "size"] (spF K 4 w_close_of)) (G_need_lot : FnG P w K mg base 5 "need_lot" ["net", "points", "size"] (spF K 3 w_need_lot)) (G_open_of : FnG P w K mg base 3 "open_of" ["near", "whole", "points", "size"] (spF K 4 w_open_of)) : FnG P w K mg base 6 "shave_set" ["net", "points", "size"] (spF K 3 w_shave_set) :=
  fn_good F S_shave_set hg hb rfl (by decide) fun cdv A outer s H E hr => ⟨[],
  (vss_cons (τ1 := ty_shave_set_0) (vs_unp (L := [3, 4]) (ve_call G_need_lot (hr.mono (by decide)) (by rfl) (vs_cons (ve_var (pv 0)) (vs_cons (ve_var (pv 1)) (vs_cons (ve_var (pv 2)) vs_nil)))) (vg_tup rfl (vgs_cons (vg_name (i := 3) S_shave_set.nd rfl (by first | exact .inl rfl | exact .inr rfl)) (vgs_cons (vg_name (i := 4) S_shave_set.nd rfl (by first | exact .inl rfl | exact .inr rfl)) vgs_nil))))
  (vss_cons (τ1 := ty_shave_set_0) (vs_for (L := [5]) PassesOwn.never rfl (vi_rng2 (by rfl) b_range (va_cons (VE.vb ve_int) (va_cons (VE.vb (ve_op o_add g_add (VE.vb (ve_var (pv 2))) (VE.vb ve_int))) va_nil))) (vg_name (i := 5) S_shave_set.nd rfl (by first | exact .inl rfl | exact .inr rfl)) (vss_one (vs_setP (ps_set (i := 1) S_shave_set.nd rfl (.inl rfl) (ve_call G_close_of (hr.mono (by decide)) (by rfl) (vs_cons (ve_var (pv 3)) (vs_cons (ve_var (pv 4)) (vs_cons (ve_call G_open_of (hr.mono (by decide)) (by rfl) (vs_cons (ve_var (pv 3)) (vs_cons (ve_var (pv 4)) (vs_cons (ve_var (pv 1)) (vs_cons (ve_var (pv 5)) vs_nil))))) (vs_cons (ve_var (pv 5)) vs_nil)))))))))
  (vss_one (vs_ret (ve_var (pv 1))))))⟩
theorem d_is_layer {f : Addr} {fd : FuncData} (F : Fun K "is_layer" "is_layer" s_is_layer f fd) (hg : mg "is_layer" = some (.ref f)) (hb : Binds K fd ["net", "value"] []) (c_MOST_HEIGHT : ∃ t, mg "MOST_HEIGHT" = some (.int 99 t)) (G_is_points : FnG P w K mg base 3 "is_points" ["net", "value"] (spF K 2 w_is_points)) (G_tuple_of : FnG P w K mg base 1 "tuple_of" ["value", "low", "high"] (spF K 3 w_tuple_of)) (G_within : FnG P w K mg base 2 "within" ["value", "low", "high"] (spF K 3 w_within)) : FnG P w K mg base 4 "is_layer" ["net", "value"] (spF K 2 w_is_layer) :=
  fn_good F S_is_layer hg hb rfl (by decide) fun cdv A outer s H E hr => ⟨[],
  (vss_cons (τ1 := ty_is_layer_0) (vs_if (VW.vt (vw_or (vt_not (vt_val (ve_call G_tuple_of (hr.mono (by decide)) (by rfl) (vs_cons (ve_var (pv 1)) (vs_cons ve_int (vs_cons ve_int vs_nil)))))) (vw_or1 (vt_not (vt_val (ve_call G_within (hr.mono (by decide)) (by rfl) (vs_cons (ve_ix (o_ix (u1 hr)) g_ix (VE.vb (ve_var (pv 1))) (VE.vb ve_int) (fun _ _ => rfl)) (vs_cons (ve_un un_neg g_neg (VE.vb (ve_globE (by rfl) c_MOST_HEIGHT))) (vs_cons (ve_globE (by rfl) c_MOST_HEIGHT) vs_nil))))))))) (vss_one (vs_ret ve_bl)) vss_nil)
  (vss_one (vs_ret (ve_and (ve_call G_is_points (hr.mono (by decide)) (by rfl) (vs_cons (ve_var (pv 0)) (vs_cons (ve_ix (o_ix (u1 hr)) g_ix (VE.vb (ve_var (pv 1))) (VE.vb ve_int) (fun _ _ => rfl)) vs_nil))) (ve_one (ve_cmp (op_neD (u64 hr)) g_ne (VE.vb (ve_ix (o_ix (u1 hr)) g_ix (VE.vb (ve_var (pv 1))) (VE.vb ve_int) (fun _ _ => rfl))) (VE.vb (ve_tup vs_nil)) (nomark _)))))))⟩
theorem d_stacked {f : Addr} {fd : FuncData} (F : Fun K "stacked" "stacked" s_stacked f fd) (hg : mg "stacked" = some (.ref f)) (hb : Binds K fd ["net", "value"] []) (b_all : mg "all" = none) (b_isinstance : mg "isinstance" = none) (b_len : mg "len" = none) (b_list : mg "list" = none) (b_range : mg "range" = none) (b_tuple : mg "tuple" = none) (b_zip : mg "zip" = none) (G_is_layer : FnG P w K mg base 4 "is_layer" ["net", "value"] (spF K 2 w_is_layer)) (G_need_net : FnG P w K mg base 3 "need_net" ["net"] (spF K 1 w_need_net)) : FnG P w K mg base 5 "stacked" ["net", "value"] (spF K 2 w_stacked) :=
  fn_good F S_stacked hg hb rfl (by decide) fun cdv A outer s H E hr => ⟨[],
  (vss_cons (τ1 := ty_stacked_0) (vs_expr (ve_call G_need_net (hr.mono (by decide)) (by rfl) (vs_cons (ve_var (pv 0)) vs_nil)))
  (vss_cons (τ1 := ty_stacked_0) (vs_if (VW.vt (vw_or (vt_not (vt_val (ve_isi (by rfl) b_isinstance (by rfl) b_list boot_list isi_list (VE.vb (ve_var (pv 1)))))) (vw_or (vt_cmp (op_eqD (u64 hr)) g_eq (VE.vb (ve_var (pv 1))) (VE.vb (ve_lst vs_nil)) (nomark _)) (vw_or1 (vt_not (vt_val (ve_callB (cr_all rfl) g_all (by rfl) b_all boot_all (va_cons (VE.vb (VF.ve (vf_lc rfl S_stacked.nd (vi_seq (ve_var (pv 1))) (blkOk_by (own := [(PySem.Str.ofString "told", 8)]) (by kernel_rfl)) (fun _ _ _ _ _ => (vg_name (i := 8) S_stacked.nd rfl (by first | exact .inl rfl | exact .inr rfl))) (fun _ _ _ _ _ => vts_nil) (fun _ _ _ _ _ => (ve_call G_is_layer (hr.mono (by decide)) (by rfl) (vs_cons (ve_var (pv 0)) (vs_cons (ve_var (pv 8)) vs_nil))))))) va_nil)))))))) (vss_one vs_never) vss_nil)
  (vss_cons (τ1 := ty_stacked_0) (vs_if (vt_cmp (op_neD (u64 hr)) g_ne (VE.vb (ve_ix (o_ix (u1 hr)) g_ix (VE.vb (ve_ix (o_ix (u1 hr)) g_ix (VE.vb (ve_var (pv 1))) (VE.vb ve_int) (fun _ _ => rfl))) (VE.vb ve_int) (fun _ _ => rfl))) (VE.vb (ve_rngtuple rfl (by rfl) b_tuple (vr_1 (by rfl) b_range (ve_ix (o_ix (u1 hr)) g_ix (VE.vb (ve_var (pv 0))) (VE.vb ve_int) (fun _ _ => rfl))))) (nomark _)) (vss_one vs_never) vss_nil)
  (vss_cons (τ1 := ty_stacked_0) (vs_for (L := [2, 3]) PassesOwn.never rfl (vi_zip (by rfl) b_zip (vs_cons (ve_var (pv 1)) (vs_cons (ve_slice (VE.vb (ve_var (pv 1))) (vo_some (VE.vb ve_int)) vo_none) vs_nil))) (vg_tup rfl (vgs_cons (vg_name (i := 2) S_stacked.nd rfl (.inr rfl)) (vgs_cons (vg_name (i := 3) S_stacked.nd rfl (by first | exact .inl rfl | exact .inr rfl)) vgs_nil))) (vss_cons (τ1 := ty_stacked_0) (vs_if (VW.vt (vw_or (vt_cmp (o_leG (u64 hr)) g_leG (VE.vb (ve_ix (o_ix (u1 hr)) g_ix (VE.vb (ve_var (pv 3))) (VE.vb ve_int) (fun _ _ => rfl))) (VE.vb (ve_ix (o_ix (u1 hr)) g_ix (VE.vb (ve_var (pv 2))) (VE.vb ve_int) (fun _ _ => rfl))) (nomark _)) (vw_or1 (vt_cmp (o_geG (u64 hr)) g_geG (VE.vb (ve_callB c_len g_len (by rfl) b_len boot_len (va_cons (VE.vb (ve_ix (o_ix (u1 hr)) g_ix (VE.vb (ve_var (pv 3))) (VE.vb ve_int) (fun _ _ => rfl))) va_nil))) (VE.vb (ve_callB c_len g_len (by rfl) b_len boot_len (va_cons (VE.vb (ve_ix (o_ix (u1 hr)) g_ix (VE.vb (ve_var (pv 2))) (VE.vb ve_int) (fun _ _ => rfl))) va_nil))) (nomark _))))) (vss_one vs_never) vss_nil)
  (vss_one (vs_if (vt_not (vt_val (ve_callB (cr_all rfl) g_all (by rfl) b_all boot_all (va_cons (VE.vb (VF.ve (vf_lc rfl S_stacked.nd (vi_seq (ve_ix (o_ix (u1 hr)) g_ix (VE.vb (ve_var (pv 3))) (VE.vb ve_int) (fun _ _ => rfl))) (blkOk_by (own := [(PySem.Str.ofString "point", 7)]) (by kernel_rfl)) (fun _ _ _ _ _ => (vg_name (i := 7) S_stacked.nd rfl (by first | exact .inl rfl | exact .inr rfl))) (fun _ _ _ _ _ => vts_nil) (fun _ _ _ _ _ => (ve_cmp (o_in (u65 hr)) g_in (VE.vb (ve_var (pv 7))) (VE.vb (ve_ix (o_ix (u1 hr)) g_ix (VE.vb (ve_var (pv 2))) (VE.vb ve_int) (fun _ _ => rfl))) (by with_unfolding_all rfl)))))) va_nil)))) (vss_one vs_never) vss_nil))))
  (vss_cons (τ1 := ty_stacked_1) (vs_setOwnP (ps_set (i := 4) S_stacked.nd rfl (.inl rfl) (vf_rep (VE.vb (ve_lst (vs_cons ve_int vs_nil))) (VE.vb (ve_ix (o_ix (u1 hr)) g_ix (VE.vb (ve_var (pv 0))) (VE.vb ve_int) (fun _ _ => rfl))))))
  (vss_cons (τ1 := ty_stacked_1) (vs_for (L := [5, 6]) PassesOwn.never rfl (vi_seq (ve_var (pv 1))) (vg_tup rfl (vgs_cons (vg_name (i := 5) S_stacked.nd rfl (by first | exact .inl rfl | exact .inr rfl)) (vgs_cons (vg_name (i := 6) S_stacked.nd rfl (by first | exact .inl rfl | exact .inr rfl)) vgs_nil))) (vss_one (vs_for (L := [7]) PassesOwn.never rfl (vi_seq (ve_var (pv 6))) (vg_name (i := 7) S_stacked.nd rfl (by first | exact .inl rfl | exact .inr rfl)) (vss_one (vs_setiP (ps_asg (ve_var (pv 5)) (pg_sub (pv 4) (ve_var (pv 7)) set_list)))))))
  (vss_one (vs_ret (ve_callTy call_tuple_of g_tuple (by rfl) b_tuple boot_tuple (va_cons (vb_own (pv 4)) va_nil))))))))))⟩
theorem d_layers_of {f : Addr} {fd : FuncData} (F : Fun K "layers_of" "layers_of" s_layers_of f fd) (hg : mg "layers_of" = some (.ref f)) (hb : Binds K fd ["row"] []) (b_len : mg "len" = none) (b_range : mg "range" = none) (b_sorted : mg "sorted" = none) (b_tuple : mg "tuple" = none) : FnG P w K mg base 1 "layers_of" ["row"] (spF K 1 w_layers_of) :=
  fn_good F S_layers_of hg hb rfl (by decide) fun cdv A outer s H E hr => ⟨[],
  (vss_cons (τ1 := ty_layers_of_1) (vs_setOwnP (ps_set (i := 1) S_layers_of.nd rfl (.inl rfl) (vf_lst vs_nil)))
  (vss_cons (τ1 := ty_layers_of_1) (vs_for (L := [2]) PassesOwn.never rfl (vi_seq (ve_callB (c_sortG (u64 hr) rfl) g_sortG (by rfl) b_sorted boot_sorted (va_cons (VE.vb (VF.ve (vf_dc rfl S_layers_of.nd (vi_seq (ve_var (pv 0))) (blkOk_by (own := [(PySem.Str.ofString "height", 3)]) (by kernel_rfl)) (fun _ _ _ _ _ => (vg_name (i := 3) S_layers_of.nd rfl (by first | exact .inl rfl | exact .inr rfl))) (fun _ _ _ _ _ => vts_nil) (fun _ _ _ _ _ => (ve_var (pv 3))) (fun _ _ _ _ _ => ve_bl)))) va_nil))) (vg_name (i := 2) S_layers_of.nd rfl (.inr rfl)) (vss_one (vs_append (pv 1) (ve_tup (vs_cons (ve_var (pv 2)) (vs_cons (ve_callTy call_tuple_of g_tuple (by rfl) b_tuple boot_tuple (va_cons (VE.vb (VF.ve (vf_lc rfl S_layers_of.nd (vi_rng1 (by rfl) b_range (va_cons (VE.vb (ve_callB c_len g_len (by rfl) b_len boot_len (va_cons (VE.vb (ve_var (pv 0))) va_nil))) va_nil)) (blkOk_by (own := [(PySem.Str.ofString "point", 4)]) (by kernel_rfl)) (fun _ _ _ _ _ => (vg_name (i := 4) S_layers_of.nd rfl (by first | exact .inl rfl | exact .inr rfl))) (fun _ _ _ _ _ => (vts_one (vt_cmp (o_geG (u64 hr)) g_geG (VE.vb (ve_ix (o_ix (u1 hr)) g_ix (VE.vb (ve_var (pv 0))) (VE.vb (ve_var (pv 4))) (fun _ _ => rfl))) (VE.vb (ve_var (pv 2))) (nomark _)))) (fun _ _ _ _ _ => (ve_var (pv 4)))))) va_nil)) vs_nil))))))
  (vss_one (vs_weak (τ1 := ty_layers_of_0) (by decide +kernel) (vs_ret (ve_var (pv 1)))))))⟩
theorem d_layers {f : Addr} {fd : FuncData} (F : Fun K "layers" "layers" s_layers f fd) (hg : mg "layers" = some (.ref f)) (hb : Binds K fd ["net", "row"] []) (G_layers_of : FnG P w K mg base 1 "layers_of" ["row"] (spF K 1 w_layers_of)) (G_need_both : FnG P w K mg base 4 "need_both" ["net", "row"] (spF K 2 w_need_both)) : FnG P w K mg base 5 "layers" ["net", "row"] (spF K 2 w_layers) :=
  fn_good F S_layers hg hb rfl (by decide) fun cdv A outer s H E hr => ⟨[],
  (vss_cons (τ1 := ty_layers_0) (vs_expr (ve_call G_need_both (hr.mono (by decide)) (by rfl) (vs_cons (ve_var (pv 0)) (vs_cons (ve_var (pv 1)) vs_nil))))
  (vss_one (vs_ret (ve_call G_layers_of (hr.mono (by decide)) (by rfl) (vs_cons (ve_var (pv 1)) vs_nil)))))⟩
theorem d_law {f : Addr} {fd : FuncData} (F : Fun K "law" "law" s_law f fd) (b_min : mg "min" = none) (b_range : mg "range" = none) (b_tuple : mg "tuple" = none) (G__law_heights : FnG P w K mg base 3 "_law_heights" ["_law_row", "_law_many", "_law_top"] (spR K 2 w__law_heights)) (G__law_net : FnG P w K mg base 2 "_law_net" ["_law_row", "_law_most"] (spR K 1 w__law_net)) (G__law_pick : FnG P w K mg base 2 "_law_pick" ["_law_row", "_law_things"] (spR K 1 w__law_pick)) (G__law_taken : FnG P w K mg base 1 "_law_taken" ["_law_row", "_law_many"] (spR K 1 wTaken)) (G_close_set : FnG P w K mg base 6 "close_set" ["net", "points", "size"] (spF K 3 w_close_set)) (G_cut : FnG P w K mg base 5 "cut" ["net", "row", "size"] (spF K 3 w_cut)) (G_fill : FnG P w K mg base 6 "fill" ["net", "row", "size"] (spF K 3 w_fill)) (G_is_open_set : FnG P w K mg base 6 "is_open_set" ["net", "points", "size"] (spF K 3 w_is_open_set)) (G_layer : FnG P w K mg base 5 "layer" ["net", "row", "level"] (spF K 3 w_layer)) (G_layers : FnG P w K mg base 5 "layers" ["net", "row"] (spF K 2 w_layers)) (G_open_set : FnG P w K mg base 6 "open_set" ["net", "points", "size"] (spF K 3 w_open_set)) (G_shave : FnG P w K mg base 7 "shave" ["net", "row", "size"] (spF K 3 w_shave)) (G_shave_set : FnG P w K mg base 6 "shave_set" ["net", "points", "size"] (spF K 3 w_shave_set)) (G_stacked : FnG P w K mg base 5 "stacked" ["net", "value"] (spF K 2 w_stacked)) (hlaw : b_law { nx := fun _ => False, rt := fun d => d = .bool true } (put (List.replicate N_law.length none) 1 .none)) : FnOk P w K mg base CX0 8 f fd ["_law_script"] (spLaw K) :=
  law_good (seed := 7854) F S_law ⟨by decide, by decide⟩ rfl (fun cdv A outer s H E hr => ⟨ps_set (i := 1) S_law.nd rfl (.inl rfl) (pe_lst (pa_cons (pv 0) (pa_cons pe_int (pa_cons pe_int (pa_cons pe_int pa_nil))))), [],
  (vss_cons (τ1 := ty_law_0) (vs_setP (ps_set (i := 2) S_law.nd rfl (.inr rfl) (ve_callR G__law_net (hr.mono (by decide)) (by rfl) (pv 1) (vs_cons ve_int vs_nil))))
  (vss_cons (τ1 := ty_law_0) (vs_setP (ps_set (i := 3) S_law.nd rfl (.inl rfl) (ve_ix (o_ix (u1 hr)) g_ix (VE.vb (ve_var (pv 2))) (VE.vb ve_int) (fun _ _ => rfl))))
  (vss_cons (τ1 := ty_law_0) (vs_par2C rfl S_law.nd rfl rfl (.inl rfl) (.inr rfl) (vx_cons (i := 4) (ve_callR G__law_heights (hr.mono (by decide)) (by rfl) (pv 1) (vs_cons (ve_var (pv 3)) (vs_cons (ve_callR G__law_pick (hr.mono (by decide)) (by rfl) (pv 1) (vs_cons (ve_lst (vs_cons ve_int (vs_cons ve_int vs_nil))) vs_nil)) vs_nil))) (vx_cons (i := 5) (ve_callR G__law_taken (hr.mono (by decide)) (by rfl) (pv 1) (vs_cons (ve_op o_add g_add (VE.vb (ve_var (pv 3))) (VE.vb ve_int)) vs_nil)) vx_nil)) (by kernel_rfl))
  (vss_cons (τ1 := ty_law_0) (vs_par3 rfl S_law.nd rfl rfl rfl (by decide) (by decide) (by decide) rfl rfl rfl (vx_cons (i := 6) (ve_call G_cut (hr.mono (by decide)) (by rfl) (vs_cons (ve_var (pv 2)) (vs_cons (ve_var (pv 4)) (vs_cons (ve_var (pv 5)) vs_nil)))) (vx_cons (i := 7) (ve_call G_fill (hr.mono (by decide)) (by rfl) (vs_cons (ve_var (pv 2)) (vs_cons (ve_var (pv 4)) (vs_cons (ve_var (pv 5)) vs_nil)))) (vx_cons (i := 8) (ve_call G_shave (hr.mono (by decide)) (by rfl) (vs_cons (ve_var (pv 2)) (vs_cons (ve_var (pv 4)) (vs_cons (ve_var (pv 5)) vs_nil)))) vx_nil))) (by kernel_rfl))
  (vss_cons (τ1 := ty_law_0) (vs_for (L := [9]) PassesOwn.never rfl (vi_rng1 (by rfl) b_range (va_cons (VE.vb ve_int) va_nil)) (vg_name (i := 9) S_law.nd rfl (by first | exact .inl rfl | exact .inr rfl)) (vss_cons (τ1 := ty_law_0) (vs_setP (ps_set (i := 10) S_law.nd rfl (.inl rfl) (ve_op o_add g_add (VE.vb (ve_callR G__law_pick (hr.mono (by decide)) (by rfl) (pv 1) (vs_cons (ve_var (pv 4)) vs_nil))) (VE.vb (ve_callR G__law_taken (hr.mono (by decide)) (by rfl) (pv 1) (vs_cons ve_int vs_nil))))))
  (vss_cons (τ1 := ty_law_0) (vs_setP (ps_set (i := 11) S_law.nd rfl (.inl rfl) (ve_call G_layer (hr.mono (by decide)) (by rfl) (vs_cons (ve_var (pv 2)) (vs_cons (ve_var (pv 4)) (vs_cons (ve_var (pv 10)) vs_nil))))))
  (vss_cons (τ1 := ty_law_0) (vs_if (vt_cmp (op_neD (u64 hr)) g_ne (VE.vb (ve_call G_layer (hr.mono (by decide)) (by rfl) (vs_cons (ve_var (pv 2)) (vs_cons (ve_var (pv 6)) (vs_cons (ve_var (pv 10)) vs_nil))))) (VE.vb (ve_call G_open_set (hr.mono (by decide)) (by rfl) (vs_cons (ve_var (pv 2)) (vs_cons (ve_var (pv 11)) (vs_cons (ve_var (pv 5)) vs_nil))))) (nomark _)) (vss_one (vs_ret ve_bl)) vss_nil)
  (vss_cons (τ1 := ty_law_0) (vs_if (vt_cmp (op_neD (u64 hr)) g_ne (VE.vb (ve_call G_layer (hr.mono (by decide)) (by rfl) (vs_cons (ve_var (pv 2)) (vs_cons (ve_var (pv 7)) (vs_cons (ve_var (pv 10)) vs_nil))))) (VE.vb (ve_call G_close_set (hr.mono (by decide)) (by rfl) (vs_cons (ve_var (pv 2)) (vs_cons (ve_var (pv 11)) (vs_cons (ve_var (pv 5)) vs_nil))))) (nomark _)) (vss_one (vs_ret ve_bl)) vss_nil)
  (vss_one (vs_if (vt_cmp (op_neD (u64 hr)) g_ne (VE.vb (ve_call G_layer (hr.mono (by decide)) (by rfl) (vs_cons (ve_var (pv 2)) (vs_cons (ve_var (pv 8)) (vs_cons (ve_var (pv 10)) vs_nil))))) (VE.vb (ve_call G_shave_set (hr.mono (by decide)) (by rfl) (vs_cons (ve_var (pv 2)) (vs_cons (ve_var (pv 11)) (vs_cons (ve_var (pv 5)) vs_nil))))) (nomark _)) (vss_one (vs_ret ve_bl)) vss_nil)))))))
  (vss_cons (τ1 := ty_law_0) (vs_if (VW.vt (vw_or (vt_cmp (op_neD (u64 hr)) g_ne (VE.vb (ve_call G_stacked (hr.mono (by decide)) (by rfl) (vs_cons (ve_var (pv 2)) (vs_cons (ve_call G_layers (hr.mono (by decide)) (by rfl) (vs_cons (ve_var (pv 2)) (vs_cons (ve_var (pv 6)) vs_nil))) vs_nil)))) (VE.vb (ve_var (pv 6))) (nomark _)) (vw_or1 (vt_cmp (op_neD (u64 hr)) g_ne (VE.vb (ve_ix (o_ix (u1 hr)) g_ix (VE.vb (ve_call G_layers (hr.mono (by decide)) (by rfl) (vs_cons (ve_var (pv 2)) (vs_cons (ve_var (pv 4)) vs_nil)))) (VE.vb ve_int) (fun _ _ => rfl))) (VE.vb (ve_tup (vs_cons (ve_callB (c_minG (u65 hr) rfl) g_minG (by rfl) b_min boot_min (va_cons (VE.vb (ve_var (pv 4))) va_nil)) (vs_cons (ve_rngtuple rfl (by rfl) b_tuple (vr_1 (by rfl) b_range (ve_var (pv 3)))) vs_nil)))) (nomark _))))) (vss_one (vs_ret ve_bl)) vss_nil)
  (vss_cons (τ1 := ty_law_0) (vs_setP (psF_E (ps_setLcF (i := 12) rfl S_law.nd rfl rfl (sw_true rfl rfl rfl (by decide +kernel)) (vi_seq (ve_call G_layers (hr.mono (by decide)) (by rfl) (vs_cons (ve_var (pv 2)) (vs_cons (ve_var (pv 6)) vs_nil)))) (blkOk_by (own := [(PySem.Str.ofString "_law_level", 10), (PySem.Str.ofString "_law_lot", 11)]) (by kernel_rfl)) (fun _ _ _ _ _ => (vg_tup rfl (vgs_cons (vg_name (i := 10) S_law.nd rfl (by first | exact .inl rfl | exact .inr rfl)) (vgs_cons (vg_name (i := 11) S_law.nd rfl (by first | exact .inl rfl | exact .inr rfl)) vgs_nil)))) (fun _ _ _ _ _ => vts_nil) (fun _ _ _ _ _ => (ve_call G_is_open_set (hr.mono (by decide)) (by rfl) (vs_cons (ve_var (pv 2)) (vs_cons (ve_var (pv 11)) (vs_cons (ve_var (pv 5)) vs_nil))))))))
  (vss_cons (τ1 := ty_law_0) (vs_if (vt_not (vt_cmp (o_notIn (u65 hr)) g_notIn (VE.vb ve_bl) (VE.vb (ve_var (pv 12))) (by with_unfolding_all rfl))) (vss_one (vs_ret ve_bl)) vss_nil)
  (vss_one (vs_ret (ve_cmp (op_eqD (u64 hr)) g_eq (VE.vb (ve_cmp (o_notIn (u65 hr)) g_notIn (VE.vb ve_bl) (VE.vb (VF.ve (vf_lc rfl S_law.nd (vi_seq (ve_call G_layers (hr.mono (by decide)) (by rfl) (vs_cons (ve_var (pv 2)) (vs_cons (ve_var (pv 4)) vs_nil)))) (blkOk_by (own := [(PySem.Str.ofString "_law_level", 10), (PySem.Str.ofString "_law_lot", 11)]) (by kernel_rfl)) (fun _ _ _ _ _ => (vg_tup rfl (vgs_cons (vg_name (i := 10) S_law.nd rfl (by first | exact .inl rfl | exact .inr rfl)) (vgs_cons (vg_name (i := 11) S_law.nd rfl (by first | exact .inl rfl | exact .inr rfl)) vgs_nil)))) (fun _ _ _ _ _ => vts_nil) (fun _ _ _ _ _ => (ve_call G_is_open_set (hr.mono (by decide)) (by rfl) (vs_cons (ve_var (pv 2)) (vs_cons (ve_var (pv 11)) (vs_cons (ve_var (pv 5)) vs_nil)))))))) (by with_unfolding_all rfl))) (VE.vb (ve_cmp (op_eqD (u64 hr)) g_eq (VE.vb (ve_var (pv 6))) (VE.vb (ve_var (pv 4))) (nomark _))) (nomark _))))))))))))⟩) hlaw
end
/-! what the top has written -/
theorem all_mk (hlaw : b_law { nx := fun _ => False, rt := fun d => d = .bool true } (put (List.replicate N_law.length none) 1 .none)) {l : PySem.W.OpenLaw} {w : World} {K : PySem.W.Frag} {h : Heap} {mg : Str → Option Value} {fa : Addr} (X : K.In h) (G : h.Ns mainGlobals mg) (hfa : mg "law" = some (.ref fa))
    {od0 an0 : Option Addr} {sl0 : Array (Option Value)} {oc0 kV0 dc0 pm0 cd0 ct0 : Value} {f0 : Addr}
    {od1 an1 : Option Addr} {sl1 : Array (Option Value)} {oc1 kV1 dc1 pm1 cd1 ct1 : Value} {f1 : Addr}
    {od2 an2 : Option Addr} {sl2 : Array (Option Value)} {oc2 kV2 dc2 pm2 cd2 ct2 : Value} {f2 : Addr}
    {od3 an3 : Option Addr} {sl3 : Array (Option Value)} {oc3 kV3 dc3 pm3 cd3 ct3 : Value} {f3 : Addr}
    {od4 an4 : Option Addr} {sl4 : Array (Option Value)} {oc4 kV4 dc4 pm4 cd4 ct4 : Value} {f4 : Addr}
    {od5 an5 : Option Addr} {sl5 : Array (Option Value)} {oc5 kV5 dc5 pm5 cd5 ct5 : Value} {f5 : Addr}
    {od6 an6 : Option Addr} {sl6 : Array (Option Value)} {oc6 kV6 dc6 pm6 cd6 ct6 : Value} {f6 : Addr}
    {od7 an7 : Option Addr} {sl7 : Array (Option Value)} {oc7 kV7 dc7 pm7 cd7 ct7 : Value} {f7 : Addr}
    {od8 an8 : Option Addr} {sl8 : Array (Option Value)} {oc8 kV8 dc8 pm8 cd8 ct8 : Value} {f8 : Addr}
    {od9 an9 : Option Addr} {sl9 : Array (Option Value)} {oc9 kV9 dc9 pm9 cd9 ct9 : Value} {f9 : Addr}
    {od10 an10 : Option Addr} {sl10 : Array (Option Value)} {oc10 kV10 dc10 pm10 cd10 ct10 : Value} {f10 : Addr}
    {od11 an11 : Option Addr} {sl11 : Array (Option Value)} {oc11 kV11 dc11 pm11 cd11 ct11 : Value} {f11 : Addr}
    {od12 an12 : Option Addr} {sl12 : Array (Option Value)} {oc12 kV12 dc12 pm12 cd12 ct12 : Value} {f12 : Addr}
    {od13 an13 : Option Addr} {sl13 : Array (Option Value)} {oc13 kV13 dc13 pm13 cd13 ct13 : Value} {f13 : Addr}
    {od14 an14 : Option Addr} {sl14 : Array (Option Value)} {oc14 kV14 dc14 pm14 cd14 ct14 : Value} {f14 : Addr}
    {od15 an15 : Option Addr} {sl15 : Array (Option Value)} {oc15 kV15 dc15 pm15 cd15 ct15 : Value} {f15 : Addr}
    {od16 an16 : Option Addr} {sl16 : Array (Option Value)} {oc16 kV16 dc16 pm16 cd16 ct16 : Value} {f16 : Addr}
    {od17 an17 : Option Addr} {sl17 : Array (Option Value)} {oc17 kV17 dc17 pm17 cd17 ct17 : Value} {f17 : Addr}
    {od18 an18 : Option Addr} {sl18 : Array (Option Value)} {oc18 kV18 dc18 pm18 cd18 ct18 : Value} {f18 : Addr}
    {od19 an19 : Option Addr} {sl19 : Array (Option Value)} {oc19 kV19 dc19 pm19 cd19 ct19 : Value} {f19 : Addr}
    {od20 an20 : Option Addr} {sl20 : Array (Option Value)} {oc20 kV20 dc20 pm20 cd20 ct20 : Value} {f20 : Addr}
    {od21 an21 : Option Addr} {sl21 : Array (Option Value)} {oc21 kV21 dc21 pm21 cd21 ct21 : Value} {f21 : Addr}
    {od22 an22 : Option Addr} {sl22 : Array (Option Value)} {oc22 kV22 dc22 pm22 cd22 ct22 : Value} {f22 : Addr}
    {od23 an23 : Option Addr} {sl23 : Array (Option Value)} {oc23 kV23 dc23 pm23 cd23 ct23 : Value} {f23 : Addr}
    {od24 an24 : Option Addr} {sl24 : Array (Option Value)} {oc24 kV24 dc24 pm24 cd24 ct24 : Value} {f24 : Addr}
    {od25 an25 : Option Addr} {sl25 : Array (Option Value)} {oc25 kV25 dc25 pm25 cd25 ct25 : Value} {f25 : Addr}
    {od26 an26 : Option Addr} {sl26 : Array (Option Value)} {oc26 kV26 dc26 pm26 cd26 ct26 : Value} {f26 : Addr}
    {od27 an27 : Option Addr} {sl27 : Array (Option Value)} {oc27 kV27 dc27 pm27 cd27 ct27 : Value} {f27 : Addr}
    {od28 an28 : Option Addr} {sl28 : Array (Option Value)} {oc28 kV28 dc28 pm28 cd28 ct28 : Value} {f28 : Addr}
    {od29 an29 : Option Addr} {sl29 : Array (Option Value)} {oc29 kV29 dc29 pm29 cd29 ct29 : Value} {f29 : Addr}
    {od30 an30 : Option Addr} {sl30 : Array (Option Value)} {oc30 kV30 dc30 pm30 cd30 ct30 : Value} {f30 : Addr}
    {od31 an31 : Option Addr} {sl31 : Array (Option Value)} {oc31 kV31 dc31 pm31 cd31 ct31 : Value} {f31 : Addr}
    {od32 an32 : Option Addr} {sl32 : Array (Option Value)} {oc32 kV32 dc32 pm32 cd32 ct32 : Value} {f32 : Addr}
    {od33 an33 : Option Addr} {sl33 : Array (Option Value)} {oc33 kV33 dc33 pm33 cd33 ct33 : Value} {f33 : Addr}
    {od34 an34 : Option Addr} {sl34 : Array (Option Value)} {oc34 kV34 dc34 pm34 cd34 ct34 : Value} {f34 : Addr}
    {od35 an35 : Option Addr} {sl35 : Array (Option Value)} {oc35 kV35 dc35 pm35 cd35 ct35 : Value} {f35 : Addr}
    {od36 an36 : Option Addr} {sl36 : Array (Option Value)} {oc36 kV36 dc36 pm36 cd36 ct36 : Value} {f36 : Addr}
    {od37 an37 : Option Addr} {sl37 : Array (Option Value)} {oc37 kV37 dc37 pm37 cd37 ct37 : Value} {f37 : Addr}
    {od38 an38 : Option Addr} {sl38 : Array (Option Value)} {oc38 kV38 dc38 pm38 cd38 ct38 : Value} {f38 : Addr}
    {od39 an39 : Option Addr} {sl39 : Array (Option Value)} {oc39 kV39 dc39 pm39 cd39 ct39 : Value} {f39 : Addr}
    {od40 an40 : Option Addr} {sl40 : Array (Option Value)} {oc40 kV40 dc40 pm40 cd40 ct40 : Value} {f40 : Addr}
    {od41 an41 : Option Addr} {sl41 : Array (Option Value)} {oc41 kV41 dc41 pm41 cd41 ct41 : Value} {f41 : Addr}
    {od42 an42 : Option Addr} {sl42 : Array (Option Value)} {oc42 kV42 dc42 pm42 cd42 ct42 : Value} {f42 : Addr}
    {od43 an43 : Option Addr} {sl43 : Array (Option Value)} {oc43 kV43 dc43 pm43 cd43 ct43 : Value} {f43 : Addr}
    {t_MOST_HEIGHT : Tok}
    {t_MOST_POINTS : Tok}
    (a0 : PySem.W.nsIn K mainGlobals "_law_taken" = some (some (.ref f0)))
    (l0 : K.lookup f0 = some ⟨oc0, od0, .func (PySem.W.fnOf "_law_taken" "_law_taken" (defArgs s__law_taken) (defBody s__law_taken) (defScope s__law_taken) .none kV0 dc0 pm0 an0 cd0 ct0), sl0⟩)
    (c0 : PySem.W.codeIn K cd0 "_law_taken" = true)
    (k0 : PySem.W.keepIn K (.ref f0) = true)
    (a1 : PySem.W.nsIn K mainGlobals "_law_net" = some (some (.ref f1)))
    (l1 : K.lookup f1 = some ⟨oc1, od1, .func (PySem.W.fnOf "_law_net" "_law_net" (defArgs s__law_net) (defBody s__law_net) (defScope s__law_net) .none kV1 dc1 pm1 an1 cd1 ct1), sl1⟩)
    (c1 : PySem.W.codeIn K cd1 "_law_net" = true)
    (k1 : PySem.W.keepIn K (.ref f1) = true)
    (a2 : PySem.W.nsIn K mainGlobals "_law_pick" = some (some (.ref f2)))
    (l2 : K.lookup f2 = some ⟨oc2, od2, .func (PySem.W.fnOf "_law_pick" "_law_pick" (defArgs s__law_pick) (defBody s__law_pick) (defScope s__law_pick) .none kV2 dc2 pm2 an2 cd2 ct2), sl2⟩)
    (c2 : PySem.W.codeIn K cd2 "_law_pick" = true)
    (k2 : PySem.W.keepIn K (.ref f2) = true)
    (a3 : PySem.W.nsIn K mainGlobals "_law_heights" = some (some (.ref f3)))
    (l3 : K.lookup f3 = some ⟨oc3, od3, .func (PySem.W.fnOf "_law_heights" "_law_heights" (defArgs s__law_heights) (defBody s__law_heights) (defScope s__law_heights) .none kV3 dc3 pm3 an3 cd3 ct3), sl3⟩)
    (c3 : PySem.W.codeIn K cd3 "_law_heights" = true)
    (k3 : PySem.W.keepIn K (.ref f3) = true)
    (a4 : PySem.W.nsIn K mainGlobals "tuple_of" = some (some (.ref f4)))
    (l4 : K.lookup f4 = some ⟨oc4, od4, .func (PySem.W.fnOf "tuple_of" "tuple_of" (defArgs s_tuple_of) (defBody s_tuple_of) (defScope s_tuple_of) .none kV4 dc4 pm4 an4 cd4 ct4), sl4⟩)
    (c4 : PySem.W.codeIn K cd4 "tuple_of" = true)
    (k4 : PySem.W.keepIn K (.ref f4) = true)
    (a5 : PySem.W.nsIn K mainGlobals "whole" = some (some (.ref f5)))
    (l5 : K.lookup f5 = some ⟨oc5, od5, .func (PySem.W.fnOf "whole" "whole" (defArgs s_whole) (defBody s_whole) (defScope s_whole) .none kV5 dc5 pm5 an5 cd5 ct5), sl5⟩)
    (c5 : PySem.W.codeIn K cd5 "whole" = true)
    (k5 : PySem.W.keepIn K (.ref f5) = true)
    (a6 : PySem.W.nsIn K mainGlobals "within" = some (some (.ref f6)))
    (l6 : K.lookup f6 = some ⟨oc6, od6, .func (PySem.W.fnOf "within" "within" (defArgs s_within) (defBody s_within) (defScope s_within) .none kV6 dc6 pm6 an6 cd6 ct6), sl6⟩)
    (c6 : PySem.W.codeIn K cd6 "within" = true)
    (k6 : PySem.W.keepIn K (.ref f6) = true)
    (a7 : PySem.W.nsIn K mainGlobals "need_net" = some (some (.ref f7)))
    (l7 : K.lookup f7 = some ⟨oc7, od7, .func (PySem.W.fnOf "need_net" "need_net" (defArgs s_need_net) (defBody s_need_net) (defScope s_need_net) .none kV7 dc7 pm7 an7 cd7 ct7), sl7⟩)
    (c7 : PySem.W.codeIn K cd7 "need_net" = true)
    (k7 : PySem.W.keepIn K (.ref f7) = true)
    (a8 : PySem.W.nsIn K mainGlobals "need_row" = some (some (.ref f8)))
    (l8 : K.lookup f8 = some ⟨oc8, od8, .func (PySem.W.fnOf "need_row" "need_row" (defArgs s_need_row) (defBody s_need_row) (defScope s_need_row) .none kV8 dc8 pm8 an8 cd8 ct8), sl8⟩)
    (c8 : PySem.W.codeIn K cd8 "need_row" = true)
    (k8 : PySem.W.keepIn K (.ref f8) = true)
    (a9 : PySem.W.nsIn K mainGlobals "need_both" = some (some (.ref f9)))
    (l9 : K.lookup f9 = some ⟨oc9, od9, .func (PySem.W.fnOf "need_both" "need_both" (defArgs s_need_both) (defBody s_need_both) (defScope s_need_both) .none kV9 dc9 pm9 an9 cd9 ct9), sl9⟩)
    (c9 : PySem.W.codeIn K cd9 "need_both" = true)
    (k9 : PySem.W.keepIn K (.ref f9) = true)
    (a10 : PySem.W.nsIn K mainGlobals "need_number" = some (some (.ref f10)))
    (l10 : K.lookup f10 = some ⟨oc10, od10, .func (PySem.W.fnOf "need_number" "need_number" (defArgs s_need_number) (defBody s_need_number) (defScope s_need_number) .none kV10 dc10 pm10 an10 cd10 ct10), sl10⟩)
    (c10 : PySem.W.codeIn K cd10 "need_number" = true)
    (k10 : PySem.W.keepIn K (.ref f10) = true)
    (a11 : PySem.W.nsIn K mainGlobals "need_size" = some (some (.ref f11)))
    (l11 : K.lookup f11 = some ⟨oc11, od11, .func (PySem.W.fnOf "need_size" "need_size" (defArgs s_need_size) (defBody s_need_size) (defScope s_need_size) .none kV11 dc11 pm11 an11 cd11 ct11), sl11⟩)
    (c11 : PySem.W.codeIn K cd11 "need_size" = true)
    (k11 : PySem.W.keepIn K (.ref f11) = true)
    (a12 : PySem.W.nsIn K mainGlobals "flat_with" = some (some (.ref f12)))
    (l12 : K.lookup f12 = some ⟨oc12, od12, .func (PySem.W.fnOf "flat_with" "flat_with" (defArgs s_flat_with) (defBody s_flat_with) (defScope s_flat_with) .none kV12 dc12 pm12 an12 cd12 ct12), sl12⟩)
    (c12 : PySem.W.codeIn K cd12 "flat_with" = true)
    (k12 : PySem.W.keepIn K (.ref f12) = true)
    (a13 : PySem.W.nsIn K mainGlobals "flats_of" = some (some (.ref f13)))
    (l13 : K.lookup f13 = some ⟨oc13, od13, .func (PySem.W.fnOf "flats_of" "flats_of" (defArgs s_flats_of) (defBody s_flats_of) (defScope s_flats_of) .none kV13 dc13 pm13 an13 cd13 ct13), sl13⟩)
    (c13 : PySem.W.codeIn K cd13 "flats_of" = true)
    (k13 : PySem.W.keepIn K (.ref f13) = true)
    (a14 : PySem.W.nsIn K mainGlobals "rim_of" = some (some (.ref f14)))
    (l14 : K.lookup f14 = some ⟨oc14, od14, .func (PySem.W.fnOf "rim_of" "rim_of" (defArgs s_rim_of) (defBody s_rim_of) (defScope s_rim_of) .none kV14 dc14 pm14 an14 cd14 ct14), sl14⟩)
    (c14 : PySem.W.codeIn K cd14 "rim_of" = true)
    (k14 : PySem.W.keepIn K (.ref f14) = true)
    (a15 : PySem.W.nsIn K mainGlobals "is_bump" = some (some (.ref f15)))
    (l15 : K.lookup f15 = some ⟨oc15, od15, .func (PySem.W.fnOf "is_bump" "is_bump" (defArgs s_is_bump) (defBody s_is_bump) (defScope s_is_bump) .none kV15 dc15 pm15 an15 cd15 ct15), sl15⟩)
    (c15 : PySem.W.codeIn K cd15 "is_bump" = true)
    (k15 : PySem.W.keepIn K (.ref f15) = true)
    (a16 : PySem.W.nsIn K mainGlobals "bumps_of" = some (some (.ref f16)))
    (l16 : K.lookup f16 = some ⟨oc16, od16, .func (PySem.W.fnOf "bumps_of" "bumps_of" (defArgs s_bumps_of) (defBody s_bumps_of) (defScope s_bumps_of) .none kV16 dc16 pm16 an16 cd16 ct16), sl16⟩)
    (c16 : PySem.W.codeIn K cd16 "bumps_of" = true)
    (k16 : PySem.W.keepIn K (.ref f16) = true)
    (a17 : PySem.W.nsIn K mainGlobals "cut_of" = some (some (.ref f17)))
    (l17 : K.lookup f17 = some ⟨oc17, od17, .func (PySem.W.fnOf "cut_of" "cut_of" (defArgs s_cut_of) (defBody s_cut_of) (defScope s_cut_of) .none kV17 dc17 pm17 an17 cd17 ct17), sl17⟩)
    (c17 : PySem.W.codeIn K cd17 "cut_of" = true)
    (k17 : PySem.W.keepIn K (.ref f17) = true)
    (a18 : PySem.W.nsIn K mainGlobals "near_of" = some (some (.ref f18)))
    (l18 : K.lookup f18 = some ⟨oc18, od18, .func (PySem.W.fnOf "near_of" "near_of" (defArgs s_near_of) (defBody s_near_of) (defScope s_near_of) .none kV18 dc18 pm18 an18 cd18 ct18), sl18⟩)
    (c18 : PySem.W.codeIn K cd18 "near_of" = true)
    (k18 : PySem.W.keepIn K (.ref f18) = true)
    (a19 : PySem.W.nsIn K mainGlobals "cut" = some (some (.ref f19)))
    (l19 : K.lookup f19 = some ⟨oc19, od19, .func (PySem.W.fnOf "cut" "cut" (defArgs s_cut) (defBody s_cut) (defScope s_cut) .none kV19 dc19 pm19 an19 cd19 ct19), sl19⟩)
    (c19 : PySem.W.codeIn K cd19 "cut" = true)
    (k19 : PySem.W.keepIn K (.ref f19) = true)
    (a20 : PySem.W.nsIn K mainGlobals "turned" = some (some (.ref f20)))
    (l20 : K.lookup f20 = some ⟨oc20, od20, .func (PySem.W.fnOf "turned" "turned" (defArgs s_turned) (defBody s_turned) (defScope s_turned) .none kV20 dc20 pm20 an20 cd20 ct20), sl20⟩)
    (c20 : PySem.W.codeIn K cd20 "turned" = true)
    (k20 : PySem.W.keepIn K (.ref f20) = true)
    (a21 : PySem.W.nsIn K mainGlobals "fill_of" = some (some (.ref f21)))
    (l21 : K.lookup f21 = some ⟨oc21, od21, .func (PySem.W.fnOf "fill_of" "fill_of" (defArgs s_fill_of) (defBody s_fill_of) (defScope s_fill_of) .none kV21 dc21 pm21 an21 cd21 ct21), sl21⟩)
    (c21 : PySem.W.codeIn K cd21 "fill_of" = true)
    (k21 : PySem.W.keepIn K (.ref f21) = true)
    (a22 : PySem.W.nsIn K mainGlobals "fill" = some (some (.ref f22)))
    (l22 : K.lookup f22 = some ⟨oc22, od22, .func (PySem.W.fnOf "fill" "fill" (defArgs s_fill) (defBody s_fill) (defScope s_fill) .none kV22 dc22 pm22 an22 cd22 ct22), sl22⟩)
    (c22 : PySem.W.codeIn K cd22 "fill" = true)
    (k22 : PySem.W.keepIn K (.ref f22) = true)
    (a23 : PySem.W.nsIn K mainGlobals "shaved_rows" = some (some (.ref f23)))
    (l23 : K.lookup f23 = some ⟨oc23, od23, .func (PySem.W.fnOf "shaved_rows" "shaved_rows" (defArgs s_shaved_rows) (defBody s_shaved_rows) (defScope s_shaved_rows) .none kV23 dc23 pm23 an23 cd23 ct23), sl23⟩)
    (c23 : PySem.W.codeIn K cd23 "shaved_rows" = true)
    (k23 : PySem.W.keepIn K (.ref f23) = true)
    (a24 : PySem.W.nsIn K mainGlobals "shave" = some (some (.ref f24)))
    (l24 : K.lookup f24 = some ⟨oc24, od24, .func (PySem.W.fnOf "shave" "shave" (defArgs s_shave) (defBody s_shave) (defScope s_shave) .none kV24 dc24 pm24 an24 cd24 ct24), sl24⟩)
    (c24 : PySem.W.codeIn K cd24 "shave" = true)
    (k24 : PySem.W.keepIn K (.ref f24) = true)
    (a25 : PySem.W.nsIn K mainGlobals "layer" = some (some (.ref f25)))
    (l25 : K.lookup f25 = some ⟨oc25, od25, .func (PySem.W.fnOf "layer" "layer" (defArgs s_layer) (defBody s_layer) (defScope s_layer) .none kV25 dc25 pm25 an25 cd25 ct25), sl25⟩)
    (c25 : PySem.W.codeIn K cd25 "layer" = true)
    (k25 : PySem.W.keepIn K (.ref f25) = true)
    (a26 : PySem.W.nsIn K mainGlobals "is_points" = some (some (.ref f26)))
    (l26 : K.lookup f26 = some ⟨oc26, od26, .func (PySem.W.fnOf "is_points" "is_points" (defArgs s_is_points) (defBody s_is_points) (defScope s_is_points) .none kV26 dc26 pm26 an26 cd26 ct26), sl26⟩)
    (c26 : PySem.W.codeIn K cd26 "is_points" = true)
    (k26 : PySem.W.keepIn K (.ref f26) = true)
    (a27 : PySem.W.nsIn K mainGlobals "need_points" = some (some (.ref f27)))
    (l27 : K.lookup f27 = some ⟨oc27, od27, .func (PySem.W.fnOf "need_points" "need_points" (defArgs s_need_points) (defBody s_need_points) (defScope s_need_points) .none kV27 dc27 pm27 an27 cd27 ct27), sl27⟩)
    (c27 : PySem.W.codeIn K cd27 "need_points" = true)
    (k27 : PySem.W.keepIn K (.ref f27) = true)
    (a28 : PySem.W.nsIn K mainGlobals "reach" = some (some (.ref f28)))
    (l28 : K.lookup f28 = some ⟨oc28, od28, .func (PySem.W.fnOf "reach" "reach" (defArgs s_reach) (defBody s_reach) (defScope s_reach) .none kV28 dc28 pm28 an28 cd28 ct28), sl28⟩)
    (c28 : PySem.W.codeIn K cd28 "reach" = true)
    (k28 : PySem.W.keepIn K (.ref f28) = true)
    (a29 : PySem.W.nsIn K mainGlobals "parts_of" = some (some (.ref f29)))
    (l29 : K.lookup f29 = some ⟨oc29, od29, .func (PySem.W.fnOf "parts_of" "parts_of" (defArgs s_parts_of) (defBody s_parts_of) (defScope s_parts_of) .none kV29 dc29 pm29 an29 cd29 ct29), sl29⟩)
    (c29 : PySem.W.codeIn K cd29 "parts_of" = true)
    (k29 : PySem.W.keepIn K (.ref f29) = true)
    (a30 : PySem.W.nsIn K mainGlobals "circles_of" = some (some (.ref f30)))
    (l30 : K.lookup f30 = some ⟨oc30, od30, .func (PySem.W.fnOf "circles_of" "circles_of" (defArgs s_circles_of) (defBody s_circles_of) (defScope s_circles_of) .none kV30 dc30 pm30 an30 cd30 ct30), sl30⟩)
    (c30 : PySem.W.codeIn K cd30 "circles_of" = true)
    (k30 : PySem.W.keepIn K (.ref f30) = true)
    (a31 : PySem.W.nsIn K mainGlobals "need_lot" = some (some (.ref f31)))
    (l31 : K.lookup f31 = some ⟨oc31, od31, .func (PySem.W.fnOf "need_lot" "need_lot" (defArgs s_need_lot) (defBody s_need_lot) (defScope s_need_lot) .none kV31 dc31 pm31 an31 cd31 ct31), sl31⟩)
    (c31 : PySem.W.codeIn K cd31 "need_lot" = true)
    (k31 : PySem.W.keepIn K (.ref f31) = true)
    (a32 : PySem.W.nsIn K mainGlobals "open_of" = some (some (.ref f32)))
    (l32 : K.lookup f32 = some ⟨oc32, od32, .func (PySem.W.fnOf "open_of" "open_of" (defArgs s_open_of) (defBody s_open_of) (defScope s_open_of) .none kV32 dc32 pm32 an32 cd32 ct32), sl32⟩)
    (c32 : PySem.W.codeIn K cd32 "open_of" = true)
    (k32 : PySem.W.keepIn K (.ref f32) = true)
    (a33 : PySem.W.nsIn K mainGlobals "is_open_set" = some (some (.ref f33)))
    (l33 : K.lookup f33 = some ⟨oc33, od33, .func (PySem.W.fnOf "is_open_set" "is_open_set" (defArgs s_is_open_set) (defBody s_is_open_set) (defScope s_is_open_set) .none kV33 dc33 pm33 an33 cd33 ct33), sl33⟩)
    (c33 : PySem.W.codeIn K cd33 "is_open_set" = true)
    (k33 : PySem.W.keepIn K (.ref f33) = true)
    (a34 : PySem.W.nsIn K mainGlobals "open_set" = some (some (.ref f34)))
    (l34 : K.lookup f34 = some ⟨oc34, od34, .func (PySem.W.fnOf "open_set" "open_set" (defArgs s_open_set) (defBody s_open_set) (defScope s_open_set) .none kV34 dc34 pm34 an34 cd34 ct34), sl34⟩)
    (c34 : PySem.W.codeIn K cd34 "open_set" = true)
    (k34 : PySem.W.keepIn K (.ref f34) = true)
    (a35 : PySem.W.nsIn K mainGlobals "rest_of" = some (some (.ref f35)))
    (l35 : K.lookup f35 = some ⟨oc35, od35, .func (PySem.W.fnOf "rest_of" "rest_of" (defArgs s_rest_of) (defBody s_rest_of) (defScope s_rest_of) .none kV35 dc35 pm35 an35 cd35 ct35), sl35⟩)
    (c35 : PySem.W.codeIn K cd35 "rest_of" = true)
    (k35 : PySem.W.keepIn K (.ref f35) = true)
    (a36 : PySem.W.nsIn K mainGlobals "close_of" = some (some (.ref f36)))
    (l36 : K.lookup f36 = some ⟨oc36, od36, .func (PySem.W.fnOf "close_of" "close_of" (defArgs s_close_of) (defBody s_close_of) (defScope s_close_of) .none kV36 dc36 pm36 an36 cd36 ct36), sl36⟩)
    (c36 : PySem.W.codeIn K cd36 "close_of" = true)
    (k36 : PySem.W.keepIn K (.ref f36) = true)
    (a37 : PySem.W.nsIn K mainGlobals "close_set" = some (some (.ref f37)))
    (l37 : K.lookup f37 = some ⟨oc37, od37, .func (PySem.W.fnOf "close_set" "close_set" (defArgs s_close_set) (defBody s_close_set) (defScope s_close_set) .none kV37 dc37 pm37 an37 cd37 ct37), sl37⟩)
    (c37 : PySem.W.codeIn K cd37 "close_set" = true)
    (k37 : PySem.W.keepIn K (.ref f37) = true)
    (a38 : PySem.W.nsIn K mainGlobals "shave_set" = some (some (.ref f38)))
    (l38 : K.lookup f38 = some ⟨oc38, od38, .func (PySem.W.fnOf "shave_set" "shave_set" (defArgs s_shave_set) (defBody s_shave_set) (defScope s_shave_set) .none kV38 dc38 pm38 an38 cd38 ct38), sl38⟩)
    (c38 : PySem.W.codeIn K cd38 "shave_set" = true)
    (k38 : PySem.W.keepIn K (.ref f38) = true)
    (a39 : PySem.W.nsIn K mainGlobals "is_layer" = some (some (.ref f39)))
    (l39 : K.lookup f39 = some ⟨oc39, od39, .func (PySem.W.fnOf "is_layer" "is_layer" (defArgs s_is_layer) (defBody s_is_layer) (defScope s_is_layer) .none kV39 dc39 pm39 an39 cd39 ct39), sl39⟩)
    (c39 : PySem.W.codeIn K cd39 "is_layer" = true)
    (k39 : PySem.W.keepIn K (.ref f39) = true)
    (a40 : PySem.W.nsIn K mainGlobals "stacked" = some (some (.ref f40)))
    (l40 : K.lookup f40 = some ⟨oc40, od40, .func (PySem.W.fnOf "stacked" "stacked" (defArgs s_stacked) (defBody s_stacked) (defScope s_stacked) .none kV40 dc40 pm40 an40 cd40 ct40), sl40⟩)
    (c40 : PySem.W.codeIn K cd40 "stacked" = true)
    (k40 : PySem.W.keepIn K (.ref f40) = true)
    (a41 : PySem.W.nsIn K mainGlobals "layers_of" = some (some (.ref f41)))
    (l41 : K.lookup f41 = some ⟨oc41, od41, .func (PySem.W.fnOf "layers_of" "layers_of" (defArgs s_layers_of) (defBody s_layers_of) (defScope s_layers_of) .none kV41 dc41 pm41 an41 cd41 ct41), sl41⟩)
    (c41 : PySem.W.codeIn K cd41 "layers_of" = true)
    (k41 : PySem.W.keepIn K (.ref f41) = true)
    (a42 : PySem.W.nsIn K mainGlobals "layers" = some (some (.ref f42)))
    (l42 : K.lookup f42 = some ⟨oc42, od42, .func (PySem.W.fnOf "layers" "layers" (defArgs s_layers) (defBody s_layers) (defScope s_layers) .none kV42 dc42 pm42 an42 cd42 ct42), sl42⟩)
    (c42 : PySem.W.codeIn K cd42 "layers" = true)
    (k42 : PySem.W.keepIn K (.ref f42) = true)
    (a43 : PySem.W.nsIn K mainGlobals "law" = some (some (.ref f43)))
    (l43 : K.lookup f43 = some ⟨oc43, od43, .func (PySem.W.fnOf "law" "law" (defArgs s_law) (defBody s_law) (defScope s_law) .none kV43 dc43 pm43 an43 cd43 ct43), sl43⟩)
    (c43 : PySem.W.codeIn K cd43 "law" = true)
    (k43 : PySem.W.keepIn K (.ref f43) = true)
    (z_all : PySem.W.nsIn K mainGlobals "all" = some none)
    (z_bool : PySem.W.nsIn K mainGlobals "bool" = some none)
    (z_enumerate : PySem.W.nsIn K mainGlobals "enumerate" = some none)
    (z_int : PySem.W.nsIn K mainGlobals "int" = some none)
    (z_isinstance : PySem.W.nsIn K mainGlobals "isinstance" = some none)
    (z_len : PySem.W.nsIn K mainGlobals "len" = some none)
    (z_list : PySem.W.nsIn K mainGlobals "list" = some none)
    (z_max : PySem.W.nsIn K mainGlobals "max" = some none)
    (z_min : PySem.W.nsIn K mainGlobals "min" = some none)
    (z_range : PySem.W.nsIn K mainGlobals "range" = some none)
    (z_sorted : PySem.W.nsIn K mainGlobals "sorted" = some none)
    (z_tuple : PySem.W.nsIn K mainGlobals "tuple" = some none)
    (z_zip : PySem.W.nsIn K mainGlobals "zip" = some none)
    (v_MOST_HEIGHT : PySem.W.nsIn K mainGlobals "MOST_HEIGHT" = some (some (.int 99 t_MOST_HEIGHT)))
    (v_MOST_POINTS : PySem.W.nsIn K mainGlobals "MOST_POINTS" = some (some (.int 12 t_MOST_POINTS))) :
    ∃ fd : FuncData, (∀ (s : Shared) (v : Value), BindsTo s fd ⟨[v], []⟩ [("_law_script", v)]) ∧ ∀ base : Heap, K.In base → base.Ns mainGlobals mg → FnOk l.prog w K mg base CX0 8 fa fd ["_law_script"] (spLaw K) := by
  have e := hfa.symm.trans (PySem.W.mg_of X G a43)
  cases e
  have F0 := fun_mk (st := s__law_taken) l0 c0 k0
  have b0 := F0.binds (ps := ["_law_row", "_law_many"]) fun _ _ _ _ _ _ us hl => match us, hl with | [_, _], _ => rfl
  have F1 := fun_mk (st := s__law_net) l1 c1 k1
  have b1 := F1.binds (ps := ["_law_row", "_law_most"]) fun _ _ _ _ _ _ us hl => match us, hl with | [_, _], _ => rfl
  have F2 := fun_mk (st := s__law_pick) l2 c2 k2
  have b2 := F2.binds (ps := ["_law_row", "_law_things"]) fun _ _ _ _ _ _ us hl => match us, hl with | [_, _], _ => rfl
  have F3 := fun_mk (st := s__law_heights) l3 c3 k3
  have b3 := F3.binds (ps := ["_law_row", "_law_many", "_law_top"]) fun _ _ _ _ _ _ us hl => match us, hl with | [_, _, _], _ => rfl
  have F4 := fun_mk (st := s_tuple_of) l4 c4 k4
  have b4 := F4.binds (ps := ["value", "low", "high"]) fun _ _ _ _ _ _ us hl => match us, hl with | [_, _, _], _ => rfl
  have F5 := fun_mk (st := s_whole) l5 c5 k5
  have b5 := F5.binds (ps := ["value"]) fun _ _ _ _ _ _ us hl => match us, hl with | [_], _ => rfl
  have F6 := fun_mk (st := s_within) l6 c6 k6
  have b6 := F6.binds (ps := ["value", "low", "high"]) fun _ _ _ _ _ _ us hl => match us, hl with | [_, _, _], _ => rfl
  have F7 := fun_mk (st := s_need_net) l7 c7 k7
  have b7 := F7.binds (ps := ["net"]) fun _ _ _ _ _ _ us hl => match us, hl with | [_], _ => rfl
  have F8 := fun_mk (st := s_need_row) l8 c8 k8
  have b8 := F8.binds (ps := ["net", "row"]) fun _ _ _ _ _ _ us hl => match us, hl with | [_, _], _ => rfl
  have F9 := fun_mk (st := s_need_both) l9 c9 k9
  have b9 := F9.binds (ps := ["net", "row"]) fun _ _ _ _ _ _ us hl => match us, hl with | [_, _], _ => rfl
  have F10 := fun_mk (st := s_need_number) l10 c10 k10
  have b10 := F10.binds (ps := ["value", "low", "high"]) fun _ _ _ _ _ _ us hl => match us, hl with | [_, _, _], _ => rfl
  have F11 := fun_mk (st := s_need_size) l11 c11 k11
  have b11 := F11.binds (ps := ["net", "size"]) fun _ _ _ _ _ _ us hl => match us, hl with | [_, _], _ => rfl
  have F12 := fun_mk (st := s_flat_with) l12 c12 k12
  have b12 := F12.binds (ps := ["near", "row", "point"]) fun _ _ _ _ _ _ us hl => match us, hl with | [_, _, _], _ => rfl
  have F13 := fun_mk (st := s_flats_of) l13 c13 k13
  have b13 := F13.binds (ps := ["near", "row"]) fun _ _ _ _ _ _ us hl => match us, hl with | [_, _], _ => rfl
  have F14 := fun_mk (st := s_rim_of) l14 c14 k14
  have b14 := F14.binds (ps := ["near", "points"]) fun _ _ _ _ _ _ us hl => match us, hl with | [_, _], _ => rfl
  have F15 := fun_mk (st := s_is_bump) l15 c15 k15
  have b15 := F15.binds (ps := ["near", "row", "flat"]) fun _ _ _ _ _ _ us hl => match us, hl with | [_, _, _], _ => rfl
  have F16 := fun_mk (st := s_bumps_of) l16 c16 k16
  have b16 := F16.binds (ps := ["near", "row", "size"]) fun _ _ _ _ _ _ us hl => match us, hl with | [_, _, _], _ => rfl
  have F17 := fun_mk (st := s_cut_of) l17 c17 k17
  have b17 := F17.binds (ps := ["near", "row", "size"]) fun _ _ _ _ _ _ us hl => match us, hl with | [_, _, _], _ => rfl
  have F18 := fun_mk (st := s_near_of) l18 c18 k18
  have b18 := F18.binds (ps := ["net"]) fun _ _ _ _ _ _ us hl => match us, hl with | [_], _ => rfl
  have F19 := fun_mk (st := s_cut) l19 c19 k19
  have b19 := F19.binds (ps := ["net", "row", "size"]) fun _ _ _ _ _ _ us hl => match us, hl with | [_, _, _], _ => rfl
  have F20 := fun_mk (st := s_turned) l20 c20 k20
  have b20 := F20.binds (ps := ["row"]) fun _ _ _ _ _ _ us hl => match us, hl with | [_], _ => rfl
  have F21 := fun_mk (st := s_fill_of) l21 c21 k21
  have b21 := F21.binds (ps := ["near", "row", "size"]) fun _ _ _ _ _ _ us hl => match us, hl with | [_, _, _], _ => rfl
  have F22 := fun_mk (st := s_fill) l22 c22 k22
  have b22 := F22.binds (ps := ["net", "row", "size"]) fun _ _ _ _ _ _ us hl => match us, hl with | [_, _, _], _ => rfl
  have F23 := fun_mk (st := s_shaved_rows) l23 c23 k23
  have b23 := F23.binds (ps := ["near", "row", "size"]) fun _ _ _ _ _ _ us hl => match us, hl with | [_, _, _], _ => rfl
  have F24 := fun_mk (st := s_shave) l24 c24 k24
  have b24 := F24.binds (ps := ["net", "row", "size"]) fun _ _ _ _ _ _ us hl => match us, hl with | [_, _, _], _ => rfl
  have F25 := fun_mk (st := s_layer) l25 c25 k25
  have b25 := F25.binds (ps := ["net", "row", "level"]) fun _ _ _ _ _ _ us hl => match us, hl with | [_, _, _], _ => rfl
  have F26 := fun_mk (st := s_is_points) l26 c26 k26
  have b26 := F26.binds (ps := ["net", "value"]) fun _ _ _ _ _ _ us hl => match us, hl with | [_, _], _ => rfl
  have F27 := fun_mk (st := s_need_points) l27 c27 k27
  have b27 := F27.binds (ps := ["net", "points"]) fun _ _ _ _ _ _ us hl => match us, hl with | [_, _], _ => rfl
  have F28 := fun_mk (st := s_reach) l28 c28 k28
  have b28 := F28.binds (ps := ["near", "start", "kept"]) fun _ _ _ _ _ _ us hl => match us, hl with | [_, _, _], _ => rfl
  have F29 := fun_mk (st := s_parts_of) l29 c29 k29
  have b29 := F29.binds (ps := ["near", "kept"]) fun _ _ _ _ _ _ us hl => match us, hl with | [_, _], _ => rfl
  have F30 := fun_mk (st := s_circles_of) l30 c30 k30
  have b30 := F30.binds (ps := ["net"]) fun _ _ _ _ _ _ us hl => match us, hl with | [_], _ => rfl
  have F31 := fun_mk (st := s_need_lot) l31 c31 k31
  have b31 := F31.binds (ps := ["net", "points", "size"]) fun _ _ _ _ _ _ us hl => match us, hl with | [_, _, _], _ => rfl
  have F32 := fun_mk (st := s_open_of) l32 c32 k32
  have b32 := F32.binds (ps := ["near", "whole", "points", "size"]) fun _ _ _ _ _ _ us hl => match us, hl with | [_, _, _, _], _ => rfl
  have F33 := fun_mk (st := s_is_open_set) l33 c33 k33
  have b33 := F33.binds (ps := ["net", "points", "size"]) fun _ _ _ _ _ _ us hl => match us, hl with | [_, _, _], _ => rfl
  have F34 := fun_mk (st := s_open_set) l34 c34 k34
  have b34 := F34.binds (ps := ["net", "points", "size"]) fun _ _ _ _ _ _ us hl => match us, hl with | [_, _, _], _ => rfl
  have F35 := fun_mk (st := s_rest_of) l35 c35 k35
  have b35 := F35.binds (ps := ["many", "points"]) fun _ _ _ _ _ _ us hl => match us, hl with | [_, _], _ => rfl
  have F36 := fun_mk (st := s_close_of) l36 c36 k36
  have b36 := F36.binds (ps := ["near", "whole", "points", "size"]) fun _ _ _ _ _ _ us hl => match us, hl with | [_, _, _, _], _ => rfl
  have F37 := fun_mk (st := s_close_set) l37 c37 k37
  have b37 := F37.binds (ps := ["net", "points", "size"]) fun _ _ _ _ _ _ us hl => match us, hl with | [_, _, _], _ => rfl
  have F38 := fun_mk (st := s_shave_set) l38 c38 k38
  have b38 := F38.binds (ps := ["net", "points", "size"]) fun _ _ _ _ _ _ us hl => match us, hl with | [_, _, _], _ => rfl
  have F39 := fun_mk (st := s_is_layer) l39 c39 k39
  have b39 := F39.binds (ps := ["net", "value"]) fun _ _ _ _ _ _ us hl => match us, hl with | [_, _], _ => rfl
  have F40 := fun_mk (st := s_stacked) l40 c40 k40
  have b40 := F40.binds (ps := ["net", "value"]) fun _ _ _ _ _ _ us hl => match us, hl with | [_, _], _ => rfl
  have F41 := fun_mk (st := s_layers_of) l41 c41 k41
  have b41 := F41.binds (ps := ["row"]) fun _ _ _ _ _ _ us hl => match us, hl with | [_], _ => rfl
  have F42 := fun_mk (st := s_layers) l42 c42 k42
  have b42 := F42.binds (ps := ["net", "row"]) fun _ _ _ _ _ _ us hl => match us, hl with | [_, _], _ => rfl
  have F43 := fun_mk (st := s_law) l43 c43 k43
  have b_all := PySem.W.mg_none_of X G z_all
  have b_bool := PySem.W.mg_none_of X G z_bool
  have b_enumerate := PySem.W.mg_none_of X G z_enumerate
  have b_int := PySem.W.mg_none_of X G z_int
  have b_isinstance := PySem.W.mg_none_of X G z_isinstance
  have b_len := PySem.W.mg_none_of X G z_len
  have b_list := PySem.W.mg_none_of X G z_list
  have b_max := PySem.W.mg_none_of X G z_max
  have b_min := PySem.W.mg_none_of X G z_min
  have b_range := PySem.W.mg_none_of X G z_range
  have b_sorted := PySem.W.mg_none_of X G z_sorted
  have b_tuple := PySem.W.mg_none_of X G z_tuple
  have b_zip := PySem.W.mg_none_of X G z_zip
  have c_MOST_HEIGHT : ∃ t, mg "MOST_HEIGHT" = some (.int 99 t) := ⟨_, PySem.W.mg_of X G v_MOST_HEIGHT⟩
  have c_MOST_POINTS : ∃ t, mg "MOST_POINTS" = some (.int 12 t) := ⟨_, PySem.W.mg_of X G v_MOST_POINTS⟩
  refine ⟨PySem.W.fnOf "law" "law" (defArgs s_law) (defBody s_law) (defScope s_law) .none kV43 dc43 pm43 an43 cd43 ct43, fun s v => .of_eq rfl, fun base _ _ => ?_⟩
  have G__law_taken := d__law_taken (P := l.prog) (w := w) (base := base) F0 (PySem.W.mg_of X G a0) b0 b_int b_len
  have G__law_net := d__law_net (P := l.prog) (w := w) (base := base) F1 (PySem.W.mg_of X G a1) b1 b_max b_min b_range b_sorted b_tuple G__law_taken
  have G__law_pick := d__law_pick (P := l.prog) (w := w) (base := base) F2 (PySem.W.mg_of X G a2) b2 b_len G__law_taken
  have G__law_heights := d__law_heights (P := l.prog) (w := w) (base := base) F3 (PySem.W.mg_of X G a3) b3 b_range b_tuple G__law_pick G__law_taken
  have G_tuple_of := d_tuple_of (P := l.prog) (w := w) (base := base) F4 (PySem.W.mg_of X G a4) b4 b_isinstance b_len b_tuple
  have G_whole := d_whole (P := l.prog) (w := w) (base := base) F5 (PySem.W.mg_of X G a5) b5 b_bool b_int b_isinstance
  have G_within := d_within (P := l.prog) (w := w) (base := base) F6 (PySem.W.mg_of X G a6) b6 G_whole
  have G_need_net := d_need_net (P := l.prog) (w := w) (base := base) F7 (PySem.W.mg_of X G a7) b7 b_all b_enumerate c_MOST_POINTS G_tuple_of G_within
  have G_need_row := d_need_row (P := l.prog) (w := w) (base := base) F8 (PySem.W.mg_of X G a8) b8 b_enumerate c_MOST_HEIGHT G_tuple_of G_within
  have G_need_both := d_need_both (P := l.prog) (w := w) (base := base) F9 (PySem.W.mg_of X G a9) b9 G_need_net G_need_row
  have G_need_number := d_need_number (P := l.prog) (w := w) (base := base) F10 (PySem.W.mg_of X G a10) b10 G_within
  have G_need_size := d_need_size (P := l.prog) (w := w) (base := base) F11 (PySem.W.mg_of X G a11) b11 G_need_number
  have G_flat_with := d_flat_with (P := l.prog) (w := w) (base := base) F12 (PySem.W.mg_of X G a12) b12 
  have G_flats_of := d_flats_of (P := l.prog) (w := w) (base := base) F13 (PySem.W.mg_of X G a13) b13 b_len b_range b_sorted b_tuple G_flat_with
  have G_rim_of := d_rim_of (P := l.prog) (w := w) (base := base) F14 (PySem.W.mg_of X G a14) b14 b_sorted
  have G_is_bump := d_is_bump (P := l.prog) (w := w) (base := base) F15 (PySem.W.mg_of X G a15) b15 b_max G_rim_of
  have G_bumps_of := d_bumps_of (P := l.prog) (w := w) (base := base) F16 (PySem.W.mg_of X G a16) b16 b_len G_flats_of G_is_bump
  have G_cut_of := d_cut_of (P := l.prog) (w := w) (base := base) F17 (PySem.W.mg_of X G a17) b17 b_list b_max b_tuple G_bumps_of G_rim_of
  have G_near_of := d_near_of (P := l.prog) (w := w) (base := base) F18 (PySem.W.mg_of X G a18) b18 b_range b_sorted
  have G_cut := d_cut (P := l.prog) (w := w) (base := base) F19 (PySem.W.mg_of X G a19) b19 G_cut_of G_near_of G_need_both G_need_size
  have G_turned := d_turned (P := l.prog) (w := w) (base := base) F20 (PySem.W.mg_of X G a20) b20 b_tuple
  have G_fill_of := d_fill_of (P := l.prog) (w := w) (base := base) F21 (PySem.W.mg_of X G a21) b21 G_cut_of G_turned
  have G_fill := d_fill (P := l.prog) (w := w) (base := base) F22 (PySem.W.mg_of X G a22) b22 G_fill_of G_near_of G_need_both G_need_size
  have G_shaved_rows := d_shaved_rows (P := l.prog) (w := w) (base := base) F23 (PySem.W.mg_of X G a23) b23 b_range G_cut_of G_fill_of
  have G_shave := d_shave (P := l.prog) (w := w) (base := base) F24 (PySem.W.mg_of X G a24) b24 G_near_of G_need_both G_need_size G_shaved_rows
  have G_layer := d_layer (P := l.prog) (w := w) (base := base) F25 (PySem.W.mg_of X G a25) b25 b_range b_tuple c_MOST_HEIGHT G_need_both G_need_number
  have G_is_points := d_is_points (P := l.prog) (w := w) (base := base) F26 (PySem.W.mg_of X G a26) b26 b_all b_len b_range G_tuple_of G_within
  have G_need_points := d_need_points (P := l.prog) (w := w) (base := base) F27 (PySem.W.mg_of X G a27) b27 G_is_points
  have G_reach := d_reach (P := l.prog) (w := w) (base := base) F28 (PySem.W.mg_of X G a28) b28 b_sorted b_tuple
  have G_parts_of := d_parts_of (P := l.prog) (w := w) (base := base) F29 (PySem.W.mg_of X G a29) b29 b_sorted G_reach
  have G_circles_of := d_circles_of (P := l.prog) (w := w) (base := base) F30 (PySem.W.mg_of X G a30) b30 b_range G_near_of G_parts_of
  have G_need_lot := d_need_lot (P := l.prog) (w := w) (base := base) F31 (PySem.W.mg_of X G a31) b31 G_circles_of G_near_of G_need_net G_need_points G_need_size
  have G_open_of := d_open_of (P := l.prog) (w := w) (base := base) F32 (PySem.W.mg_of X G a32) b32 b_len b_list b_sorted b_tuple G_parts_of
  have G_is_open_set := d_is_open_set (P := l.prog) (w := w) (base := base) F33 (PySem.W.mg_of X G a33) b33 G_need_lot G_open_of
  have G_open_set := d_open_set (P := l.prog) (w := w) (base := base) F34 (PySem.W.mg_of X G a34) b34 G_need_lot G_open_of
  have G_rest_of := d_rest_of (P := l.prog) (w := w) (base := base) F35 (PySem.W.mg_of X G a35) b35 b_range b_tuple
  have G_close_of := d_close_of (P := l.prog) (w := w) (base := base) F36 (PySem.W.mg_of X G a36) b36 b_len G_open_of G_rest_of
  have G_close_set := d_close_set (P := l.prog) (w := w) (base := base) F37 (PySem.W.mg_of X G a37) b37 G_close_of G_need_lot
  have G_shave_set := d_shave_set (P := l.prog) (w := w) (base := base) F38 (PySem.W.mg_of X G a38) b38 b_range G_close_of G_need_lot G_open_of
  have G_is_layer := d_is_layer (P := l.prog) (w := w) (base := base) F39 (PySem.W.mg_of X G a39) b39 c_MOST_HEIGHT G_is_points G_tuple_of G_within
  have G_stacked := d_stacked (P := l.prog) (w := w) (base := base) F40 (PySem.W.mg_of X G a40) b40 b_all b_isinstance b_len b_list b_range b_tuple b_zip G_is_layer G_need_net
  have G_layers_of := d_layers_of (P := l.prog) (w := w) (base := base) F41 (PySem.W.mg_of X G a41) b41 b_len b_range b_sorted b_tuple
  have G_layers := d_layers (P := l.prog) (w := w) (base := base) F42 (PySem.W.mg_of X G a42) b42 G_layers_of G_need_both
  exact d_law F43 b_min b_range b_tuple G__law_heights G__law_net G__law_pick G__law_taken G_close_set G_cut G_fill G_is_open_set G_layer G_layers G_open_set G_shave G_shave_set G_stacked hlaw
end K54
namespace K54
open PySem PySem.Spec VS
theorem w_whole_eq (d : D) (Q : D → Prop) : w_whole [d] Q ↔ Q (.bool (isiN "int" (tyD d) && !isiN "bool" (tyD d))) := by
  simp only [w_whole, b_whole, N_whole, wseq, wskip, wset, wret, wretN, wexpr, wifs, wfor, wnever, wbreak, wcont, wappend, wappend2, wseti, wseti2, wdput, waug, wpar2, wpar3, wunp, wpop, wwhile, wvar, wcst, w1, w2, wn, wtest, wand, wor, wnot, wandV, worV, wnotV, wif, wchain, wchain3, wnil, wcons, wcall, wtup, wlst, wlc, wiSeq, wiRng1, wiRng2, wiEnum, wgn, s_wgt, s_wgnil, s_wgcons, wyes, wrnglist, wrngtuple, wrg1, wrg2, wdisp1, wdc, wno, wsm, wslice, wsliceL, dCut, dCutL, windex, wiZip, wupd, eg, put, del, dels, dIsi, dIsi2, tyD_int, tyD_bool, tyD_tuple, tyD_list, tyD_str, tyD_none, isi_i_i, isi_i_b, isi_i_t, isi_i_l, isi_i_n, isi_i_s, isi_b_i, isi_b_b, isi_b_n, isi_t_i, isi_t_b, isi_t_t, isi_t_l, isi_t_s, isi_t_n, isi_l_i, isi_l_b, isi_l_t, isi_l_l, isi_l_n, isi_l_s, isi_s_i, isi_s_b, isi_s_s, isi_s_t, isi_s_l, isi_s_n, atI_0, atI_1, atI_2, dIx_tup, dIx_list, dLe_int, dLe_pair, dEq_int, dNe_int, dEq_bool, dNe_bool, dAdd_int, dSub_int, dLt_int, dGt_int, dGe_int, dLtG_int, dGtG_int, dGeG_int, dLeG_int, dLeG_pair, dMinG_two, dMaxG_two, dNeg_int, dLen_list, dLen_tup, dTuple_list, dTuple_tup, dSortG_list, dSortG_tup, dSortG_dic, seqD_list, seqD_tup, List.map_cons, List.map_nil, List.cons_append, List.nil_append, List.append_nil, List.replicate_succ, List.replicate_zero, List.length_cons, List.length_nil, Option.some.injEq, exists_eq_left', exists_eq_left, true_and, and_true, PyData.bool.injEq, PyData.int.injEq, PyData.list.injEq, PyData.tuple.injEq, List.cons.injEq, Nat.reduceAdd, Nat.reduceSub, Bool.not_true, Bool.not_false, Bool.and_true, Bool.true_and, Bool.and_false, Bool.false_and, if_true, if_false, Bool.false_eq_true]
  cases isiN "int" (tyD d) <;> simp
theorem w_within_int (i lo hi : Int) (Q : D → Prop) : w_within [.int i, .int lo, .int hi] Q ↔ Q (.bool (decide (lo ≤ i ∧ i ≤ hi))) := by
  simp only [w_within, b_within, N_within, w_whole_eq, wseq, wskip, wset, wret, wretN, wexpr, wifs, wfor, wnever, wbreak, wcont, wappend, wappend2, wseti, wseti2, wdput, waug, wpar2, wpar3, wunp, wpop, wwhile, wvar, wcst, w1, w2, wn, wtest, wand, wor, wnot, wandV, worV, wnotV, wif, wchain, wchain3, wnil, wcons, wcall, wtup, wlst, wlc, wiSeq, wiRng1, wiRng2, wiEnum, wgn, s_wgt, s_wgnil, s_wgcons, wyes, wrnglist, wrngtuple, wrg1, wrg2, wdisp1, wdc, wno, wsm, wslice, wsliceL, dCut, dCutL, windex, wiZip, wupd, eg, put, del, dels, dIsi, dIsi2, tyD_int, tyD_bool, tyD_tuple, tyD_list, tyD_str, tyD_none, isi_i_i, isi_i_b, isi_i_t, isi_i_l, isi_i_n, isi_i_s, isi_b_i, isi_b_b, isi_b_n, isi_t_i, isi_t_b, isi_t_t, isi_t_l, isi_t_s, isi_t_n, isi_l_i, isi_l_b, isi_l_t, isi_l_l, isi_l_n, isi_l_s, isi_s_i, isi_s_b, isi_s_s, isi_s_t, isi_s_l, isi_s_n, atI_0, atI_1, atI_2, dIx_tup, dIx_list, dLe_int, dLe_pair, dEq_int, dNe_int, dEq_bool, dNe_bool, dAdd_int, dSub_int, dLt_int, dGt_int, dGe_int, dLtG_int, dGtG_int, dGeG_int, dLeG_int, dLeG_pair, dMinG_two, dMaxG_two, dNeg_int, dLen_list, dLen_tup, dTuple_list, dTuple_tup, dSortG_list, dSortG_tup, dSortG_dic, seqD_list, seqD_tup, List.map_cons, List.map_nil, List.cons_append, List.nil_append, List.append_nil, List.replicate_succ, List.replicate_zero, List.length_cons, List.length_nil, Option.some.injEq, exists_eq_left', exists_eq_left, true_and, and_true, PyData.bool.injEq, PyData.int.injEq, PyData.list.injEq, PyData.tuple.injEq, List.cons.injEq, Nat.reduceAdd, Nat.reduceSub, Bool.not_true, Bool.not_false, Bool.and_true, Bool.true_and, Bool.and_false, Bool.false_and, if_true, if_false, Bool.false_eq_true]
  by_cases h : lo ≤ i <;> simp [h]
theorem w_tuple_of_tup (x : List D) (lo hi : Int) (Q : D → Prop) : w_tuple_of [.tuple x, .int lo, .int hi] Q ↔ Q (.bool (decide (lo ≤ x.length ∧ x.length ≤ hi))) := by
  simp only [w_tuple_of, b_tuple_of, N_tuple_of, wseq, wskip, wset, wret, wretN, wexpr, wifs, wfor, wnever, wbreak, wcont, wappend, wappend2, wseti, wseti2, wdput, waug, wpar2, wpar3, wunp, wpop, wwhile, wvar, wcst, w1, w2, wn, wtest, wand, wor, wnot, wandV, worV, wnotV, wif, wchain, wchain3, wnil, wcons, wcall, wtup, wlst, wlc, wiSeq, wiRng1, wiRng2, wiEnum, wgn, s_wgt, s_wgnil, s_wgcons, wyes, wrnglist, wrngtuple, wrg1, wrg2, wdisp1, wdc, wno, wsm, wslice, wsliceL, dCut, dCutL, windex, wiZip, wupd, eg, put, del, dels, dIsi, dIsi2, tyD_int, tyD_bool, tyD_tuple, tyD_list, tyD_str, tyD_none, isi_i_i, isi_i_b, isi_i_t, isi_i_l, isi_i_n, isi_i_s, isi_b_i, isi_b_b, isi_b_n, isi_t_i, isi_t_b, isi_t_t, isi_t_l, isi_t_s, isi_t_n, isi_l_i, isi_l_b, isi_l_t, isi_l_l, isi_l_n, isi_l_s, isi_s_i, isi_s_b, isi_s_s, isi_s_t, isi_s_l, isi_s_n, atI_0, atI_1, atI_2, dIx_tup, dIx_list, dLe_int, dLe_pair, dEq_int, dNe_int, dEq_bool, dNe_bool, dAdd_int, dSub_int, dLt_int, dGt_int, dGe_int, dLtG_int, dGtG_int, dGeG_int, dLeG_int, dLeG_pair, dMinG_two, dMaxG_two, dNeg_int, dLen_list, dLen_tup, dTuple_list, dTuple_tup, dSortG_list, dSortG_tup, dSortG_dic, seqD_list, seqD_tup, List.map_cons, List.map_nil, List.cons_append, List.nil_append, List.append_nil, List.replicate_succ, List.replicate_zero, List.length_cons, List.length_nil, Option.some.injEq, exists_eq_left', exists_eq_left, true_and, and_true, PyData.bool.injEq, PyData.int.injEq, PyData.list.injEq, PyData.tuple.injEq, List.cons.injEq, Nat.reduceAdd, Nat.reduceSub, Bool.not_true, Bool.not_false, Bool.and_true, Bool.true_and, Bool.and_false, Bool.false_and, if_true, if_false, Bool.false_eq_true]
  by_cases h : lo ≤ x.length <;> simp [h]
theorem w_need_number_ok {i lo hi : Int} {Q : D → Prop} (h : lo ≤ i ∧ i ≤ hi) : w_need_number [.int i, .int lo, .int hi] Q ↔ Q .none := by
  simp only [w_need_number, b_need_number, N_need_number, w_within_int, wseq, wskip, wset, wret, wretN, wexpr, wifs, wfor, wnever, wbreak, wcont, wappend, wappend2, wseti, wseti2, wdput, waug, wpar2, wpar3, wunp, wpop, wwhile, wvar, wcst, w1, w2, wn, wtest, wand, wor, wnot, wandV, worV, wnotV, wif, wchain, wchain3, wnil, wcons, wcall, wtup, wlst, wlc, wiSeq, wiRng1, wiRng2, wiEnum, wgn, s_wgt, s_wgnil, s_wgcons, wyes, wrnglist, wrngtuple, wrg1, wrg2, wdisp1, wdc, wno, wsm, wslice, wsliceL, dCut, dCutL, windex, wiZip, wupd, eg, put, del, dels, dIsi, dIsi2, tyD_int, tyD_bool, tyD_tuple, tyD_list, tyD_str, tyD_none, isi_i_i, isi_i_b, isi_i_t, isi_i_l, isi_i_n, isi_i_s, isi_b_i, isi_b_b, isi_b_n, isi_t_i, isi_t_b, isi_t_t, isi_t_l, isi_t_s, isi_t_n, isi_l_i, isi_l_b, isi_l_t, isi_l_l, isi_l_n, isi_l_s, isi_s_i, isi_s_b, isi_s_s, isi_s_t, isi_s_l, isi_s_n, atI_0, atI_1, atI_2, dIx_tup, dIx_list, dLe_int, dLe_pair, dEq_int, dNe_int, dEq_bool, dNe_bool, dAdd_int, dSub_int, dLt_int, dGt_int, dGe_int, dLtG_int, dGtG_int, dGeG_int, dLeG_int, dLeG_pair, dMinG_two, dMaxG_two, dNeg_int, dLen_list, dLen_tup, dTuple_list, dTuple_tup, dSortG_list, dSortG_tup, dSortG_dic, seqD_list, seqD_tup, List.map_cons, List.map_nil, List.cons_append, List.nil_append, List.append_nil, List.replicate_succ, List.replicate_zero, List.length_cons, List.length_nil, Option.some.injEq, exists_eq_left', exists_eq_left, true_and, and_true, PyData.bool.injEq, PyData.int.injEq, PyData.list.injEq, PyData.tuple.injEq, List.cons.injEq, Nat.reduceAdd, Nat.reduceSub, Bool.not_true, Bool.not_false, Bool.and_true, Bool.true_and, Bool.and_false, Bool.false_and, if_true, if_false, Bool.false_eq_true]
  simp [h]
theorem w_need_net_ok {N : Net} {Q : D → Prop} (h : N.Ok) (q : Q .none) : w_need_net [netD N] Q := by
  have h1 := h.n1
  have h12 := h.n12
  have hf := h.few
  simp only [w_need_net, b_need_net, N_need_net, netD, w_within_int, w_tuple_of_tup, wseq, wskip, wset, wret, wretN, wexpr, wifs, wfor, wnever, wbreak, wcont, wappend, wappend2, wseti, wseti2, wdput, waug, wpar2, wpar3, wunp, wpop, wwhile, wvar, wcst, w1, w2, wn, wtest, wand, wor, wnot, wandV, worV, wnotV, wif, wchain, wchain3, wnil, wcons, wcall, wtup, wlst, wlc, wiSeq, wiRng1, wiRng2, wiEnum, wgn, s_wgt, s_wgnil, s_wgcons, wyes, wrnglist, wrngtuple, wrg1, wrg2, wdisp1, wdc, wno, wsm, wslice, wsliceL, dCut, dCutL, windex, wiZip, wupd, eg, put, del, dels, dIsi, dIsi2, tyD_int, tyD_bool, tyD_tuple, tyD_list, tyD_str, tyD_none, isi_i_i, isi_i_b, isi_i_t, isi_i_l, isi_i_n, isi_i_s, isi_b_i, isi_b_b, isi_b_n, isi_t_i, isi_t_b, isi_t_t, isi_t_l, isi_t_s, isi_t_n, isi_l_i, isi_l_b, isi_l_t, isi_l_l, isi_l_n, isi_l_s, isi_s_i, isi_s_b, isi_s_s, isi_s_t, isi_s_l, isi_s_n, atI_0, atI_1, atI_2, dIx_tup, dIx_list, dLe_int, dLe_pair, dEq_int, dNe_int, dEq_bool, dNe_bool, dAdd_int, dSub_int, dLt_int, dGt_int, dGe_int, dLtG_int, dGtG_int, dGeG_int, dLeG_int, dLeG_pair, dMinG_two, dMaxG_two, dNeg_int, dLen_list, dLen_tup, dTuple_list, dTuple_tup, dSortG_list, dSortG_tup, dSortG_dic, seqD_list, seqD_tup, List.map_cons, List.map_nil, List.cons_append, List.nil_append, List.append_nil, List.replicate_succ, List.replicate_zero, List.length_cons, List.length_nil, Option.some.injEq, exists_eq_left', exists_eq_left, true_and, and_true, PyData.bool.injEq, PyData.int.injEq, PyData.list.injEq, PyData.tuple.injEq, List.cons.injEq, Nat.reduceAdd, Nat.reduceSub, Bool.not_true, Bool.not_false, Bool.and_true, Bool.true_and, Bool.and_false, Bool.false_and, if_true, if_false, Bool.false_eq_true]
  rw [if_neg (by simp), if_neg (by simp; omega), if_neg (by simp; omega)]
  refine ⟨_, _, rfl, rfl, fun _ => ?_⟩
  rw [enumD_pr]
  refine wfl_inv _ (fun _ ρ => ∃ a b c, ρ = [some (netD N), a, b, c]) (fun ρ h => q) (fun pre x post ρ M e hM hI => ?_) ⟨none, none, none, rfl⟩
  obtain ⟨a, b, c, rfl⟩ := hI
  obtain ⟨p, i⟩ := x
  have hx : N.ps[i]? = some p := by
    have : (p, i) ∈ N.ps.zipIdx := by rw [e]; simp
    exact List.mk_mem_zipIdx_iff_getElem?.mp this
  obtain ⟨p1, p2⟩ := h.prs p (List.mem_of_getElem? hx)
  simp only [encE, duoD, netD, w_tuple_of_tup, w_within_int, wseq, wskip, wset, wret, wretN, wexpr, wifs, wfor, wnever, wbreak, wcont, wappend, wappend2, wseti, wseti2, wdput, waug, wpar2, wpar3, wunp, wpop, wwhile, wvar, wcst, w1, w2, wn, wtest, wand, wor, wnot, wandV, worV, wnotV, wif, wchain, wchain3, wnil, wcons, wcall, wtup, wlst, wlc, wiSeq, wiRng1, wiRng2, wiEnum, wgn, s_wgt, s_wgnil, s_wgcons, wyes, wrnglist, wrngtuple, wrg1, wrg2, wdisp1, wdc, wno, wsm, wslice, wsliceL, dCut, dCutL, windex, wiZip, wupd, eg, put, del, dels, dIsi, dIsi2, tyD_int, tyD_bool, tyD_tuple, tyD_list, tyD_str, tyD_none, isi_i_i, isi_i_b, isi_i_t, isi_i_l, isi_i_n, isi_i_s, isi_b_i, isi_b_b, isi_b_n, isi_t_i, isi_t_b, isi_t_t, isi_t_l, isi_t_s, isi_t_n, isi_l_i, isi_l_b, isi_l_t, isi_l_l, isi_l_n, isi_l_s, isi_s_i, isi_s_b, isi_s_s, isi_s_t, isi_s_l, isi_s_n, atI_0, atI_1, atI_2, dIx_tup, dIx_list, dLe_int, dLe_pair, dEq_int, dNe_int, dEq_bool, dNe_bool, dAdd_int, dSub_int, dLt_int, dGt_int, dGe_int, dLtG_int, dGtG_int, dGeG_int, dLeG_int, dLeG_pair, dMinG_two, dMaxG_two, dNeg_int, dLen_list, dLen_tup, dTuple_list, dTuple_tup, dSortG_list, dSortG_tup, dSortG_dic, seqD_list, seqD_tup, List.map_cons, List.map_nil, List.cons_append, List.nil_append, List.append_nil, List.replicate_succ, List.replicate_zero, List.length_cons, List.length_nil, Option.some.injEq, exists_eq_left', exists_eq_left, true_and, and_true, PyData.bool.injEq, PyData.int.injEq, PyData.list.injEq, PyData.tuple.injEq, List.cons.injEq, Nat.reduceAdd, Nat.reduceSub, Bool.not_true, Bool.not_false, Bool.and_true, Bool.true_and, Bool.and_false, Bool.false_and, if_true, if_false, Bool.false_eq_true]
  rw [if_neg (by simp)]
  refine fun _ => ⟨sz_small (by decide), ?_⟩
  simp only [wcl, dAll, blsOf, Option.map_some, List.all_cons, List.all_nil, id, w_within_int, wseq, wskip, wset, wret, wretN, wexpr, wifs, wfor, wnever, wbreak, wcont, wappend, wappend2, wseti, wseti2, wdput, waug, wpar2, wpar3, wunp, wpop, wwhile, wvar, wcst, w1, w2, wn, wtest, wand, wor, wnot, wandV, worV, wnotV, wif, wchain, wchain3, wnil, wcons, wcall, wtup, wlst, wlc, wiSeq, wiRng1, wiRng2, wiEnum, wgn, s_wgt, s_wgnil, s_wgcons, wyes, wrnglist, wrngtuple, wrg1, wrg2, wdisp1, wdc, wno, wsm, wslice, wsliceL, dCut, dCutL, windex, wiZip, wupd, eg, put, del, dels, dIsi, dIsi2, tyD_int, tyD_bool, tyD_tuple, tyD_list, tyD_str, tyD_none, isi_i_i, isi_i_b, isi_i_t, isi_i_l, isi_i_n, isi_i_s, isi_b_i, isi_b_b, isi_b_n, isi_t_i, isi_t_b, isi_t_t, isi_t_l, isi_t_s, isi_t_n, isi_l_i, isi_l_b, isi_l_t, isi_l_l, isi_l_n, isi_l_s, isi_s_i, isi_s_b, isi_s_s, isi_s_t, isi_s_l, isi_s_n, atI_0, atI_1, atI_2, dIx_tup, dIx_list, dLe_int, dLe_pair, dEq_int, dNe_int, dEq_bool, dNe_bool, dAdd_int, dSub_int, dLt_int, dGt_int, dGe_int, dLtG_int, dGtG_int, dGeG_int, dLeG_int, dLeG_pair, dMinG_two, dMaxG_two, dNeg_int, dLen_list, dLen_tup, dTuple_list, dTuple_tup, dSortG_list, dSortG_tup, dSortG_dic, seqD_list, seqD_tup, List.map_cons, List.map_nil, List.cons_append, List.nil_append, List.append_nil, List.replicate_succ, List.replicate_zero, List.length_cons, List.length_nil, Option.some.injEq, exists_eq_left', exists_eq_left, true_and, and_true, PyData.bool.injEq, PyData.int.injEq, PyData.list.injEq, PyData.tuple.injEq, List.cons.injEq, Nat.reduceAdd, Nat.reduceSub, Bool.not_true, Bool.not_false, Bool.and_true, Bool.true_and, Bool.and_false, Bool.false_and, if_true, if_false, Bool.false_eq_true]
  rw [if_neg (by simp; omega), if_neg (by simp; omega)]
  have fin : M [some (PyData.tuple [natD N.n, PyData.tuple (List.map duoD N.ps)]), some (natD i), some (PyData.tuple [natD p.fst, natD p.snd]), c] := hM _ ⟨_, _, _, rfl⟩
  by_cases hi : 0 < i
  · rw [if_pos (by simp; omega)]
    have hl : i < N.ps.length := by
      rcases Nat.lt_or_ge i N.ps.length with z | z
      · exact z
      · rw [List.getElem?_eq_none z] at hx; cases hx
    have hx2 : N.ps[i - 1]? = some N.ps[i - 1] := List.getElem?_eq_getElem (by omega)
    have hlt := List.pairwise_iff_getElem.mp h.srt (i - 1) i (by omega) hl (by omega)
    rw [List.getElem?_eq_getElem hl] at hx
    cases hx
    have hat : L2.atI (N.ps.map duoD) ((i : Int) - 1) = some (duoD N.ps[i - 1]) := by
      rw [show (i : Int) - 1 = ((i - 1 : Nat) : Int) by omega]
      exact atI_of (by rw [List.getElem?_map, hx2]; rfl)
    refine ⟨_, hat, ?_⟩
    simp only [duoD, wseq, wskip, wset, wret, wretN, wexpr, wifs, wfor, wnever, wbreak, wcont, wappend, wappend2, wseti, wseti2, wdput, waug, wpar2, wpar3, wunp, wpop, wwhile, wvar, wcst, w1, w2, wn, wtest, wand, wor, wnot, wandV, worV, wnotV, wif, wchain, wchain3, wnil, wcons, wcall, wtup, wlst, wlc, wiSeq, wiRng1, wiRng2, wiEnum, wgn, s_wgt, s_wgnil, s_wgcons, wyes, wrnglist, wrngtuple, wrg1, wrg2, wdisp1, wdc, wno, wsm, wslice, wsliceL, dCut, dCutL, windex, wiZip, wupd, eg, put, del, dels, dIsi, dIsi2, tyD_int, tyD_bool, tyD_tuple, tyD_list, tyD_str, tyD_none, isi_i_i, isi_i_b, isi_i_t, isi_i_l, isi_i_n, isi_i_s, isi_b_i, isi_b_b, isi_b_n, isi_t_i, isi_t_b, isi_t_t, isi_t_l, isi_t_s, isi_t_n, isi_l_i, isi_l_b, isi_l_t, isi_l_l, isi_l_n, isi_l_s, isi_s_i, isi_s_b, isi_s_s, isi_s_t, isi_s_l, isi_s_n, atI_0, atI_1, atI_2, dIx_tup, dIx_list, dLe_int, dLe_pair, dEq_int, dNe_int, dEq_bool, dNe_bool, dAdd_int, dSub_int, dLt_int, dGt_int, dGe_int, dLtG_int, dGtG_int, dGeG_int, dLeG_int, dLeG_pair, dMinG_two, dMaxG_two, dNeg_int, dLen_list, dLen_tup, dTuple_list, dTuple_tup, dSortG_list, dSortG_tup, dSortG_dic, seqD_list, seqD_tup, List.map_cons, List.map_nil, List.cons_append, List.nil_append, List.append_nil, List.replicate_succ, List.replicate_zero, List.length_cons, List.length_nil, Option.some.injEq, exists_eq_left', exists_eq_left, true_and, and_true, PyData.bool.injEq, PyData.int.injEq, PyData.list.injEq, PyData.tuple.injEq, List.cons.injEq, Nat.reduceAdd, Nat.reduceSub, Bool.not_true, Bool.not_false, Bool.and_true, Bool.true_and, Bool.and_false, Bool.false_and, if_true, if_false, Bool.false_eq_true]
    rw [if_neg]
    · exact fin
    · unfold lexlt at hlt
      simp
      omega
  · rw [if_neg (by simp; omega)]
    exact fin
theorem w_near_of_ok {N : Net} {Q : D → Prop} (h : N.Ok) (q : Q (nearD N)) : w_near_of [netD N] Q := by
  have h1 := h.n1
  have h12 := h.n12
  have hf := h.few
  simp only [w_near_of, b_near_of, N_near_of, netD, wseq, wskip, wset, wret, wretN, wexpr, wifs, wfor, wnever, wbreak, wcont, wappend, wappend2, wseti, wseti2, wdput, waug, wpar2, wpar3, wunp, wpop, wwhile, wvar, wcst, w1, w2, wn, wtest, wand, wor, wnot, wandV, worV, wnotV, wif, wchain, wchain3, wnil, wcons, wcall, wtup, wlst, wlc, wiSeq, wiRng1, wiRng2, wiEnum, wgn, s_wgt, s_wgnil, s_wgcons, wyes, wrnglist, wrngtuple, wrg1, wrg2, wdisp1, wdc, wno, wsm, wslice, wsliceL, dCut, dCutL, windex, wiZip, wupd, eg, put, del, dels, dIsi, dIsi2, tyD_int, tyD_bool, tyD_tuple, tyD_list, tyD_str, tyD_none, isi_i_i, isi_i_b, isi_i_t, isi_i_l, isi_i_n, isi_i_s, isi_b_i, isi_b_b, isi_b_n, isi_t_i, isi_t_b, isi_t_t, isi_t_l, isi_t_s, isi_t_n, isi_l_i, isi_l_b, isi_l_t, isi_l_l, isi_l_n, isi_l_s, isi_s_i, isi_s_b, isi_s_s, isi_s_t, isi_s_l, isi_s_n, atI_0, atI_1, atI_2, dIx_tup, dIx_list, dLe_int, dLe_pair, dEq_int, dNe_int, dEq_bool, dNe_bool, dAdd_int, dSub_int, dLt_int, dGt_int, dGe_int, dLtG_int, dGtG_int, dGeG_int, dLeG_int, dLeG_pair, dMinG_two, dMaxG_two, dNeg_int, dLen_list, dLen_tup, dTuple_list, dTuple_tup, dSortG_list, dSortG_tup, dSortG_dic, seqD_list, seqD_tup, List.map_cons, List.map_nil, List.cons_append, List.nil_append, List.append_nil, List.replicate_succ, List.replicate_zero, List.length_cons, List.length_nil, Option.some.injEq, exists_eq_left', exists_eq_left, true_and, and_true, PyData.bool.injEq, PyData.int.injEq, PyData.list.injEq, PyData.tuple.injEq, List.cons.injEq, Nat.reduceAdd, Nat.reduceSub, Bool.not_true, Bool.not_false, Bool.and_true, Bool.true_and, Bool.and_false, Bool.false_and, if_true, if_false, Bool.false_eq_true]
  refine ⟨⟨by omega, by omega⟩, by rw [rngD_len]; exact sz_small (by omega), ?_⟩
  rw [Int.toNat_natCast, rngD_nat]
  refine wcl_map (fun i : Nat => PyData.int i) (fun v => natL (accL [] v)) id _ _ _ (fun x hx Qt hq => ?_) ?_
  · simp only [wseq, wskip, wset, wret, wretN, wexpr, wifs, wfor, wnever, wbreak, wcont, wappend, wappend2, wseti, wseti2, wdput, waug, wpar2, wpar3, wunp, wpop, wwhile, wvar, wcst, w1, w2, wn, wtest, wand, wor, wnot, wandV, worV, wnotV, wif, wchain, wchain3, wnil, wcons, wcall, wtup, wlst, wlc, wiSeq, wiRng1, wiRng2, wiEnum, wgn, s_wgt, s_wgnil, s_wgcons, wyes, wrnglist, wrngtuple, wrg1, wrg2, wdisp1, wdc, wno, wsm, wslice, wsliceL, dCut, dCutL, windex, wiZip, wupd, eg, put, del, dels, dIsi, dIsi2, tyD_int, tyD_bool, tyD_tuple, tyD_list, tyD_str, tyD_none, isi_i_i, isi_i_b, isi_i_t, isi_i_l, isi_i_n, isi_i_s, isi_b_i, isi_b_b, isi_b_n, isi_t_i, isi_t_b, isi_t_t, isi_t_l, isi_t_s, isi_t_n, isi_l_i, isi_l_b, isi_l_t, isi_l_l, isi_l_n, isi_l_s, isi_s_i, isi_s_b, isi_s_s, isi_s_t, isi_s_l, isi_s_n, atI_0, atI_1, atI_2, dIx_tup, dIx_list, dLe_int, dLe_pair, dEq_int, dNe_int, dEq_bool, dNe_bool, dAdd_int, dSub_int, dLt_int, dGt_int, dGe_int, dLtG_int, dGtG_int, dGeG_int, dLeG_int, dLeG_pair, dMinG_two, dMaxG_two, dNeg_int, dLen_list, dLen_tup, dTuple_list, dTuple_tup, dSortG_list, dSortG_tup, dSortG_dic, seqD_list, seqD_tup, List.map_cons, List.map_nil, List.cons_append, List.nil_append, List.append_nil, List.replicate_succ, List.replicate_zero, List.length_cons, List.length_nil, Option.some.injEq, exists_eq_left', exists_eq_left, true_and, and_true, PyData.bool.injEq, PyData.int.injEq, PyData.list.injEq, PyData.tuple.injEq, List.cons.injEq, Nat.reduceAdd, Nat.reduceSub, Bool.not_true, Bool.not_false, Bool.and_true, Bool.true_and, Bool.and_false, Bool.false_and, if_true, if_false, Bool.false_eq_true]
    exact ⟨by decide, hq⟩
  simp only [List.map_id, wseq, wskip, wset, wret, wretN, wexpr, wifs, wfor, wnever, wbreak, wcont, wappend, wappend2, wseti, wseti2, wdput, waug, wpar2, wpar3, wunp, wpop, wwhile, wvar, wcst, w1, w2, wn, wtest, wand, wor, wnot, wandV, worV, wnotV, wif, wchain, wchain3, wnil, wcons, wcall, wtup, wlst, wlc, wiSeq, wiRng1, wiRng2, wiEnum, wgn, s_wgt, s_wgnil, s_wgcons, wyes, wrnglist, wrngtuple, wrg1, wrg2, wdisp1, wdc, wno, wsm, wslice, wsliceL, dCut, dCutL, windex, wiZip, wupd, eg, put, del, dels, dIsi, dIsi2, tyD_int, tyD_bool, tyD_tuple, tyD_list, tyD_str, tyD_none, isi_i_i, isi_i_b, isi_i_t, isi_i_l, isi_i_n, isi_i_s, isi_b_i, isi_b_b, isi_b_n, isi_t_i, isi_t_b, isi_t_t, isi_t_l, isi_t_s, isi_t_n, isi_l_i, isi_l_b, isi_l_t, isi_l_l, isi_l_n, isi_l_s, isi_s_i, isi_s_b, isi_s_s, isi_s_t, isi_s_l, isi_s_n, atI_0, atI_1, atI_2, dIx_tup, dIx_list, dLe_int, dLe_pair, dEq_int, dNe_int, dEq_bool, dNe_bool, dAdd_int, dSub_int, dLt_int, dGt_int, dGe_int, dLtG_int, dGtG_int, dGeG_int, dLeG_int, dLeG_pair, dMinG_two, dMaxG_two, dNeg_int, dLen_list, dLen_tup, dTuple_list, dTuple_tup, dSortG_list, dSortG_tup, dSortG_dic, seqD_list, seqD_tup, List.map_cons, List.map_nil, List.cons_append, List.nil_append, List.append_nil, List.replicate_succ, List.replicate_zero, List.length_cons, List.length_nil, Option.some.injEq, exists_eq_left', exists_eq_left, true_and, and_true, PyData.bool.injEq, PyData.int.injEq, PyData.list.injEq, PyData.tuple.injEq, List.cons.injEq, Nat.reduceAdd, Nat.reduceSub, Bool.not_true, Bool.not_false, Bool.and_true, Bool.true_and, Bool.and_false, Bool.false_and, if_true, if_false, Bool.false_eq_true]
  refine fun _ => ?_
  refine wfl_inv _ (fun pre ρ => ∃ a b c d, ρ = [some (netD N), some (.list (foundD N pre)), a, b, c, d]) (fun ρ hI => ?_) (fun pre x post ρ M e hM hI => ?_) ⟨none, none, none, none, rfl⟩
  · obtain ⟨a, b, c, d, rfl⟩ := hI
    simp only [wseq, wskip, wset, wret, wretN, wexpr, wifs, wfor, wnever, wbreak, wcont, wappend, wappend2, wseti, wseti2, wdput, waug, wpar2, wpar3, wunp, wpop, wwhile, wvar, wcst, w1, w2, wn, wtest, wand, wor, wnot, wandV, worV, wnotV, wif, wchain, wchain3, wnil, wcons, wcall, wtup, wlst, wlc, wiSeq, wiRng1, wiRng2, wiEnum, wgn, s_wgt, s_wgnil, s_wgcons, wyes, wrnglist, wrngtuple, wrg1, wrg2, wdisp1, wdc, wno, wsm, wslice, wsliceL, dCut, dCutL, windex, wiZip, wupd, eg, put, del, dels, dIsi, dIsi2, tyD_int, tyD_bool, tyD_tuple, tyD_list, tyD_str, tyD_none, isi_i_i, isi_i_b, isi_i_t, isi_i_l, isi_i_n, isi_i_s, isi_b_i, isi_b_b, isi_b_n, isi_t_i, isi_t_b, isi_t_t, isi_t_l, isi_t_s, isi_t_n, isi_l_i, isi_l_b, isi_l_t, isi_l_l, isi_l_n, isi_l_s, isi_s_i, isi_s_b, isi_s_s, isi_s_t, isi_s_l, isi_s_n, atI_0, atI_1, atI_2, dIx_tup, dIx_list, dLe_int, dLe_pair, dEq_int, dNe_int, dEq_bool, dNe_bool, dAdd_int, dSub_int, dLt_int, dGt_int, dGe_int, dLtG_int, dGtG_int, dGeG_int, dLeG_int, dLeG_pair, dMinG_two, dMaxG_two, dNeg_int, dLen_list, dLen_tup, dTuple_list, dTuple_tup, dSortG_list, dSortG_tup, dSortG_dic, seqD_list, seqD_tup, List.map_cons, List.map_nil, List.cons_append, List.nil_append, List.append_nil, List.replicate_succ, List.replicate_zero, List.length_cons, List.length_nil, Option.some.injEq, exists_eq_left', exists_eq_left, true_and, and_true, PyData.bool.injEq, PyData.int.injEq, PyData.list.injEq, PyData.tuple.injEq, List.cons.injEq, Nat.reduceAdd, Nat.reduceSub, Bool.not_true, Bool.not_false, Bool.and_true, Bool.true_and, Bool.and_false, Bool.false_and, if_true, if_false, Bool.false_eq_true]
    refine fun _ => ⟨by unfold foundD; rw [List.length_map, List.length_range]; exact sz_small (by omega), ?_⟩
    unfold foundD
    refine wcl_map (fun v => natL (accL N.ps v)) (fun v => natL (near N v)) id _ _ _ (fun x hx Qt hq => ?_) ?_
    · simp only [natL, sorted_nat, accL_sort h, wseq, wskip, wset, wret, wretN, wexpr, wifs, wfor, wnever, wbreak, wcont, wappend, wappend2, wseti, wseti2, wdput, waug, wpar2, wpar3, wunp, wpop, wwhile, wvar, wcst, w1, w2, wn, wtest, wand, wor, wnot, wandV, worV, wnotV, wif, wchain, wchain3, wnil, wcons, wcall, wtup, wlst, wlc, wiSeq, wiRng1, wiRng2, wiEnum, wgn, s_wgt, s_wgnil, s_wgcons, wyes, wrnglist, wrngtuple, wrg1, wrg2, wdisp1, wdc, wno, wsm, wslice, wsliceL, dCut, dCutL, windex, wiZip, wupd, eg, put, del, dels, dIsi, dIsi2, tyD_int, tyD_bool, tyD_tuple, tyD_list, tyD_str, tyD_none, isi_i_i, isi_i_b, isi_i_t, isi_i_l, isi_i_n, isi_i_s, isi_b_i, isi_b_b, isi_b_n, isi_t_i, isi_t_b, isi_t_t, isi_t_l, isi_t_s, isi_t_n, isi_l_i, isi_l_b, isi_l_t, isi_l_l, isi_l_n, isi_l_s, isi_s_i, isi_s_b, isi_s_s, isi_s_t, isi_s_l, isi_s_n, atI_0, atI_1, atI_2, dIx_tup, dIx_list, dLe_int, dLe_pair, dEq_int, dNe_int, dEq_bool, dNe_bool, dAdd_int, dSub_int, dLt_int, dGt_int, dGe_int, dLtG_int, dGtG_int, dGeG_int, dLeG_int, dLeG_pair, dMinG_two, dMaxG_two, dNeg_int, dLen_list, dLen_tup, dTuple_list, dTuple_tup, dSortG_list, dSortG_tup, dSortG_dic, seqD_list, seqD_tup, List.map_cons, List.map_nil, List.cons_append, List.nil_append, List.append_nil, List.replicate_succ, List.replicate_zero, List.length_cons, List.length_nil, Option.some.injEq, exists_eq_left', exists_eq_left, true_and, and_true, PyData.bool.injEq, PyData.int.injEq, PyData.list.injEq, PyData.tuple.injEq, List.cons.injEq, Nat.reduceAdd, Nat.reduceSub, Bool.not_true, Bool.not_false, Bool.and_true, Bool.true_and, Bool.and_false, Bool.false_and, if_true, if_false, Bool.false_eq_true]
      exact hq
    · simp only [List.map_id, wseq, wskip, wset, wret, wretN, wexpr, wifs, wfor, wnever, wbreak, wcont, wappend, wappend2, wseti, wseti2, wdput, waug, wpar2, wpar3, wunp, wpop, wwhile, wvar, wcst, w1, w2, wn, wtest, wand, wor, wnot, wandV, worV, wnotV, wif, wchain, wchain3, wnil, wcons, wcall, wtup, wlst, wlc, wiSeq, wiRng1, wiRng2, wiEnum, wgn, s_wgt, s_wgnil, s_wgcons, wyes, wrnglist, wrngtuple, wrg1, wrg2, wdisp1, wdc, wno, wsm, wslice, wsliceL, dCut, dCutL, windex, wiZip, wupd, eg, put, del, dels, dIsi, dIsi2, tyD_int, tyD_bool, tyD_tuple, tyD_list, tyD_str, tyD_none, isi_i_i, isi_i_b, isi_i_t, isi_i_l, isi_i_n, isi_i_s, isi_b_i, isi_b_b, isi_b_n, isi_t_i, isi_t_b, isi_t_t, isi_t_l, isi_t_s, isi_t_n, isi_l_i, isi_l_b, isi_l_t, isi_l_l, isi_l_n, isi_l_s, isi_s_i, isi_s_b, isi_s_s, isi_s_t, isi_s_l, isi_s_n, atI_0, atI_1, atI_2, dIx_tup, dIx_list, dLe_int, dLe_pair, dEq_int, dNe_int, dEq_bool, dNe_bool, dAdd_int, dSub_int, dLt_int, dGt_int, dGe_int, dLtG_int, dGtG_int, dGeG_int, dLeG_int, dLeG_pair, dMinG_two, dMaxG_two, dNeg_int, dLen_list, dLen_tup, dTuple_list, dTuple_tup, dSortG_list, dSortG_tup, dSortG_dic, seqD_list, seqD_tup, List.map_cons, List.map_nil, List.cons_append, List.nil_append, List.append_nil, List.replicate_succ, List.replicate_zero, List.length_cons, List.length_nil, Option.some.injEq, exists_eq_left', exists_eq_left, true_and, and_true, PyData.bool.injEq, PyData.int.injEq, PyData.list.injEq, PyData.tuple.injEq, List.cons.injEq, Nat.reduceAdd, Nat.reduceSub, Bool.not_true, Bool.not_false, Bool.and_true, Bool.true_and, Bool.and_false, Bool.false_and, if_true, if_false, Bool.false_eq_true]
      exact q
  · obtain ⟨a, b, c, d, rfl⟩ := hI
    have hx := h.prs x (by rw [e]; simp)
    have hl : pre.length ≤ 66 := by
      have := congrArg List.length e
      rw [List.length_append] at this; omega
    have hlen : (foundD N pre).length = N.n := by unfold foundD; simp
    have f1 : ∀ v, v < N.n → (foundD N pre)[v]? = some (natL (accL pre v)) := fun v hv => by
      unfold foundD
      rw [List.getElem?_map, List.getElem?_range hv]; rfl
    simp only [duoD, wseq, wskip, wset, wret, wretN, wexpr, wifs, wfor, wnever, wbreak, wcont, wappend, wappend2, wseti, wseti2, wdput, waug, wpar2, wpar3, wunp, wpop, wwhile, wvar, wcst, w1, w2, wn, wtest, wand, wor, wnot, wandV, worV, wnotV, wif, wchain, wchain3, wnil, wcons, wcall, wtup, wlst, wlc, wiSeq, wiRng1, wiRng2, wiEnum, wgn, s_wgt, s_wgnil, s_wgcons, wyes, wrnglist, wrngtuple, wrg1, wrg2, wdisp1, wdc, wno, wsm, wslice, wsliceL, dCut, dCutL, windex, wiZip, wupd, eg, put, del, dels, dIsi, dIsi2, tyD_int, tyD_bool, tyD_tuple, tyD_list, tyD_str, tyD_none, isi_i_i, isi_i_b, isi_i_t, isi_i_l, isi_i_n, isi_i_s, isi_b_i, isi_b_b, isi_b_n, isi_t_i, isi_t_b, isi_t_t, isi_t_l, isi_t_s, isi_t_n, isi_l_i, isi_l_b, isi_l_t, isi_l_l, isi_l_n, isi_l_s, isi_s_i, isi_s_b, isi_s_s, isi_s_t, isi_s_l, isi_s_n, atI_0, atI_1, atI_2, dIx_tup, dIx_list, dLe_int, dLe_pair, dEq_int, dNe_int, dEq_bool, dNe_bool, dAdd_int, dSub_int, dLt_int, dGt_int, dGe_int, dLtG_int, dGtG_int, dGeG_int, dLeG_int, dLeG_pair, dMinG_two, dMaxG_two, dNeg_int, dLen_list, dLen_tup, dTuple_list, dTuple_tup, dSortG_list, dSortG_tup, dSortG_dic, seqD_list, seqD_tup, List.map_cons, List.map_nil, List.cons_append, List.nil_append, List.append_nil, List.replicate_succ, List.replicate_zero, List.length_cons, List.length_nil, Option.some.injEq, exists_eq_left', exists_eq_left, true_and, and_true, PyData.bool.injEq, PyData.int.injEq, PyData.list.injEq, PyData.tuple.injEq, List.cons.injEq, Nat.reduceAdd, Nat.reduceSub, Bool.not_true, Bool.not_false, Bool.and_true, Bool.true_and, Bool.and_false, Bool.false_and, if_true, if_false, Bool.false_eq_true]
    refine ⟨_, _, x.1, _, rfl, rfl, by rw [hlen]; exact ixN_nat (by omega), by rw [f1 _ (by omega)]; rfl, by rw [List.length_map]; exact Nat.lt_of_le_of_lt (accL_len _ _) (Nat.lt_of_le_of_lt hl (by decide)), ?_⟩
    refine ⟨_, _, x.2, _, rfl, rfl, by rw [List.length_set, hlen]; exact ixN_nat (by omega), by rw [List.getElem?_set_ne (by omega), f1 _ (by omega)]; rfl, by rw [List.length_map]; exact Nat.lt_of_le_of_lt (accL_len _ _) (Nat.lt_of_le_of_lt hl (by decide)), ?_⟩
    refine hM _ ⟨some (natD x.1), some (natD x.2), c, d, ?_⟩
    rw [← foundD_step N pre x hx.1 hx.2]
theorem w_need_row_ok {N : Net} {hs : List Int} {Q : D → Prop} (h : RowOk N.n hs) (hn : N.n ≤ 1000) (q : Q .none) : w_need_row [netD N, rowD hs] Q := by
  simp only [w_need_row, b_need_row, N_need_row, netD, rowD, w_tuple_of_tup, wseq, wskip, wset, wret, wretN, wexpr, wifs, wfor, wnever, wbreak, wcont, wappend, wappend2, wseti, wseti2, wdput, waug, wpar2, wpar3, wunp, wpop, wwhile, wvar, wcst, w1, w2, wn, wtest, wand, wor, wnot, wandV, worV, wnotV, wif, wchain, wchain3, wnil, wcons, wcall, wtup, wlst, wlc, wiSeq, wiRng1, wiRng2, wiEnum, wgn, s_wgt, s_wgnil, s_wgcons, wyes, wrnglist, wrngtuple, wrg1, wrg2, wdisp1, wdc, wno, wsm, wslice, wsliceL, dCut, dCutL, windex, wiZip, wupd, eg, put, del, dels, dIsi, dIsi2, tyD_int, tyD_bool, tyD_tuple, tyD_list, tyD_str, tyD_none, isi_i_i, isi_i_b, isi_i_t, isi_i_l, isi_i_n, isi_i_s, isi_b_i, isi_b_b, isi_b_n, isi_t_i, isi_t_b, isi_t_t, isi_t_l, isi_t_s, isi_t_n, isi_l_i, isi_l_b, isi_l_t, isi_l_l, isi_l_n, isi_l_s, isi_s_i, isi_s_b, isi_s_s, isi_s_t, isi_s_l, isi_s_n, atI_0, atI_1, atI_2, dIx_tup, dIx_list, dLe_int, dLe_pair, dEq_int, dNe_int, dEq_bool, dNe_bool, dAdd_int, dSub_int, dLt_int, dGt_int, dGe_int, dLtG_int, dGtG_int, dGeG_int, dLeG_int, dLeG_pair, dMinG_two, dMaxG_two, dNeg_int, dLen_list, dLen_tup, dTuple_list, dTuple_tup, dSortG_list, dSortG_tup, dSortG_dic, seqD_list, seqD_tup, List.map_cons, List.map_nil, List.cons_append, List.nil_append, List.append_nil, List.replicate_succ, List.replicate_zero, List.length_cons, List.length_nil, Option.some.injEq, exists_eq_left', exists_eq_left, true_and, and_true, PyData.bool.injEq, PyData.int.injEq, PyData.list.injEq, PyData.tuple.injEq, List.cons.injEq, Nat.reduceAdd, Nat.reduceSub, Bool.not_true, Bool.not_false, Bool.and_true, Bool.true_and, Bool.and_false, Bool.false_and, if_true, if_false, Bool.false_eq_true]
  rw [if_neg (by simp [h.len])]
  refine ⟨_, _, rfl, rfl, fun _ => ?_⟩
  have e : enumD (hs.map intD) = hs.zipIdx.map (fun z => PyData.tuple [natD z.2, intD z.1]) := by
    unfold enumD
    rw [List.zipIdx_map, List.map_map]
    rfl
  rw [e]
  refine wfl_inv _ (fun _ ρ => ∃ a b, ρ = [some (netD N), some (rowD hs), a, b]) (fun ρ h => q) (fun pre x post ρ M e hM hI => ?_) ⟨none, none, rfl⟩
  obtain ⟨a, b, rfl⟩ := hI
  have hx := h.bnd x.1 (by
    have : x ∈ hs.zipIdx := by rw [e]; simp
    exact (List.mem_of_getElem? (List.mk_mem_zipIdx_iff_getElem?.mp this)))
  simp only [w_within_int, wseq, wskip, wset, wret, wretN, wexpr, wifs, wfor, wnever, wbreak, wcont, wappend, wappend2, wseti, wseti2, wdput, waug, wpar2, wpar3, wunp, wpop, wwhile, wvar, wcst, w1, w2, wn, wtest, wand, wor, wnot, wandV, worV, wnotV, wif, wchain, wchain3, wnil, wcons, wcall, wtup, wlst, wlc, wiSeq, wiRng1, wiRng2, wiEnum, wgn, s_wgt, s_wgnil, s_wgcons, wyes, wrnglist, wrngtuple, wrg1, wrg2, wdisp1, wdc, wno, wsm, wslice, wsliceL, dCut, dCutL, windex, wiZip, wupd, eg, put, del, dels, dIsi, dIsi2, tyD_int, tyD_bool, tyD_tuple, tyD_list, tyD_str, tyD_none, isi_i_i, isi_i_b, isi_i_t, isi_i_l, isi_i_n, isi_i_s, isi_b_i, isi_b_b, isi_b_n, isi_t_i, isi_t_b, isi_t_t, isi_t_l, isi_t_s, isi_t_n, isi_l_i, isi_l_b, isi_l_t, isi_l_l, isi_l_n, isi_l_s, isi_s_i, isi_s_b, isi_s_s, isi_s_t, isi_s_l, isi_s_n, atI_0, atI_1, atI_2, dIx_tup, dIx_list, dLe_int, dLe_pair, dEq_int, dNe_int, dEq_bool, dNe_bool, dAdd_int, dSub_int, dLt_int, dGt_int, dGe_int, dLtG_int, dGtG_int, dGeG_int, dLeG_int, dLeG_pair, dMinG_two, dMaxG_two, dNeg_int, dLen_list, dLen_tup, dTuple_list, dTuple_tup, dSortG_list, dSortG_tup, dSortG_dic, seqD_list, seqD_tup, List.map_cons, List.map_nil, List.cons_append, List.nil_append, List.append_nil, List.replicate_succ, List.replicate_zero, List.length_cons, List.length_nil, Option.some.injEq, exists_eq_left', exists_eq_left, true_and, and_true, PyData.bool.injEq, PyData.int.injEq, PyData.list.injEq, PyData.tuple.injEq, List.cons.injEq, Nat.reduceAdd, Nat.reduceSub, Bool.not_true, Bool.not_false, Bool.and_true, Bool.true_and, Bool.and_false, Bool.false_and, if_true, if_false, Bool.false_eq_true]
  rw [if_neg (by simp; omega)]
  exact hM _ ⟨_, _, rfl⟩
theorem w_need_both_ok {N : Net} {hs : List Int} {Q : D → Prop} (h : N.Ok) (hr : RowOk N.n hs) (q : Q .none) : w_need_both [netD N, rowD hs] Q := by
  simp only [w_need_both, b_need_both, N_need_both, wseq, wskip, wset, wret, wretN, wexpr, wifs, wfor, wnever, wbreak, wcont, wappend, wappend2, wseti, wseti2, wdput, waug, wpar2, wpar3, wunp, wpop, wwhile, wvar, wcst, w1, w2, wn, wtest, wand, wor, wnot, wandV, worV, wnotV, wif, wchain, wchain3, wnil, wcons, wcall, wtup, wlst, wlc, wiSeq, wiRng1, wiRng2, wiEnum, wgn, s_wgt, s_wgnil, s_wgcons, wyes, wrnglist, wrngtuple, wrg1, wrg2, wdisp1, wdc, wno, wsm, wslice, wsliceL, dCut, dCutL, windex, wiZip, wupd, eg, put, del, dels, dIsi, dIsi2, tyD_int, tyD_bool, tyD_tuple, tyD_list, tyD_str, tyD_none, isi_i_i, isi_i_b, isi_i_t, isi_i_l, isi_i_n, isi_i_s, isi_b_i, isi_b_b, isi_b_n, isi_t_i, isi_t_b, isi_t_t, isi_t_l, isi_t_s, isi_t_n, isi_l_i, isi_l_b, isi_l_t, isi_l_l, isi_l_n, isi_l_s, isi_s_i, isi_s_b, isi_s_s, isi_s_t, isi_s_l, isi_s_n, atI_0, atI_1, atI_2, dIx_tup, dIx_list, dLe_int, dLe_pair, dEq_int, dNe_int, dEq_bool, dNe_bool, dAdd_int, dSub_int, dLt_int, dGt_int, dGe_int, dLtG_int, dGtG_int, dGeG_int, dLeG_int, dLeG_pair, dMinG_two, dMaxG_two, dNeg_int, dLen_list, dLen_tup, dTuple_list, dTuple_tup, dSortG_list, dSortG_tup, dSortG_dic, seqD_list, seqD_tup, List.map_cons, List.map_nil, List.cons_append, List.nil_append, List.append_nil, List.replicate_succ, List.replicate_zero, List.length_cons, List.length_nil, Option.some.injEq, exists_eq_left', exists_eq_left, true_and, and_true, PyData.bool.injEq, PyData.int.injEq, PyData.list.injEq, PyData.tuple.injEq, List.cons.injEq, Nat.reduceAdd, Nat.reduceSub, Bool.not_true, Bool.not_false, Bool.and_true, Bool.true_and, Bool.and_false, Bool.false_and, if_true, if_false, Bool.false_eq_true]
  have := h.n12
  exact w_need_net_ok h (w_need_row_ok hr (by omega) q)
theorem w__law_pick_ok {xs : List D} {Q : D → Prop} (h0 : 0 < xs.length) (h1 : xs.length ≤ 1000000) (q : ∀ x ∈ xs, Q x) : w__law_pick [.list xs] Q := by
  simp only [w__law_pick, b__law_pick, N__law_pick, wseq, wskip, wset, wret, wretN, wexpr, wifs, wfor, wnever, wbreak, wcont, wappend, wappend2, wseti, wseti2, wdput, waug, wpar2, wpar3, wunp, wpop, wwhile, wvar, wcst, w1, w2, wn, wtest, wand, wor, wnot, wandV, worV, wnotV, wif, wchain, wchain3, wnil, wcons, wcall, wtup, wlst, wlc, wiSeq, wiRng1, wiRng2, wiEnum, wgn, s_wgt, s_wgnil, s_wgcons, wyes, wrnglist, wrngtuple, wrg1, wrg2, wdisp1, wdc, wno, wsm, wslice, wsliceL, dCut, dCutL, windex, wiZip, wupd, eg, put, del, dels, dIsi, dIsi2, tyD_int, tyD_bool, tyD_tuple, tyD_list, tyD_str, tyD_none, isi_i_i, isi_i_b, isi_i_t, isi_i_l, isi_i_n, isi_i_s, isi_b_i, isi_b_b, isi_b_n, isi_t_i, isi_t_b, isi_t_t, isi_t_l, isi_t_s, isi_t_n, isi_l_i, isi_l_b, isi_l_t, isi_l_l, isi_l_n, isi_l_s, isi_s_i, isi_s_b, isi_s_s, isi_s_t, isi_s_l, isi_s_n, atI_0, atI_1, atI_2, dIx_tup, dIx_list, dLe_int, dLe_pair, dEq_int, dNe_int, dEq_bool, dNe_bool, dAdd_int, dSub_int, dLt_int, dGt_int, dGe_int, dLtG_int, dGtG_int, dGeG_int, dLeG_int, dLeG_pair, dMinG_two, dMaxG_two, dNeg_int, dLen_list, dLen_tup, dTuple_list, dTuple_tup, dSortG_list, dSortG_tup, dSortG_dic, seqD_list, seqD_tup, List.map_cons, List.map_nil, List.cons_append, List.nil_append, List.append_nil, List.replicate_succ, List.replicate_zero, List.length_cons, List.length_nil, Option.some.injEq, exists_eq_left', exists_eq_left, true_and, and_true, PyData.bool.injEq, PyData.int.injEq, PyData.list.injEq, PyData.tuple.injEq, List.cons.injEq, Nat.reduceAdd, Nat.reduceSub, Bool.not_true, Bool.not_false, Bool.and_true, Bool.true_and, Bool.and_false, Bool.false_and, if_true, if_false, Bool.false_eq_true]
  refine taken_iff (by omega) (by omega) fun r hr => ?_
  have hr' : r < xs.length := by omega
  exact ⟨xs[r], atI_get hr', q _ (List.getElem_mem hr')⟩
theorem w__law_pick_tup {xs : List D} {Q : D → Prop} (h0 : 0 < xs.length) (h1 : xs.length ≤ 1000000) (q : ∀ x ∈ xs, Q x) : w__law_pick [.tuple xs] Q := by
  simp only [w__law_pick, b__law_pick, N__law_pick, wseq, wskip, wset, wret, wretN, wexpr, wifs, wfor, wnever, wbreak, wcont, wappend, wappend2, wseti, wseti2, wdput, waug, wpar2, wpar3, wunp, wpop, wwhile, wvar, wcst, w1, w2, wn, wtest, wand, wor, wnot, wandV, worV, wnotV, wif, wchain, wchain3, wnil, wcons, wcall, wtup, wlst, wlc, wiSeq, wiRng1, wiRng2, wiEnum, wgn, s_wgt, s_wgnil, s_wgcons, wyes, wrnglist, wrngtuple, wrg1, wrg2, wdisp1, wdc, wno, wsm, wslice, wsliceL, dCut, dCutL, windex, wiZip, wupd, eg, put, del, dels, dIsi, dIsi2, tyD_int, tyD_bool, tyD_tuple, tyD_list, tyD_str, tyD_none, isi_i_i, isi_i_b, isi_i_t, isi_i_l, isi_i_n, isi_i_s, isi_b_i, isi_b_b, isi_b_n, isi_t_i, isi_t_b, isi_t_t, isi_t_l, isi_t_s, isi_t_n, isi_l_i, isi_l_b, isi_l_t, isi_l_l, isi_l_n, isi_l_s, isi_s_i, isi_s_b, isi_s_s, isi_s_t, isi_s_l, isi_s_n, atI_0, atI_1, atI_2, dIx_tup, dIx_list, dLe_int, dLe_pair, dEq_int, dNe_int, dEq_bool, dNe_bool, dAdd_int, dSub_int, dLt_int, dGt_int, dGe_int, dLtG_int, dGtG_int, dGeG_int, dLeG_int, dLeG_pair, dMinG_two, dMaxG_two, dNeg_int, dLen_list, dLen_tup, dTuple_list, dTuple_tup, dSortG_list, dSortG_tup, dSortG_dic, seqD_list, seqD_tup, List.map_cons, List.map_nil, List.cons_append, List.nil_append, List.append_nil, List.replicate_succ, List.replicate_zero, List.length_cons, List.length_nil, Option.some.injEq, exists_eq_left', exists_eq_left, true_and, and_true, PyData.bool.injEq, PyData.int.injEq, PyData.list.injEq, PyData.tuple.injEq, List.cons.injEq, Nat.reduceAdd, Nat.reduceSub, Bool.not_true, Bool.not_false, Bool.and_true, Bool.true_and, Bool.and_false, Bool.false_and, if_true, if_false, Bool.false_eq_true]
  refine taken_iff (by omega) (by omega) fun r hr => ?_
  have hr' : r < xs.length := by omega
  exact ⟨xs[r], atI_get hr', q _ (List.getElem_mem hr')⟩
theorem w__law_heights_ok {n top : Nat} {Q : D → Prop} (hn : n ≤ 1000) (ht : top ≤ 99) (q : ∀ hs : List Int, RowOk n hs → (∀ h ∈ hs, -(top : Int) ≤ h ∧ h ≤ top) → Q (rowD hs)) : w__law_heights [natD n, natD top] Q := by
  simp only [w__law_heights, b__law_heights, N__law_heights, wseq, wskip, wset, wret, wretN, wexpr, wifs, wfor, wnever, wbreak, wcont, wappend, wappend2, wseti, wseti2, wdput, waug, wpar2, wpar3, wunp, wpop, wwhile, wvar, wcst, w1, w2, wn, wtest, wand, wor, wnot, wandV, worV, wnotV, wif, wchain, wchain3, wnil, wcons, wcall, wtup, wlst, wlc, wiSeq, wiRng1, wiRng2, wiEnum, wgn, s_wgt, s_wgnil, s_wgcons, wyes, wrnglist, wrngtuple, wrg1, wrg2, wdisp1, wdc, wno, wsm, wslice, wsliceL, dCut, dCutL, windex, wiZip, wupd, eg, put, del, dels, dIsi, dIsi2, tyD_int, tyD_bool, tyD_tuple, tyD_list, tyD_str, tyD_none, isi_i_i, isi_i_b, isi_i_t, isi_i_l, isi_i_n, isi_i_s, isi_b_i, isi_b_b, isi_b_n, isi_t_i, isi_t_b, isi_t_t, isi_t_l, isi_t_s, isi_t_n, isi_l_i, isi_l_b, isi_l_t, isi_l_l, isi_l_n, isi_l_s, isi_s_i, isi_s_b, isi_s_s, isi_s_t, isi_s_l, isi_s_n, atI_0, atI_1, atI_2, dIx_tup, dIx_list, dLe_int, dLe_pair, dEq_int, dNe_int, dEq_bool, dNe_bool, dAdd_int, dSub_int, dLt_int, dGt_int, dGe_int, dLtG_int, dGtG_int, dGeG_int, dLeG_int, dLeG_pair, dMinG_two, dMaxG_two, dNeg_int, dLen_list, dLen_tup, dTuple_list, dTuple_tup, dSortG_list, dSortG_tup, dSortG_dic, seqD_list, seqD_tup, List.map_cons, List.map_nil, List.cons_append, List.nil_append, List.append_nil, List.replicate_succ, List.replicate_zero, List.length_cons, List.length_nil, Option.some.injEq, exists_eq_left', exists_eq_left, true_and, and_true, PyData.bool.injEq, PyData.int.injEq, PyData.list.injEq, PyData.tuple.injEq, List.cons.injEq, Nat.reduceAdd, Nat.reduceSub, Bool.not_true, Bool.not_false, Bool.and_true, Bool.true_and, Bool.and_false, Bool.false_and, if_true, if_false, Bool.false_eq_true]
  refine ⟨_, dFdiv_int ⟨by omega, by omega⟩, ?_⟩
  simp only [wseq, wskip, wset, wret, wretN, wexpr, wifs, wfor, wnever, wbreak, wcont, wappend, wappend2, wseti, wseti2, wdput, waug, wpar2, wpar3, wunp, wpop, wwhile, wvar, wcst, w1, w2, wn, wtest, wand, wor, wnot, wandV, worV, wnotV, wif, wchain, wchain3, wnil, wcons, wcall, wtup, wlst, wlc, wiSeq, wiRng1, wiRng2, wiEnum, wgn, s_wgt, s_wgnil, s_wgcons, wyes, wrnglist, wrngtuple, wrg1, wrg2, wdisp1, wdc, wno, wsm, wslice, wsliceL, dCut, dCutL, windex, wiZip, wupd, eg, put, del, dels, dIsi, dIsi2, tyD_int, tyD_bool, tyD_tuple, tyD_list, tyD_str, tyD_none, isi_i_i, isi_i_b, isi_i_t, isi_i_l, isi_i_n, isi_i_s, isi_b_i, isi_b_b, isi_b_n, isi_t_i, isi_t_b, isi_t_t, isi_t_l, isi_t_s, isi_t_n, isi_l_i, isi_l_b, isi_l_t, isi_l_l, isi_l_n, isi_l_s, isi_s_i, isi_s_b, isi_s_s, isi_s_t, isi_s_l, isi_s_n, atI_0, atI_1, atI_2, dIx_tup, dIx_list, dLe_int, dLe_pair, dEq_int, dNe_int, dEq_bool, dNe_bool, dAdd_int, dSub_int, dLt_int, dGt_int, dGe_int, dLtG_int, dGtG_int, dGeG_int, dLeG_int, dLeG_pair, dMinG_two, dMaxG_two, dNeg_int, dLen_list, dLen_tup, dTuple_list, dTuple_tup, dSortG_list, dSortG_tup, dSortG_dic, seqD_list, seqD_tup, List.map_cons, List.map_nil, List.cons_append, List.nil_append, List.append_nil, List.replicate_succ, List.replicate_zero, List.length_cons, List.length_nil, Option.some.injEq, exists_eq_left', exists_eq_left, true_and, and_true, PyData.bool.injEq, PyData.int.injEq, PyData.list.injEq, PyData.tuple.injEq, List.cons.injEq, Nat.reduceAdd, Nat.reduceSub, Bool.not_true, Bool.not_false, Bool.and_true, Bool.true_and, Bool.and_false, Bool.false_and, if_true, if_false, Bool.false_eq_true]
  have h2 : (top : Int).fdiv 2 = ((top / 2 : Nat) : Int) := by rw [Int.fdiv_eq_ediv_of_nonneg _ (by omega)]; rfl
  refine ⟨sz_small (by decide), w__law_pick_ok (by simp) (by simp) fun lift hl => ?_⟩
  obtain ⟨l, rfl, hl1, hl2⟩ : ∃ l : Int, lift = .int l ∧ -(top : Int) ≤ l ∧ l ≤ 0 ∧ (l = 0 ∨ l = -((top / 2 : Nat) : Int)) := by
    rw [h2] at hl
    simp at hl
    rcases hl with rfl | rfl
    · exact ⟨0, rfl, by omega, by omega, .inl rfl⟩
    · exact ⟨_, rfl, by omega, by omega, .inr rfl⟩
  refine ⟨⟨by omega, by omega⟩, by rw [rngD_len]; exact sz_small (by omega), ?_⟩
  rw [Int.toNat_natCast, rngD_nat]
  refine wcl_any (fun i : Nat => PyData.int i) intD (fun h => -(top : Int) ≤ h ∧ h ≤ top) _ _ _ (fun i hi Qt hq => ?_) fun ys e1 e2 => ?_
  · simp only [wseq, wskip, wset, wret, wretN, wexpr, wifs, wfor, wnever, wbreak, wcont, wappend, wappend2, wseti, wseti2, wdput, waug, wpar2, wpar3, wunp, wpop, wwhile, wvar, wcst, w1, w2, wn, wtest, wand, wor, wnot, wandV, worV, wnotV, wif, wchain, wchain3, wnil, wcons, wcall, wtup, wlst, wlc, wiSeq, wiRng1, wiRng2, wiEnum, wgn, s_wgt, s_wgnil, s_wgcons, wyes, wrnglist, wrngtuple, wrg1, wrg2, wdisp1, wdc, wno, wsm, wslice, wsliceL, dCut, dCutL, windex, wiZip, wupd, eg, put, del, dels, dIsi, dIsi2, tyD_int, tyD_bool, tyD_tuple, tyD_list, tyD_str, tyD_none, isi_i_i, isi_i_b, isi_i_t, isi_i_l, isi_i_n, isi_i_s, isi_b_i, isi_b_b, isi_b_n, isi_t_i, isi_t_b, isi_t_t, isi_t_l, isi_t_s, isi_t_n, isi_l_i, isi_l_b, isi_l_t, isi_l_l, isi_l_n, isi_l_s, isi_s_i, isi_s_b, isi_s_s, isi_s_t, isi_s_l, isi_s_n, atI_0, atI_1, atI_2, dIx_tup, dIx_list, dLe_int, dLe_pair, dEq_int, dNe_int, dEq_bool, dNe_bool, dAdd_int, dSub_int, dLt_int, dGt_int, dGe_int, dLtG_int, dGtG_int, dGeG_int, dLeG_int, dLeG_pair, dMinG_two, dMaxG_two, dNeg_int, dLen_list, dLen_tup, dTuple_list, dTuple_tup, dSortG_list, dSortG_tup, dSortG_dic, seqD_list, seqD_tup, List.map_cons, List.map_nil, List.cons_append, List.nil_append, List.append_nil, List.replicate_succ, List.replicate_zero, List.length_cons, List.length_nil, Option.some.injEq, exists_eq_left', exists_eq_left, true_and, and_true, PyData.bool.injEq, PyData.int.injEq, PyData.list.injEq, PyData.tuple.injEq, List.cons.injEq, Nat.reduceAdd, Nat.reduceSub, Bool.not_true, Bool.not_false, Bool.and_true, Bool.true_and, Bool.and_false, Bool.false_and, if_true, if_false, Bool.false_eq_true]
    refine taken_iff (by omega) (by omega) fun r hr => ?_
    simp only [wseq, wskip, wset, wret, wretN, wexpr, wifs, wfor, wnever, wbreak, wcont, wappend, wappend2, wseti, wseti2, wdput, waug, wpar2, wpar3, wunp, wpop, wwhile, wvar, wcst, w1, w2, wn, wtest, wand, wor, wnot, wandV, worV, wnotV, wif, wchain, wchain3, wnil, wcons, wcall, wtup, wlst, wlc, wiSeq, wiRng1, wiRng2, wiEnum, wgn, s_wgt, s_wgnil, s_wgcons, wyes, wrnglist, wrngtuple, wrg1, wrg2, wdisp1, wdc, wno, wsm, wslice, wsliceL, dCut, dCutL, windex, wiZip, wupd, eg, put, del, dels, dIsi, dIsi2, tyD_int, tyD_bool, tyD_tuple, tyD_list, tyD_str, tyD_none, isi_i_i, isi_i_b, isi_i_t, isi_i_l, isi_i_n, isi_i_s, isi_b_i, isi_b_b, isi_b_n, isi_t_i, isi_t_b, isi_t_t, isi_t_l, isi_t_s, isi_t_n, isi_l_i, isi_l_b, isi_l_t, isi_l_l, isi_l_n, isi_l_s, isi_s_i, isi_s_b, isi_s_s, isi_s_t, isi_s_l, isi_s_n, atI_0, atI_1, atI_2, dIx_tup, dIx_list, dLe_int, dLe_pair, dEq_int, dNe_int, dEq_bool, dNe_bool, dAdd_int, dSub_int, dLt_int, dGt_int, dGe_int, dLtG_int, dGtG_int, dGeG_int, dLeG_int, dLeG_pair, dMinG_two, dMaxG_two, dNeg_int, dLen_list, dLen_tup, dTuple_list, dTuple_tup, dSortG_list, dSortG_tup, dSortG_dic, seqD_list, seqD_tup, List.map_cons, List.map_nil, List.cons_append, List.nil_append, List.append_nil, List.replicate_succ, List.replicate_zero, List.length_cons, List.length_nil, Option.some.injEq, exists_eq_left', exists_eq_left, true_and, and_true, PyData.bool.injEq, PyData.int.injEq, PyData.list.injEq, PyData.tuple.injEq, List.cons.injEq, Nat.reduceAdd, Nat.reduceSub, Bool.not_true, Bool.not_false, Bool.and_true, Bool.true_and, Bool.and_false, Bool.false_and, if_true, if_false, Bool.false_eq_true]
    exact hq _ (by omega)
  · simp only [wseq, wskip, wset, wret, wretN, wexpr, wifs, wfor, wnever, wbreak, wcont, wappend, wappend2, wseti, wseti2, wdput, waug, wpar2, wpar3, wunp, wpop, wwhile, wvar, wcst, w1, w2, wn, wtest, wand, wor, wnot, wandV, worV, wnotV, wif, wchain, wchain3, wnil, wcons, wcall, wtup, wlst, wlc, wiSeq, wiRng1, wiRng2, wiEnum, wgn, s_wgt, s_wgnil, s_wgcons, wyes, wrnglist, wrngtuple, wrg1, wrg2, wdisp1, wdc, wno, wsm, wslice, wsliceL, dCut, dCutL, windex, wiZip, wupd, eg, put, del, dels, dIsi, dIsi2, tyD_int, tyD_bool, tyD_tuple, tyD_list, tyD_str, tyD_none, isi_i_i, isi_i_b, isi_i_t, isi_i_l, isi_i_n, isi_i_s, isi_b_i, isi_b_b, isi_b_n, isi_t_i, isi_t_b, isi_t_t, isi_t_l, isi_t_s, isi_t_n, isi_l_i, isi_l_b, isi_l_t, isi_l_l, isi_l_n, isi_l_s, isi_s_i, isi_s_b, isi_s_s, isi_s_t, isi_s_l, isi_s_n, atI_0, atI_1, atI_2, dIx_tup, dIx_list, dLe_int, dLe_pair, dEq_int, dNe_int, dEq_bool, dNe_bool, dAdd_int, dSub_int, dLt_int, dGt_int, dGe_int, dLtG_int, dGtG_int, dGeG_int, dLeG_int, dLeG_pair, dMinG_two, dMaxG_two, dNeg_int, dLen_list, dLen_tup, dTuple_list, dTuple_tup, dSortG_list, dSortG_tup, dSortG_dic, seqD_list, seqD_tup, List.map_cons, List.map_nil, List.cons_append, List.nil_append, List.append_nil, List.replicate_succ, List.replicate_zero, List.length_cons, List.length_nil, Option.some.injEq, exists_eq_left', exists_eq_left, true_and, and_true, PyData.bool.injEq, PyData.int.injEq, PyData.list.injEq, PyData.tuple.injEq, List.cons.injEq, Nat.reduceAdd, Nat.reduceSub, Bool.not_true, Bool.not_false, Bool.and_true, Bool.true_and, Bool.and_false, Bool.false_and, if_true, if_false, Bool.false_eq_true]
    rw [List.length_range] at e1
    exact q ys ⟨e1, fun h hh => by have := e2 h hh; omega⟩ e2
theorem w__law_net_ok {most : Nat} {Q : D → Prop} (h1 : 1 ≤ most) (h12 : most ≤ 12) (q : ∀ N : Net, N.Ok → N.n ≤ most → Q (netD N)) : w__law_net [natD most] Q := by
  simp only [w__law_net, b__law_net, N__law_net, wdictT0, wseq, wskip, wset, wret, wretN, wexpr, wifs, wfor, wnever, wbreak, wcont, wappend, wappend2, wseti, wseti2, wdput, waug, wpar2, wpar3, wunp, wpop, wwhile, wvar, wcst, w1, w2, wn, wtest, wand, wor, wnot, wandV, worV, wnotV, wif, wchain, wchain3, wnil, wcons, wcall, wtup, wlst, wlc, wiSeq, wiRng1, wiRng2, wiEnum, wgn, s_wgt, s_wgnil, s_wgcons, wyes, wrnglist, wrngtuple, wrg1, wrg2, wdisp1, wdc, wno, wsm, wslice, wsliceL, dCut, dCutL, windex, wiZip, wupd, eg, put, del, dels, dIsi, dIsi2, tyD_int, tyD_bool, tyD_tuple, tyD_list, tyD_str, tyD_none, isi_i_i, isi_i_b, isi_i_t, isi_i_l, isi_i_n, isi_i_s, isi_b_i, isi_b_b, isi_b_n, isi_t_i, isi_t_b, isi_t_t, isi_t_l, isi_t_s, isi_t_n, isi_l_i, isi_l_b, isi_l_t, isi_l_l, isi_l_n, isi_l_s, isi_s_i, isi_s_b, isi_s_s, isi_s_t, isi_s_l, isi_s_n, atI_0, atI_1, atI_2, dIx_tup, dIx_list, dLe_int, dLe_pair, dEq_int, dNe_int, dEq_bool, dNe_bool, dAdd_int, dSub_int, dLt_int, dGt_int, dGe_int, dLtG_int, dGtG_int, dGeG_int, dLeG_int, dLeG_pair, dMinG_two, dMaxG_two, dNeg_int, dLen_list, dLen_tup, dTuple_list, dTuple_tup, dSortG_list, dSortG_tup, dSortG_dic, seqD_list, seqD_tup, List.map_cons, List.map_nil, List.cons_append, List.nil_append, List.append_nil, List.replicate_succ, List.replicate_zero, List.length_cons, List.length_nil, Option.some.injEq, exists_eq_left', exists_eq_left, true_and, and_true, PyData.bool.injEq, PyData.int.injEq, PyData.list.injEq, PyData.tuple.injEq, List.cons.injEq, Nat.reduceAdd, Nat.reduceSub, Bool.not_true, Bool.not_false, Bool.and_true, Bool.true_and, Bool.and_false, Bool.false_and, if_true, if_false, Bool.false_eq_true]
  refine taken_iff (by omega) (by omega) fun r hr => ?_
  simp only [wseq, wskip, wset, wret, wretN, wexpr, wifs, wfor, wnever, wbreak, wcont, wappend, wappend2, wseti, wseti2, wdput, waug, wpar2, wpar3, wunp, wpop, wwhile, wvar, wcst, w1, w2, wn, wtest, wand, wor, wnot, wandV, worV, wnotV, wif, wchain, wchain3, wnil, wcons, wcall, wtup, wlst, wlc, wiSeq, wiRng1, wiRng2, wiEnum, wgn, s_wgt, s_wgnil, s_wgcons, wyes, wrnglist, wrngtuple, wrg1, wrg2, wdisp1, wdc, wno, wsm, wslice, wsliceL, dCut, dCutL, windex, wiZip, wupd, eg, put, del, dels, dIsi, dIsi2, tyD_int, tyD_bool, tyD_tuple, tyD_list, tyD_str, tyD_none, isi_i_i, isi_i_b, isi_i_t, isi_i_l, isi_i_n, isi_i_s, isi_b_i, isi_b_b, isi_b_n, isi_t_i, isi_t_b, isi_t_t, isi_t_l, isi_t_s, isi_t_n, isi_l_i, isi_l_b, isi_l_t, isi_l_l, isi_l_n, isi_l_s, isi_s_i, isi_s_b, isi_s_s, isi_s_t, isi_s_l, isi_s_n, atI_0, atI_1, atI_2, dIx_tup, dIx_list, dLe_int, dLe_pair, dEq_int, dNe_int, dEq_bool, dNe_bool, dAdd_int, dSub_int, dLt_int, dGt_int, dGe_int, dLtG_int, dGtG_int, dGeG_int, dLeG_int, dLeG_pair, dMinG_two, dMaxG_two, dNeg_int, dLen_list, dLen_tup, dTuple_list, dTuple_tup, dSortG_list, dSortG_tup, dSortG_dic, seqD_list, seqD_tup, List.map_cons, List.map_nil, List.cons_append, List.nil_append, List.append_nil, List.replicate_succ, List.replicate_zero, List.length_cons, List.length_nil, Option.some.injEq, exists_eq_left', exists_eq_left, true_and, and_true, PyData.bool.injEq, PyData.int.injEq, PyData.list.injEq, PyData.tuple.injEq, List.cons.injEq, Nat.reduceAdd, Nat.reduceSub, Bool.not_true, Bool.not_false, Bool.and_true, Bool.true_and, Bool.and_false, Bool.false_and, if_true, if_false, Bool.false_eq_true]
  obtain ⟨m, em, hm1, hm2⟩ : ∃ m : Nat, (1 : Int) + r = (m : Int) ∧ 1 ≤ m ∧ m ≤ most := ⟨1 + r, by omega, by omega, by omega⟩
  rw [em]
  refine ⟨_, _, ⟨rfl, rfl⟩, ?_⟩
  simp only [wseq, wskip, wset, wret, wretN, wexpr, wifs, wfor, wnever, wbreak, wcont, wappend, wappend2, wseti, wseti2, wdput, waug, wpar2, wpar3, wunp, wpop, wwhile, wvar, wcst, w1, w2, wn, wtest, wand, wor, wnot, wandV, worV, wnotV, wif, wchain, wchain3, wnil, wcons, wcall, wtup, wlst, wlc, wiSeq, wiRng1, wiRng2, wiEnum, wgn, s_wgt, s_wgnil, s_wgcons, wyes, wrnglist, wrngtuple, wrg1, wrg2, wdisp1, wdc, wno, wsm, wslice, wsliceL, dCut, dCutL, windex, wiZip, wupd, eg, put, del, dels, dIsi, dIsi2, tyD_int, tyD_bool, tyD_tuple, tyD_list, tyD_str, tyD_none, isi_i_i, isi_i_b, isi_i_t, isi_i_l, isi_i_n, isi_i_s, isi_b_i, isi_b_b, isi_b_n, isi_t_i, isi_t_b, isi_t_t, isi_t_l, isi_t_s, isi_t_n, isi_l_i, isi_l_b, isi_l_t, isi_l_l, isi_l_n, isi_l_s, isi_s_i, isi_s_b, isi_s_s, isi_s_t, isi_s_l, isi_s_n, atI_0, atI_1, atI_2, dIx_tup, dIx_list, dLe_int, dLe_pair, dEq_int, dNe_int, dEq_bool, dNe_bool, dAdd_int, dSub_int, dLt_int, dGt_int, dGe_int, dLtG_int, dGtG_int, dGeG_int, dLeG_int, dLeG_pair, dMinG_two, dMaxG_two, dNeg_int, dLen_list, dLen_tup, dTuple_list, dTuple_tup, dSortG_list, dSortG_tup, dSortG_dic, seqD_list, seqD_tup, List.map_cons, List.map_nil, List.cons_append, List.nil_append, List.append_nil, List.replicate_succ, List.replicate_zero, List.length_cons, List.length_nil, Option.some.injEq, exists_eq_left', exists_eq_left, true_and, and_true, PyData.bool.injEq, PyData.int.injEq, PyData.list.injEq, PyData.tuple.injEq, List.cons.injEq, Nat.reduceAdd, Nat.reduceSub, Bool.not_true, Bool.not_false, Bool.and_true, Bool.true_and, Bool.and_false, Bool.false_and, if_true, if_false, Bool.false_eq_true]
  refine ⟨_, _, ⟨rfl, rfl⟩, ⟨by omega, by omega⟩, ⟨by omega, by omega⟩, ?_⟩
  rw [show ((m : Int) - 1).toNat = m - 1 by omega]
  unfold rngD
  refine wfl_inv (fun i : Nat => PyData.int (1 + (i : Nat))) (fun pre ρ => ∃ ps a b c d, ρ = [some .none, some (natD most), some (natD m), some (pDic ps), a, b, c, d] ∧ ps.Nodup ∧ (∀ p ∈ ps, p.1 < p.2 ∧ p.2 < m) ∧ ps.length ≤ pre.length) (fun ρ hI => ?_) (fun pre x post ρ M e hM hI => ?_) ⟨[], none, none, none, none, rfl, .nil, (fun _ h => nomatch h), Nat.le_refl _⟩
  · obtain ⟨ps, a, b, c, d, rfl, hnd, hps, hlen⟩ := hI
    rw [List.length_range] at hlen
    have second : ∀ (k : Kt) (j : Nat), j ≤ 12 → (∀ ps a b c d, ps.Nodup → (∀ p ∈ ps, p.1 < p.2 ∧ p.2 < m) → ps.length ≤ 100 → k.nx [some .none, some (natD most), some (natD m), some (pDic ps), a, b, c, d]) →
        wfl (wgn 6) (wseq (wpar2 7 5 (wcons (wcall 1 wTaken (wcons (wvar 2) wnil)) (wcons (wcall 1 wTaken (wcons (wvar 2) wnil)) wnil))) (wifs (wtest (w2 dNe (wvar 7) (wvar 5))) (wdput 3 (wtup (wcons (wn dMinG (wcons (wvar 7) (wcons (wvar 5) wnil))) (wcons (wn dMaxG (wcons (wvar 7) (wcons (wvar 5) wnil))) wnil))) (wcst (PyData.bool true))) wskip)) k
          (List.map (fun i => PyData.int (0 + (i : Nat))) (List.range j)) [some .none, some (natD most), some (natD m), some (pDic ps), a, b, c, d] := by
      intro k j hj hk
      refine wfl_inv (fun i : Nat => PyData.int (0 + (i : Nat))) (fun pre ρ => ∃ ps a b c d, ρ = [some .none, some (natD most), some (natD m), some (pDic ps), a, b, c, d] ∧ ps.Nodup ∧ (∀ p ∈ ps, p.1 < p.2 ∧ p.2 < m) ∧ ps.length ≤ 12 + pre.length) (fun ρ hI => ?_) (fun pre x post ρ M e hM hI => ?_) ⟨ps, a, b, c, d, rfl, hnd, hps, by simp; omega⟩
      · obtain ⟨ps, a, b, c, d, rfl, hnd, hps, hlen⟩ := hI
        rw [List.length_range] at hlen
        exact hk _ _ _ _ _ hnd hps (by omega)
      · obtain ⟨ps, a, b, c, d, rfl, hnd, hps, hlen⟩ := hI
        obtain ⟨k1, k2, k3⟩ := range_split e
        simp only [wseq, wskip, wset, wret, wretN, wexpr, wifs, wfor, wnever, wbreak, wcont, wappend, wappend2, wseti, wseti2, wdput, waug, wpar2, wpar3, wunp, wpop, wwhile, wvar, wcst, w1, w2, wn, wtest, wand, wor, wnot, wandV, worV, wnotV, wif, wchain, wchain3, wnil, wcons, wcall, wtup, wlst, wlc, wiSeq, wiRng1, wiRng2, wiEnum, wgn, s_wgt, s_wgnil, s_wgcons, wyes, wrnglist, wrngtuple, wrg1, wrg2, wdisp1, wdc, wno, wsm, wslice, wsliceL, dCut, dCutL, windex, wiZip, wupd, eg, put, del, dels, dIsi, dIsi2, tyD_int, tyD_bool, tyD_tuple, tyD_list, tyD_str, tyD_none, isi_i_i, isi_i_b, isi_i_t, isi_i_l, isi_i_n, isi_i_s, isi_b_i, isi_b_b, isi_b_n, isi_t_i, isi_t_b, isi_t_t, isi_t_l, isi_t_s, isi_t_n, isi_l_i, isi_l_b, isi_l_t, isi_l_l, isi_l_n, isi_l_s, isi_s_i, isi_s_b, isi_s_s, isi_s_t, isi_s_l, isi_s_n, atI_0, atI_1, atI_2, dIx_tup, dIx_list, dLe_int, dLe_pair, dEq_int, dNe_int, dEq_bool, dNe_bool, dAdd_int, dSub_int, dLt_int, dGt_int, dGe_int, dLtG_int, dGtG_int, dGeG_int, dLeG_int, dLeG_pair, dMinG_two, dMaxG_two, dNeg_int, dLen_list, dLen_tup, dTuple_list, dTuple_tup, dSortG_list, dSortG_tup, dSortG_dic, seqD_list, seqD_tup, List.map_cons, List.map_nil, List.cons_append, List.nil_append, List.append_nil, List.replicate_succ, List.replicate_zero, List.length_cons, List.length_nil, Option.some.injEq, exists_eq_left', exists_eq_left, true_and, and_true, PyData.bool.injEq, PyData.int.injEq, PyData.list.injEq, PyData.tuple.injEq, List.cons.injEq, Nat.reduceAdd, Nat.reduceSub, Bool.not_true, Bool.not_false, Bool.and_true, Bool.true_and, Bool.and_false, Bool.false_and, if_true, if_false, Bool.false_eq_true]
        refine taken_iff (by omega) (by omega) fun u hu => taken_iff (by omega) (by omega) fun v hv => ?_
        refine ⟨_, _, ⟨rfl, rfl⟩, ?_⟩
        simp only [dMin, dMax, wseq, wskip, wset, wret, wretN, wexpr, wifs, wfor, wnever, wbreak, wcont, wappend, wappend2, wseti, wseti2, wdput, waug, wpar2, wpar3, wunp, wpop, wwhile, wvar, wcst, w1, w2, wn, wtest, wand, wor, wnot, wandV, worV, wnotV, wif, wchain, wchain3, wnil, wcons, wcall, wtup, wlst, wlc, wiSeq, wiRng1, wiRng2, wiEnum, wgn, s_wgt, s_wgnil, s_wgcons, wyes, wrnglist, wrngtuple, wrg1, wrg2, wdisp1, wdc, wno, wsm, wslice, wsliceL, dCut, dCutL, windex, wiZip, wupd, eg, put, del, dels, dIsi, dIsi2, tyD_int, tyD_bool, tyD_tuple, tyD_list, tyD_str, tyD_none, isi_i_i, isi_i_b, isi_i_t, isi_i_l, isi_i_n, isi_i_s, isi_b_i, isi_b_b, isi_b_n, isi_t_i, isi_t_b, isi_t_t, isi_t_l, isi_t_s, isi_t_n, isi_l_i, isi_l_b, isi_l_t, isi_l_l, isi_l_n, isi_l_s, isi_s_i, isi_s_b, isi_s_s, isi_s_t, isi_s_l, isi_s_n, atI_0, atI_1, atI_2, dIx_tup, dIx_list, dLe_int, dLe_pair, dEq_int, dNe_int, dEq_bool, dNe_bool, dAdd_int, dSub_int, dLt_int, dGt_int, dGe_int, dLtG_int, dGtG_int, dGeG_int, dLeG_int, dLeG_pair, dMinG_two, dMaxG_two, dNeg_int, dLen_list, dLen_tup, dTuple_list, dTuple_tup, dSortG_list, dSortG_tup, dSortG_dic, seqD_list, seqD_tup, List.map_cons, List.map_nil, List.cons_append, List.nil_append, List.append_nil, List.replicate_succ, List.replicate_zero, List.length_cons, List.length_nil, Option.some.injEq, exists_eq_left', exists_eq_left, true_and, and_true, PyData.bool.injEq, PyData.int.injEq, PyData.list.injEq, PyData.tuple.injEq, List.cons.injEq, Nat.reduceAdd, Nat.reduceSub, Bool.not_true, Bool.not_false, Bool.and_true, Bool.true_and, Bool.and_false, Bool.false_and, if_true, if_false, Bool.false_eq_true]
        by_cases huv : u = v
        · rw [if_neg (by simp [huv])]
          exact hM _ ⟨_, _, _, _, _, rfl, hnd, hps, by simp; omega⟩
        · rw [if_pos (by simp; omega)]
          have e1 : PyData.tuple [PyData.int (if (v : Int) < u then v else u), PyData.int (if (v : Int) > u then v else u)] = duoD (min u v, max u v) := by
            unfold duoD natD
            rcases Nat.lt_or_ge u v with z | z
            · rw [if_neg (by omega), if_pos (by omega), Nat.min_eq_left (by omega), Nat.max_eq_right (by omega)]
            · rw [if_pos (by omega), if_neg (by omega), Nat.min_eq_right (by omega), Nat.max_eq_left (by omega)]
          rw [e1]
          refine ⟨sz_small (by decide), _, _, rfl, pDic_put ps _ (by omega), hM _ ⟨_, _, _, _, _, rfl, pAdd_nodup hnd, fun p hp => ?_, ?_⟩⟩
          · rcases pAdd_mem.mp hp with hp | rfl
            · exact hps p hp
            · show min u v < max u v ∧ max u v < m
              omega
          · have := pAdd_len ps (min u v, max u v)
            simp; omega
    have fin : ∀ ps a b c d, ps.Nodup → (∀ p ∈ ps, p.1 < p.2 ∧ p.2 < m) → ps.length ≤ 100 → ∃ d1, eg [some .none, some (natD most), some (natD m), some (pDic ps), a, b, c, d] 2 = some d1 ∧ ∃ d_2, eg [some .none, some (natD most), some (natD m), some (pDic ps), a, b, c, d] 3 = some d_2 ∧ ∃ d_3, dSortG [d_2] = some d_3 ∧ ∃ d_4, dTuple [d_3] = some d_4 ∧ 2 ≤ sizeLine ∧ Q (PyData.tuple [d1, d_4]) := by
      intro ps a b c d hnd hps hl
      refine ⟨_, rfl, _, rfl, _, pDic_sortG ps, _, rfl, sz_small (by decide), q ⟨m, ps.mergeSort lexle⟩ ⟨hm1, by show m ≤ 12; omega, fun p hp => hps p ((List.mergeSort_perm ps lexle).mem_iff.mp hp), sort_pr_lt hnd⟩ hm2⟩
    simp only [wseq, wskip, wset, wret, wretN, wexpr, wifs, wfor, wnever, wbreak, wcont, wappend, wappend2, wseti, wseti2, wdput, waug, wpar2, wpar3, wunp, wpop, wwhile, wvar, wcst, w1, w2, wn, wtest, wand, wor, wnot, wandV, worV, wnotV, wif, wchain, wchain3, wnil, wcons, wcall, wtup, wlst, wlc, wiSeq, wiRng1, wiRng2, wiEnum, wgn, s_wgt, s_wgnil, s_wgcons, wyes, wrnglist, wrngtuple, wrg1, wrg2, wdisp1, wdc, wno, wsm, wslice, wsliceL, dCut, dCutL, windex, wiZip, wupd, eg, put, del, dels, dIsi, dIsi2, tyD_int, tyD_bool, tyD_tuple, tyD_list, tyD_str, tyD_none, isi_i_i, isi_i_b, isi_i_t, isi_i_l, isi_i_n, isi_i_s, isi_b_i, isi_b_b, isi_b_n, isi_t_i, isi_t_b, isi_t_t, isi_t_l, isi_t_s, isi_t_n, isi_l_i, isi_l_b, isi_l_t, isi_l_l, isi_l_n, isi_l_s, isi_s_i, isi_s_b, isi_s_s, isi_s_t, isi_s_l, isi_s_n, atI_0, atI_1, atI_2, dIx_tup, dIx_list, dLe_int, dLe_pair, dEq_int, dNe_int, dEq_bool, dNe_bool, dAdd_int, dSub_int, dLt_int, dGt_int, dGe_int, dLtG_int, dGtG_int, dGeG_int, dLeG_int, dLeG_pair, dMinG_two, dMaxG_two, dNeg_int, dLen_list, dLen_tup, dTuple_list, dTuple_tup, dSortG_list, dSortG_tup, dSortG_dic, seqD_list, seqD_tup, List.map_cons, List.map_nil, List.cons_append, List.nil_append, List.append_nil, List.replicate_succ, List.replicate_zero, List.length_cons, List.length_nil, Option.some.injEq, exists_eq_left', exists_eq_left, true_and, and_true, PyData.bool.injEq, PyData.int.injEq, PyData.list.injEq, PyData.tuple.injEq, List.cons.injEq, Nat.reduceAdd, Nat.reduceSub, Bool.not_true, Bool.not_false, Bool.and_true, Bool.true_and, Bool.and_false, Bool.false_and, if_true, if_false, Bool.false_eq_true]
    by_cases h3 : 2 < m
    · rw [if_pos (by simp; omega)]
      refine taken_iff (by omega) (by omega) fun t ht => ?_
      try simp only [wseq, wskip, wset, wret, wretN, wexpr, wifs, wfor, wnever, wbreak, wcont, wappend, wappend2, wseti, wseti2, wdput, waug, wpar2, wpar3, wunp, wpop, wwhile, wvar, wcst, w1, w2, wn, wtest, wand, wor, wnot, wandV, worV, wnotV, wif, wchain, wchain3, wnil, wcons, wcall, wtup, wlst, wlc, wiSeq, wiRng1, wiRng2, wiEnum, wgn, s_wgt, s_wgnil, s_wgcons, wyes, wrnglist, wrngtuple, wrg1, wrg2, wdisp1, wdc, wno, wsm, wslice, wsliceL, dCut, dCutL, windex, wiZip, wupd, eg, put, del, dels, dIsi, dIsi2, tyD_int, tyD_bool, tyD_tuple, tyD_list, tyD_str, tyD_none, isi_i_i, isi_i_b, isi_i_t, isi_i_l, isi_i_n, isi_i_s, isi_b_i, isi_b_b, isi_b_n, isi_t_i, isi_t_b, isi_t_t, isi_t_l, isi_t_s, isi_t_n, isi_l_i, isi_l_b, isi_l_t, isi_l_l, isi_l_n, isi_l_s, isi_s_i, isi_s_b, isi_s_s, isi_s_t, isi_s_l, isi_s_n, atI_0, atI_1, atI_2, dIx_tup, dIx_list, dLe_int, dLe_pair, dEq_int, dNe_int, dEq_bool, dNe_bool, dAdd_int, dSub_int, dLt_int, dGt_int, dGe_int, dLtG_int, dGtG_int, dGeG_int, dLeG_int, dLeG_pair, dMinG_two, dMaxG_two, dNeg_int, dLen_list, dLen_tup, dTuple_list, dTuple_tup, dSortG_list, dSortG_tup, dSortG_dic, seqD_list, seqD_tup, List.map_cons, List.map_nil, List.cons_append, List.nil_append, List.append_nil, List.replicate_succ, List.replicate_zero, List.length_cons, List.length_nil, Option.some.injEq, exists_eq_left', exists_eq_left, true_and, and_true, PyData.bool.injEq, PyData.int.injEq, PyData.list.injEq, PyData.tuple.injEq, List.cons.injEq, Nat.reduceAdd, Nat.reduceSub, Bool.not_true, Bool.not_false, Bool.and_true, Bool.true_and, Bool.and_false, Bool.false_and, if_true, if_false, Bool.false_eq_true]
      refine ⟨⟨by omega, by omega⟩, ?_⟩
      rw [Int.toNat_natCast]
      exact second _ t (by omega) fin
    · rw [if_neg (by simp; omega)]
      try simp only [wseq, wskip, wset, wret, wretN, wexpr, wifs, wfor, wnever, wbreak, wcont, wappend, wappend2, wseti, wseti2, wdput, waug, wpar2, wpar3, wunp, wpop, wwhile, wvar, wcst, w1, w2, wn, wtest, wand, wor, wnot, wandV, worV, wnotV, wif, wchain, wchain3, wnil, wcons, wcall, wtup, wlst, wlc, wiSeq, wiRng1, wiRng2, wiEnum, wgn, s_wgt, s_wgnil, s_wgcons, wyes, wrnglist, wrngtuple, wrg1, wrg2, wdisp1, wdc, wno, wsm, wslice, wsliceL, dCut, dCutL, windex, wiZip, wupd, eg, put, del, dels, dIsi, dIsi2, tyD_int, tyD_bool, tyD_tuple, tyD_list, tyD_str, tyD_none, isi_i_i, isi_i_b, isi_i_t, isi_i_l, isi_i_n, isi_i_s, isi_b_i, isi_b_b, isi_b_n, isi_t_i, isi_t_b, isi_t_t, isi_t_l, isi_t_s, isi_t_n, isi_l_i, isi_l_b, isi_l_t, isi_l_l, isi_l_n, isi_l_s, isi_s_i, isi_s_b, isi_s_s, isi_s_t, isi_s_l, isi_s_n, atI_0, atI_1, atI_2, dIx_tup, dIx_list, dLe_int, dLe_pair, dEq_int, dNe_int, dEq_bool, dNe_bool, dAdd_int, dSub_int, dLt_int, dGt_int, dGe_int, dLtG_int, dGtG_int, dGeG_int, dLeG_int, dLeG_pair, dMinG_two, dMaxG_two, dNeg_int, dLen_list, dLen_tup, dTuple_list, dTuple_tup, dSortG_list, dSortG_tup, dSortG_dic, seqD_list, seqD_tup, List.map_cons, List.map_nil, List.cons_append, List.nil_append, List.append_nil, List.replicate_succ, List.replicate_zero, List.length_cons, List.length_nil, Option.some.injEq, exists_eq_left', exists_eq_left, true_and, and_true, PyData.bool.injEq, PyData.int.injEq, PyData.list.injEq, PyData.tuple.injEq, List.cons.injEq, Nat.reduceAdd, Nat.reduceSub, Bool.not_true, Bool.not_false, Bool.and_true, Bool.true_and, Bool.and_false, Bool.false_and, if_true, if_false, Bool.false_eq_true]
      refine ⟨⟨by omega, by omega⟩, ?_⟩
      exact second _ 0 (by omega) fin
  · obtain ⟨ps, a, b, c, d, rfl, hnd, hps, hlen⟩ := hI
    obtain ⟨k1, k2, k3⟩ := range_split e
    have hM' : ∀ (p : Nat × Nat) u v w z, p.1 < p.2 ∧ p.2 < m → M [some .none, some (natD most), some (natD m), some (.dict ((.none, .none) :: (pAdd ps p).map pEnt)), u, v, w, z] := fun p u v w z hp =>
      hM _ ⟨pAdd ps p, _, _, _, _, rfl, pAdd_nodup hnd, fun p' hp' => (by
        rcases pAdd_mem.mp hp' with h | rfl
        · exact hps p' h
        · exact hp), (by have := pAdd_len ps p; simp; omega)⟩
    simp only [wseq, wskip, wset, wret, wretN, wexpr, wifs, wfor, wnever, wbreak, wcont, wappend, wappend2, wseti, wseti2, wdput, waug, wpar2, wpar3, wunp, wpop, wwhile, wvar, wcst, w1, w2, wn, wtest, wand, wor, wnot, wandV, worV, wnotV, wif, wchain, wchain3, wnil, wcons, wcall, wtup, wlst, wlc, wiSeq, wiRng1, wiRng2, wiEnum, wgn, s_wgt, s_wgnil, s_wgcons, wyes, wrnglist, wrngtuple, wrg1, wrg2, wdisp1, wdc, wno, wsm, wslice, wsliceL, dCut, dCutL, windex, wiZip, wupd, eg, put, del, dels, dIsi, dIsi2, tyD_int, tyD_bool, tyD_tuple, tyD_list, tyD_str, tyD_none, isi_i_i, isi_i_b, isi_i_t, isi_i_l, isi_i_n, isi_i_s, isi_b_i, isi_b_b, isi_b_n, isi_t_i, isi_t_b, isi_t_t, isi_t_l, isi_t_s, isi_t_n, isi_l_i, isi_l_b, isi_l_t, isi_l_l, isi_l_n, isi_l_s, isi_s_i, isi_s_b, isi_s_s, isi_s_t, isi_s_l, isi_s_n, atI_0, atI_1, atI_2, dIx_tup, dIx_list, dLe_int, dLe_pair, dEq_int, dNe_int, dEq_bool, dNe_bool, dAdd_int, dSub_int, dLt_int, dGt_int, dGe_int, dLtG_int, dGtG_int, dGeG_int, dLeG_int, dLeG_pair, dMinG_two, dMaxG_two, dNeg_int, dLen_list, dLen_tup, dTuple_list, dTuple_tup, dSortG_list, dSortG_tup, dSortG_dic, seqD_list, seqD_tup, List.map_cons, List.map_nil, List.cons_append, List.nil_append, List.append_nil, List.replicate_succ, List.replicate_zero, List.length_cons, List.length_nil, Option.some.injEq, exists_eq_left', exists_eq_left, true_and, and_true, PyData.bool.injEq, PyData.int.injEq, PyData.list.injEq, PyData.tuple.injEq, List.cons.injEq, Nat.reduceAdd, Nat.reduceSub, Bool.not_true, Bool.not_false, Bool.and_true, Bool.true_and, Bool.and_false, Bool.false_and, if_true, if_false, Bool.false_eq_true]
    refine taken_iff (by omega) (by omega) fun r8 h8 => ?_
    simp only [wseq, wskip, wset, wret, wretN, wexpr, wifs, wfor, wnever, wbreak, wcont, wappend, wappend2, wseti, wseti2, wdput, waug, wpar2, wpar3, wunp, wpop, wwhile, wvar, wcst, w1, w2, wn, wtest, wand, wor, wnot, wandV, worV, wnotV, wif, wchain, wchain3, wnil, wcons, wcall, wtup, wlst, wlc, wiSeq, wiRng1, wiRng2, wiEnum, wgn, s_wgt, s_wgnil, s_wgcons, wyes, wrnglist, wrngtuple, wrg1, wrg2, wdisp1, wdc, wno, wsm, wslice, wsliceL, dCut, dCutL, windex, wiZip, wupd, eg, put, del, dels, dIsi, dIsi2, tyD_int, tyD_bool, tyD_tuple, tyD_list, tyD_str, tyD_none, isi_i_i, isi_i_b, isi_i_t, isi_i_l, isi_i_n, isi_i_s, isi_b_i, isi_b_b, isi_b_n, isi_t_i, isi_t_b, isi_t_t, isi_t_l, isi_t_s, isi_t_n, isi_l_i, isi_l_b, isi_l_t, isi_l_l, isi_l_n, isi_l_s, isi_s_i, isi_s_b, isi_s_s, isi_s_t, isi_s_l, isi_s_n, atI_0, atI_1, atI_2, dIx_tup, dIx_list, dLe_int, dLe_pair, dEq_int, dNe_int, dEq_bool, dNe_bool, dAdd_int, dSub_int, dLt_int, dGt_int, dGe_int, dLtG_int, dGtG_int, dGeG_int, dLeG_int, dLeG_pair, dMinG_two, dMaxG_two, dNeg_int, dLen_list, dLen_tup, dTuple_list, dTuple_tup, dSortG_list, dSortG_tup, dSortG_dic, seqD_list, seqD_tup, List.map_cons, List.map_nil, List.cons_append, List.nil_append, List.append_nil, List.replicate_succ, List.replicate_zero, List.length_cons, List.length_nil, Option.some.injEq, exists_eq_left', exists_eq_left, true_and, and_true, PyData.bool.injEq, PyData.int.injEq, PyData.list.injEq, PyData.tuple.injEq, List.cons.injEq, Nat.reduceAdd, Nat.reduceSub, Bool.not_true, Bool.not_false, Bool.and_true, Bool.true_and, Bool.and_false, Bool.false_and, if_true, if_false, Bool.false_eq_true]
    by_cases hz : 0 < (r8 : Int)
    · rw [if_pos (by simpa using hz)]
      refine taken_iff (by omega) (by omega) fun r2 h2 => ?_
      simp only [wseq, wskip, wset, wret, wretN, wexpr, wifs, wfor, wnever, wbreak, wcont, wappend, wappend2, wseti, wseti2, wdput, waug, wpar2, wpar3, wunp, wpop, wwhile, wvar, wcst, w1, w2, wn, wtest, wand, wor, wnot, wandV, worV, wnotV, wif, wchain, wchain3, wnil, wcons, wcall, wtup, wlst, wlc, wiSeq, wiRng1, wiRng2, wiEnum, wgn, s_wgt, s_wgnil, s_wgcons, wyes, wrnglist, wrngtuple, wrg1, wrg2, wdisp1, wdc, wno, wsm, wslice, wsliceL, dCut, dCutL, windex, wiZip, wupd, eg, put, del, dels, dIsi, dIsi2, tyD_int, tyD_bool, tyD_tuple, tyD_list, tyD_str, tyD_none, isi_i_i, isi_i_b, isi_i_t, isi_i_l, isi_i_n, isi_i_s, isi_b_i, isi_b_b, isi_b_n, isi_t_i, isi_t_b, isi_t_t, isi_t_l, isi_t_s, isi_t_n, isi_l_i, isi_l_b, isi_l_t, isi_l_l, isi_l_n, isi_l_s, isi_s_i, isi_s_b, isi_s_s, isi_s_t, isi_s_l, isi_s_n, atI_0, atI_1, atI_2, dIx_tup, dIx_list, dLe_int, dLe_pair, dEq_int, dNe_int, dEq_bool, dNe_bool, dAdd_int, dSub_int, dLt_int, dGt_int, dGe_int, dLtG_int, dGtG_int, dGeG_int, dLeG_int, dLeG_pair, dMinG_two, dMaxG_two, dNeg_int, dLen_list, dLen_tup, dTuple_list, dTuple_tup, dSortG_list, dSortG_tup, dSortG_dic, seqD_list, seqD_tup, List.map_cons, List.map_nil, List.cons_append, List.nil_append, List.append_nil, List.replicate_succ, List.replicate_zero, List.length_cons, List.length_nil, Option.some.injEq, exists_eq_left', exists_eq_left, true_and, and_true, PyData.bool.injEq, PyData.int.injEq, PyData.list.injEq, PyData.tuple.injEq, List.cons.injEq, Nat.reduceAdd, Nat.reduceSub, Bool.not_true, Bool.not_false, Bool.and_true, Bool.true_and, Bool.and_false, Bool.false_and, if_true, if_false, Bool.false_eq_true]
      by_cases hz2 : (r2 : Int) = 0
      · rw [if_pos (by simpa using hz2)]
        have e1 : PyData.tuple [PyData.int (1 + (x : Int) - 1), PyData.int (1 + (x : Int))] = duoD (x, 1 + x) := by
          unfold duoD natD
          rw [show (1 + (x : Int) - 1) = (x : Int) by omega]
          simp
        rw [e1]
        exact ⟨sz_small (by decide), _, _, rfl, pDic_put ps _ (by omega), hM' _ _ _ _ _ ⟨by show x < 1 + x; omega, by show 1 + x < m; omega⟩⟩
      · rw [if_neg (by simpa using hz2)]
        refine taken_iff (by omega) (by omega) fun v hv => ?_
        have e1 : PyData.tuple [PyData.int (v : Int), PyData.int (1 + (x : Int))] = duoD (v, 1 + x) := by
          unfold duoD natD
          simp
        rw [e1]
        exact ⟨sz_small (by decide), _, _, rfl, pDic_put ps _ (by omega), hM' _ _ _ _ _ ⟨by show v < 1 + x; omega, by show 1 + x < m; omega⟩⟩
    · rw [if_neg (by simpa using hz)]
      exact hM _ ⟨_, _, _, _, _, rfl, hnd, hps, by simp; omega⟩
theorem w_is_points_ok {N : Net} {xs : List Nat} {Q : D → Prop} (hn : N.n ≤ 1000) (h : xs.Pairwise (· < ·)) (hb : ∀ x ∈ xs, x < N.n) (q : Q (.bool true)) : w_is_points [netD N, ptsD xs] Q := by
  have hl : xs.length ≤ N.n := by
    have := incr_len (a := 0) (b := N.n) h fun x hx => ⟨Nat.zero_le _, hb x hx⟩
    omega
  simp only [w_is_points, b_is_points, N_is_points, netD, ptsD, w_tuple_of_tup, wseq, wskip, wset, wret, wretN, wexpr, wifs, wfor, wnever, wbreak, wcont, wappend, wappend2, wseti, wseti2, wdput, waug, wpar2, wpar3, wunp, wpop, wwhile, wvar, wcst, w1, w2, wn, wtest, wand, wor, wnot, wandV, worV, wnotV, wif, wchain, wchain3, wnil, wcons, wcall, wtup, wlst, wlc, wiSeq, wiRng1, wiRng2, wiEnum, wgn, s_wgt, s_wgnil, s_wgcons, wyes, wrnglist, wrngtuple, wrg1, wrg2, wdisp1, wdc, wno, wsm, wslice, wsliceL, dCut, dCutL, windex, wiZip, wupd, eg, put, del, dels, dIsi, dIsi2, tyD_int, tyD_bool, tyD_tuple, tyD_list, tyD_str, tyD_none, isi_i_i, isi_i_b, isi_i_t, isi_i_l, isi_i_n, isi_i_s, isi_b_i, isi_b_b, isi_b_n, isi_t_i, isi_t_b, isi_t_t, isi_t_l, isi_t_s, isi_t_n, isi_l_i, isi_l_b, isi_l_t, isi_l_l, isi_l_n, isi_l_s, isi_s_i, isi_s_b, isi_s_s, isi_s_t, isi_s_l, isi_s_n, atI_0, atI_1, atI_2, dIx_tup, dIx_list, dLe_int, dLe_pair, dEq_int, dNe_int, dEq_bool, dNe_bool, dAdd_int, dSub_int, dLt_int, dGt_int, dGe_int, dLtG_int, dGtG_int, dGeG_int, dLeG_int, dLeG_pair, dMinG_two, dMaxG_two, dNeg_int, dLen_list, dLen_tup, dTuple_list, dTuple_tup, dSortG_list, dSortG_tup, dSortG_dic, seqD_list, seqD_tup, List.map_cons, List.map_nil, List.cons_append, List.nil_append, List.append_nil, List.replicate_succ, List.replicate_zero, List.length_cons, List.length_nil, Option.some.injEq, exists_eq_left', exists_eq_left, true_and, and_true, PyData.bool.injEq, PyData.int.injEq, PyData.list.injEq, PyData.tuple.injEq, List.cons.injEq, Nat.reduceAdd, Nat.reduceSub, Bool.not_true, Bool.not_false, Bool.and_true, Bool.true_and, Bool.and_false, Bool.false_and, if_true, if_false, Bool.false_eq_true]
  rw [if_neg (by simp; omega)]
  refine fun _ => ⟨by rw [List.length_map]; exact sz_small (by omega), ?_⟩
  refine wcl_map natD PyData.bool (fun _ => true) _ _ _ (fun x hx Qt hq => ?_) ?_
  · have := hb x hx
    simp only [w_within_int, wseq, wskip, wset, wret, wretN, wexpr, wifs, wfor, wnever, wbreak, wcont, wappend, wappend2, wseti, wseti2, wdput, waug, wpar2, wpar3, wunp, wpop, wwhile, wvar, wcst, w1, w2, wn, wtest, wand, wor, wnot, wandV, worV, wnotV, wif, wchain, wchain3, wnil, wcons, wcall, wtup, wlst, wlc, wiSeq, wiRng1, wiRng2, wiEnum, wgn, s_wgt, s_wgnil, s_wgcons, wyes, wrnglist, wrngtuple, wrg1, wrg2, wdisp1, wdc, wno, wsm, wslice, wsliceL, dCut, dCutL, windex, wiZip, wupd, eg, put, del, dels, dIsi, dIsi2, tyD_int, tyD_bool, tyD_tuple, tyD_list, tyD_str, tyD_none, isi_i_i, isi_i_b, isi_i_t, isi_i_l, isi_i_n, isi_i_s, isi_b_i, isi_b_b, isi_b_n, isi_t_i, isi_t_b, isi_t_t, isi_t_l, isi_t_s, isi_t_n, isi_l_i, isi_l_b, isi_l_t, isi_l_l, isi_l_n, isi_l_s, isi_s_i, isi_s_b, isi_s_s, isi_s_t, isi_s_l, isi_s_n, atI_0, atI_1, atI_2, dIx_tup, dIx_list, dLe_int, dLe_pair, dEq_int, dNe_int, dEq_bool, dNe_bool, dAdd_int, dSub_int, dLt_int, dGt_int, dGe_int, dLtG_int, dGtG_int, dGeG_int, dLeG_int, dLeG_pair, dMinG_two, dMaxG_two, dNeg_int, dLen_list, dLen_tup, dTuple_list, dTuple_tup, dSortG_list, dSortG_tup, dSortG_dic, seqD_list, seqD_tup, List.map_cons, List.map_nil, List.cons_append, List.nil_append, List.append_nil, List.replicate_succ, List.replicate_zero, List.length_cons, List.length_nil, Option.some.injEq, exists_eq_left', exists_eq_left, true_and, and_true, PyData.bool.injEq, PyData.int.injEq, PyData.list.injEq, PyData.tuple.injEq, List.cons.injEq, Nat.reduceAdd, Nat.reduceSub, Bool.not_true, Bool.not_false, Bool.and_true, Bool.true_and, Bool.and_false, Bool.false_and, if_true, if_false, Bool.false_eq_true]
    rw [show decide (0 ≤ (x : Int) ∧ (x : Int) ≤ (N.n : Int) - 1) = true by simp; omega]
    exact hq
  · rw [List.nil_append, dAll_bls]
    refine ⟨_, rfl, _, rfl, ?_⟩
    rw [if_neg (by simp)]
    refine ⟨⟨by rw [List.length_map]; omega, by rw [List.length_map]; omega⟩, by rw [rngD_len, List.length_map]; exact sz_small (by omega), ?_⟩
    rw [List.length_map, show ((xs.length : Int) - 1).toNat = xs.length - 1 by omega, rngD_nat]
    refine wcl_map (fun i : Nat => PyData.int i) PyData.bool (fun _ => true) _ _ _ (fun i hi Qt hq => ?_) ?_
    · have hi' : i + 1 < xs.length := by have := List.mem_range.mp hi; omega
      simp only [wseq, wskip, wset, wret, wretN, wexpr, wifs, wfor, wnever, wbreak, wcont, wappend, wappend2, wseti, wseti2, wdput, waug, wpar2, wpar3, wunp, wpop, wwhile, wvar, wcst, w1, w2, wn, wtest, wand, wor, wnot, wandV, worV, wnotV, wif, wchain, wchain3, wnil, wcons, wcall, wtup, wlst, wlc, wiSeq, wiRng1, wiRng2, wiEnum, wgn, s_wgt, s_wgnil, s_wgcons, wyes, wrnglist, wrngtuple, wrg1, wrg2, wdisp1, wdc, wno, wsm, wslice, wsliceL, dCut, dCutL, windex, wiZip, wupd, eg, put, del, dels, dIsi, dIsi2, tyD_int, tyD_bool, tyD_tuple, tyD_list, tyD_str, tyD_none, isi_i_i, isi_i_b, isi_i_t, isi_i_l, isi_i_n, isi_i_s, isi_b_i, isi_b_b, isi_b_n, isi_t_i, isi_t_b, isi_t_t, isi_t_l, isi_t_s, isi_t_n, isi_l_i, isi_l_b, isi_l_t, isi_l_l, isi_l_n, isi_l_s, isi_s_i, isi_s_b, isi_s_s, isi_s_t, isi_s_l, isi_s_n, atI_0, atI_1, atI_2, dIx_tup, dIx_list, dLe_int, dLe_pair, dEq_int, dNe_int, dEq_bool, dNe_bool, dAdd_int, dSub_int, dLt_int, dGt_int, dGe_int, dLtG_int, dGtG_int, dGeG_int, dLeG_int, dLeG_pair, dMinG_two, dMaxG_two, dNeg_int, dLen_list, dLen_tup, dTuple_list, dTuple_tup, dSortG_list, dSortG_tup, dSortG_dic, seqD_list, seqD_tup, List.map_cons, List.map_nil, List.cons_append, List.nil_append, List.append_nil, List.replicate_succ, List.replicate_zero, List.length_cons, List.length_nil, Option.some.injEq, exists_eq_left', exists_eq_left, true_and, and_true, PyData.bool.injEq, PyData.int.injEq, PyData.list.injEq, PyData.tuple.injEq, List.cons.injEq, Nat.reduceAdd, Nat.reduceSub, Bool.not_true, Bool.not_false, Bool.and_true, Bool.true_and, Bool.and_false, Bool.false_and, if_true, if_false, Bool.false_eq_true]
      have a1 : L2.atI (xs.map natD) (i : Int) = some (natD xs[i]) := atI_of (by rw [List.getElem?_map, List.getElem?_eq_getElem (by omega)]; rfl)
      have a2 : L2.atI (xs.map natD) ((i : Int) + 1) = some (natD xs[i + 1]) := by
        rw [show (i : Int) + 1 = ((i + 1 : Nat) : Int) by omega]
        exact atI_of (by rw [List.getElem?_map, List.getElem?_eq_getElem (by omega)]; rfl)
      refine ⟨_, a1, _, a2, ?_⟩
      simp only [wseq, wskip, wset, wret, wretN, wexpr, wifs, wfor, wnever, wbreak, wcont, wappend, wappend2, wseti, wseti2, wdput, waug, wpar2, wpar3, wunp, wpop, wwhile, wvar, wcst, w1, w2, wn, wtest, wand, wor, wnot, wandV, worV, wnotV, wif, wchain, wchain3, wnil, wcons, wcall, wtup, wlst, wlc, wiSeq, wiRng1, wiRng2, wiEnum, wgn, s_wgt, s_wgnil, s_wgcons, wyes, wrnglist, wrngtuple, wrg1, wrg2, wdisp1, wdc, wno, wsm, wslice, wsliceL, dCut, dCutL, windex, wiZip, wupd, eg, put, del, dels, dIsi, dIsi2, tyD_int, tyD_bool, tyD_tuple, tyD_list, tyD_str, tyD_none, isi_i_i, isi_i_b, isi_i_t, isi_i_l, isi_i_n, isi_i_s, isi_b_i, isi_b_b, isi_b_n, isi_t_i, isi_t_b, isi_t_t, isi_t_l, isi_t_s, isi_t_n, isi_l_i, isi_l_b, isi_l_t, isi_l_l, isi_l_n, isi_l_s, isi_s_i, isi_s_b, isi_s_s, isi_s_t, isi_s_l, isi_s_n, atI_0, atI_1, atI_2, dIx_tup, dIx_list, dLe_int, dLe_pair, dEq_int, dNe_int, dEq_bool, dNe_bool, dAdd_int, dSub_int, dLt_int, dGt_int, dGe_int, dLtG_int, dGtG_int, dGeG_int, dLeG_int, dLeG_pair, dMinG_two, dMaxG_two, dNeg_int, dLen_list, dLen_tup, dTuple_list, dTuple_tup, dSortG_list, dSortG_tup, dSortG_dic, seqD_list, seqD_tup, List.map_cons, List.map_nil, List.cons_append, List.nil_append, List.append_nil, List.replicate_succ, List.replicate_zero, List.length_cons, List.length_nil, Option.some.injEq, exists_eq_left', exists_eq_left, true_and, and_true, PyData.bool.injEq, PyData.int.injEq, PyData.list.injEq, PyData.tuple.injEq, List.cons.injEq, Nat.reduceAdd, Nat.reduceSub, Bool.not_true, Bool.not_false, Bool.and_true, Bool.true_and, Bool.and_false, Bool.false_and, if_true, if_false, Bool.false_eq_true]
      have hlt := List.pairwise_iff_getElem.mp h i (i + 1) (by omega) hi' (by omega)
      rw [show decide ((xs[i] : Int) < (xs[i + 1] : Int)) = true by simp; exact hlt]
      exact hq
    · rw [List.nil_append, dAll_bls]
      refine ⟨_, rfl, ?_⟩
      have : ((List.range (xs.length - 1)).map fun _ => true).all id = true := by simp
      rw [this]
      exact q
theorem w_reach_ok {N : Net} {K : D} {kept : List Nat} {s : Nat} {Q : D → Prop} (h : N.Ok) (hk : ∀ x : Nat, dIn (natD x) K = some (.bool (decide (x ∈ kept)))) (hs : s < N.n) (q : Q (ptsD (comp N kept s))) : w_reach [nearD N, natD s, K] Q := by
  have h12 := h.n12
  simp only [w_reach, b_reach, N_reach, wseq, wskip, wset, wret, wretN, wexpr, wifs, wfor, wnever, wbreak, wcont, wappend, wappend2, wseti, wseti2, wdput, waug, wpar2, wpar3, wunp, wpop, wwhile, wvar, wcst, w1, w2, wn, wtest, wand, wor, wnot, wandV, worV, wnotV, wif, wchain, wchain3, wnil, wcons, wcall, wtup, wlst, wlc, wiSeq, wiRng1, wiRng2, wiEnum, wgn, s_wgt, s_wgnil, s_wgcons, wyes, wrnglist, wrngtuple, wrg1, wrg2, wdisp1, wdc, wno, wsm, wslice, wsliceL, dCut, dCutL, windex, wiZip, wupd, eg, put, del, dels, dIsi, dIsi2, tyD_int, tyD_bool, tyD_tuple, tyD_list, tyD_str, tyD_none, isi_i_i, isi_i_b, isi_i_t, isi_i_l, isi_i_n, isi_i_s, isi_b_i, isi_b_b, isi_b_n, isi_t_i, isi_t_b, isi_t_t, isi_t_l, isi_t_s, isi_t_n, isi_l_i, isi_l_b, isi_l_t, isi_l_l, isi_l_n, isi_l_s, isi_s_i, isi_s_b, isi_s_s, isi_s_t, isi_s_l, isi_s_n, atI_0, atI_1, atI_2, dIx_tup, dIx_list, dLe_int, dLe_pair, dEq_int, dNe_int, dEq_bool, dNe_bool, dAdd_int, dSub_int, dLt_int, dGt_int, dGe_int, dLtG_int, dGtG_int, dGeG_int, dLeG_int, dLeG_pair, dMinG_two, dMaxG_two, dNeg_int, dLen_list, dLen_tup, dTuple_list, dTuple_tup, dSortG_list, dSortG_tup, dSortG_dic, seqD_list, seqD_tup, List.map_cons, List.map_nil, List.cons_append, List.nil_append, List.append_nil, List.replicate_succ, List.replicate_zero, List.length_cons, List.length_nil, Option.some.injEq, exists_eq_left', exists_eq_left, true_and, and_true, PyData.bool.injEq, PyData.int.injEq, PyData.list.injEq, PyData.tuple.injEq, List.cons.injEq, Nat.reduceAdd, Nat.reduceSub, Bool.not_true, Bool.not_false, Bool.and_true, Bool.true_and, Bool.and_false, Bool.false_and, if_true, if_false, Bool.false_eq_true]
  refine ⟨_, rfl, sz_small (by decide), _, _, ⟨rfl, rfl⟩, ?_⟩
  refine wwhile_inv (fun m ρ => ∃ fs rim a b, ρ = [some (nearD N), some (natD s), some K, some (nDic fs), some (natL rim), a, b] ∧ PInv N kept s fs rim ∧ m = 2 * (N.n - fs.length) + rim.length ∧ m ≤ 2 * N.n) (fun m ρ M hI hM => ?_) ⟨[s], [s], none, none, rfl, PInv.init hs, rfl, by simp; omega⟩
  obtain ⟨fs, rim, a, b, rfl, hP, hm, hm2⟩ := hI
  have hfl := hP.len
  have hne := ne_nil (shaped_natL (xs := rim) (by omega))
  simp only [natL, wseq, wskip, wset, wret, wretN, wexpr, wifs, wfor, wnever, wbreak, wcont, wappend, wappend2, wseti, wseti2, wdput, waug, wpar2, wpar3, wunp, wpop, wwhile, wvar, wcst, w1, w2, wn, wtest, wand, wor, wnot, wandV, worV, wnotV, wif, wchain, wchain3, wnil, wcons, wcall, wtup, wlst, wlc, wiSeq, wiRng1, wiRng2, wiEnum, wgn, s_wgt, s_wgnil, s_wgcons, wyes, wrnglist, wrngtuple, wrg1, wrg2, wdisp1, wdc, wno, wsm, wslice, wsliceL, dCut, dCutL, windex, wiZip, wupd, eg, put, del, dels, dIsi, dIsi2, tyD_int, tyD_bool, tyD_tuple, tyD_list, tyD_str, tyD_none, isi_i_i, isi_i_b, isi_i_t, isi_i_l, isi_i_n, isi_i_s, isi_b_i, isi_b_b, isi_b_n, isi_t_i, isi_t_b, isi_t_t, isi_t_l, isi_t_s, isi_t_n, isi_l_i, isi_l_b, isi_l_t, isi_l_l, isi_l_n, isi_l_s, isi_s_i, isi_s_b, isi_s_s, isi_s_t, isi_s_l, isi_s_n, atI_0, atI_1, atI_2, dIx_tup, dIx_list, dLe_int, dLe_pair, dEq_int, dNe_int, dEq_bool, dNe_bool, dAdd_int, dSub_int, dLt_int, dGt_int, dGe_int, dLtG_int, dGtG_int, dGeG_int, dLeG_int, dLeG_pair, dMinG_two, dMaxG_two, dNeg_int, dLen_list, dLen_tup, dTuple_list, dTuple_tup, dSortG_list, dSortG_tup, dSortG_dic, seqD_list, seqD_tup, List.map_cons, List.map_nil, List.cons_append, List.nil_append, List.append_nil, List.replicate_succ, List.replicate_zero, List.length_cons, List.length_nil, Option.some.injEq, exists_eq_left', exists_eq_left, true_and, and_true, PyData.bool.injEq, PyData.int.injEq, PyData.list.injEq, PyData.tuple.injEq, List.cons.injEq, Nat.reduceAdd, Nat.reduceSub, Bool.not_true, Bool.not_false, Bool.and_true, Bool.true_and, Bool.and_false, Bool.false_and, if_true, if_false, Bool.false_eq_true] at hne ⊢
  refine ⟨sz_small (by decide), _, hne, _, rfl, ?_⟩
  rcases List.eq_nil_or_concat rim with rfl | ⟨r, here, rfl⟩
  · rw [if_neg (by simp)]
    refine ⟨_, nDic_sort fs, _, rfl, ?_⟩
    rw [hP.done]
    exact q
  · rw [if_pos (by simp), List.concat_eq_append] at *
    have hh : here < N.n := (hP.rc here (hP.rm here (by simp))).2
    simp only [List.map_append, List.map_cons, List.map_nil]
    refine ⟨_, natD here, rfl, by simp, _, nearD_at hh, _, rfl, fun _ => ?_⟩
    have hles := hP.less
    have hst := hP.step
    have hlen := hst.len
    rw [List.dropLast_concat]
    refine wfl_inv natD (fun pre ρ => ∃ b, ρ = [some (nearD N), some (natD s), some K, some (nDic (fs ++ freshL kept fs pre)), some (natL (r ++ freshL kept fs pre)), some (natD here), b]) (fun ρ hI => ?_) (fun pre x post ρ M2 e hM2 hI => ?_) ⟨b, by simp [freshL, natL]⟩
    · obtain ⟨b, rfl⟩ := hI
      exact hM _ _ (by omega) ⟨_, _, _, _, rfl, hst, rfl, by omega⟩
    · obtain ⟨b, rfl⟩ := hI
      have hsub : freshL kept fs pre ++ freshL kept fs (x :: post) = freshL kept fs (near N here) := by
        unfold freshL
        rw [e, List.filter_append]
      have hl2 := congrArg List.length hsub
      rw [List.length_append] at hl2 hlen
      have hx : x ∉ pre := by
        have := near_nodup N here
        rw [e] at this
        exact fun z => (List.nodup_append.mp this).2.2 x z x (by simp) rfl
      simp only [wseq, wskip, wset, wret, wretN, wexpr, wifs, wfor, wnever, wbreak, wcont, wappend, wappend2, wseti, wseti2, wdput, waug, wpar2, wpar3, wunp, wpop, wwhile, wvar, wcst, w1, w2, wn, wtest, wand, wor, wnot, wandV, worV, wnotV, wif, wchain, wchain3, wnil, wcons, wcall, wtup, wlst, wlc, wiSeq, wiRng1, wiRng2, wiEnum, wgn, s_wgt, s_wgnil, s_wgcons, wyes, wrnglist, wrngtuple, wrg1, wrg2, wdisp1, wdc, wno, wsm, wslice, wsliceL, dCut, dCutL, windex, wiZip, wupd, eg, put, del, dels, dIsi, dIsi2, tyD_int, tyD_bool, tyD_tuple, tyD_list, tyD_str, tyD_none, isi_i_i, isi_i_b, isi_i_t, isi_i_l, isi_i_n, isi_i_s, isi_b_i, isi_b_b, isi_b_n, isi_t_i, isi_t_b, isi_t_t, isi_t_l, isi_t_s, isi_t_n, isi_l_i, isi_l_b, isi_l_t, isi_l_l, isi_l_n, isi_l_s, isi_s_i, isi_s_b, isi_s_s, isi_s_t, isi_s_l, isi_s_n, atI_0, atI_1, atI_2, dIx_tup, dIx_list, dLe_int, dLe_pair, dEq_int, dNe_int, dEq_bool, dNe_bool, dAdd_int, dSub_int, dLt_int, dGt_int, dGe_int, dLtG_int, dGtG_int, dGeG_int, dLeG_int, dLeG_pair, dMinG_two, dMaxG_two, dNeg_int, dLen_list, dLen_tup, dTuple_list, dTuple_tup, dSortG_list, dSortG_tup, dSortG_dic, seqD_list, seqD_tup, List.map_cons, List.map_nil, List.cons_append, List.nil_append, List.append_nil, List.replicate_succ, List.replicate_zero, List.length_cons, List.length_nil, Option.some.injEq, exists_eq_left', exists_eq_left, true_and, and_true, PyData.bool.injEq, PyData.int.injEq, PyData.list.injEq, PyData.tuple.injEq, List.cons.injEq, Nat.reduceAdd, Nat.reduceSub, Bool.not_true, Bool.not_false, Bool.and_true, Bool.true_and, Bool.and_false, Bool.false_and, if_true, if_false, Bool.false_eq_true]
      have hnot := notIn_of (in_nDic (x := x) (xs := fs ++ freshL kept fs pre))
      refine ⟨_, hk x, _, rfl, ?_⟩
      have same : x ∉ freshL kept fs [x] → freshL kept fs (pre ++ [x]) = freshL kept fs pre := fun z => by
        have : freshL kept fs [x] = [] := by
          unfold freshL at z ⊢
          rw [List.filter_cons] at z ⊢
          split at z
          · simp at z
          · rename_i zz; rw [if_neg zz]; rfl
        have e1 : freshL kept fs (pre ++ [x]) = freshL kept fs pre ++ freshL kept fs [x] := by unfold freshL; rw [List.filter_append]
        rw [e1, this, List.append_nil]
      by_cases hxk : x ∈ kept
      · rw [if_pos (by simpa using hxk)]
        refine ⟨_, hnot, _, rfl, ?_⟩
        by_cases hxf : x ∈ fs
        · rw [if_neg (by simp [hxf])]
          refine hM2 _ ⟨some (natD x), ?_⟩
          rw [same fun z => (freshL_mem.mp z).2.2 hxf]
        · have hxf2 : x ∉ fs ++ freshL kept fs pre := fun z => by
            rcases List.mem_append.mp z with z | z
            · exact hxf z
            · exact hx (freshL_mem.mp z).1
          rw [if_pos (by simpa using hxf2)]
          have e1 : freshL kept fs (pre ++ [x]) = freshL kept fs pre ++ [x] := by
            unfold freshL
            rw [List.filter_append, List.filter_cons, if_pos (by simp [hxk, hxf]), List.filter_nil]
          refine ⟨_, _, rfl, nDic_put _ x (by rw [List.length_append]; omega) hxf2, _, rfl, ?_, hM2 _ ⟨some (natD x), ?_⟩⟩
          · rw [List.length_map, List.length_append]
            exact Nat.lt_of_le_of_lt (show _ ≤ 1000 by simp only [List.length_append, List.length_cons, List.length_nil] at hm; omega) (by decide)
          · rw [e1]
            simp [natL, nDic]
      · rw [if_neg (by simpa using hxk)]
        refine hM2 _ ⟨some (natD x), ?_⟩
        rw [same fun z => hxk (freshL_mem.mp z).2.1]
theorem w_parts_of_ok {N : Net} {K : D} {kept : List Nat} {Q : D → Prop} (h : N.Ok) (hK : KOk N.n K kept) (q : Q (ptsL (partsL N kept))) : w_parts_of [nearD N, K] Q := by
  have h12 := h.n12
  have hkl := hK.len
  simp only [w_parts_of, b_parts_of, N_parts_of, wseq, wskip, wset, wret, wretN, wexpr, wifs, wfor, wnever, wbreak, wcont, wappend, wappend2, wseti, wseti2, wdput, waug, wpar2, wpar3, wunp, wpop, wwhile, wvar, wcst, w1, w2, wn, wtest, wand, wor, wnot, wandV, worV, wnotV, wif, wchain, wchain3, wnil, wcons, wcall, wtup, wlst, wlc, wiSeq, wiRng1, wiRng2, wiEnum, wgn, s_wgt, s_wgnil, s_wgcons, wyes, wrnglist, wrngtuple, wrg1, wrg2, wdisp1, wdc, wno, wsm, wslice, wsliceL, dCut, dCutL, windex, wiZip, wupd, eg, put, del, dels, dIsi, dIsi2, tyD_int, tyD_bool, tyD_tuple, tyD_list, tyD_str, tyD_none, isi_i_i, isi_i_b, isi_i_t, isi_i_l, isi_i_n, isi_i_s, isi_b_i, isi_b_b, isi_b_n, isi_t_i, isi_t_b, isi_t_t, isi_t_l, isi_t_s, isi_t_n, isi_l_i, isi_l_b, isi_l_t, isi_l_l, isi_l_n, isi_l_s, isi_s_i, isi_s_b, isi_s_s, isi_s_t, isi_s_l, isi_s_n, atI_0, atI_1, atI_2, dIx_tup, dIx_list, dLe_int, dLe_pair, dEq_int, dNe_int, dEq_bool, dNe_bool, dAdd_int, dSub_int, dLt_int, dGt_int, dGe_int, dLtG_int, dGtG_int, dGeG_int, dLeG_int, dLeG_pair, dMinG_two, dMaxG_two, dNeg_int, dLen_list, dLen_tup, dTuple_list, dTuple_tup, dSortG_list, dSortG_tup, dSortG_dic, seqD_list, seqD_tup, List.map_cons, List.map_nil, List.cons_append, List.nil_append, List.append_nil, List.replicate_succ, List.replicate_zero, List.length_cons, List.length_nil, Option.some.injEq, exists_eq_left', exists_eq_left, true_and, and_true, PyData.bool.injEq, PyData.int.injEq, PyData.list.injEq, PyData.tuple.injEq, List.cons.injEq, Nat.reduceAdd, Nat.reduceSub, Bool.not_true, Bool.not_false, Bool.and_true, Bool.true_and, Bool.and_false, Bool.false_and, if_true, if_false, Bool.false_eq_true]
  refine ⟨_, hK.srt, sz_small (by decide), _, _, ⟨rfl, rfl⟩, ?_⟩
  refine wwhile_inv (fun m ρ => ∃ left fnd a b, ρ = [some (nearD N), some K, some (natL left), some (ptsL fnd), a, b] ∧ m = left.length ∧ (∀ x ∈ left, x < N.n) ∧ fnd.length + left.length ≤ N.n ∧ partsL N kept = fnd ++ partsGo N kept left) (fun m ρ M hI hM => ?_) ⟨kept, [], none, none, rfl, rfl, hK.bd, by simp; omega, rfl⟩
  obtain ⟨left, fnd, a, b, rfl, hm, hb, hl, hp⟩ := hI
  have hne := ne_nil (shaped_natL (xs := left) (by omega))
  simp only [natL, wseq, wskip, wset, wret, wretN, wexpr, wifs, wfor, wnever, wbreak, wcont, wappend, wappend2, wseti, wseti2, wdput, waug, wpar2, wpar3, wunp, wpop, wwhile, wvar, wcst, w1, w2, wn, wtest, wand, wor, wnot, wandV, worV, wnotV, wif, wchain, wchain3, wnil, wcons, wcall, wtup, wlst, wlc, wiSeq, wiRng1, wiRng2, wiEnum, wgn, s_wgt, s_wgnil, s_wgcons, wyes, wrnglist, wrngtuple, wrg1, wrg2, wdisp1, wdc, wno, wsm, wslice, wsliceL, dCut, dCutL, windex, wiZip, wupd, eg, put, del, dels, dIsi, dIsi2, tyD_int, tyD_bool, tyD_tuple, tyD_list, tyD_str, tyD_none, isi_i_i, isi_i_b, isi_i_t, isi_i_l, isi_i_n, isi_i_s, isi_b_i, isi_b_b, isi_b_n, isi_t_i, isi_t_b, isi_t_t, isi_t_l, isi_t_s, isi_t_n, isi_l_i, isi_l_b, isi_l_t, isi_l_l, isi_l_n, isi_l_s, isi_s_i, isi_s_b, isi_s_s, isi_s_t, isi_s_l, isi_s_n, atI_0, atI_1, atI_2, dIx_tup, dIx_list, dLe_int, dLe_pair, dEq_int, dNe_int, dEq_bool, dNe_bool, dAdd_int, dSub_int, dLt_int, dGt_int, dGe_int, dLtG_int, dGtG_int, dGeG_int, dLeG_int, dLeG_pair, dMinG_two, dMaxG_two, dNeg_int, dLen_list, dLen_tup, dTuple_list, dTuple_tup, dSortG_list, dSortG_tup, dSortG_dic, seqD_list, seqD_tup, List.map_cons, List.map_nil, List.cons_append, List.nil_append, List.append_nil, List.replicate_succ, List.replicate_zero, List.length_cons, List.length_nil, Option.some.injEq, exists_eq_left', exists_eq_left, true_and, and_true, PyData.bool.injEq, PyData.int.injEq, PyData.list.injEq, PyData.tuple.injEq, List.cons.injEq, Nat.reduceAdd, Nat.reduceSub, Bool.not_true, Bool.not_false, Bool.and_true, Bool.true_and, Bool.and_false, Bool.false_and, if_true, if_false, Bool.false_eq_true] at hne ⊢
  refine ⟨sz_small (by decide), _, hne, _, rfl, ?_⟩
  cases left with
  | nil =>
    rw [if_neg (by simp)]
    rw [partsGo, List.append_nil] at hp
    rw [hp] at q
    exact q
  | cons x r =>
    rw [if_pos (by simp)]
    rw [List.length_cons] at hl
    have hx := hb x (by simp)
    simp only [ptsL, wseq, wskip, wset, wret, wretN, wexpr, wifs, wfor, wnever, wbreak, wcont, wappend, wappend2, wseti, wseti2, wdput, waug, wpar2, wpar3, wunp, wpop, wwhile, wvar, wcst, w1, w2, wn, wtest, wand, wor, wnot, wandV, worV, wnotV, wif, wchain, wchain3, wnil, wcons, wcall, wtup, wlst, wlc, wiSeq, wiRng1, wiRng2, wiEnum, wgn, s_wgt, s_wgnil, s_wgcons, wyes, wrnglist, wrngtuple, wrg1, wrg2, wdisp1, wdc, wno, wsm, wslice, wsliceL, dCut, dCutL, windex, wiZip, wupd, eg, put, del, dels, dIsi, dIsi2, tyD_int, tyD_bool, tyD_tuple, tyD_list, tyD_str, tyD_none, isi_i_i, isi_i_b, isi_i_t, isi_i_l, isi_i_n, isi_i_s, isi_b_i, isi_b_b, isi_b_n, isi_t_i, isi_t_b, isi_t_t, isi_t_l, isi_t_s, isi_t_n, isi_l_i, isi_l_b, isi_l_t, isi_l_l, isi_l_n, isi_l_s, isi_s_i, isi_s_b, isi_s_s, isi_s_t, isi_s_l, isi_s_n, atI_0, atI_1, atI_2, dIx_tup, dIx_list, dLe_int, dLe_pair, dEq_int, dNe_int, dEq_bool, dNe_bool, dAdd_int, dSub_int, dLt_int, dGt_int, dGe_int, dLtG_int, dGtG_int, dGeG_int, dLeG_int, dLeG_pair, dMinG_two, dMaxG_two, dNeg_int, dLen_list, dLen_tup, dTuple_list, dTuple_tup, dSortG_list, dSortG_tup, dSortG_dic, seqD_list, seqD_tup, List.map_cons, List.map_nil, List.cons_append, List.nil_append, List.append_nil, List.replicate_succ, List.replicate_zero, List.length_cons, List.length_nil, Option.some.injEq, exists_eq_left', exists_eq_left, true_and, and_true, PyData.bool.injEq, PyData.int.injEq, PyData.list.injEq, PyData.tuple.injEq, List.cons.injEq, Nat.reduceAdd, Nat.reduceSub, Bool.not_true, Bool.not_false, Bool.and_true, Bool.true_and, Bool.and_false, Bool.false_and, if_true, if_false, Bool.false_eq_true]
    refine w_reach_ok h hK.inn hx ?_
    have hself := comp_self (N := N) (kept := kept) hx
    have hfl := List.length_filter_le (fun y => decide (y ∉ comp N kept x)) r
    refine ⟨by rw [List.length_map]; exact Nat.lt_of_le_of_lt (show _ ≤ 1000 by omega) (by decide), fun _ => ⟨by rw [List.length_map]; exact sz_small (by omega), ?_⟩⟩
    refine wcl_fil natD (fun y => decide (y ∉ comp N kept x)) (x :: r) _ _ (fun y hy Qt Qf hq => ?_) ?_
    · simp only [wseq, wskip, wset, wret, wretN, wexpr, wifs, wfor, wnever, wbreak, wcont, wappend, wappend2, wseti, wseti2, wdput, waug, wpar2, wpar3, wunp, wpop, wwhile, wvar, wcst, w1, w2, wn, wtest, wand, wor, wnot, wandV, worV, wnotV, wif, wchain, wchain3, wnil, wcons, wcall, wtup, wlst, wlc, wiSeq, wiRng1, wiRng2, wiEnum, wgn, s_wgt, s_wgnil, s_wgcons, wyes, wrnglist, wrngtuple, wrg1, wrg2, wdisp1, wdc, wno, wsm, wslice, wsliceL, dCut, dCutL, windex, wiZip, wupd, eg, put, del, dels, dIsi, dIsi2, tyD_int, tyD_bool, tyD_tuple, tyD_list, tyD_str, tyD_none, isi_i_i, isi_i_b, isi_i_t, isi_i_l, isi_i_n, isi_i_s, isi_b_i, isi_b_b, isi_b_n, isi_t_i, isi_t_b, isi_t_t, isi_t_l, isi_t_s, isi_t_n, isi_l_i, isi_l_b, isi_l_t, isi_l_l, isi_l_n, isi_l_s, isi_s_i, isi_s_b, isi_s_s, isi_s_t, isi_s_l, isi_s_n, atI_0, atI_1, atI_2, dIx_tup, dIx_list, dLe_int, dLe_pair, dEq_int, dNe_int, dEq_bool, dNe_bool, dAdd_int, dSub_int, dLt_int, dGt_int, dGe_int, dLtG_int, dGtG_int, dGeG_int, dLeG_int, dLeG_pair, dMinG_two, dMaxG_two, dNeg_int, dLen_list, dLen_tup, dTuple_list, dTuple_tup, dSortG_list, dSortG_tup, dSortG_dic, seqD_list, seqD_tup, List.map_cons, List.map_nil, List.cons_append, List.nil_append, List.append_nil, List.replicate_succ, List.replicate_zero, List.length_cons, List.length_nil, Option.some.injEq, exists_eq_left', exists_eq_left, true_and, and_true, PyData.bool.injEq, PyData.int.injEq, PyData.list.injEq, PyData.tuple.injEq, List.cons.injEq, Nat.reduceAdd, Nat.reduceSub, Bool.not_true, Bool.not_false, Bool.and_true, Bool.true_and, Bool.and_false, Bool.false_and, if_true, if_false, Bool.false_eq_true]
      exact ⟨_, notIn_ptsD, _, rfl, hq⟩
    · rw [List.filter_cons, if_neg (by simp [hself])]
      refine hM _ _ (by rw [hm, List.length_cons]; omega) ⟨r.filter fun y => decide (y ∉ comp N kept x), fnd ++ [comp N kept x], some (ptsD (comp N kept x)), b, ?_, rfl, fun y hy => hb y (List.mem_cons_of_mem _ (List.mem_filter.mp hy).1), ?_, ?_⟩
      · simp [natL, ptsL]
      · rw [List.length_append, List.length_cons, List.length_nil]; omega
      · rw [hp, partsGo]; simp
theorem w_circles_of_ok {N : Net} {Q : D → Prop} (h : N.Ok) (q : Q (ptsL (partsL N (List.range N.n)))) : w_circles_of [netD N] Q := by
  have h12 := h.n12
  simp only [w_circles_of, b_circles_of, N_circles_of, wseq, wskip, wset, wret, wretN, wexpr, wifs, wfor, wnever, wbreak, wcont, wappend, wappend2, wseti, wseti2, wdput, waug, wpar2, wpar3, wunp, wpop, wwhile, wvar, wcst, w1, w2, wn, wtest, wand, wor, wnot, wandV, worV, wnotV, wif, wchain, wchain3, wnil, wcons, wcall, wtup, wlst, wlc, wiSeq, wiRng1, wiRng2, wiEnum, wgn, s_wgt, s_wgnil, s_wgcons, wyes, wrnglist, wrngtuple, wrg1, wrg2, wdisp1, wdc, wno, wsm, wslice, wsliceL, dCut, dCutL, windex, wiZip, wupd, eg, put, del, dels, dIsi, dIsi2, tyD_int, tyD_bool, tyD_tuple, tyD_list, tyD_str, tyD_none, isi_i_i, isi_i_b, isi_i_t, isi_i_l, isi_i_n, isi_i_s, isi_b_i, isi_b_b, isi_b_n, isi_t_i, isi_t_b, isi_t_t, isi_t_l, isi_t_s, isi_t_n, isi_l_i, isi_l_b, isi_l_t, isi_l_l, isi_l_n, isi_l_s, isi_s_i, isi_s_b, isi_s_s, isi_s_t, isi_s_l, isi_s_n, atI_0, atI_1, atI_2, dIx_tup, dIx_list, dLe_int, dLe_pair, dEq_int, dNe_int, dEq_bool, dNe_bool, dAdd_int, dSub_int, dLt_int, dGt_int, dGe_int, dLtG_int, dGtG_int, dGeG_int, dLeG_int, dLeG_pair, dMinG_two, dMaxG_two, dNeg_int, dLen_list, dLen_tup, dTuple_list, dTuple_tup, dSortG_list, dSortG_tup, dSortG_dic, seqD_list, seqD_tup, List.map_cons, List.map_nil, List.cons_append, List.nil_append, List.append_nil, List.replicate_succ, List.replicate_zero, List.length_cons, List.length_nil, Option.some.injEq, exists_eq_left', exists_eq_left, true_and, and_true, PyData.bool.injEq, PyData.int.injEq, PyData.list.injEq, PyData.tuple.injEq, List.cons.injEq, Nat.reduceAdd, Nat.reduceSub, Bool.not_true, Bool.not_false, Bool.and_true, Bool.true_and, Bool.and_false, Bool.false_and, if_true, if_false, Bool.false_eq_true]
  refine w_near_of_ok h ?_
  simp only [netD, wseq, wskip, wset, wret, wretN, wexpr, wifs, wfor, wnever, wbreak, wcont, wappend, wappend2, wseti, wseti2, wdput, waug, wpar2, wpar3, wunp, wpop, wwhile, wvar, wcst, w1, w2, wn, wtest, wand, wor, wnot, wandV, worV, wnotV, wif, wchain, wchain3, wnil, wcons, wcall, wtup, wlst, wlc, wiSeq, wiRng1, wiRng2, wiEnum, wgn, s_wgt, s_wgnil, s_wgcons, wyes, wrnglist, wrngtuple, wrg1, wrg2, wdisp1, wdc, wno, wsm, wslice, wsliceL, dCut, dCutL, windex, wiZip, wupd, eg, put, del, dels, dIsi, dIsi2, tyD_int, tyD_bool, tyD_tuple, tyD_list, tyD_str, tyD_none, isi_i_i, isi_i_b, isi_i_t, isi_i_l, isi_i_n, isi_i_s, isi_b_i, isi_b_b, isi_b_n, isi_t_i, isi_t_b, isi_t_t, isi_t_l, isi_t_s, isi_t_n, isi_l_i, isi_l_b, isi_l_t, isi_l_l, isi_l_n, isi_l_s, isi_s_i, isi_s_b, isi_s_s, isi_s_t, isi_s_l, isi_s_n, atI_0, atI_1, atI_2, dIx_tup, dIx_list, dLe_int, dLe_pair, dEq_int, dNe_int, dEq_bool, dNe_bool, dAdd_int, dSub_int, dLt_int, dGt_int, dGe_int, dLtG_int, dGtG_int, dGeG_int, dLeG_int, dLeG_pair, dMinG_two, dMaxG_two, dNeg_int, dLen_list, dLen_tup, dTuple_list, dTuple_tup, dSortG_list, dSortG_tup, dSortG_dic, seqD_list, seqD_tup, List.map_cons, List.map_nil, List.cons_append, List.nil_append, List.append_nil, List.replicate_succ, List.replicate_zero, List.length_cons, List.length_nil, Option.some.injEq, exists_eq_left', exists_eq_left, true_and, and_true, PyData.bool.injEq, PyData.int.injEq, PyData.list.injEq, PyData.tuple.injEq, List.cons.injEq, Nat.reduceAdd, Nat.reduceSub, Bool.not_true, Bool.not_false, Bool.and_true, Bool.true_and, Bool.and_false, Bool.false_and, if_true, if_false, Bool.false_eq_true]
  refine ⟨⟨by omega, by omega⟩, by rw [rngD_len]; exact sz_small (by omega), ?_⟩
  rw [Int.toNat_natCast, rngD_nat]
  exact wcd_nat (by simp) (range_lt _ |>.imp fun {a b} q => Nat.ne_of_lt q) (w_parts_of_ok h (KOk.dic (range_lt _) range_bd) q)
theorem w_need_points_ok {N : Net} {xs : List Nat} {Q : D → Prop} (hn : N.n ≤ 1000) (h : xs.Pairwise (· < ·)) (hb : ∀ x ∈ xs, x < N.n) (q : Q .none) : w_need_points [netD N, ptsD xs] Q := by
  simp only [w_need_points, b_need_points, N_need_points, wseq, wskip, wset, wret, wretN, wexpr, wifs, wfor, wnever, wbreak, wcont, wappend, wappend2, wseti, wseti2, wdput, waug, wpar2, wpar3, wunp, wpop, wwhile, wvar, wcst, w1, w2, wn, wtest, wand, wor, wnot, wandV, worV, wnotV, wif, wchain, wchain3, wnil, wcons, wcall, wtup, wlst, wlc, wiSeq, wiRng1, wiRng2, wiEnum, wgn, s_wgt, s_wgnil, s_wgcons, wyes, wrnglist, wrngtuple, wrg1, wrg2, wdisp1, wdc, wno, wsm, wslice, wsliceL, dCut, dCutL, windex, wiZip, wupd, eg, put, del, dels, dIsi, dIsi2, tyD_int, tyD_bool, tyD_tuple, tyD_list, tyD_str, tyD_none, isi_i_i, isi_i_b, isi_i_t, isi_i_l, isi_i_n, isi_i_s, isi_b_i, isi_b_b, isi_b_n, isi_t_i, isi_t_b, isi_t_t, isi_t_l, isi_t_s, isi_t_n, isi_l_i, isi_l_b, isi_l_t, isi_l_l, isi_l_n, isi_l_s, isi_s_i, isi_s_b, isi_s_s, isi_s_t, isi_s_l, isi_s_n, atI_0, atI_1, atI_2, dIx_tup, dIx_list, dLe_int, dLe_pair, dEq_int, dNe_int, dEq_bool, dNe_bool, dAdd_int, dSub_int, dLt_int, dGt_int, dGe_int, dLtG_int, dGtG_int, dGeG_int, dLeG_int, dLeG_pair, dMinG_two, dMaxG_two, dNeg_int, dLen_list, dLen_tup, dTuple_list, dTuple_tup, dSortG_list, dSortG_tup, dSortG_dic, seqD_list, seqD_tup, List.map_cons, List.map_nil, List.cons_append, List.nil_append, List.append_nil, List.replicate_succ, List.replicate_zero, List.length_cons, List.length_nil, Option.some.injEq, exists_eq_left', exists_eq_left, true_and, and_true, PyData.bool.injEq, PyData.int.injEq, PyData.list.injEq, PyData.tuple.injEq, List.cons.injEq, Nat.reduceAdd, Nat.reduceSub, Bool.not_true, Bool.not_false, Bool.and_true, Bool.true_and, Bool.and_false, Bool.false_and, if_true, if_false, Bool.false_eq_true]
  refine w_is_points_ok hn h hb ?_
  refine ⟨_, rfl, ?_⟩
  rw [if_neg (by simp)]
  exact q
theorem w_need_size_ok {N : Net} {k : Nat} {Q : D → Prop} (h : k ≤ N.n) (q : Q .none) : w_need_size [netD N, natD k] Q := by
  simp only [w_need_size, b_need_size, N_need_size, netD, wseq, wskip, wset, wret, wretN, wexpr, wifs, wfor, wnever, wbreak, wcont, wappend, wappend2, wseti, wseti2, wdput, waug, wpar2, wpar3, wunp, wpop, wwhile, wvar, wcst, w1, w2, wn, wtest, wand, wor, wnot, wandV, worV, wnotV, wif, wchain, wchain3, wnil, wcons, wcall, wtup, wlst, wlc, wiSeq, wiRng1, wiRng2, wiEnum, wgn, s_wgt, s_wgnil, s_wgcons, wyes, wrnglist, wrngtuple, wrg1, wrg2, wdisp1, wdc, wno, wsm, wslice, wsliceL, dCut, dCutL, windex, wiZip, wupd, eg, put, del, dels, dIsi, dIsi2, tyD_int, tyD_bool, tyD_tuple, tyD_list, tyD_str, tyD_none, isi_i_i, isi_i_b, isi_i_t, isi_i_l, isi_i_n, isi_i_s, isi_b_i, isi_b_b, isi_b_n, isi_t_i, isi_t_b, isi_t_t, isi_t_l, isi_t_s, isi_t_n, isi_l_i, isi_l_b, isi_l_t, isi_l_l, isi_l_n, isi_l_s, isi_s_i, isi_s_b, isi_s_s, isi_s_t, isi_s_l, isi_s_n, atI_0, atI_1, atI_2, dIx_tup, dIx_list, dLe_int, dLe_pair, dEq_int, dNe_int, dEq_bool, dNe_bool, dAdd_int, dSub_int, dLt_int, dGt_int, dGe_int, dLtG_int, dGtG_int, dGeG_int, dLeG_int, dLeG_pair, dMinG_two, dMaxG_two, dNeg_int, dLen_list, dLen_tup, dTuple_list, dTuple_tup, dSortG_list, dSortG_tup, dSortG_dic, seqD_list, seqD_tup, List.map_cons, List.map_nil, List.cons_append, List.nil_append, List.append_nil, List.replicate_succ, List.replicate_zero, List.length_cons, List.length_nil, Option.some.injEq, exists_eq_left', exists_eq_left, true_and, and_true, PyData.bool.injEq, PyData.int.injEq, PyData.list.injEq, PyData.tuple.injEq, List.cons.injEq, Nat.reduceAdd, Nat.reduceSub, Bool.not_true, Bool.not_false, Bool.and_true, Bool.true_and, Bool.and_false, Bool.false_and, if_true, if_false, Bool.false_eq_true]
  rw [w_need_number_ok (by omega)]
  exact q
theorem w_rest_of_ok {n : Nat} {xs : List Nat} {Q : D → Prop} (hn : n ≤ 1000) (q : Q (ptsD (restL n xs))) : w_rest_of [natD n, ptsD xs] Q := by
  simp only [w_rest_of, b_rest_of, N_rest_of, wseq, wskip, wset, wret, wretN, wexpr, wifs, wfor, wnever, wbreak, wcont, wappend, wappend2, wseti, wseti2, wdput, waug, wpar2, wpar3, wunp, wpop, wwhile, wvar, wcst, w1, w2, wn, wtest, wand, wor, wnot, wandV, worV, wnotV, wif, wchain, wchain3, wnil, wcons, wcall, wtup, wlst, wlc, wiSeq, wiRng1, wiRng2, wiEnum, wgn, s_wgt, s_wgnil, s_wgcons, wyes, wrnglist, wrngtuple, wrg1, wrg2, wdisp1, wdc, wno, wsm, wslice, wsliceL, dCut, dCutL, windex, wiZip, wupd, eg, put, del, dels, dIsi, dIsi2, tyD_int, tyD_bool, tyD_tuple, tyD_list, tyD_str, tyD_none, isi_i_i, isi_i_b, isi_i_t, isi_i_l, isi_i_n, isi_i_s, isi_b_i, isi_b_b, isi_b_n, isi_t_i, isi_t_b, isi_t_t, isi_t_l, isi_t_s, isi_t_n, isi_l_i, isi_l_b, isi_l_t, isi_l_l, isi_l_n, isi_l_s, isi_s_i, isi_s_b, isi_s_s, isi_s_t, isi_s_l, isi_s_n, atI_0, atI_1, atI_2, dIx_tup, dIx_list, dLe_int, dLe_pair, dEq_int, dNe_int, dEq_bool, dNe_bool, dAdd_int, dSub_int, dLt_int, dGt_int, dGe_int, dLtG_int, dGtG_int, dGeG_int, dLeG_int, dLeG_pair, dMinG_two, dMaxG_two, dNeg_int, dLen_list, dLen_tup, dTuple_list, dTuple_tup, dSortG_list, dSortG_tup, dSortG_dic, seqD_list, seqD_tup, List.map_cons, List.map_nil, List.cons_append, List.nil_append, List.append_nil, List.replicate_succ, List.replicate_zero, List.length_cons, List.length_nil, Option.some.injEq, exists_eq_left', exists_eq_left, true_and, and_true, PyData.bool.injEq, PyData.int.injEq, PyData.list.injEq, PyData.tuple.injEq, List.cons.injEq, Nat.reduceAdd, Nat.reduceSub, Bool.not_true, Bool.not_false, Bool.and_true, Bool.true_and, Bool.and_false, Bool.false_and, if_true, if_false, Bool.false_eq_true]
  refine ⟨⟨by omega, by omega⟩, by rw [rngD_len]; exact sz_small (by omega), ?_⟩
  rw [Int.toNat_natCast, rngD_nat]
  refine wcl_fil natD (fun x => decide (x ∉ xs)) (List.range n) _ _ (fun y hy Qt Qf hq => ?_) ?_
  · simp only [wseq, wskip, wset, wret, wretN, wexpr, wifs, wfor, wnever, wbreak, wcont, wappend, wappend2, wseti, wseti2, wdput, waug, wpar2, wpar3, wunp, wpop, wwhile, wvar, wcst, w1, w2, wn, wtest, wand, wor, wnot, wandV, worV, wnotV, wif, wchain, wchain3, wnil, wcons, wcall, wtup, wlst, wlc, wiSeq, wiRng1, wiRng2, wiEnum, wgn, s_wgt, s_wgnil, s_wgcons, wyes, wrnglist, wrngtuple, wrg1, wrg2, wdisp1, wdc, wno, wsm, wslice, wsliceL, dCut, dCutL, windex, wiZip, wupd, eg, put, del, dels, dIsi, dIsi2, tyD_int, tyD_bool, tyD_tuple, tyD_list, tyD_str, tyD_none, isi_i_i, isi_i_b, isi_i_t, isi_i_l, isi_i_n, isi_i_s, isi_b_i, isi_b_b, isi_b_n, isi_t_i, isi_t_b, isi_t_t, isi_t_l, isi_t_s, isi_t_n, isi_l_i, isi_l_b, isi_l_t, isi_l_l, isi_l_n, isi_l_s, isi_s_i, isi_s_b, isi_s_s, isi_s_t, isi_s_l, isi_s_n, atI_0, atI_1, atI_2, dIx_tup, dIx_list, dLe_int, dLe_pair, dEq_int, dNe_int, dEq_bool, dNe_bool, dAdd_int, dSub_int, dLt_int, dGt_int, dGe_int, dLtG_int, dGtG_int, dGeG_int, dLeG_int, dLeG_pair, dMinG_two, dMaxG_two, dNeg_int, dLen_list, dLen_tup, dTuple_list, dTuple_tup, dSortG_list, dSortG_tup, dSortG_dic, seqD_list, seqD_tup, List.map_cons, List.map_nil, List.cons_append, List.nil_append, List.append_nil, List.replicate_succ, List.replicate_zero, List.length_cons, List.length_nil, Option.some.injEq, exists_eq_left', exists_eq_left, true_and, and_true, PyData.bool.injEq, PyData.int.injEq, PyData.list.injEq, PyData.tuple.injEq, List.cons.injEq, Nat.reduceAdd, Nat.reduceSub, Bool.not_true, Bool.not_false, Bool.and_true, Bool.true_and, Bool.and_false, Bool.false_and, if_true, if_false, Bool.false_eq_true]
    exact ⟨_, notIn_ptsD, _, rfl, hq⟩
  · exact q
theorem w_open_of_ok {N : Net} {xs : List Nat} {k : Nat} {Q : D → Prop} (h : N.Ok) (hl : xs.Pairwise (· < ·)) (hb : ∀ x ∈ xs, x < N.n) (q : Q (ptsD (openL N xs k))) : w_open_of [nearD N, ptsL (partsL N (List.range N.n)), ptsD xs, natD k] Q := by
  have h12 := h.n12
  have hxl := incr_le hl hb
  simp only [w_open_of, b_open_of, N_open_of, wseq, wskip, wset, wret, wretN, wexpr, wifs, wfor, wnever, wbreak, wcont, wappend, wappend2, wseti, wseti2, wdput, waug, wpar2, wpar3, wunp, wpop, wwhile, wvar, wcst, w1, w2, wn, wtest, wand, wor, wnot, wandV, worV, wnotV, wif, wchain, wchain3, wnil, wcons, wcall, wtup, wlst, wlc, wiSeq, wiRng1, wiRng2, wiEnum, wgn, s_wgt, s_wgnil, s_wgcons, wyes, wrnglist, wrngtuple, wrg1, wrg2, wdisp1, wdc, wno, wsm, wslice, wsliceL, dCut, dCutL, windex, wiZip, wupd, eg, put, del, dels, dIsi, dIsi2, tyD_int, tyD_bool, tyD_tuple, tyD_list, tyD_str, tyD_none, isi_i_i, isi_i_b, isi_i_t, isi_i_l, isi_i_n, isi_i_s, isi_b_i, isi_b_b, isi_b_n, isi_t_i, isi_t_b, isi_t_t, isi_t_l, isi_t_s, isi_t_n, isi_l_i, isi_l_b, isi_l_t, isi_l_l, isi_l_n, isi_l_s, isi_s_i, isi_s_b, isi_s_s, isi_s_t, isi_s_l, isi_s_n, atI_0, atI_1, atI_2, dIx_tup, dIx_list, dLe_int, dLe_pair, dEq_int, dNe_int, dEq_bool, dNe_bool, dAdd_int, dSub_int, dLt_int, dGt_int, dGe_int, dLtG_int, dGtG_int, dGeG_int, dLeG_int, dLeG_pair, dMinG_two, dMaxG_two, dNeg_int, dLen_list, dLen_tup, dTuple_list, dTuple_tup, dSortG_list, dSortG_tup, dSortG_dic, seqD_list, seqD_tup, List.map_cons, List.map_nil, List.cons_append, List.nil_append, List.append_nil, List.replicate_succ, List.replicate_zero, List.length_cons, List.length_nil, Option.some.injEq, exists_eq_left', exists_eq_left, true_and, and_true, PyData.bool.injEq, PyData.int.injEq, PyData.list.injEq, PyData.tuple.injEq, List.cons.injEq, Nat.reduceAdd, Nat.reduceSub, Bool.not_true, Bool.not_false, Bool.and_true, Bool.true_and, Bool.and_false, Bool.false_and, if_true, if_false, Bool.false_eq_true]
  refine ⟨sz_small (by decide), _, rfl, fun _ => ⟨by rw [List.length_map]; exact sz_small (by omega), ?_⟩⟩
  refine wcd_nat (by simp) (hl.imp fun {a b} q => Nat.ne_of_lt q) (w_parts_of_ok h (KOk.dic hl hb) ⟨_, rfl, fun _ => ?_⟩)
  have hpl := partsL_len N xs
  refine wfl_inv ptsD (fun pre ρ => ∃ b c, ρ = [some (nearD N), some (ptsL (partsL N (List.range N.n))), some (ptsD xs), some (natD k), some (natL ((pre.filter (bigL N k)).flatten)), b, c]) (fun ρ hI => ?_) (fun pre x post ρ M e hM hI => ?_) ⟨none, none, rfl⟩
  · obtain ⟨b, c, rfl⟩ := hI
    refine ⟨_, rfl, ?_⟩
    simp only [natL, wseq, wskip, wset, wret, wretN, wexpr, wifs, wfor, wnever, wbreak, wcont, wappend, wappend2, wseti, wseti2, wdput, waug, wpar2, wpar3, wunp, wpop, wwhile, wvar, wcst, w1, w2, wn, wtest, wand, wor, wnot, wandV, worV, wnotV, wif, wchain, wchain3, wnil, wcons, wcall, wtup, wlst, wlc, wiSeq, wiRng1, wiRng2, wiEnum, wgn, s_wgt, s_wgnil, s_wgcons, wyes, wrnglist, wrngtuple, wrg1, wrg2, wdisp1, wdc, wno, wsm, wslice, wsliceL, dCut, dCutL, windex, wiZip, wupd, eg, put, del, dels, dIsi, dIsi2, tyD_int, tyD_bool, tyD_tuple, tyD_list, tyD_str, tyD_none, isi_i_i, isi_i_b, isi_i_t, isi_i_l, isi_i_n, isi_i_s, isi_b_i, isi_b_b, isi_b_n, isi_t_i, isi_t_b, isi_t_t, isi_t_l, isi_t_s, isi_t_n, isi_l_i, isi_l_b, isi_l_t, isi_l_l, isi_l_n, isi_l_s, isi_s_i, isi_s_b, isi_s_s, isi_s_t, isi_s_l, isi_s_n, atI_0, atI_1, atI_2, dIx_tup, dIx_list, dLe_int, dLe_pair, dEq_int, dNe_int, dEq_bool, dNe_bool, dAdd_int, dSub_int, dLt_int, dGt_int, dGe_int, dLtG_int, dGtG_int, dGeG_int, dLeG_int, dLeG_pair, dMinG_two, dMaxG_two, dNeg_int, dLen_list, dLen_tup, dTuple_list, dTuple_tup, dSortG_list, dSortG_tup, dSortG_dic, seqD_list, seqD_tup, List.map_cons, List.map_nil, List.cons_append, List.nil_append, List.append_nil, List.replicate_succ, List.replicate_zero, List.length_cons, List.length_nil, Option.some.injEq, exists_eq_left', exists_eq_left, true_and, and_true, PyData.bool.injEq, PyData.int.injEq, PyData.list.injEq, PyData.tuple.injEq, List.cons.injEq, Nat.reduceAdd, Nat.reduceSub, Bool.not_true, Bool.not_false, Bool.and_true, Bool.true_and, Bool.and_false, Bool.false_and, if_true, if_false, Bool.false_eq_true]
    rw [sorted_nat]
    exact ⟨_, rfl, _, rfl, q⟩
  · obtain ⟨b, c, rfl⟩ := hI
    have hprl : pre.length + 1 ≤ 12 := by
      have := congrArg List.length e
      rw [List.length_append, List.length_cons] at this; omega
    have hxm : x ∈ partsL N xs := by rw [e]; simp
    have hx := parts_plen hxm
    have hpb := flat_bd (k := k) h (pre := pre) (fun p hp => parts_plen (kept := xs) (by rw [e]; exact List.mem_append_left _ hp)) (by omega)
    simp only [wseq, wskip, wset, wret, wretN, wexpr, wifs, wfor, wnever, wbreak, wcont, wappend, wappend2, wseti, wseti2, wdput, waug, wpar2, wpar3, wunp, wpop, wwhile, wvar, wcst, w1, w2, wn, wtest, wand, wor, wnot, wandV, worV, wnotV, wif, wchain, wchain3, wnil, wcons, wcall, wtup, wlst, wlc, wiSeq, wiRng1, wiRng2, wiEnum, wgn, s_wgt, s_wgnil, s_wgcons, wyes, wrnglist, wrngtuple, wrg1, wrg2, wdisp1, wdc, wno, wsm, wslice, wsliceL, dCut, dCutL, windex, wiZip, wupd, eg, put, del, dels, dIsi, dIsi2, tyD_int, tyD_bool, tyD_tuple, tyD_list, tyD_str, tyD_none, isi_i_i, isi_i_b, isi_i_t, isi_i_l, isi_i_n, isi_i_s, isi_b_i, isi_b_b, isi_b_n, isi_t_i, isi_t_b, isi_t_t, isi_t_l, isi_t_s, isi_t_n, isi_l_i, isi_l_b, isi_l_t, isi_l_l, isi_l_n, isi_l_s, isi_s_i, isi_s_b, isi_s_s, isi_s_t, isi_s_l, isi_s_n, atI_0, atI_1, atI_2, dIx_tup, dIx_list, dLe_int, dLe_pair, dEq_int, dNe_int, dEq_bool, dNe_bool, dAdd_int, dSub_int, dLt_int, dGt_int, dGe_int, dLtG_int, dGtG_int, dGeG_int, dLeG_int, dLeG_pair, dMinG_two, dMaxG_two, dNeg_int, dLen_list, dLen_tup, dTuple_list, dTuple_tup, dSortG_list, dSortG_tup, dSortG_dic, seqD_list, seqD_tup, List.map_cons, List.map_nil, List.cons_append, List.nil_append, List.append_nil, List.replicate_succ, List.replicate_zero, List.length_cons, List.length_nil, Option.some.injEq, exists_eq_left', exists_eq_left, true_and, and_true, PyData.bool.injEq, PyData.int.injEq, PyData.list.injEq, PyData.tuple.injEq, List.cons.injEq, Nat.reduceAdd, Nat.reduceSub, Bool.not_true, Bool.not_false, Bool.and_true, Bool.true_and, Bool.and_false, Bool.false_and, if_true, if_false, Bool.false_eq_true]
    refine ⟨_, len_ptsD x, _, gt_len x k, _, rfl, ?_⟩
    have fin : M [some (nearD N), some (ptsL (partsL N (List.range N.n))), some (ptsD xs), some (natD k), some (natL (((pre ++ [x]).filter (bigL N k)).flatten)), some (ptsD x), c] := hM _ ⟨_, _, rfl⟩
    rw [flat_snoc] at fin
    have yes : bigL N k x = true → ∃ d, dList [ptsD x] = some d ∧ ∃ d_1, dAdd (natL ((pre.filter (bigL N k)).flatten)) d = some d_1 ∧ M [some (nearD N), some (ptsL (partsL N (List.range N.n))), some (ptsD xs), some (natD k), some d_1, some (ptsD x), c] := fun hb => by
      rw [if_pos hb] at fin
      exact ⟨_, rfl, _, dAdd_natL (a := (pre.filter (bigL N k)).flatten) (b := x) (by omega), fin⟩
    by_cases h1 : k < x.length
    · rw [if_pos (by simpa using h1)]
      exact yes (by simp [bigL, h1])
    · rw [if_neg (by simpa using h1)]
      refine ⟨_, in_circ h (by omega), _, rfl, ?_⟩
      by_cases h2 : x ∈ partsL N (List.range N.n)
      · rw [if_pos (by simpa using h2)]
        exact yes (by simp [bigL, h2])
      · rw [if_neg (by simpa using h2)]
        rw [if_neg (by simp [bigL, h1, h2]), List.append_nil] at fin
        exact fin
theorem w_close_of_ok {N : Net} {xs : List Nat} {k : Nat} {Q : D → Prop} (h : N.Ok) (q : Q (ptsD (closeL N xs k))) : w_close_of [nearD N, ptsL (partsL N (List.range N.n)), ptsD xs, natD k] Q := by
  have h12 := h.n12
  simp only [w_close_of, b_close_of, N_close_of, wseq, wskip, wset, wret, wretN, wexpr, wifs, wfor, wnever, wbreak, wcont, wappend, wappend2, wseti, wseti2, wdput, waug, wpar2, wpar3, wunp, wpop, wwhile, wvar, wcst, w1, w2, wn, wtest, wand, wor, wnot, wandV, worV, wnotV, wif, wchain, wchain3, wnil, wcons, wcall, wtup, wlst, wlc, wiSeq, wiRng1, wiRng2, wiEnum, wgn, s_wgt, s_wgnil, s_wgcons, wyes, wrnglist, wrngtuple, wrg1, wrg2, wdisp1, wdc, wno, wsm, wslice, wsliceL, dCut, dCutL, windex, wiZip, wupd, eg, put, del, dels, dIsi, dIsi2, tyD_int, tyD_bool, tyD_tuple, tyD_list, tyD_str, tyD_none, isi_i_i, isi_i_b, isi_i_t, isi_i_l, isi_i_n, isi_i_s, isi_b_i, isi_b_b, isi_b_n, isi_t_i, isi_t_b, isi_t_t, isi_t_l, isi_t_s, isi_t_n, isi_l_i, isi_l_b, isi_l_t, isi_l_l, isi_l_n, isi_l_s, isi_s_i, isi_s_b, isi_s_s, isi_s_t, isi_s_l, isi_s_n, atI_0, atI_1, atI_2, dIx_tup, dIx_list, dLe_int, dLe_pair, dEq_int, dNe_int, dEq_bool, dNe_bool, dAdd_int, dSub_int, dLt_int, dGt_int, dGe_int, dLtG_int, dGtG_int, dGeG_int, dLeG_int, dLeG_pair, dMinG_two, dMaxG_two, dNeg_int, dLen_list, dLen_tup, dTuple_list, dTuple_tup, dSortG_list, dSortG_tup, dSortG_dic, seqD_list, seqD_tup, List.map_cons, List.map_nil, List.cons_append, List.nil_append, List.append_nil, List.replicate_succ, List.replicate_zero, List.length_cons, List.length_nil, Option.some.injEq, exists_eq_left', exists_eq_left, true_and, and_true, PyData.bool.injEq, PyData.int.injEq, PyData.list.injEq, PyData.tuple.injEq, List.cons.injEq, Nat.reduceAdd, Nat.reduceSub, Bool.not_true, Bool.not_false, Bool.and_true, Bool.true_and, Bool.and_false, Bool.false_and, if_true, if_false, Bool.false_eq_true]
  refine ⟨_, len_nearD N, w_rest_of_ok (by omega) (w_open_of_ok h (restL_lt _ _) (fun x hx => (restL_mem.mp hx).1) ⟨_, len_nearD N, w_rest_of_ok (by omega) q⟩)⟩
theorem w_need_lot_ok {N : Net} {xs : List Nat} {k : Nat} {Q : D → Prop} (h : N.Ok) (hl : xs.Pairwise (· < ·)) (hb : ∀ x ∈ xs, x < N.n) (hk : k ≤ N.n) (q : Q (.tuple [nearD N, ptsL (partsL N (List.range N.n))])) : w_need_lot [netD N, ptsD xs, natD k] Q := by
  have h12 := h.n12
  simp only [w_need_lot, b_need_lot, N_need_lot, wseq, wskip, wset, wret, wretN, wexpr, wifs, wfor, wnever, wbreak, wcont, wappend, wappend2, wseti, wseti2, wdput, waug, wpar2, wpar3, wunp, wpop, wwhile, wvar, wcst, w1, w2, wn, wtest, wand, wor, wnot, wandV, worV, wnotV, wif, wchain, wchain3, wnil, wcons, wcall, wtup, wlst, wlc, wiSeq, wiRng1, wiRng2, wiEnum, wgn, s_wgt, s_wgnil, s_wgcons, wyes, wrnglist, wrngtuple, wrg1, wrg2, wdisp1, wdc, wno, wsm, wslice, wsliceL, dCut, dCutL, windex, wiZip, wupd, eg, put, del, dels, dIsi, dIsi2, tyD_int, tyD_bool, tyD_tuple, tyD_list, tyD_str, tyD_none, isi_i_i, isi_i_b, isi_i_t, isi_i_l, isi_i_n, isi_i_s, isi_b_i, isi_b_b, isi_b_n, isi_t_i, isi_t_b, isi_t_t, isi_t_l, isi_t_s, isi_t_n, isi_l_i, isi_l_b, isi_l_t, isi_l_l, isi_l_n, isi_l_s, isi_s_i, isi_s_b, isi_s_s, isi_s_t, isi_s_l, isi_s_n, atI_0, atI_1, atI_2, dIx_tup, dIx_list, dLe_int, dLe_pair, dEq_int, dNe_int, dEq_bool, dNe_bool, dAdd_int, dSub_int, dLt_int, dGt_int, dGe_int, dLtG_int, dGtG_int, dGeG_int, dLeG_int, dLeG_pair, dMinG_two, dMaxG_two, dNeg_int, dLen_list, dLen_tup, dTuple_list, dTuple_tup, dSortG_list, dSortG_tup, dSortG_dic, seqD_list, seqD_tup, List.map_cons, List.map_nil, List.cons_append, List.nil_append, List.append_nil, List.replicate_succ, List.replicate_zero, List.length_cons, List.length_nil, Option.some.injEq, exists_eq_left', exists_eq_left, true_and, and_true, PyData.bool.injEq, PyData.int.injEq, PyData.list.injEq, PyData.tuple.injEq, List.cons.injEq, Nat.reduceAdd, Nat.reduceSub, Bool.not_true, Bool.not_false, Bool.and_true, Bool.true_and, Bool.and_false, Bool.false_and, if_true, if_false, Bool.false_eq_true]
  exact w_need_net_ok h (w_need_points_ok (by omega) hl hb (w_need_size_ok hk (w_near_of_ok h (w_circles_of_ok h ⟨sz_small (by decide), q⟩))))
theorem w_open_set_ok {N : Net} {xs : List Nat} {k : Nat} {Q : D → Prop} (h : N.Ok) (hl : xs.Pairwise (· < ·)) (hb : ∀ x ∈ xs, x < N.n) (hk : k ≤ N.n) (q : Q (ptsD (openL N xs k))) : w_open_set [netD N, ptsD xs, natD k] Q := by
  have h12 := h.n12
  simp only [w_open_set, b_open_set, N_open_set, wseq, wskip, wset, wret, wretN, wexpr, wifs, wfor, wnever, wbreak, wcont, wappend, wappend2, wseti, wseti2, wdput, waug, wpar2, wpar3, wunp, wpop, wwhile, wvar, wcst, w1, w2, wn, wtest, wand, wor, wnot, wandV, worV, wnotV, wif, wchain, wchain3, wnil, wcons, wcall, wtup, wlst, wlc, wiSeq, wiRng1, wiRng2, wiEnum, wgn, s_wgt, s_wgnil, s_wgcons, wyes, wrnglist, wrngtuple, wrg1, wrg2, wdisp1, wdc, wno, wsm, wslice, wsliceL, dCut, dCutL, windex, wiZip, wupd, eg, put, del, dels, dIsi, dIsi2, tyD_int, tyD_bool, tyD_tuple, tyD_list, tyD_str, tyD_none, isi_i_i, isi_i_b, isi_i_t, isi_i_l, isi_i_n, isi_i_s, isi_b_i, isi_b_b, isi_b_n, isi_t_i, isi_t_b, isi_t_t, isi_t_l, isi_t_s, isi_t_n, isi_l_i, isi_l_b, isi_l_t, isi_l_l, isi_l_n, isi_l_s, isi_s_i, isi_s_b, isi_s_s, isi_s_t, isi_s_l, isi_s_n, atI_0, atI_1, atI_2, dIx_tup, dIx_list, dLe_int, dLe_pair, dEq_int, dNe_int, dEq_bool, dNe_bool, dAdd_int, dSub_int, dLt_int, dGt_int, dGe_int, dLtG_int, dGtG_int, dGeG_int, dLeG_int, dLeG_pair, dMinG_two, dMaxG_two, dNeg_int, dLen_list, dLen_tup, dTuple_list, dTuple_tup, dSortG_list, dSortG_tup, dSortG_dic, seqD_list, seqD_tup, List.map_cons, List.map_nil, List.cons_append, List.nil_append, List.append_nil, List.replicate_succ, List.replicate_zero, List.length_cons, List.length_nil, Option.some.injEq, exists_eq_left', exists_eq_left, true_and, and_true, PyData.bool.injEq, PyData.int.injEq, PyData.list.injEq, PyData.tuple.injEq, List.cons.injEq, Nat.reduceAdd, Nat.reduceSub, Bool.not_true, Bool.not_false, Bool.and_true, Bool.true_and, Bool.and_false, Bool.false_and, if_true, if_false, Bool.false_eq_true]
  refine w_need_lot_ok h hl hb hk ?_
  simp only [wseq, wskip, wset, wret, wretN, wexpr, wifs, wfor, wnever, wbreak, wcont, wappend, wappend2, wseti, wseti2, wdput, waug, wpar2, wpar3, wunp, wpop, wwhile, wvar, wcst, w1, w2, wn, wtest, wand, wor, wnot, wandV, worV, wnotV, wif, wchain, wchain3, wnil, wcons, wcall, wtup, wlst, wlc, wiSeq, wiRng1, wiRng2, wiEnum, wgn, s_wgt, s_wgnil, s_wgcons, wyes, wrnglist, wrngtuple, wrg1, wrg2, wdisp1, wdc, wno, wsm, wslice, wsliceL, dCut, dCutL, windex, wiZip, wupd, eg, put, del, dels, dIsi, dIsi2, tyD_int, tyD_bool, tyD_tuple, tyD_list, tyD_str, tyD_none, isi_i_i, isi_i_b, isi_i_t, isi_i_l, isi_i_n, isi_i_s, isi_b_i, isi_b_b, isi_b_n, isi_t_i, isi_t_b, isi_t_t, isi_t_l, isi_t_s, isi_t_n, isi_l_i, isi_l_b, isi_l_t, isi_l_l, isi_l_n, isi_l_s, isi_s_i, isi_s_b, isi_s_s, isi_s_t, isi_s_l, isi_s_n, atI_0, atI_1, atI_2, dIx_tup, dIx_list, dLe_int, dLe_pair, dEq_int, dNe_int, dEq_bool, dNe_bool, dAdd_int, dSub_int, dLt_int, dGt_int, dGe_int, dLtG_int, dGtG_int, dGeG_int, dLeG_int, dLeG_pair, dMinG_two, dMaxG_two, dNeg_int, dLen_list, dLen_tup, dTuple_list, dTuple_tup, dSortG_list, dSortG_tup, dSortG_dic, seqD_list, seqD_tup, List.map_cons, List.map_nil, List.cons_append, List.nil_append, List.append_nil, List.replicate_succ, List.replicate_zero, List.length_cons, List.length_nil, Option.some.injEq, exists_eq_left', exists_eq_left, true_and, and_true, PyData.bool.injEq, PyData.int.injEq, PyData.list.injEq, PyData.tuple.injEq, List.cons.injEq, Nat.reduceAdd, Nat.reduceSub, Bool.not_true, Bool.not_false, Bool.and_true, Bool.true_and, Bool.and_false, Bool.false_and, if_true, if_false, Bool.false_eq_true]
  exact w_open_of_ok h hl hb q
theorem w_close_set_ok {N : Net} {xs : List Nat} {k : Nat} {Q : D → Prop} (h : N.Ok) (hl : xs.Pairwise (· < ·)) (hb : ∀ x ∈ xs, x < N.n) (hk : k ≤ N.n) (q : Q (ptsD (closeL N xs k))) : w_close_set [netD N, ptsD xs, natD k] Q := by
  have h12 := h.n12
  simp only [w_close_set, b_close_set, N_close_set, wseq, wskip, wset, wret, wretN, wexpr, wifs, wfor, wnever, wbreak, wcont, wappend, wappend2, wseti, wseti2, wdput, waug, wpar2, wpar3, wunp, wpop, wwhile, wvar, wcst, w1, w2, wn, wtest, wand, wor, wnot, wandV, worV, wnotV, wif, wchain, wchain3, wnil, wcons, wcall, wtup, wlst, wlc, wiSeq, wiRng1, wiRng2, wiEnum, wgn, s_wgt, s_wgnil, s_wgcons, wyes, wrnglist, wrngtuple, wrg1, wrg2, wdisp1, wdc, wno, wsm, wslice, wsliceL, dCut, dCutL, windex, wiZip, wupd, eg, put, del, dels, dIsi, dIsi2, tyD_int, tyD_bool, tyD_tuple, tyD_list, tyD_str, tyD_none, isi_i_i, isi_i_b, isi_i_t, isi_i_l, isi_i_n, isi_i_s, isi_b_i, isi_b_b, isi_b_n, isi_t_i, isi_t_b, isi_t_t, isi_t_l, isi_t_s, isi_t_n, isi_l_i, isi_l_b, isi_l_t, isi_l_l, isi_l_n, isi_l_s, isi_s_i, isi_s_b, isi_s_s, isi_s_t, isi_s_l, isi_s_n, atI_0, atI_1, atI_2, dIx_tup, dIx_list, dLe_int, dLe_pair, dEq_int, dNe_int, dEq_bool, dNe_bool, dAdd_int, dSub_int, dLt_int, dGt_int, dGe_int, dLtG_int, dGtG_int, dGeG_int, dLeG_int, dLeG_pair, dMinG_two, dMaxG_two, dNeg_int, dLen_list, dLen_tup, dTuple_list, dTuple_tup, dSortG_list, dSortG_tup, dSortG_dic, seqD_list, seqD_tup, List.map_cons, List.map_nil, List.cons_append, List.nil_append, List.append_nil, List.replicate_succ, List.replicate_zero, List.length_cons, List.length_nil, Option.some.injEq, exists_eq_left', exists_eq_left, true_and, and_true, PyData.bool.injEq, PyData.int.injEq, PyData.list.injEq, PyData.tuple.injEq, List.cons.injEq, Nat.reduceAdd, Nat.reduceSub, Bool.not_true, Bool.not_false, Bool.and_true, Bool.true_and, Bool.and_false, Bool.false_and, if_true, if_false, Bool.false_eq_true]
  refine w_need_lot_ok h hl hb hk ?_
  simp only [wseq, wskip, wset, wret, wretN, wexpr, wifs, wfor, wnever, wbreak, wcont, wappend, wappend2, wseti, wseti2, wdput, waug, wpar2, wpar3, wunp, wpop, wwhile, wvar, wcst, w1, w2, wn, wtest, wand, wor, wnot, wandV, worV, wnotV, wif, wchain, wchain3, wnil, wcons, wcall, wtup, wlst, wlc, wiSeq, wiRng1, wiRng2, wiEnum, wgn, s_wgt, s_wgnil, s_wgcons, wyes, wrnglist, wrngtuple, wrg1, wrg2, wdisp1, wdc, wno, wsm, wslice, wsliceL, dCut, dCutL, windex, wiZip, wupd, eg, put, del, dels, dIsi, dIsi2, tyD_int, tyD_bool, tyD_tuple, tyD_list, tyD_str, tyD_none, isi_i_i, isi_i_b, isi_i_t, isi_i_l, isi_i_n, isi_i_s, isi_b_i, isi_b_b, isi_b_n, isi_t_i, isi_t_b, isi_t_t, isi_t_l, isi_t_s, isi_t_n, isi_l_i, isi_l_b, isi_l_t, isi_l_l, isi_l_n, isi_l_s, isi_s_i, isi_s_b, isi_s_s, isi_s_t, isi_s_l, isi_s_n, atI_0, atI_1, atI_2, dIx_tup, dIx_list, dLe_int, dLe_pair, dEq_int, dNe_int, dEq_bool, dNe_bool, dAdd_int, dSub_int, dLt_int, dGt_int, dGe_int, dLtG_int, dGtG_int, dGeG_int, dLeG_int, dLeG_pair, dMinG_two, dMaxG_two, dNeg_int, dLen_list, dLen_tup, dTuple_list, dTuple_tup, dSortG_list, dSortG_tup, dSortG_dic, seqD_list, seqD_tup, List.map_cons, List.map_nil, List.cons_append, List.nil_append, List.append_nil, List.replicate_succ, List.replicate_zero, List.length_cons, List.length_nil, Option.some.injEq, exists_eq_left', exists_eq_left, true_and, and_true, PyData.bool.injEq, PyData.int.injEq, PyData.list.injEq, PyData.tuple.injEq, List.cons.injEq, Nat.reduceAdd, Nat.reduceSub, Bool.not_true, Bool.not_false, Bool.and_true, Bool.true_and, Bool.and_false, Bool.false_and, if_true, if_false, Bool.false_eq_true]
  exact w_close_of_ok h q
theorem w_is_open_set_ok {N : Net} {xs : List Nat} {k : Nat} {Q : D → Prop} (h : N.Ok) (hl : xs.Pairwise (· < ·)) (hb : ∀ x ∈ xs, x < N.n) (hk : k ≤ N.n) (q : Q (.bool (decide (openL N xs k = xs)))) : w_is_open_set [netD N, ptsD xs, natD k] Q := by
  have h12 := h.n12
  simp only [w_is_open_set, b_is_open_set, N_is_open_set, wseq, wskip, wset, wret, wretN, wexpr, wifs, wfor, wnever, wbreak, wcont, wappend, wappend2, wseti, wseti2, wdput, waug, wpar2, wpar3, wunp, wpop, wwhile, wvar, wcst, w1, w2, wn, wtest, wand, wor, wnot, wandV, worV, wnotV, wif, wchain, wchain3, wnil, wcons, wcall, wtup, wlst, wlc, wiSeq, wiRng1, wiRng2, wiEnum, wgn, s_wgt, s_wgnil, s_wgcons, wyes, wrnglist, wrngtuple, wrg1, wrg2, wdisp1, wdc, wno, wsm, wslice, wsliceL, dCut, dCutL, windex, wiZip, wupd, eg, put, del, dels, dIsi, dIsi2, tyD_int, tyD_bool, tyD_tuple, tyD_list, tyD_str, tyD_none, isi_i_i, isi_i_b, isi_i_t, isi_i_l, isi_i_n, isi_i_s, isi_b_i, isi_b_b, isi_b_n, isi_t_i, isi_t_b, isi_t_t, isi_t_l, isi_t_s, isi_t_n, isi_l_i, isi_l_b, isi_l_t, isi_l_l, isi_l_n, isi_l_s, isi_s_i, isi_s_b, isi_s_s, isi_s_t, isi_s_l, isi_s_n, atI_0, atI_1, atI_2, dIx_tup, dIx_list, dLe_int, dLe_pair, dEq_int, dNe_int, dEq_bool, dNe_bool, dAdd_int, dSub_int, dLt_int, dGt_int, dGe_int, dLtG_int, dGtG_int, dGeG_int, dLeG_int, dLeG_pair, dMinG_two, dMaxG_two, dNeg_int, dLen_list, dLen_tup, dTuple_list, dTuple_tup, dSortG_list, dSortG_tup, dSortG_dic, seqD_list, seqD_tup, List.map_cons, List.map_nil, List.cons_append, List.nil_append, List.append_nil, List.replicate_succ, List.replicate_zero, List.length_cons, List.length_nil, Option.some.injEq, exists_eq_left', exists_eq_left, true_and, and_true, PyData.bool.injEq, PyData.int.injEq, PyData.list.injEq, PyData.tuple.injEq, List.cons.injEq, Nat.reduceAdd, Nat.reduceSub, Bool.not_true, Bool.not_false, Bool.and_true, Bool.true_and, Bool.and_false, Bool.false_and, if_true, if_false, Bool.false_eq_true]
  refine w_need_lot_ok h hl hb hk ?_
  simp only [wseq, wskip, wset, wret, wretN, wexpr, wifs, wfor, wnever, wbreak, wcont, wappend, wappend2, wseti, wseti2, wdput, waug, wpar2, wpar3, wunp, wpop, wwhile, wvar, wcst, w1, w2, wn, wtest, wand, wor, wnot, wandV, worV, wnotV, wif, wchain, wchain3, wnil, wcons, wcall, wtup, wlst, wlc, wiSeq, wiRng1, wiRng2, wiEnum, wgn, s_wgt, s_wgnil, s_wgcons, wyes, wrnglist, wrngtuple, wrg1, wrg2, wdisp1, wdc, wno, wsm, wslice, wsliceL, dCut, dCutL, windex, wiZip, wupd, eg, put, del, dels, dIsi, dIsi2, tyD_int, tyD_bool, tyD_tuple, tyD_list, tyD_str, tyD_none, isi_i_i, isi_i_b, isi_i_t, isi_i_l, isi_i_n, isi_i_s, isi_b_i, isi_b_b, isi_b_n, isi_t_i, isi_t_b, isi_t_t, isi_t_l, isi_t_s, isi_t_n, isi_l_i, isi_l_b, isi_l_t, isi_l_l, isi_l_n, isi_l_s, isi_s_i, isi_s_b, isi_s_s, isi_s_t, isi_s_l, isi_s_n, atI_0, atI_1, atI_2, dIx_tup, dIx_list, dLe_int, dLe_pair, dEq_int, dNe_int, dEq_bool, dNe_bool, dAdd_int, dSub_int, dLt_int, dGt_int, dGe_int, dLtG_int, dGtG_int, dGeG_int, dLeG_int, dLeG_pair, dMinG_two, dMaxG_two, dNeg_int, dLen_list, dLen_tup, dTuple_list, dTuple_tup, dSortG_list, dSortG_tup, dSortG_dic, seqD_list, seqD_tup, List.map_cons, List.map_nil, List.cons_append, List.nil_append, List.append_nil, List.replicate_succ, List.replicate_zero, List.length_cons, List.length_nil, Option.some.injEq, exists_eq_left', exists_eq_left, true_and, and_true, PyData.bool.injEq, PyData.int.injEq, PyData.list.injEq, PyData.tuple.injEq, List.cons.injEq, Nat.reduceAdd, Nat.reduceSub, Bool.not_true, Bool.not_false, Bool.and_true, Bool.true_and, Bool.and_false, Bool.false_and, if_true, if_false, Bool.false_eq_true]
  have hxl := incr_le hl hb
  have := openL_len h (xs := xs) (by omega) k
  exact w_open_of_ok h hl hb ⟨_, eq_ptsD (by omega) (by omega), q⟩
theorem w_shave_set_ok {N : Net} {xs : List Nat} {k : Nat} {Q : D → Prop} (h : N.Ok) (hl : xs.Pairwise (· < ·)) (hb : ∀ x ∈ xs, x < N.n) (hk : k ≤ N.n) (q : Q (ptsD (shaveL N k xs))) : w_shave_set [netD N, ptsD xs, natD k] Q := by
  have h12 := h.n12
  simp only [w_shave_set, b_shave_set, N_shave_set, wseq, wskip, wset, wret, wretN, wexpr, wifs, wfor, wnever, wbreak, wcont, wappend, wappend2, wseti, wseti2, wdput, waug, wpar2, wpar3, wunp, wpop, wwhile, wvar, wcst, w1, w2, wn, wtest, wand, wor, wnot, wandV, worV, wnotV, wif, wchain, wchain3, wnil, wcons, wcall, wtup, wlst, wlc, wiSeq, wiRng1, wiRng2, wiEnum, wgn, s_wgt, s_wgnil, s_wgcons, wyes, wrnglist, wrngtuple, wrg1, wrg2, wdisp1, wdc, wno, wsm, wslice, wsliceL, dCut, dCutL, windex, wiZip, wupd, eg, put, del, dels, dIsi, dIsi2, tyD_int, tyD_bool, tyD_tuple, tyD_list, tyD_str, tyD_none, isi_i_i, isi_i_b, isi_i_t, isi_i_l, isi_i_n, isi_i_s, isi_b_i, isi_b_b, isi_b_n, isi_t_i, isi_t_b, isi_t_t, isi_t_l, isi_t_s, isi_t_n, isi_l_i, isi_l_b, isi_l_t, isi_l_l, isi_l_n, isi_l_s, isi_s_i, isi_s_b, isi_s_s, isi_s_t, isi_s_l, isi_s_n, atI_0, atI_1, atI_2, dIx_tup, dIx_list, dLe_int, dLe_pair, dEq_int, dNe_int, dEq_bool, dNe_bool, dAdd_int, dSub_int, dLt_int, dGt_int, dGe_int, dLtG_int, dGtG_int, dGeG_int, dLeG_int, dLeG_pair, dMinG_two, dMaxG_two, dNeg_int, dLen_list, dLen_tup, dTuple_list, dTuple_tup, dSortG_list, dSortG_tup, dSortG_dic, seqD_list, seqD_tup, List.map_cons, List.map_nil, List.cons_append, List.nil_append, List.append_nil, List.replicate_succ, List.replicate_zero, List.length_cons, List.length_nil, Option.some.injEq, exists_eq_left', exists_eq_left, true_and, and_true, PyData.bool.injEq, PyData.int.injEq, PyData.list.injEq, PyData.tuple.injEq, List.cons.injEq, Nat.reduceAdd, Nat.reduceSub, Bool.not_true, Bool.not_false, Bool.and_true, Bool.true_and, Bool.and_false, Bool.false_and, if_true, if_false, Bool.false_eq_true]
  refine w_need_lot_ok h hl hb hk ?_
  simp only [wseq, wskip, wset, wret, wretN, wexpr, wifs, wfor, wnever, wbreak, wcont, wappend, wappend2, wseti, wseti2, wdput, waug, wpar2, wpar3, wunp, wpop, wwhile, wvar, wcst, w1, w2, wn, wtest, wand, wor, wnot, wandV, worV, wnotV, wif, wchain, wchain3, wnil, wcons, wcall, wtup, wlst, wlc, wiSeq, wiRng1, wiRng2, wiEnum, wgn, s_wgt, s_wgnil, s_wgcons, wyes, wrnglist, wrngtuple, wrg1, wrg2, wdisp1, wdc, wno, wsm, wslice, wsliceL, dCut, dCutL, windex, wiZip, wupd, eg, put, del, dels, dIsi, dIsi2, tyD_int, tyD_bool, tyD_tuple, tyD_list, tyD_str, tyD_none, isi_i_i, isi_i_b, isi_i_t, isi_i_l, isi_i_n, isi_i_s, isi_b_i, isi_b_b, isi_b_n, isi_t_i, isi_t_b, isi_t_t, isi_t_l, isi_t_s, isi_t_n, isi_l_i, isi_l_b, isi_l_t, isi_l_l, isi_l_n, isi_l_s, isi_s_i, isi_s_b, isi_s_s, isi_s_t, isi_s_l, isi_s_n, atI_0, atI_1, atI_2, dIx_tup, dIx_list, dLe_int, dLe_pair, dEq_int, dNe_int, dEq_bool, dNe_bool, dAdd_int, dSub_int, dLt_int, dGt_int, dGe_int, dLtG_int, dGtG_int, dGeG_int, dLeG_int, dLeG_pair, dMinG_two, dMaxG_two, dNeg_int, dLen_list, dLen_tup, dTuple_list, dTuple_tup, dSortG_list, dSortG_tup, dSortG_dic, seqD_list, seqD_tup, List.map_cons, List.map_nil, List.cons_append, List.nil_append, List.append_nil, List.replicate_succ, List.replicate_zero, List.length_cons, List.length_nil, Option.some.injEq, exists_eq_left', exists_eq_left, true_and, and_true, PyData.bool.injEq, PyData.int.injEq, PyData.list.injEq, PyData.tuple.injEq, List.cons.injEq, Nat.reduceAdd, Nat.reduceSub, Bool.not_true, Bool.not_false, Bool.and_true, Bool.true_and, Bool.and_false, Bool.false_and, if_true, if_false, Bool.false_eq_true]
  refine ⟨_, _, ⟨rfl, rfl⟩, ⟨by omega, by omega⟩, ⟨by omega, by omega⟩, ?_⟩
  rw [show ((k : Int) + 1 - 1).toNat = k by omega]
  unfold rngD
  refine wfl_inv (fun i : Nat => PyData.int (1 + (i : Nat))) (fun pre ρ => ∃ b, ρ = [some (netD N), some (ptsD (shaveL N pre.length xs)), some (natD k), some (nearD N), some (ptsL (partsL N (List.range N.n))), b]) (fun ρ hI => ?_) (fun pre x post ρ M e hM hI => ?_) ⟨none, rfl⟩
  · obtain ⟨b, rfl⟩ := hI
    rw [List.length_range]
    exact ⟨_, rfl, q⟩
  · obtain ⟨b, rfl⟩ := hI
    obtain ⟨k1, k2, k3⟩ := range_split e
    obtain ⟨o1, o2⟩ := shaveL_ok (N := N) hl hb pre.length
    have e1 : PyData.int (1 + (x : Int)) = natD (pre.length + 1) := by
      rw [k2]; unfold natD; congr 1; omega
    have fin := hM _ ⟨some (natD (pre.length + 1)), rfl⟩
    rw [show (pre ++ [x]).length = pre.length + 1 by simp] at fin
    simp only [e1, wseq, wskip, wset, wret, wretN, wexpr, wifs, wfor, wnever, wbreak, wcont, wappend, wappend2, wseti, wseti2, wdput, waug, wpar2, wpar3, wunp, wpop, wwhile, wvar, wcst, w1, w2, wn, wtest, wand, wor, wnot, wandV, worV, wnotV, wif, wchain, wchain3, wnil, wcons, wcall, wtup, wlst, wlc, wiSeq, wiRng1, wiRng2, wiEnum, wgn, s_wgt, s_wgnil, s_wgcons, wyes, wrnglist, wrngtuple, wrg1, wrg2, wdisp1, wdc, wno, wsm, wslice, wsliceL, dCut, dCutL, windex, wiZip, wupd, eg, put, del, dels, dIsi, dIsi2, tyD_int, tyD_bool, tyD_tuple, tyD_list, tyD_str, tyD_none, isi_i_i, isi_i_b, isi_i_t, isi_i_l, isi_i_n, isi_i_s, isi_b_i, isi_b_b, isi_b_n, isi_t_i, isi_t_b, isi_t_t, isi_t_l, isi_t_s, isi_t_n, isi_l_i, isi_l_b, isi_l_t, isi_l_l, isi_l_n, isi_l_s, isi_s_i, isi_s_b, isi_s_s, isi_s_t, isi_s_l, isi_s_n, atI_0, atI_1, atI_2, dIx_tup, dIx_list, dLe_int, dLe_pair, dEq_int, dNe_int, dEq_bool, dNe_bool, dAdd_int, dSub_int, dLt_int, dGt_int, dGe_int, dLtG_int, dGtG_int, dGeG_int, dLeG_int, dLeG_pair, dMinG_two, dMaxG_two, dNeg_int, dLen_list, dLen_tup, dTuple_list, dTuple_tup, dSortG_list, dSortG_tup, dSortG_dic, seqD_list, seqD_tup, List.map_cons, List.map_nil, List.cons_append, List.nil_append, List.append_nil, List.replicate_succ, List.replicate_zero, List.length_cons, List.length_nil, Option.some.injEq, exists_eq_left', exists_eq_left, true_and, and_true, PyData.bool.injEq, PyData.int.injEq, PyData.list.injEq, PyData.tuple.injEq, List.cons.injEq, Nat.reduceAdd, Nat.reduceSub, Bool.not_true, Bool.not_false, Bool.and_true, Bool.true_and, Bool.and_false, Bool.false_and, if_true, if_false, Bool.false_eq_true]
    exact w_open_of_ok h o1 o2 (w_close_of_ok h fin)
end K54
namespace K54
open PySem PySem.Spec VS
theorem w_flat_with_ok {N : Net} {hs : List Int} {p : Nat} {Q : D → Prop} (h : N.Ok) (hr : hs.length = N.n) (hp : p < N.n) (q : ∀ fs : List Nat, fs.Nodup → (∀ k, k ∈ fs ↔ k ∈ flat N hs p) → Q (nDic fs)) : w_flat_with [nearD N, rowD hs, natD p] Q := by
  have h12 := h.n12
  simp only [w_flat_with, b_flat_with, N_flat_with, wseq, wskip, wset, wret, wretN, wexpr, wifs, wfor, wnever, wbreak, wcont, wappend, wappend2, wseti, wseti2, wdput, waug, wpar2, wpar3, wunp, wpop, wwhile, wvar, wcst, w1, w2, wn, wtest, wand, wor, wnot, wandV, worV, wnotV, wif, wchain, wchain3, wnil, wcons, wcall, wtup, wlst, wlc, wiSeq, wiRng1, wiRng2, wiEnum, wgn, s_wgt, s_wgnil, s_wgcons, wyes, wrnglist, wrngtuple, wrg1, wrg2, wdisp1, wdc, wno, wsm, wslice, wsliceL, dCut, dCutL, windex, wiZip, wupd, eg, put, del, dels, dIsi, dIsi2, tyD_int, tyD_bool, tyD_tuple, tyD_list, tyD_str, tyD_none, isi_i_i, isi_i_b, isi_i_t, isi_i_l, isi_i_n, isi_i_s, isi_b_i, isi_b_b, isi_b_n, isi_t_i, isi_t_b, isi_t_t, isi_t_l, isi_t_s, isi_t_n, isi_l_i, isi_l_b, isi_l_t, isi_l_l, isi_l_n, isi_l_s, isi_s_i, isi_s_b, isi_s_s, isi_s_t, isi_s_l, isi_s_n, atI_0, atI_1, atI_2, dIx_tup, dIx_list, dLe_int, dLe_pair, dEq_int, dNe_int, dEq_bool, dNe_bool, dAdd_int, dSub_int, dLt_int, dGt_int, dGe_int, dLtG_int, dGtG_int, dGeG_int, dLeG_int, dLeG_pair, dMinG_two, dMaxG_two, dNeg_int, dLen_list, dLen_tup, dTuple_list, dTuple_tup, dSortG_list, dSortG_tup, dSortG_dic, seqD_list, seqD_tup, List.map_cons, List.map_nil, List.cons_append, List.nil_append, List.append_nil, List.replicate_succ, List.replicate_zero, List.length_cons, List.length_nil, Option.some.injEq, exists_eq_left', exists_eq_left, true_and, and_true, PyData.bool.injEq, PyData.int.injEq, PyData.list.injEq, PyData.tuple.injEq, List.cons.injEq, Nat.reduceAdd, Nat.reduceSub, Bool.not_true, Bool.not_false, Bool.and_true, Bool.true_and, Bool.and_false, Bool.false_and, if_true, if_false, Bool.false_eq_true]
  refine ⟨_, rfl, sz_small (by decide), _, _, ⟨rfl, rfl⟩, ?_⟩
  refine wwhile_inv (fun m ρ => ∃ fs rim a b, ρ = [some (nearD N), some (rowD hs), some (natD p), some (nDic fs), some (natL rim), a, b] ∧ PInv N (levL hs (hat hs p)) p fs rim ∧ m = 2 * (N.n - fs.length) + rim.length ∧ m ≤ 2 * N.n) (fun m ρ M hI hM => ?_) ⟨[p], [p], none, none, rfl, PInv.init hp, rfl, by simp; omega⟩
  obtain ⟨fs, rim, a, b, rfl, hP, hm, hm2⟩ := hI
  have hfl := hP.len
  have hne := ne_nil (shaped_natL (xs := rim) (by omega))
  simp only [natL, wseq, wskip, wset, wret, wretN, wexpr, wifs, wfor, wnever, wbreak, wcont, wappend, wappend2, wseti, wseti2, wdput, waug, wpar2, wpar3, wunp, wpop, wwhile, wvar, wcst, w1, w2, wn, wtest, wand, wor, wnot, wandV, worV, wnotV, wif, wchain, wchain3, wnil, wcons, wcall, wtup, wlst, wlc, wiSeq, wiRng1, wiRng2, wiEnum, wgn, s_wgt, s_wgnil, s_wgcons, wyes, wrnglist, wrngtuple, wrg1, wrg2, wdisp1, wdc, wno, wsm, wslice, wsliceL, dCut, dCutL, windex, wiZip, wupd, eg, put, del, dels, dIsi, dIsi2, tyD_int, tyD_bool, tyD_tuple, tyD_list, tyD_str, tyD_none, isi_i_i, isi_i_b, isi_i_t, isi_i_l, isi_i_n, isi_i_s, isi_b_i, isi_b_b, isi_b_n, isi_t_i, isi_t_b, isi_t_t, isi_t_l, isi_t_s, isi_t_n, isi_l_i, isi_l_b, isi_l_t, isi_l_l, isi_l_n, isi_l_s, isi_s_i, isi_s_b, isi_s_s, isi_s_t, isi_s_l, isi_s_n, atI_0, atI_1, atI_2, dIx_tup, dIx_list, dLe_int, dLe_pair, dEq_int, dNe_int, dEq_bool, dNe_bool, dAdd_int, dSub_int, dLt_int, dGt_int, dGe_int, dLtG_int, dGtG_int, dGeG_int, dLeG_int, dLeG_pair, dMinG_two, dMaxG_two, dNeg_int, dLen_list, dLen_tup, dTuple_list, dTuple_tup, dSortG_list, dSortG_tup, dSortG_dic, seqD_list, seqD_tup, List.map_cons, List.map_nil, List.cons_append, List.nil_append, List.append_nil, List.replicate_succ, List.replicate_zero, List.length_cons, List.length_nil, Option.some.injEq, exists_eq_left', exists_eq_left, true_and, and_true, PyData.bool.injEq, PyData.int.injEq, PyData.list.injEq, PyData.tuple.injEq, List.cons.injEq, Nat.reduceAdd, Nat.reduceSub, Bool.not_true, Bool.not_false, Bool.and_true, Bool.true_and, Bool.and_false, Bool.false_and, if_true, if_false, Bool.false_eq_true] at hne ⊢
  refine ⟨sz_small (by decide), _, hne, _, rfl, ?_⟩
  rcases List.eq_nil_or_concat rim with rfl | ⟨r, here, rfl⟩
  · rw [if_neg (by simp)]
    exact q fs hP.nd (comp_of hP.st hP.rc fun u hu => hP.cl u hu (by simp))
  · rw [if_pos (by simp), List.concat_eq_append] at *
    have hhr := hP.rc here (hP.rm here (by simp))
    have hh : here < N.n := hhr.2
    have hhat : hat hs here = hat hs p := by
      rcases hhr.1.isin with e | e
      · rw [e]
      · exact (levL_mem.mp e.1).2
    simp only [List.map_append, List.map_cons, List.map_nil]
    refine ⟨_, natD here, rfl, by simp, _, nearD_at hh, _, rfl, fun _ => ?_⟩
    have hles := hP.less
    have hst := hP.step
    have hlen := hst.len
    rw [List.dropLast_concat]
    generalize hkept : levL hs (hat hs p) = kept at *
    refine wfl_inv natD (fun pre ρ => ∃ b, ρ = [some (nearD N), some (rowD hs), some (natD p), some (nDic (fs ++ freshL kept fs pre)), some (natL (r ++ freshL kept fs pre)), some (natD here), b]) (fun ρ hI => ?_) (fun pre x post ρ M2 e hM2 hI => ?_) ⟨b, by simp [freshL, natL]⟩
    · obtain ⟨b, rfl⟩ := hI
      exact hM _ _ (by omega) ⟨_, _, _, _, rfl, hst, rfl, by omega⟩
    · obtain ⟨b, rfl⟩ := hI
      have hsub : freshL kept fs pre ++ freshL kept fs (x :: post) = freshL kept fs (near N here) := by
        unfold freshL
        rw [e, List.filter_append]
      have hl2 := congrArg List.length hsub
      rw [List.length_append] at hl2 hlen
      have hx : x ∉ pre := by
        have := near_nodup N here
        rw [e] at this
        exact fun z => (List.nodup_append.mp this).2.2 x z x (by simp) rfl
      have hxn : x < N.n := (near_mem.mp (show x ∈ near N here by rw [e]; simp)).1
      have hxkept : x ∈ kept ↔ hat hs x = hat hs here := by
        rw [← hkept, levL_mem, hhat]
        exact ⟨fun z => z.2, fun z => ⟨by omega, z⟩⟩
      simp only [wseq, wskip, wset, wret, wretN, wexpr, wifs, wfor, wnever, wbreak, wcont, wappend, wappend2, wseti, wseti2, wdput, waug, wpar2, wpar3, wunp, wpop, wwhile, wvar, wcst, w1, w2, wn, wtest, wand, wor, wnot, wandV, worV, wnotV, wif, wchain, wchain3, wnil, wcons, wcall, wtup, wlst, wlc, wiSeq, wiRng1, wiRng2, wiEnum, wgn, s_wgt, s_wgnil, s_wgcons, wyes, wrnglist, wrngtuple, wrg1, wrg2, wdisp1, wdc, wno, wsm, wslice, wsliceL, dCut, dCutL, windex, wiZip, wupd, eg, put, del, dels, dIsi, dIsi2, tyD_int, tyD_bool, tyD_tuple, tyD_list, tyD_str, tyD_none, isi_i_i, isi_i_b, isi_i_t, isi_i_l, isi_i_n, isi_i_s, isi_b_i, isi_b_b, isi_b_n, isi_t_i, isi_t_b, isi_t_t, isi_t_l, isi_t_s, isi_t_n, isi_l_i, isi_l_b, isi_l_t, isi_l_l, isi_l_n, isi_l_s, isi_s_i, isi_s_b, isi_s_s, isi_s_t, isi_s_l, isi_s_n, atI_0, atI_1, atI_2, dIx_tup, dIx_list, dLe_int, dLe_pair, dEq_int, dNe_int, dEq_bool, dNe_bool, dAdd_int, dSub_int, dLt_int, dGt_int, dGe_int, dLtG_int, dGtG_int, dGeG_int, dLeG_int, dLeG_pair, dMinG_two, dMaxG_two, dNeg_int, dLen_list, dLen_tup, dTuple_list, dTuple_tup, dSortG_list, dSortG_tup, dSortG_dic, seqD_list, seqD_tup, List.map_cons, List.map_nil, List.cons_append, List.nil_append, List.append_nil, List.replicate_succ, List.replicate_zero, List.length_cons, List.length_nil, Option.some.injEq, exists_eq_left', exists_eq_left, true_and, and_true, PyData.bool.injEq, PyData.int.injEq, PyData.list.injEq, PyData.tuple.injEq, List.cons.injEq, Nat.reduceAdd, Nat.reduceSub, Bool.not_true, Bool.not_false, Bool.and_true, Bool.true_and, Bool.and_false, Bool.false_and, if_true, if_false, Bool.false_eq_true]
      have hnot := notIn_of (in_nDic (x := x) (xs := fs ++ freshL kept fs pre))
      refine ⟨_, ix_row (by omega), _, ix_row (by omega), ?_⟩
      simp only [wseq, wskip, wset, wret, wretN, wexpr, wifs, wfor, wnever, wbreak, wcont, wappend, wappend2, wseti, wseti2, wdput, waug, wpar2, wpar3, wunp, wpop, wwhile, wvar, wcst, w1, w2, wn, wtest, wand, wor, wnot, wandV, worV, wnotV, wif, wchain, wchain3, wnil, wcons, wcall, wtup, wlst, wlc, wiSeq, wiRng1, wiRng2, wiEnum, wgn, s_wgt, s_wgnil, s_wgcons, wyes, wrnglist, wrngtuple, wrg1, wrg2, wdisp1, wdc, wno, wsm, wslice, wsliceL, dCut, dCutL, windex, wiZip, wupd, eg, put, del, dels, dIsi, dIsi2, tyD_int, tyD_bool, tyD_tuple, tyD_list, tyD_str, tyD_none, isi_i_i, isi_i_b, isi_i_t, isi_i_l, isi_i_n, isi_i_s, isi_b_i, isi_b_b, isi_b_n, isi_t_i, isi_t_b, isi_t_t, isi_t_l, isi_t_s, isi_t_n, isi_l_i, isi_l_b, isi_l_t, isi_l_l, isi_l_n, isi_l_s, isi_s_i, isi_s_b, isi_s_s, isi_s_t, isi_s_l, isi_s_n, atI_0, atI_1, atI_2, dIx_tup, dIx_list, dLe_int, dLe_pair, dEq_int, dNe_int, dEq_bool, dNe_bool, dAdd_int, dSub_int, dLt_int, dGt_int, dGe_int, dLtG_int, dGtG_int, dGeG_int, dLeG_int, dLeG_pair, dMinG_two, dMaxG_two, dNeg_int, dLen_list, dLen_tup, dTuple_list, dTuple_tup, dSortG_list, dSortG_tup, dSortG_dic, seqD_list, seqD_tup, List.map_cons, List.map_nil, List.cons_append, List.nil_append, List.append_nil, List.replicate_succ, List.replicate_zero, List.length_cons, List.length_nil, Option.some.injEq, exists_eq_left', exists_eq_left, true_and, and_true, PyData.bool.injEq, PyData.int.injEq, PyData.list.injEq, PyData.tuple.injEq, List.cons.injEq, Nat.reduceAdd, Nat.reduceSub, Bool.not_true, Bool.not_false, Bool.and_true, Bool.true_and, Bool.and_false, Bool.false_and, if_true, if_false, Bool.false_eq_true]
      have same : x ∉ freshL kept fs [x] → freshL kept fs (pre ++ [x]) = freshL kept fs pre := fun z => by
        have : freshL kept fs [x] = [] := by
          unfold freshL at z ⊢
          rw [List.filter_cons] at z ⊢
          split at z
          · simp at z
          · rename_i zz; rw [if_neg zz]; rfl
        have e1 : freshL kept fs (pre ++ [x]) = freshL kept fs pre ++ freshL kept fs [x] := by unfold freshL; rw [List.filter_append]
        rw [e1, this, List.append_nil]
      by_cases hxk : hat hs x = hat hs here
      · rw [if_pos (by simpa using hxk)]
        refine ⟨_, hnot, _, rfl, ?_⟩
        by_cases hxf : x ∈ fs
        · rw [if_neg (by simp [hxf])]
          refine hM2 _ ⟨some (natD x), ?_⟩
          rw [same fun z => (freshL_mem.mp z).2.2 hxf]
        · have hxf2 : x ∉ fs ++ freshL kept fs pre := fun z => by
            rcases List.mem_append.mp z with z | z
            · exact hxf z
            · exact hx (freshL_mem.mp z).1
          rw [if_pos (by simpa using hxf2)]
          have e1 : freshL kept fs (pre ++ [x]) = freshL kept fs pre ++ [x] := by
            unfold freshL
            rw [List.filter_append, List.filter_cons, if_pos (by simp [hxkept.mpr hxk, hxf]), List.filter_nil]
          refine ⟨_, _, rfl, nDic_put _ x (by rw [List.length_append]; omega) hxf2, _, rfl, ?_, hM2 _ ⟨some (natD x), ?_⟩⟩
          · rw [List.length_map, List.length_append]
            exact Nat.lt_of_le_of_lt (show _ ≤ 1000 by simp only [List.length_append, List.length_cons, List.length_nil] at hm; omega) (by decide)
          · rw [e1]
            simp [natL, nDic]
      · rw [if_neg (by simpa using hxk)]
        refine hM2 _ ⟨some (natD x), ?_⟩
        rw [same fun z => hxk (hxkept.mp (freshL_mem.mp z).2.1)]
theorem w_flats_of_ok {N : Net} {hs : List Int} {Q : D → Prop} (h : N.Ok) (hr : hs.length = N.n) (q : Q (ptsL (flatsL N hs))) : w_flats_of [nearD N, rowD hs] Q := by
  have h12 := h.n12
  simp only [w_flats_of, b_flats_of, N_flats_of, wseq, wskip, wset, wret, wretN, wexpr, wifs, wfor, wnever, wbreak, wcont, wappend, wappend2, wseti, wseti2, wdput, waug, wpar2, wpar3, wunp, wpop, wwhile, wvar, wcst, w1, w2, wn, wtest, wand, wor, wnot, wandV, worV, wnotV, wif, wchain, wchain3, wnil, wcons, wcall, wtup, wlst, wlc, wiSeq, wiRng1, wiRng2, wiEnum, wgn, s_wgt, s_wgnil, s_wgcons, wyes, wrnglist, wrngtuple, wrg1, wrg2, wdisp1, wdc, wno, wsm, wslice, wsliceL, dCut, dCutL, windex, wiZip, wupd, eg, put, del, dels, dIsi, dIsi2, tyD_int, tyD_bool, tyD_tuple, tyD_list, tyD_str, tyD_none, isi_i_i, isi_i_b, isi_i_t, isi_i_l, isi_i_n, isi_i_s, isi_b_i, isi_b_b, isi_b_n, isi_t_i, isi_t_b, isi_t_t, isi_t_l, isi_t_s, isi_t_n, isi_l_i, isi_l_b, isi_l_t, isi_l_l, isi_l_n, isi_l_s, isi_s_i, isi_s_b, isi_s_s, isi_s_t, isi_s_l, isi_s_n, atI_0, atI_1, atI_2, dIx_tup, dIx_list, dLe_int, dLe_pair, dEq_int, dNe_int, dEq_bool, dNe_bool, dAdd_int, dSub_int, dLt_int, dGt_int, dGe_int, dLtG_int, dGtG_int, dGeG_int, dLeG_int, dLeG_pair, dMinG_two, dMaxG_two, dNeg_int, dLen_list, dLen_tup, dTuple_list, dTuple_tup, dSortG_list, dSortG_tup, dSortG_dic, seqD_list, seqD_tup, List.map_cons, List.map_nil, List.cons_append, List.nil_append, List.append_nil, List.replicate_succ, List.replicate_zero, List.length_cons, List.length_nil, Option.some.injEq, exists_eq_left', exists_eq_left, true_and, and_true, PyData.bool.injEq, PyData.int.injEq, PyData.list.injEq, PyData.tuple.injEq, List.cons.injEq, Nat.reduceAdd, Nat.reduceSub, Bool.not_true, Bool.not_false, Bool.and_true, Bool.true_and, Bool.and_false, Bool.false_and, if_true, if_false, Bool.false_eq_true]
  refine ⟨sz_small (by decide), _, _, ⟨rfl, rfl⟩, natD N.n, by rw [← hr]; simp [rowD, dLen_tup], _, rfl, ⟨by omega, by omega⟩, ?_⟩
  rw [Int.toNat_natCast, rngD_nat]
  refine wfl_inv natD (fun pre ρ => ∃ ds a b, ρ = [some (nearD N), some (rowD hs), some (ptsL ((pre.filter (leastF N hs)).map (flat N hs))), some (.dict (iDic ds)), a, b] ∧ ds.length ≤ 12 * pre.length ∧ ∀ y : Nat, (y : Int) ∈ ds ↔ ∃ p ∈ pre, y ∈ flat N hs p) (fun ρ hI => ?_) (fun pre x post ρ M e hM hI => ?_) ⟨[], none, none, rfl, Nat.le_refl _, fun y => by simp⟩
  · obtain ⟨ds, a, b, rfl, h1, h2⟩ := hI
    exact ⟨_, rfl, q⟩
  · obtain ⟨ds, a, b, rfl, h1, h2⟩ := hI
    obtain ⟨k1, k2, k3⟩ := range_split e
    have hx : x < N.n := by omega
    have hdone : (x : Int) ∈ ds ↔ ¬ leastF N hs x = true := by
      rw [h2, least_iff hr hx, k3, ← k2]
      constructor
      · rintro ⟨p, hp, hxp⟩ h; exact h p (List.mem_range.mp hp) hxp
      · intro h
        refine Classical.byContradiction fun z => h fun p hp hxp => z ⟨p, List.mem_range.mpr hp, hxp⟩
    simp only [wseq, wskip, wset, wret, wretN, wexpr, wifs, wfor, wnever, wbreak, wcont, wappend, wappend2, wseti, wseti2, wdput, waug, wpar2, wpar3, wunp, wpop, wwhile, wvar, wcst, w1, w2, wn, wtest, wand, wor, wnot, wandV, worV, wnotV, wif, wchain, wchain3, wnil, wcons, wcall, wtup, wlst, wlc, wiSeq, wiRng1, wiRng2, wiEnum, wgn, s_wgt, s_wgnil, s_wgcons, wyes, wrnglist, wrngtuple, wrg1, wrg2, wdisp1, wdc, wno, wsm, wslice, wsliceL, dCut, dCutL, windex, wiZip, wupd, eg, put, del, dels, dIsi, dIsi2, tyD_int, tyD_bool, tyD_tuple, tyD_list, tyD_str, tyD_none, isi_i_i, isi_i_b, isi_i_t, isi_i_l, isi_i_n, isi_i_s, isi_b_i, isi_b_b, isi_b_n, isi_t_i, isi_t_b, isi_t_t, isi_t_l, isi_t_s, isi_t_n, isi_l_i, isi_l_b, isi_l_t, isi_l_l, isi_l_n, isi_l_s, isi_s_i, isi_s_b, isi_s_s, isi_s_t, isi_s_l, isi_s_n, atI_0, atI_1, atI_2, dIx_tup, dIx_list, dLe_int, dLe_pair, dEq_int, dNe_int, dEq_bool, dNe_bool, dAdd_int, dSub_int, dLt_int, dGt_int, dGe_int, dLtG_int, dGtG_int, dGeG_int, dLeG_int, dLeG_pair, dMinG_two, dMaxG_two, dNeg_int, dLen_list, dLen_tup, dTuple_list, dTuple_tup, dSortG_list, dSortG_tup, dSortG_dic, seqD_list, seqD_tup, List.map_cons, List.map_nil, List.cons_append, List.nil_append, List.append_nil, List.replicate_succ, List.replicate_zero, List.length_cons, List.length_nil, Option.some.injEq, exists_eq_left', exists_eq_left, true_and, and_true, PyData.bool.injEq, PyData.int.injEq, PyData.list.injEq, PyData.tuple.injEq, List.cons.injEq, Nat.reduceAdd, Nat.reduceSub, Bool.not_true, Bool.not_false, Bool.and_true, Bool.true_and, Bool.and_false, Bool.false_and, if_true, if_false, Bool.false_eq_true]
    refine ⟨_, notIn_iDic, _, rfl, ?_⟩
    by_cases hz : leastF N hs x = true
    · have hd : (x : Int) ∉ ds := fun z => hdone.mp z hz
      rw [if_pos (by simpa using hd)]
      refine w_flat_with_ok h hr hx fun fs f1 f2 => ?_
      have hs2 : fs.mergeSort natle = flat N hs x := sort_nat_eq f1 (flat_lt N hs x) f2
      have hfl : fs.length ≤ N.n := nodup_len f1 fun k hk => flat_lim ((f2 k).mp hk)
      have hpl := List.length_filter_le (leastF N hs) pre
      refine ⟨_, rfl, by rw [List.length_map, List.length_map]; exact Nat.lt_of_le_of_lt (show _ ≤ 1000 by omega) (by decide), _, nDic_sort fs, _, rfl, ?_⟩
      refine ⟨_, rfl, by rw [iDic_split], _, rfl, by rw [nEnt_split], ?_, ?_⟩
      · unfold iDic nEnt iDic toI
        rw [List.length_map, List.length_map, List.length_map]
        exact sz_small (by omega)
      · have e4 : dmerge (iDic ds) (nEnt fs) = iDic ((toI fs).foldl iAdd ds) := iDic_merge _ _
        have e3 : List.map ptsD ((pre.filter (leastF N hs)).map (flat N hs)) ++ [PyData.tuple (List.map natD (fs.mergeSort natle))] = List.map ptsD (((pre ++ [x]).filter (leastF N hs)).map (flat N hs)) := by
          rw [List.filter_append, List.filter_cons, if_pos hz, List.filter_nil, List.map_append, List.map_append, hs2]; rfl
        rw [e4, e3]
        refine hM _ ⟨_, _, _, rfl, ?_, fun y => ?_⟩
        · have := iFold_len (toI fs) ds
          have e5 : (toI fs).length = fs.length := by unfold toI; rw [List.length_map]
          rw [List.length_append, List.length_cons, List.length_nil]
          omega
        · have : ∀ (xs ks : List Int) (k : Int), k ∈ xs.foldl iAdd ks ↔ k ∈ ks ∨ k ∈ xs := by
            intro xs
            induction xs with
            | nil => intro ks k; simp
            | cons z xs ih =>
              intro ks k
              rw [List.foldl_cons, ih, iAdd_mem, List.mem_cons, or_assoc]
          rw [this, h2, toI_mem, f2]
          constructor
          · rintro (⟨p, hp, hy⟩ | hy)
            · exact ⟨p, List.mem_append_left _ hp, hy⟩
            · exact ⟨x, by simp, hy⟩
          · rintro ⟨p, hp, hy⟩
            rcases List.mem_append.mp hp with hp | hp
            · exact .inl ⟨p, hp, hy⟩
            · simp at hp; subst hp; exact .inr hy
    · have hd : (x : Int) ∈ ds := hdone.mpr hz
      rw [if_neg (by simpa using hd)]
      refine hM _ ⟨ds, some (natD x), b, ?_, by simp; omega, fun y => ?_⟩
      · rw [List.filter_append, List.filter_cons, if_neg hz, List.filter_nil, List.append_nil]
      · rw [h2]
        constructor
        · rintro ⟨p, hp, hy⟩; exact ⟨p, List.mem_append_left _ hp, hy⟩
        · rintro ⟨p, hp, hy⟩
          rcases List.mem_append.mp hp with hp | hp
          · exact ⟨p, hp, hy⟩
          · simp at hp; subst hp
            obtain ⟨p', hp', hx'⟩ := (h2 p).mp hd
            have : p' < N.n := by rw [k3] at hp'; have := List.mem_range.mp hp'; omega
            exact ⟨p', hp', by rw [← flat_eq hr this hx']; exact hy⟩
theorem w_rim_of_ok {N : Net} {pts : List Nat} {Q : D → Prop} (h : N.Ok) (hp : ∀ x ∈ pts, x < N.n) (hl : pts.length ≤ 12) (q : Q (natL (rimL N pts))) : w_rim_of [nearD N, ptsD pts] Q := by
  have h12 := h.n12
  simp only [w_rim_of, b_rim_of, N_rim_of, wdict0, wseq, wskip, wset, wret, wretN, wexpr, wifs, wfor, wnever, wbreak, wcont, wappend, wappend2, wseti, wseti2, wdput, waug, wpar2, wpar3, wunp, wpop, wwhile, wvar, wcst, w1, w2, wn, wtest, wand, wor, wnot, wandV, worV, wnotV, wif, wchain, wchain3, wnil, wcons, wcall, wtup, wlst, wlc, wiSeq, wiRng1, wiRng2, wiEnum, wgn, s_wgt, s_wgnil, s_wgcons, wyes, wrnglist, wrngtuple, wrg1, wrg2, wdisp1, wdc, wno, wsm, wslice, wsliceL, dCut, dCutL, windex, wiZip, wupd, eg, put, del, dels, dIsi, dIsi2, tyD_int, tyD_bool, tyD_tuple, tyD_list, tyD_str, tyD_none, isi_i_i, isi_i_b, isi_i_t, isi_i_l, isi_i_n, isi_i_s, isi_b_i, isi_b_b, isi_b_n, isi_t_i, isi_t_b, isi_t_t, isi_t_l, isi_t_s, isi_t_n, isi_l_i, isi_l_b, isi_l_t, isi_l_l, isi_l_n, isi_l_s, isi_s_i, isi_s_b, isi_s_s, isi_s_t, isi_s_l, isi_s_n, atI_0, atI_1, atI_2, dIx_tup, dIx_list, dLe_int, dLe_pair, dEq_int, dNe_int, dEq_bool, dNe_bool, dAdd_int, dSub_int, dLt_int, dGt_int, dGe_int, dLtG_int, dGtG_int, dGeG_int, dLeG_int, dLeG_pair, dMinG_two, dMaxG_two, dNeg_int, dLen_list, dLen_tup, dTuple_list, dTuple_tup, dSortG_list, dSortG_tup, dSortG_dic, seqD_list, seqD_tup, List.map_cons, List.map_nil, List.cons_append, List.nil_append, List.append_nil, List.replicate_succ, List.replicate_zero, List.length_cons, List.length_nil, Option.some.injEq, exists_eq_left', exists_eq_left, true_and, and_true, PyData.bool.injEq, PyData.int.injEq, PyData.list.injEq, PyData.tuple.injEq, List.cons.injEq, Nat.reduceAdd, Nat.reduceSub, Bool.not_true, Bool.not_false, Bool.and_true, Bool.true_and, Bool.and_false, Bool.false_and, if_true, if_false, Bool.false_eq_true]
  refine ⟨_, rfl, fun _ => ?_⟩
  refine wfl_inv natD (fun pre ρ => ∃ ds a b, ρ = [some (nearD N), some (ptsD pts), some (.dict (iDic ds)), a, b] ∧ ds.Nodup ∧ ds.length ≤ 12 * pre.length ∧ ∀ k, k ∈ ds ↔ ∃ y : Nat, k = (y : Int) ∧ y ∉ pts ∧ ∃ u ∈ pre, y ∈ near N u) (fun ρ hI => ?_) (fun pre x post ρ M e hM hI => ?_) ⟨[], none, none, rfl, .nil, Nat.le_refl _, fun y => by simp⟩
  · obtain ⟨ds, a, b, rfl, h1, h2, h3⟩ := hI
    refine ⟨_, rfl, _, iDic_sortG ds, ?_⟩
    rw [sort_toI h1 (rimL_lt N pts) fun k => by rw [h3, mem_toI]; simp only [rimL_mem], ← natL_toI]
    exact q
  · obtain ⟨ds, a, b, rfl, h1, h2, h3⟩ := hI
    have hx : x < N.n := hp x (by rw [e]; simp)
    have hpl : pre.length + 1 ≤ 12 := by
      have := congrArg List.length e
      rw [List.length_append, List.length_cons] at this; omega
    simp only [wseq, wskip, wset, wret, wretN, wexpr, wifs, wfor, wnever, wbreak, wcont, wappend, wappend2, wseti, wseti2, wdput, waug, wpar2, wpar3, wunp, wpop, wwhile, wvar, wcst, w1, w2, wn, wtest, wand, wor, wnot, wandV, worV, wnotV, wif, wchain, wchain3, wnil, wcons, wcall, wtup, wlst, wlc, wiSeq, wiRng1, wiRng2, wiEnum, wgn, s_wgt, s_wgnil, s_wgcons, wyes, wrnglist, wrngtuple, wrg1, wrg2, wdisp1, wdc, wno, wsm, wslice, wsliceL, dCut, dCutL, windex, wiZip, wupd, eg, put, del, dels, dIsi, dIsi2, tyD_int, tyD_bool, tyD_tuple, tyD_list, tyD_str, tyD_none, isi_i_i, isi_i_b, isi_i_t, isi_i_l, isi_i_n, isi_i_s, isi_b_i, isi_b_b, isi_b_n, isi_t_i, isi_t_b, isi_t_t, isi_t_l, isi_t_s, isi_t_n, isi_l_i, isi_l_b, isi_l_t, isi_l_l, isi_l_n, isi_l_s, isi_s_i, isi_s_b, isi_s_s, isi_s_t, isi_s_l, isi_s_n, atI_0, atI_1, atI_2, dIx_tup, dIx_list, dLe_int, dLe_pair, dEq_int, dNe_int, dEq_bool, dNe_bool, dAdd_int, dSub_int, dLt_int, dGt_int, dGe_int, dLtG_int, dGtG_int, dGeG_int, dLeG_int, dLeG_pair, dMinG_two, dMaxG_two, dNeg_int, dLen_list, dLen_tup, dTuple_list, dTuple_tup, dSortG_list, dSortG_tup, dSortG_dic, seqD_list, seqD_tup, List.map_cons, List.map_nil, List.cons_append, List.nil_append, List.append_nil, List.replicate_succ, List.replicate_zero, List.length_cons, List.length_nil, Option.some.injEq, exists_eq_left', exists_eq_left, true_and, and_true, PyData.bool.injEq, PyData.int.injEq, PyData.list.injEq, PyData.tuple.injEq, List.cons.injEq, Nat.reduceAdd, Nat.reduceSub, Bool.not_true, Bool.not_false, Bool.and_true, Bool.true_and, Bool.and_false, Bool.false_and, if_true, if_false, Bool.false_eq_true]
    refine ⟨_, ix_near hx, _, rfl, fun _ => ?_⟩
    refine wfl_inv natD (fun pp ρ => ∃ ds b, ρ = [some (nearD N), some (ptsD pts), some (.dict (iDic ds)), some (natD x), b] ∧ ds.Nodup ∧ ds.length ≤ 12 * pre.length + pp.length ∧ ∀ k, k ∈ ds ↔ ∃ y : Nat, k = (y : Int) ∧ y ∉ pts ∧ ((∃ u ∈ pre, y ∈ near N u) ∨ y ∈ pp)) (fun ρ hI => ?_) (fun pp y po ρ M2 e2 hM2 hI => ?_) ⟨ds, b, rfl, h1, h2, fun k => by rw [h3]; simp⟩
    · obtain ⟨ds, b, rfl, h1, h2, h3⟩ := hI
      have := near_len N x
      refine hM _ ⟨ds, _, _, rfl, h1, by rw [List.length_append, List.length_cons, List.length_nil]; omega, fun k => ?_⟩
      rw [h3]
      constructor
      · rintro ⟨y, rfl, h4, ⟨u, hu, hy⟩ | h5⟩
        · exact ⟨y, rfl, h4, u, List.mem_append_left _ hu, hy⟩
        · exact ⟨y, rfl, h4, x, by simp, h5⟩
      · rintro ⟨y, rfl, h4, u, hu, hy⟩
        rcases List.mem_append.mp hu with hu | hu
        · exact ⟨y, rfl, h4, .inl ⟨u, hu, hy⟩⟩
        · simp at hu; subst hu; exact ⟨y, rfl, h4, .inr hy⟩
    · obtain ⟨ds, b, rfl, h1, h2, h3⟩ := hI
      have hppl : pp.length + 1 ≤ 12 := by
        have h4 := near_len N x
        have := congrArg List.length e2
        rw [List.length_append, List.length_cons] at this; omega
      simp only [wseq, wskip, wset, wret, wretN, wexpr, wifs, wfor, wnever, wbreak, wcont, wappend, wappend2, wseti, wseti2, wdput, waug, wpar2, wpar3, wunp, wpop, wwhile, wvar, wcst, w1, w2, wn, wtest, wand, wor, wnot, wandV, worV, wnotV, wif, wchain, wchain3, wnil, wcons, wcall, wtup, wlst, wlc, wiSeq, wiRng1, wiRng2, wiEnum, wgn, s_wgt, s_wgnil, s_wgcons, wyes, wrnglist, wrngtuple, wrg1, wrg2, wdisp1, wdc, wno, wsm, wslice, wsliceL, dCut, dCutL, windex, wiZip, wupd, eg, put, del, dels, dIsi, dIsi2, tyD_int, tyD_bool, tyD_tuple, tyD_list, tyD_str, tyD_none, isi_i_i, isi_i_b, isi_i_t, isi_i_l, isi_i_n, isi_i_s, isi_b_i, isi_b_b, isi_b_n, isi_t_i, isi_t_b, isi_t_t, isi_t_l, isi_t_s, isi_t_n, isi_l_i, isi_l_b, isi_l_t, isi_l_l, isi_l_n, isi_l_s, isi_s_i, isi_s_b, isi_s_s, isi_s_t, isi_s_l, isi_s_n, atI_0, atI_1, atI_2, dIx_tup, dIx_list, dLe_int, dLe_pair, dEq_int, dNe_int, dEq_bool, dNe_bool, dAdd_int, dSub_int, dLt_int, dGt_int, dGe_int, dLtG_int, dGtG_int, dGeG_int, dLeG_int, dLeG_pair, dMinG_two, dMaxG_two, dNeg_int, dLen_list, dLen_tup, dTuple_list, dTuple_tup, dSortG_list, dSortG_tup, dSortG_dic, seqD_list, seqD_tup, List.map_cons, List.map_nil, List.cons_append, List.nil_append, List.append_nil, List.replicate_succ, List.replicate_zero, List.length_cons, List.length_nil, Option.some.injEq, exists_eq_left', exists_eq_left, true_and, and_true, PyData.bool.injEq, PyData.int.injEq, PyData.list.injEq, PyData.tuple.injEq, List.cons.injEq, Nat.reduceAdd, Nat.reduceSub, Bool.not_true, Bool.not_false, Bool.and_true, Bool.true_and, Bool.and_false, Bool.false_and, if_true, if_false, Bool.false_eq_true]
      refine ⟨_, notIn_ptsD, _, rfl, ?_⟩
      by_cases hy : y ∈ pts
      · rw [if_neg (by simpa using hy)]
        refine hM2 _ ⟨ds, _, rfl, h1, by rw [List.length_append, List.length_cons, List.length_nil]; omega, fun k => ?_⟩
        rw [h3]
        constructor
        · rintro ⟨z, rfl, h4, h5 | h5⟩
          · exact ⟨z, rfl, h4, .inl h5⟩
          · exact ⟨z, rfl, h4, .inr (List.mem_append_left _ h5)⟩
        · rintro ⟨z, rfl, h4, h5 | h5⟩
          · exact ⟨z, rfl, h4, .inl h5⟩
          · rcases List.mem_append.mp h5 with h5 | h5
            · exact ⟨z, rfl, h4, .inr h5⟩
            · simp at h5; subst h5; exact absurd hy h4
      · rw [if_pos (by simpa using hy)]
        refine ⟨_, _, rfl, iDic_dput (by omega), hM2 _ ⟨_, _, rfl, iAdd_nodup h1, ?_, fun k => ?_⟩⟩
        · have := iAdd_len ds (y : Int)
          rw [List.length_append, List.length_cons, List.length_nil]; omega
        rw [iAdd_mem, h3]
        constructor
        · rintro (⟨z, rfl, h4, h5 | h5⟩ | rfl)
          · exact ⟨z, rfl, h4, .inl h5⟩
          · exact ⟨z, rfl, h4, .inr (List.mem_append_left _ h5)⟩
          · exact ⟨y, rfl, hy, .inr (by simp)⟩
        · rintro ⟨z, rfl, h4, h5 | h5⟩
          · exact .inl ⟨z, rfl, h4, .inl h5⟩
          · rcases List.mem_append.mp h5 with h5 | h5
            · exact .inl ⟨z, rfl, h4, .inr h5⟩
            · simp at h5; subst h5; exact .inr rfl
theorem w_is_bump_ok {N : Net} {hs : List Int} {f : List Nat} {Q : D → Prop} (h : N.Ok) (hr : hs.length = N.n) (hf : ∀ x ∈ f, x < N.n) (hfl : f.length ≤ 12) (hne : f ≠ []) (q : Q (.bool (upB N hs f))) : w_is_bump [nearD N, rowD hs, ptsD f] Q := by
  have h12 := h.n12
  simp only [w_is_bump, b_is_bump, N_is_bump, wseq, wskip, wset, wret, wretN, wexpr, wifs, wfor, wnever, wbreak, wcont, wappend, wappend2, wseti, wseti2, wdput, waug, wpar2, wpar3, wunp, wpop, wwhile, wvar, wcst, w1, w2, wn, wtest, wand, wor, wnot, wandV, worV, wnotV, wif, wchain, wchain3, wnil, wcons, wcall, wtup, wlst, wlc, wiSeq, wiRng1, wiRng2, wiEnum, wgn, s_wgt, s_wgnil, s_wgcons, wyes, wrnglist, wrngtuple, wrg1, wrg2, wdisp1, wdc, wno, wsm, wslice, wsliceL, dCut, dCutL, windex, wiZip, wupd, eg, put, del, dels, dIsi, dIsi2, tyD_int, tyD_bool, tyD_tuple, tyD_list, tyD_str, tyD_none, isi_i_i, isi_i_b, isi_i_t, isi_i_l, isi_i_n, isi_i_s, isi_b_i, isi_b_b, isi_b_n, isi_t_i, isi_t_b, isi_t_t, isi_t_l, isi_t_s, isi_t_n, isi_l_i, isi_l_b, isi_l_t, isi_l_l, isi_l_n, isi_l_s, isi_s_i, isi_s_b, isi_s_s, isi_s_t, isi_s_l, isi_s_n, atI_0, atI_1, atI_2, dIx_tup, dIx_list, dLe_int, dLe_pair, dEq_int, dNe_int, dEq_bool, dNe_bool, dAdd_int, dSub_int, dLt_int, dGt_int, dGe_int, dLtG_int, dGtG_int, dGeG_int, dLeG_int, dLeG_pair, dMinG_two, dMaxG_two, dNeg_int, dLen_list, dLen_tup, dTuple_list, dTuple_tup, dSortG_list, dSortG_tup, dSortG_dic, seqD_list, seqD_tup, List.map_cons, List.map_nil, List.cons_append, List.nil_append, List.append_nil, List.replicate_succ, List.replicate_zero, List.length_cons, List.length_nil, Option.some.injEq, exists_eq_left', exists_eq_left, true_and, and_true, PyData.bool.injEq, PyData.int.injEq, PyData.list.injEq, PyData.tuple.injEq, List.cons.injEq, Nat.reduceAdd, Nat.reduceSub, Bool.not_true, Bool.not_false, Bool.and_true, Bool.true_and, Bool.and_false, Bool.false_and, if_true, if_false, Bool.false_eq_true]
  refine w_rim_of_ok h hf hfl ?_
  have hrl := rimL_len N f
  refine ⟨sz_small (by decide), _, ne_nil (shaped_nats (by omega)), _, rfl, ?_⟩
  by_cases hz : rimL N f = []
  · rw [if_neg (by simp [hz])]
    rw [up_nil hz] at q
    exact q
  · rw [if_pos (by simpa using hz)]
    refine ⟨_, rfl, fun _ => ⟨by rw [List.length_map]; exact sz_small (by omega), ?_⟩⟩
    refine wcl_map natD intD (hat hs) _ _ _ (fun x hx Qt hq => ?_) ?_
    · have := rimL_bd hx
      simp only [wseq, wskip, wset, wret, wretN, wexpr, wifs, wfor, wnever, wbreak, wcont, wappend, wappend2, wseti, wseti2, wdput, waug, wpar2, wpar3, wunp, wpop, wwhile, wvar, wcst, w1, w2, wn, wtest, wand, wor, wnot, wandV, worV, wnotV, wif, wchain, wchain3, wnil, wcons, wcall, wtup, wlst, wlc, wiSeq, wiRng1, wiRng2, wiEnum, wgn, s_wgt, s_wgnil, s_wgcons, wyes, wrnglist, wrngtuple, wrg1, wrg2, wdisp1, wdc, wno, wsm, wslice, wsliceL, dCut, dCutL, windex, wiZip, wupd, eg, put, del, dels, dIsi, dIsi2, tyD_int, tyD_bool, tyD_tuple, tyD_list, tyD_str, tyD_none, isi_i_i, isi_i_b, isi_i_t, isi_i_l, isi_i_n, isi_i_s, isi_b_i, isi_b_b, isi_b_n, isi_t_i, isi_t_b, isi_t_t, isi_t_l, isi_t_s, isi_t_n, isi_l_i, isi_l_b, isi_l_t, isi_l_l, isi_l_n, isi_l_s, isi_s_i, isi_s_b, isi_s_s, isi_s_t, isi_s_l, isi_s_n, atI_0, atI_1, atI_2, dIx_tup, dIx_list, dLe_int, dLe_pair, dEq_int, dNe_int, dEq_bool, dNe_bool, dAdd_int, dSub_int, dLt_int, dGt_int, dGe_int, dLtG_int, dGtG_int, dGeG_int, dLeG_int, dLeG_pair, dMinG_two, dMaxG_two, dNeg_int, dLen_list, dLen_tup, dTuple_list, dTuple_tup, dSortG_list, dSortG_tup, dSortG_dic, seqD_list, seqD_tup, List.map_cons, List.map_nil, List.cons_append, List.nil_append, List.append_nil, List.replicate_succ, List.replicate_zero, List.length_cons, List.length_nil, Option.some.injEq, exists_eq_left', exists_eq_left, true_and, and_true, PyData.bool.injEq, PyData.int.injEq, PyData.list.injEq, PyData.tuple.injEq, List.cons.injEq, Nat.reduceAdd, Nat.reduceSub, Bool.not_true, Bool.not_false, Bool.and_true, Bool.true_and, Bool.and_false, Bool.false_and, if_true, if_false, Bool.false_eq_true]
      exact ⟨_, ix_row (by omega), hq⟩
    · rw [List.nil_append]
      have hh := head_lt hf hne
      refine ⟨_, max_ints (xs := rimV N hs f) (rimV_ne.mpr hz), _, ix_head hne, _, ix_row (by omega), _, dLtG_int _ _, ?_⟩
      rw [up_val hz]
      exact q
theorem w_bumps_of_ok {N : Net} {hs : List Int} {k : Nat} {Q : D → Prop} (h : N.Ok) (hr : hs.length = N.n) (q : Q (ptsL (bumpsL N hs k))) : w_bumps_of [nearD N, rowD hs, natD k] Q := by
  have h12 := h.n12
  have hfl := flatsL_len N hs
  simp only [w_bumps_of, b_bumps_of, N_bumps_of, wseq, wskip, wset, wret, wretN, wexpr, wifs, wfor, wnever, wbreak, wcont, wappend, wappend2, wseti, wseti2, wdput, waug, wpar2, wpar3, wunp, wpop, wwhile, wvar, wcst, w1, w2, wn, wtest, wand, wor, wnot, wandV, worV, wnotV, wif, wchain, wchain3, wnil, wcons, wcall, wtup, wlst, wlc, wiSeq, wiRng1, wiRng2, wiEnum, wgn, s_wgt, s_wgnil, s_wgcons, wyes, wrnglist, wrngtuple, wrg1, wrg2, wdisp1, wdc, wno, wsm, wslice, wsliceL, dCut, dCutL, windex, wiZip, wupd, eg, put, del, dels, dIsi, dIsi2, tyD_int, tyD_bool, tyD_tuple, tyD_list, tyD_str, tyD_none, isi_i_i, isi_i_b, isi_i_t, isi_i_l, isi_i_n, isi_i_s, isi_b_i, isi_b_b, isi_b_n, isi_t_i, isi_t_b, isi_t_t, isi_t_l, isi_t_s, isi_t_n, isi_l_i, isi_l_b, isi_l_t, isi_l_l, isi_l_n, isi_l_s, isi_s_i, isi_s_b, isi_s_s, isi_s_t, isi_s_l, isi_s_n, atI_0, atI_1, atI_2, dIx_tup, dIx_list, dLe_int, dLe_pair, dEq_int, dNe_int, dEq_bool, dNe_bool, dAdd_int, dSub_int, dLt_int, dGt_int, dGe_int, dLtG_int, dGtG_int, dGeG_int, dLeG_int, dLeG_pair, dMinG_two, dMaxG_two, dNeg_int, dLen_list, dLen_tup, dTuple_list, dTuple_tup, dSortG_list, dSortG_tup, dSortG_dic, seqD_list, seqD_tup, List.map_cons, List.map_nil, List.cons_append, List.nil_append, List.append_nil, List.replicate_succ, List.replicate_zero, List.length_cons, List.length_nil, Option.some.injEq, exists_eq_left', exists_eq_left, true_and, and_true, PyData.bool.injEq, PyData.int.injEq, PyData.list.injEq, PyData.tuple.injEq, List.cons.injEq, Nat.reduceAdd, Nat.reduceSub, Bool.not_true, Bool.not_false, Bool.and_true, Bool.true_and, Bool.and_false, Bool.false_and, if_true, if_false, Bool.false_eq_true]
  refine w_flats_of_ok h hr ⟨_, rfl, fun _ => ⟨by rw [List.length_map]; exact sz_small (by omega), ?_⟩⟩
  refine wcl_fil ptsD (fun f => decide (f.length ≤ k) && upB N hs f) _ _ _ (fun f hf Qt Qf hq => ?_) q
  obtain ⟨p, hp, hlp, rfl⟩ := flatsL_mem.mp hf
  simp only [wseq, wskip, wset, wret, wretN, wexpr, wifs, wfor, wnever, wbreak, wcont, wappend, wappend2, wseti, wseti2, wdput, waug, wpar2, wpar3, wunp, wpop, wwhile, wvar, wcst, w1, w2, wn, wtest, wand, wor, wnot, wandV, worV, wnotV, wif, wchain, wchain3, wnil, wcons, wcall, wtup, wlst, wlc, wiSeq, wiRng1, wiRng2, wiEnum, wgn, s_wgt, s_wgnil, s_wgcons, wyes, wrnglist, wrngtuple, wrg1, wrg2, wdisp1, wdc, wno, wsm, wslice, wsliceL, dCut, dCutL, windex, wiZip, wupd, eg, put, del, dels, dIsi, dIsi2, tyD_int, tyD_bool, tyD_tuple, tyD_list, tyD_str, tyD_none, isi_i_i, isi_i_b, isi_i_t, isi_i_l, isi_i_n, isi_i_s, isi_b_i, isi_b_b, isi_b_n, isi_t_i, isi_t_b, isi_t_t, isi_t_l, isi_t_s, isi_t_n, isi_l_i, isi_l_b, isi_l_t, isi_l_l, isi_l_n, isi_l_s, isi_s_i, isi_s_b, isi_s_s, isi_s_t, isi_s_l, isi_s_n, atI_0, atI_1, atI_2, dIx_tup, dIx_list, dLe_int, dLe_pair, dEq_int, dNe_int, dEq_bool, dNe_bool, dAdd_int, dSub_int, dLt_int, dGt_int, dGe_int, dLtG_int, dGtG_int, dGeG_int, dLeG_int, dLeG_pair, dMinG_two, dMaxG_two, dNeg_int, dLen_list, dLen_tup, dTuple_list, dTuple_tup, dSortG_list, dSortG_tup, dSortG_dic, seqD_list, seqD_tup, List.map_cons, List.map_nil, List.cons_append, List.nil_append, List.append_nil, List.replicate_succ, List.replicate_zero, List.length_cons, List.length_nil, Option.some.injEq, exists_eq_left', exists_eq_left, true_and, and_true, PyData.bool.injEq, PyData.int.injEq, PyData.list.injEq, PyData.tuple.injEq, List.cons.injEq, Nat.reduceAdd, Nat.reduceSub, Bool.not_true, Bool.not_false, Bool.and_true, Bool.true_and, Bool.and_false, Bool.false_and, if_true, if_false, Bool.false_eq_true]
  refine ⟨_, len_ptsD _, _, le_len _ k, _, rfl, ?_⟩
  have hpl := flat_plen N hs p
  by_cases hk : (flat N hs p).length ≤ k
  · rw [if_pos (by simpa using hk)]
    refine w_is_bump_ok h hr (fun x hx => flat_lim hx) (by omega) (flat_ne hp) ⟨_, rfl, ?_⟩
    rw [decide_eq_true hk, Bool.true_and] at hq
    exact hq
  · rw [if_neg (by simpa using hk)]
    rw [decide_eq_false hk, Bool.false_and, if_neg (by simp)] at hq
    exact hq
end K54
namespace K54
open PySem PySem.Spec VS
theorem w_turned_ok {hs : List Int} {Q : D → Prop} (hl : hs.length ≤ 1000) (q : Q (rowD (negR hs))) : w_turned [rowD hs] Q := by
  simp only [w_turned, b_turned, N_turned, rowD, wseq, wskip, wset, wret, wretN, wexpr, wifs, wfor, wnever, wbreak, wcont, wappend, wappend2, wseti, wseti2, wdput, waug, wpar2, wpar3, wunp, wpop, wwhile, wvar, wcst, w1, w2, wn, wtest, wand, wor, wnot, wandV, worV, wnotV, wif, wchain, wchain3, wnil, wcons, wcall, wtup, wlst, wlc, wiSeq, wiRng1, wiRng2, wiEnum, wgn, s_wgt, s_wgnil, s_wgcons, wyes, wrnglist, wrngtuple, wrg1, wrg2, wdisp1, wdc, wno, wsm, wslice, wsliceL, dCut, dCutL, windex, wiZip, wupd, eg, put, del, dels, dIsi, dIsi2, tyD_int, tyD_bool, tyD_tuple, tyD_list, tyD_str, tyD_none, isi_i_i, isi_i_b, isi_i_t, isi_i_l, isi_i_n, isi_i_s, isi_b_i, isi_b_b, isi_b_n, isi_t_i, isi_t_b, isi_t_t, isi_t_l, isi_t_s, isi_t_n, isi_l_i, isi_l_b, isi_l_t, isi_l_l, isi_l_n, isi_l_s, isi_s_i, isi_s_b, isi_s_s, isi_s_t, isi_s_l, isi_s_n, atI_0, atI_1, atI_2, dIx_tup, dIx_list, dLe_int, dLe_pair, dEq_int, dNe_int, dEq_bool, dNe_bool, dAdd_int, dSub_int, dLt_int, dGt_int, dGe_int, dLtG_int, dGtG_int, dGeG_int, dLeG_int, dLeG_pair, dMinG_two, dMaxG_two, dNeg_int, dLen_list, dLen_tup, dTuple_list, dTuple_tup, dSortG_list, dSortG_tup, dSortG_dic, seqD_list, seqD_tup, List.map_cons, List.map_nil, List.cons_append, List.nil_append, List.append_nil, List.replicate_succ, List.replicate_zero, List.length_cons, List.length_nil, Option.some.injEq, exists_eq_left', exists_eq_left, true_and, and_true, PyData.bool.injEq, PyData.int.injEq, PyData.list.injEq, PyData.tuple.injEq, List.cons.injEq, Nat.reduceAdd, Nat.reduceSub, Bool.not_true, Bool.not_false, Bool.and_true, Bool.true_and, Bool.and_false, Bool.false_and, if_true, if_false, Bool.false_eq_true]
  refine fun _ => ⟨by rw [List.length_map]; exact sz_small hl, ?_⟩
  refine wcl_map intD intD (fun x => -x) _ _ _ (fun x hx Qt hq => ?_) ?_
  · simp only [wseq, wskip, wset, wret, wretN, wexpr, wifs, wfor, wnever, wbreak, wcont, wappend, wappend2, wseti, wseti2, wdput, waug, wpar2, wpar3, wunp, wpop, wwhile, wvar, wcst, w1, w2, wn, wtest, wand, wor, wnot, wandV, worV, wnotV, wif, wchain, wchain3, wnil, wcons, wcall, wtup, wlst, wlc, wiSeq, wiRng1, wiRng2, wiEnum, wgn, s_wgt, s_wgnil, s_wgcons, wyes, wrnglist, wrngtuple, wrg1, wrg2, wdisp1, wdc, wno, wsm, wslice, wsliceL, dCut, dCutL, windex, wiZip, wupd, eg, put, del, dels, dIsi, dIsi2, tyD_int, tyD_bool, tyD_tuple, tyD_list, tyD_str, tyD_none, isi_i_i, isi_i_b, isi_i_t, isi_i_l, isi_i_n, isi_i_s, isi_b_i, isi_b_b, isi_b_n, isi_t_i, isi_t_b, isi_t_t, isi_t_l, isi_t_s, isi_t_n, isi_l_i, isi_l_b, isi_l_t, isi_l_l, isi_l_n, isi_l_s, isi_s_i, isi_s_b, isi_s_s, isi_s_t, isi_s_l, isi_s_n, atI_0, atI_1, atI_2, dIx_tup, dIx_list, dLe_int, dLe_pair, dEq_int, dNe_int, dEq_bool, dNe_bool, dAdd_int, dSub_int, dLt_int, dGt_int, dGe_int, dLtG_int, dGtG_int, dGeG_int, dLeG_int, dLeG_pair, dMinG_two, dMaxG_two, dNeg_int, dLen_list, dLen_tup, dTuple_list, dTuple_tup, dSortG_list, dSortG_tup, dSortG_dic, seqD_list, seqD_tup, List.map_cons, List.map_nil, List.cons_append, List.nil_append, List.append_nil, List.replicate_succ, List.replicate_zero, List.length_cons, List.length_nil, Option.some.injEq, exists_eq_left', exists_eq_left, true_and, and_true, PyData.bool.injEq, PyData.int.injEq, PyData.list.injEq, PyData.tuple.injEq, List.cons.injEq, Nat.reduceAdd, Nat.reduceSub, Bool.not_true, Bool.not_false, Bool.and_true, Bool.true_and, Bool.and_false, Bool.false_and, if_true, if_false, Bool.false_eq_true]; exact hq
  · exact q
theorem w_cut_of_ok {N : Net} {hs : List Int} {k : Nat} {Q : D → Prop} (h : N.Ok) (hr : RowOk N.n hs) (q : Q (rowD (cutR N hs k))) : w_cut_of [nearD N, rowD hs, natD k] Q := by
  have h12 := h.n12
  simp only [w_cut_of, b_cut_of, N_cut_of, wseq, wskip, wset, wret, wretN, wexpr, wifs, wfor, wnever, wbreak, wcont, wappend, wappend2, wseti, wseti2, wdput, waug, wpar2, wpar3, wunp, wpop, wwhile, wvar, wcst, w1, w2, wn, wtest, wand, wor, wnot, wandV, worV, wnotV, wif, wchain, wchain3, wnil, wcons, wcall, wtup, wlst, wlc, wiSeq, wiRng1, wiRng2, wiEnum, wgn, s_wgt, s_wgnil, s_wgcons, wyes, wrnglist, wrngtuple, wrg1, wrg2, wdisp1, wdc, wno, wsm, wslice, wsliceL, dCut, dCutL, windex, wiZip, wupd, eg, put, del, dels, dIsi, dIsi2, tyD_int, tyD_bool, tyD_tuple, tyD_list, tyD_str, tyD_none, isi_i_i, isi_i_b, isi_i_t, isi_i_l, isi_i_n, isi_i_s, isi_b_i, isi_b_b, isi_b_n, isi_t_i, isi_t_b, isi_t_t, isi_t_l, isi_t_s, isi_t_n, isi_l_i, isi_l_b, isi_l_t, isi_l_l, isi_l_n, isi_l_s, isi_s_i, isi_s_b, isi_s_s, isi_s_t, isi_s_l, isi_s_n, atI_0, atI_1, atI_2, dIx_tup, dIx_list, dLe_int, dLe_pair, dEq_int, dNe_int, dEq_bool, dNe_bool, dAdd_int, dSub_int, dLt_int, dGt_int, dGe_int, dLtG_int, dGtG_int, dGeG_int, dLeG_int, dLeG_pair, dMinG_two, dMaxG_two, dNeg_int, dLen_list, dLen_tup, dTuple_list, dTuple_tup, dSortG_list, dSortG_tup, dSortG_dic, seqD_list, seqD_tup, List.map_cons, List.map_nil, List.cons_append, List.nil_append, List.append_nil, List.replicate_succ, List.replicate_zero, List.length_cons, List.length_nil, Option.some.injEq, exists_eq_left', exists_eq_left, true_and, and_true, PyData.bool.injEq, PyData.int.injEq, PyData.list.injEq, PyData.tuple.injEq, List.cons.injEq, Nat.reduceAdd, Nat.reduceSub, Bool.not_true, Bool.not_false, Bool.and_true, Bool.true_and, Bool.and_false, Bool.false_and, if_true, if_false, Bool.false_eq_true]
  refine wwhile_inv (fun m ρ => ∃ r a b c d e, ρ = [some (nearD N), some (rowD r), some (natD k), a, b, c, d, e] ∧ RowOk N.n r ∧ cutR N r k = cutR N hs k ∧ m = muR N r) (fun m ρ M hI hM => ?_) ⟨hs, none, none, none, none, none, rfl, hr, rfl, rfl⟩
  obtain ⟨r, a, b, c, d, e, rfl, hro, hrc, hm⟩ := hI
  have hlen := hro.len
  have hbl := bumpsL_len N r k
  simp only [wseq, wskip, wset, wret, wretN, wexpr, wifs, wfor, wnever, wbreak, wcont, wappend, wappend2, wseti, wseti2, wdput, waug, wpar2, wpar3, wunp, wpop, wwhile, wvar, wcst, w1, w2, wn, wtest, wand, wor, wnot, wandV, worV, wnotV, wif, wchain, wchain3, wnil, wcons, wcall, wtup, wlst, wlc, wiSeq, wiRng1, wiRng2, wiEnum, wgn, s_wgt, s_wgnil, s_wgcons, wyes, wrnglist, wrngtuple, wrg1, wrg2, wdisp1, wdc, wno, wsm, wslice, wsliceL, dCut, dCutL, windex, wiZip, wupd, eg, put, del, dels, dIsi, dIsi2, tyD_int, tyD_bool, tyD_tuple, tyD_list, tyD_str, tyD_none, isi_i_i, isi_i_b, isi_i_t, isi_i_l, isi_i_n, isi_i_s, isi_b_i, isi_b_b, isi_b_n, isi_t_i, isi_t_b, isi_t_t, isi_t_l, isi_t_s, isi_t_n, isi_l_i, isi_l_b, isi_l_t, isi_l_l, isi_l_n, isi_l_s, isi_s_i, isi_s_b, isi_s_s, isi_s_t, isi_s_l, isi_s_n, atI_0, atI_1, atI_2, dIx_tup, dIx_list, dLe_int, dLe_pair, dEq_int, dNe_int, dEq_bool, dNe_bool, dAdd_int, dSub_int, dLt_int, dGt_int, dGe_int, dLtG_int, dGtG_int, dGeG_int, dLeG_int, dLeG_pair, dMinG_two, dMaxG_two, dNeg_int, dLen_list, dLen_tup, dTuple_list, dTuple_tup, dSortG_list, dSortG_tup, dSortG_dic, seqD_list, seqD_tup, List.map_cons, List.map_nil, List.cons_append, List.nil_append, List.append_nil, List.replicate_succ, List.replicate_zero, List.length_cons, List.length_nil, Option.some.injEq, exists_eq_left', exists_eq_left, true_and, and_true, PyData.bool.injEq, PyData.int.injEq, PyData.list.injEq, PyData.tuple.injEq, List.cons.injEq, Nat.reduceAdd, Nat.reduceSub, Bool.not_true, Bool.not_false, Bool.and_true, Bool.true_and, Bool.and_false, Bool.false_and, if_true, if_false, Bool.false_eq_true]
  refine w_bumps_of_ok h hlen ⟨sz_small (by decide), _, eq_ptsL_nil (by omega) fun p hp => by have := bumpsL_plen hp; omega, _, rfl, ?_⟩
  by_cases hz : bumpsL N r k = []
  · rw [if_pos (by simpa using hz), ← cut_smooth hlen hz, hrc]
    exact q
  · rw [if_neg (by simpa using hz)]
    refine ⟨_, rfl, _, rfl, fun _ => ?_⟩
    have e0 : r.map intD = (List.range N.n).map fun p => intD (lowV N r [] p) := by
      apply List.ext_getElem
      · simp [hlen]
      · intro i h1 h2
        simp only [List.length_map] at h1
        simp only [List.getElem_map, List.getElem_range]
        show intD r[i] = intD (hat r i)
        unfold hat
        rw [List.getD_eq_getElem?_getD, List.getElem?_eq_getElem h1]; rfl
    rw [e0]
    refine wfl_inv ptsD (fun pre ρ => ∃ c d e, ρ = [some (nearD N), some (rowD r), some (natD k), some (ptsL (bumpsL N r k)), some (.list ((List.range N.n).map fun p => intD (lowV N r pre p))), c, d, e]) (fun ρ hI => ?_) (fun pre x post ρ M2 e2 hM2 hI => ?_) ⟨c, d, e, rfl⟩
    · obtain ⟨c, d, e, rfl⟩ := hI
      refine ⟨_, rfl, _, rfl, ?_⟩
      have e5 : PyData.tuple ((List.range N.n).map fun p => intD (lowV N r (bumpsL N r k) p)) = rowD (lowR N r (bumpsL N r k)) := by
        unfold rowD lowR
        rw [List.map_map]
        rfl
      rw [e5]
      refine hM _ _ ?_ ⟨lowR N r (bumpsL N r k), _, _, _, _, _, rfl, low_ok hro fun f hf => hf, (low_cut hlen fun f hf => hf).trans hrc, rfl⟩
      rw [hm]
      exact low_mu hro (fun f hf => hf) hz
    · obtain ⟨c, d, e, rfl⟩ := hI
      have hxb : x ∈ bumpsL N r k := by rw [e2]; simp
      have hxm := (List.mem_filter.mp hxb).1
      have hxl := flatsL_plen hxm
      obtain ⟨q0, hq0, _, hxe⟩ := flatsL_mem.mp hxm
      have hqx : q0 ∈ x := by rw [hxe]; exact flat_self hq0
      obtain ⟨_, _, _, hrn, _⟩ := bump_is hlen hxb hqx
      have hxn : ∀ y ∈ x, y < N.n := fun y hy => by rw [hxe] at hy; exact flat_lim hy
      have hrl := rimL_len N x
      simp only [wseq, wskip, wset, wret, wretN, wexpr, wifs, wfor, wnever, wbreak, wcont, wappend, wappend2, wseti, wseti2, wdput, waug, wpar2, wpar3, wunp, wpop, wwhile, wvar, wcst, w1, w2, wn, wtest, wand, wor, wnot, wandV, worV, wnotV, wif, wchain, wchain3, wnil, wcons, wcall, wtup, wlst, wlc, wiSeq, wiRng1, wiRng2, wiEnum, wgn, s_wgt, s_wgnil, s_wgcons, wyes, wrnglist, wrngtuple, wrg1, wrg2, wdisp1, wdc, wno, wsm, wslice, wsliceL, dCut, dCutL, windex, wiZip, wupd, eg, put, del, dels, dIsi, dIsi2, tyD_int, tyD_bool, tyD_tuple, tyD_list, tyD_str, tyD_none, isi_i_i, isi_i_b, isi_i_t, isi_i_l, isi_i_n, isi_i_s, isi_b_i, isi_b_b, isi_b_n, isi_t_i, isi_t_b, isi_t_t, isi_t_l, isi_t_s, isi_t_n, isi_l_i, isi_l_b, isi_l_t, isi_l_l, isi_l_n, isi_l_s, isi_s_i, isi_s_b, isi_s_s, isi_s_t, isi_s_l, isi_s_n, atI_0, atI_1, atI_2, dIx_tup, dIx_list, dLe_int, dLe_pair, dEq_int, dNe_int, dEq_bool, dNe_bool, dAdd_int, dSub_int, dLt_int, dGt_int, dGe_int, dLtG_int, dGtG_int, dGeG_int, dLeG_int, dLeG_pair, dMinG_two, dMaxG_two, dNeg_int, dLen_list, dLen_tup, dTuple_list, dTuple_tup, dSortG_list, dSortG_tup, dSortG_dic, seqD_list, seqD_tup, List.map_cons, List.map_nil, List.cons_append, List.nil_append, List.append_nil, List.replicate_succ, List.replicate_zero, List.length_cons, List.length_nil, Option.some.injEq, exists_eq_left', exists_eq_left, true_and, and_true, PyData.bool.injEq, PyData.int.injEq, PyData.list.injEq, PyData.tuple.injEq, List.cons.injEq, Nat.reduceAdd, Nat.reduceSub, Bool.not_true, Bool.not_false, Bool.and_true, Bool.true_and, Bool.and_false, Bool.false_and, if_true, if_false, Bool.false_eq_true]
      refine w_rim_of_ok h hxn (by omega) ⟨_, rfl, fun _ => ⟨by rw [List.length_map]; exact sz_small (by omega), ?_⟩⟩
      refine wcl_map natD intD (hat r) _ _ _ (fun y hy Qt hq => ?_) ?_
      · have := rimL_bd hy
        simp only [wseq, wskip, wset, wret, wretN, wexpr, wifs, wfor, wnever, wbreak, wcont, wappend, wappend2, wseti, wseti2, wdput, waug, wpar2, wpar3, wunp, wpop, wwhile, wvar, wcst, w1, w2, wn, wtest, wand, wor, wnot, wandV, worV, wnotV, wif, wchain, wchain3, wnil, wcons, wcall, wtup, wlst, wlc, wiSeq, wiRng1, wiRng2, wiEnum, wgn, s_wgt, s_wgnil, s_wgcons, wyes, wrnglist, wrngtuple, wrg1, wrg2, wdisp1, wdc, wno, wsm, wslice, wsliceL, dCut, dCutL, windex, wiZip, wupd, eg, put, del, dels, dIsi, dIsi2, tyD_int, tyD_bool, tyD_tuple, tyD_list, tyD_str, tyD_none, isi_i_i, isi_i_b, isi_i_t, isi_i_l, isi_i_n, isi_i_s, isi_b_i, isi_b_b, isi_b_n, isi_t_i, isi_t_b, isi_t_t, isi_t_l, isi_t_s, isi_t_n, isi_l_i, isi_l_b, isi_l_t, isi_l_l, isi_l_n, isi_l_s, isi_s_i, isi_s_b, isi_s_s, isi_s_t, isi_s_l, isi_s_n, atI_0, atI_1, atI_2, dIx_tup, dIx_list, dLe_int, dLe_pair, dEq_int, dNe_int, dEq_bool, dNe_bool, dAdd_int, dSub_int, dLt_int, dGt_int, dGe_int, dLtG_int, dGtG_int, dGeG_int, dLeG_int, dLeG_pair, dMinG_two, dMaxG_two, dNeg_int, dLen_list, dLen_tup, dTuple_list, dTuple_tup, dSortG_list, dSortG_tup, dSortG_dic, seqD_list, seqD_tup, List.map_cons, List.map_nil, List.cons_append, List.nil_append, List.append_nil, List.replicate_succ, List.replicate_zero, List.length_cons, List.length_nil, Option.some.injEq, exists_eq_left', exists_eq_left, true_and, and_true, PyData.bool.injEq, PyData.int.injEq, PyData.list.injEq, PyData.tuple.injEq, List.cons.injEq, Nat.reduceAdd, Nat.reduceSub, Bool.not_true, Bool.not_false, Bool.and_true, Bool.true_and, Bool.and_false, Bool.false_and, if_true, if_false, Bool.false_eq_true]
        exact ⟨_, ix_row (by omega), hq⟩
      rw [List.nil_append]
      refine ⟨_, max_ints (xs := rimV N r x) (rimV_ne.mpr hrn), _, rfl, fun _ => ?_⟩
      refine wfl_inv natD (fun pp ρ => ∃ e, ρ = [some (nearD N), some (rowD r), some (natD k), some (ptsL (bumpsL N r k)), some (.list ((List.range N.n).map fun p => intD (if p ∈ pp then mx (rimV N r x) else lowV N r pre p))), some (ptsD x), some (intD (mx (rimV N r x))), e]) (fun ρ hI => ?_) (fun pp y po ρ M3 e3 hM3 hI => ?_) ⟨e, by simp⟩
      · obtain ⟨e, rfl⟩ := hI
        have fin := hM2 _ ⟨some (ptsD x), some (intD (mx (rimV N r x))), e, rfl⟩
        have : (fun p => intD (lowV N r (pre ++ [x]) p)) = fun p => intD (if p ∈ x then mx (rimV N r x) else lowV N r pre p) := funext fun p => by rw [low_snoc]
        rw [this] at fin
        exact fin
      · obtain ⟨e, rfl⟩ := hI
        have hy : y < N.n := hxn y (by rw [e3]; simp)
        simp only [wseq, wskip, wset, wret, wretN, wexpr, wifs, wfor, wnever, wbreak, wcont, wappend, wappend2, wseti, wseti2, wdput, waug, wpar2, wpar3, wunp, wpop, wwhile, wvar, wcst, w1, w2, wn, wtest, wand, wor, wnot, wandV, worV, wnotV, wif, wchain, wchain3, wnil, wcons, wcall, wtup, wlst, wlc, wiSeq, wiRng1, wiRng2, wiEnum, wgn, s_wgt, s_wgnil, s_wgcons, wyes, wrnglist, wrngtuple, wrg1, wrg2, wdisp1, wdc, wno, wsm, wslice, wsliceL, dCut, dCutL, windex, wiZip, wupd, eg, put, del, dels, dIsi, dIsi2, tyD_int, tyD_bool, tyD_tuple, tyD_list, tyD_str, tyD_none, isi_i_i, isi_i_b, isi_i_t, isi_i_l, isi_i_n, isi_i_s, isi_b_i, isi_b_b, isi_b_n, isi_t_i, isi_t_b, isi_t_t, isi_t_l, isi_t_s, isi_t_n, isi_l_i, isi_l_b, isi_l_t, isi_l_l, isi_l_n, isi_l_s, isi_s_i, isi_s_b, isi_s_s, isi_s_t, isi_s_l, isi_s_n, atI_0, atI_1, atI_2, dIx_tup, dIx_list, dLe_int, dLe_pair, dEq_int, dNe_int, dEq_bool, dNe_bool, dAdd_int, dSub_int, dLt_int, dGt_int, dGe_int, dLtG_int, dGtG_int, dGeG_int, dLeG_int, dLeG_pair, dMinG_two, dMaxG_two, dNeg_int, dLen_list, dLen_tup, dTuple_list, dTuple_tup, dSortG_list, dSortG_tup, dSortG_dic, seqD_list, seqD_tup, List.map_cons, List.map_nil, List.cons_append, List.nil_append, List.append_nil, List.replicate_succ, List.replicate_zero, List.length_cons, List.length_nil, Option.some.injEq, exists_eq_left', exists_eq_left, true_and, and_true, PyData.bool.injEq, PyData.int.injEq, PyData.list.injEq, PyData.tuple.injEq, List.cons.injEq, Nat.reduceAdd, Nat.reduceSub, Bool.not_true, Bool.not_false, Bool.and_true, Bool.true_and, Bool.and_false, Bool.false_and, if_true, if_false, Bool.false_eq_true]
        refine ⟨_, (y : Int), y, rfl, rfl, by rw [List.length_map, List.length_range]; exact ixN_nat hy, ?_⟩
        rw [set_step hy]
        exact hM3 _ ⟨some (natD y), rfl⟩
theorem w_fill_of_ok {N : Net} {hs : List Int} {k : Nat} {Q : D → Prop} (h : N.Ok) (hr : RowOk N.n hs) (q : Q (rowD (fillR N hs k))) : w_fill_of [nearD N, rowD hs, natD k] Q := by
  have h12 := h.n12
  have hlen := hr.len
  simp only [w_fill_of, b_fill_of, N_fill_of, wseq, wskip, wset, wret, wretN, wexpr, wifs, wfor, wnever, wbreak, wcont, wappend, wappend2, wseti, wseti2, wdput, waug, wpar2, wpar3, wunp, wpop, wwhile, wvar, wcst, w1, w2, wn, wtest, wand, wor, wnot, wandV, worV, wnotV, wif, wchain, wchain3, wnil, wcons, wcall, wtup, wlst, wlc, wiSeq, wiRng1, wiRng2, wiEnum, wgn, s_wgt, s_wgnil, s_wgcons, wyes, wrnglist, wrngtuple, wrg1, wrg2, wdisp1, wdc, wno, wsm, wslice, wsliceL, dCut, dCutL, windex, wiZip, wupd, eg, put, del, dels, dIsi, dIsi2, tyD_int, tyD_bool, tyD_tuple, tyD_list, tyD_str, tyD_none, isi_i_i, isi_i_b, isi_i_t, isi_i_l, isi_i_n, isi_i_s, isi_b_i, isi_b_b, isi_b_n, isi_t_i, isi_t_b, isi_t_t, isi_t_l, isi_t_s, isi_t_n, isi_l_i, isi_l_b, isi_l_t, isi_l_l, isi_l_n, isi_l_s, isi_s_i, isi_s_b, isi_s_s, isi_s_t, isi_s_l, isi_s_n, atI_0, atI_1, atI_2, dIx_tup, dIx_list, dLe_int, dLe_pair, dEq_int, dNe_int, dEq_bool, dNe_bool, dAdd_int, dSub_int, dLt_int, dGt_int, dGe_int, dLtG_int, dGtG_int, dGeG_int, dLeG_int, dLeG_pair, dMinG_two, dMaxG_two, dNeg_int, dLen_list, dLen_tup, dTuple_list, dTuple_tup, dSortG_list, dSortG_tup, dSortG_dic, seqD_list, seqD_tup, List.map_cons, List.map_nil, List.cons_append, List.nil_append, List.append_nil, List.replicate_succ, List.replicate_zero, List.length_cons, List.length_nil, Option.some.injEq, exists_eq_left', exists_eq_left, true_and, and_true, PyData.bool.injEq, PyData.int.injEq, PyData.list.injEq, PyData.tuple.injEq, List.cons.injEq, Nat.reduceAdd, Nat.reduceSub, Bool.not_true, Bool.not_false, Bool.and_true, Bool.true_and, Bool.and_false, Bool.false_and, if_true, if_false, Bool.false_eq_true]
  exact w_turned_ok (by omega) (w_cut_of_ok h (negR_ok hr) (w_turned_ok (by rw [cutR_len]; omega) q))
theorem w_cut_ok {N : Net} {hs : List Int} {k : Nat} {Q : D → Prop} (h : N.Ok) (hr : RowOk N.n hs) (hk : k ≤ N.n) (q : Q (rowD (cutR N hs k))) : w_cut [netD N, rowD hs, natD k] Q := by
  simp only [w_cut, b_cut, N_cut, wseq, wskip, wset, wret, wretN, wexpr, wifs, wfor, wnever, wbreak, wcont, wappend, wappend2, wseti, wseti2, wdput, waug, wpar2, wpar3, wunp, wpop, wwhile, wvar, wcst, w1, w2, wn, wtest, wand, wor, wnot, wandV, worV, wnotV, wif, wchain, wchain3, wnil, wcons, wcall, wtup, wlst, wlc, wiSeq, wiRng1, wiRng2, wiEnum, wgn, s_wgt, s_wgnil, s_wgcons, wyes, wrnglist, wrngtuple, wrg1, wrg2, wdisp1, wdc, wno, wsm, wslice, wsliceL, dCut, dCutL, windex, wiZip, wupd, eg, put, del, dels, dIsi, dIsi2, tyD_int, tyD_bool, tyD_tuple, tyD_list, tyD_str, tyD_none, isi_i_i, isi_i_b, isi_i_t, isi_i_l, isi_i_n, isi_i_s, isi_b_i, isi_b_b, isi_b_n, isi_t_i, isi_t_b, isi_t_t, isi_t_l, isi_t_s, isi_t_n, isi_l_i, isi_l_b, isi_l_t, isi_l_l, isi_l_n, isi_l_s, isi_s_i, isi_s_b, isi_s_s, isi_s_t, isi_s_l, isi_s_n, atI_0, atI_1, atI_2, dIx_tup, dIx_list, dLe_int, dLe_pair, dEq_int, dNe_int, dEq_bool, dNe_bool, dAdd_int, dSub_int, dLt_int, dGt_int, dGe_int, dLtG_int, dGtG_int, dGeG_int, dLeG_int, dLeG_pair, dMinG_two, dMaxG_two, dNeg_int, dLen_list, dLen_tup, dTuple_list, dTuple_tup, dSortG_list, dSortG_tup, dSortG_dic, seqD_list, seqD_tup, List.map_cons, List.map_nil, List.cons_append, List.nil_append, List.append_nil, List.replicate_succ, List.replicate_zero, List.length_cons, List.length_nil, Option.some.injEq, exists_eq_left', exists_eq_left, true_and, and_true, PyData.bool.injEq, PyData.int.injEq, PyData.list.injEq, PyData.tuple.injEq, List.cons.injEq, Nat.reduceAdd, Nat.reduceSub, Bool.not_true, Bool.not_false, Bool.and_true, Bool.true_and, Bool.and_false, Bool.false_and, if_true, if_false, Bool.false_eq_true]
  exact w_need_both_ok h hr (w_need_size_ok hk (w_near_of_ok h (w_cut_of_ok h hr q)))
theorem w_fill_ok {N : Net} {hs : List Int} {k : Nat} {Q : D → Prop} (h : N.Ok) (hr : RowOk N.n hs) (hk : k ≤ N.n) (q : Q (rowD (fillR N hs k))) : w_fill [netD N, rowD hs, natD k] Q := by
  simp only [w_fill, b_fill, N_fill, wseq, wskip, wset, wret, wretN, wexpr, wifs, wfor, wnever, wbreak, wcont, wappend, wappend2, wseti, wseti2, wdput, waug, wpar2, wpar3, wunp, wpop, wwhile, wvar, wcst, w1, w2, wn, wtest, wand, wor, wnot, wandV, worV, wnotV, wif, wchain, wchain3, wnil, wcons, wcall, wtup, wlst, wlc, wiSeq, wiRng1, wiRng2, wiEnum, wgn, s_wgt, s_wgnil, s_wgcons, wyes, wrnglist, wrngtuple, wrg1, wrg2, wdisp1, wdc, wno, wsm, wslice, wsliceL, dCut, dCutL, windex, wiZip, wupd, eg, put, del, dels, dIsi, dIsi2, tyD_int, tyD_bool, tyD_tuple, tyD_list, tyD_str, tyD_none, isi_i_i, isi_i_b, isi_i_t, isi_i_l, isi_i_n, isi_i_s, isi_b_i, isi_b_b, isi_b_n, isi_t_i, isi_t_b, isi_t_t, isi_t_l, isi_t_s, isi_t_n, isi_l_i, isi_l_b, isi_l_t, isi_l_l, isi_l_n, isi_l_s, isi_s_i, isi_s_b, isi_s_s, isi_s_t, isi_s_l, isi_s_n, atI_0, atI_1, atI_2, dIx_tup, dIx_list, dLe_int, dLe_pair, dEq_int, dNe_int, dEq_bool, dNe_bool, dAdd_int, dSub_int, dLt_int, dGt_int, dGe_int, dLtG_int, dGtG_int, dGeG_int, dLeG_int, dLeG_pair, dMinG_two, dMaxG_two, dNeg_int, dLen_list, dLen_tup, dTuple_list, dTuple_tup, dSortG_list, dSortG_tup, dSortG_dic, seqD_list, seqD_tup, List.map_cons, List.map_nil, List.cons_append, List.nil_append, List.append_nil, List.replicate_succ, List.replicate_zero, List.length_cons, List.length_nil, Option.some.injEq, exists_eq_left', exists_eq_left, true_and, and_true, PyData.bool.injEq, PyData.int.injEq, PyData.list.injEq, PyData.tuple.injEq, List.cons.injEq, Nat.reduceAdd, Nat.reduceSub, Bool.not_true, Bool.not_false, Bool.and_true, Bool.true_and, Bool.and_false, Bool.false_and, if_true, if_false, Bool.false_eq_true]
  exact w_need_both_ok h hr (w_need_size_ok hk (w_near_of_ok h (w_fill_of_ok h hr q)))
theorem w_shaved_rows_ok {N : Net} {hs : List Int} {k : Nat} {Q : D → Prop} (h : N.Ok) (hr : RowOk N.n hs) (hk : k ≤ N.n) (q : Q (rowsL N hs k)) : w_shaved_rows [nearD N, rowD hs, natD k] Q := by
  have h12 := h.n12
  simp only [w_shaved_rows, b_shaved_rows, N_shaved_rows, wseq, wskip, wset, wret, wretN, wexpr, wifs, wfor, wnever, wbreak, wcont, wappend, wappend2, wseti, wseti2, wdput, waug, wpar2, wpar3, wunp, wpop, wwhile, wvar, wcst, w1, w2, wn, wtest, wand, wor, wnot, wandV, worV, wnotV, wif, wchain, wchain3, wnil, wcons, wcall, wtup, wlst, wlc, wiSeq, wiRng1, wiRng2, wiEnum, wgn, s_wgt, s_wgnil, s_wgcons, wyes, wrnglist, wrngtuple, wrg1, wrg2, wdisp1, wdc, wno, wsm, wslice, wsliceL, dCut, dCutL, windex, wiZip, wupd, eg, put, del, dels, dIsi, dIsi2, tyD_int, tyD_bool, tyD_tuple, tyD_list, tyD_str, tyD_none, isi_i_i, isi_i_b, isi_i_t, isi_i_l, isi_i_n, isi_i_s, isi_b_i, isi_b_b, isi_b_n, isi_t_i, isi_t_b, isi_t_t, isi_t_l, isi_t_s, isi_t_n, isi_l_i, isi_l_b, isi_l_t, isi_l_l, isi_l_n, isi_l_s, isi_s_i, isi_s_b, isi_s_s, isi_s_t, isi_s_l, isi_s_n, atI_0, atI_1, atI_2, dIx_tup, dIx_list, dLe_int, dLe_pair, dEq_int, dNe_int, dEq_bool, dNe_bool, dAdd_int, dSub_int, dLt_int, dGt_int, dGe_int, dLtG_int, dGtG_int, dGeG_int, dLeG_int, dLeG_pair, dMinG_two, dMaxG_two, dNeg_int, dLen_list, dLen_tup, dTuple_list, dTuple_tup, dSortG_list, dSortG_tup, dSortG_dic, seqD_list, seqD_tup, List.map_cons, List.map_nil, List.cons_append, List.nil_append, List.append_nil, List.replicate_succ, List.replicate_zero, List.length_cons, List.length_nil, Option.some.injEq, exists_eq_left', exists_eq_left, true_and, and_true, PyData.bool.injEq, PyData.int.injEq, PyData.list.injEq, PyData.tuple.injEq, List.cons.injEq, Nat.reduceAdd, Nat.reduceSub, Bool.not_true, Bool.not_false, Bool.and_true, Bool.true_and, Bool.and_false, Bool.false_and, if_true, if_false, Bool.false_eq_true]
  refine ⟨sz_small (by decide), _, _, ⟨rfl, rfl⟩, ⟨by omega, by omega⟩, ⟨by omega, by omega⟩, ?_⟩
  rw [show ((k : Int) + 1 - 1).toNat = k by omega]
  unfold rngD
  refine wfl_inv (fun i : Nat => PyData.int (1 + (i : Nat))) (fun pre ρ => ∃ b, ρ = [some (nearD N), some (rowD hs), some (natD k), some (rowsL N hs pre.length), b]) (fun ρ hI => ?_) (fun pre x post ρ M e hM hI => ?_) ⟨none, rfl⟩
  · obtain ⟨b, rfl⟩ := hI
    rw [List.length_range]
    exact ⟨_, rfl, q⟩
  · obtain ⟨b, rfl⟩ := hI
    obtain ⟨k1, k2, k3⟩ := range_split e
    have o1 := shavR_ok (k := pre.length) hr
    have e1 : PyData.int (1 + (x : Int)) = natD (pre.length + 1) := by
      rw [k2]; unfold natD; congr 1; omega
    have fin := hM _ ⟨some (natD (pre.length + 1)), rfl⟩
    rw [show (pre ++ [x]).length = pre.length + 1 by simp] at fin
    unfold rowsL at fin
    rw [rows_snoc] at fin
    simp only [e1, wseq, wskip, wset, wret, wretN, wexpr, wifs, wfor, wnever, wbreak, wcont, wappend, wappend2, wseti, wseti2, wdput, waug, wpar2, wpar3, wunp, wpop, wwhile, wvar, wcst, w1, w2, wn, wtest, wand, wor, wnot, wandV, worV, wnotV, wif, wchain, wchain3, wnil, wcons, wcall, wtup, wlst, wlc, wiSeq, wiRng1, wiRng2, wiEnum, wgn, s_wgt, s_wgnil, s_wgcons, wyes, wrnglist, wrngtuple, wrg1, wrg2, wdisp1, wdc, wno, wsm, wslice, wsliceL, dCut, dCutL, windex, wiZip, wupd, eg, put, del, dels, dIsi, dIsi2, tyD_int, tyD_bool, tyD_tuple, tyD_list, tyD_str, tyD_none, isi_i_i, isi_i_b, isi_i_t, isi_i_l, isi_i_n, isi_i_s, isi_b_i, isi_b_b, isi_b_n, isi_t_i, isi_t_b, isi_t_t, isi_t_l, isi_t_s, isi_t_n, isi_l_i, isi_l_b, isi_l_t, isi_l_l, isi_l_n, isi_l_s, isi_s_i, isi_s_b, isi_s_s, isi_s_t, isi_s_l, isi_s_n, atI_0, atI_1, atI_2, dIx_tup, dIx_list, dLe_int, dLe_pair, dEq_int, dNe_int, dEq_bool, dNe_bool, dAdd_int, dSub_int, dLt_int, dGt_int, dGe_int, dLtG_int, dGtG_int, dGeG_int, dLeG_int, dLeG_pair, dMinG_two, dMaxG_two, dNeg_int, dLen_list, dLen_tup, dTuple_list, dTuple_tup, dSortG_list, dSortG_tup, dSortG_dic, seqD_list, seqD_tup, List.map_cons, List.map_nil, List.cons_append, List.nil_append, List.append_nil, List.replicate_succ, List.replicate_zero, List.length_cons, List.length_nil, Option.some.injEq, exists_eq_left', exists_eq_left, true_and, and_true, PyData.bool.injEq, PyData.int.injEq, PyData.list.injEq, PyData.tuple.injEq, List.cons.injEq, Nat.reduceAdd, Nat.reduceSub, Bool.not_true, Bool.not_false, Bool.and_true, Bool.true_and, Bool.and_false, Bool.false_and, if_true, if_false, Bool.false_eq_true]
    refine ⟨_, rfl, by rw [List.length_map, List.length_range]; exact Nat.lt_of_le_of_lt (show _ ≤ 1000 by omega) (by decide), _, rows_last N hs pre.length, ?_⟩
    exact w_cut_of_ok h o1 (w_fill_of_ok h (cutR_ok rfl o1) fin)
theorem w_shave_ok {N : Net} {hs : List Int} {k : Nat} {Q : D → Prop} (h : N.Ok) (hr : RowOk N.n hs) (hk : k ≤ N.n) (q : Q (rowD (shavR N hs k))) : w_shave [netD N, rowD hs, natD k] Q := by
  simp only [w_shave, b_shave, N_shave, wseq, wskip, wset, wret, wretN, wexpr, wifs, wfor, wnever, wbreak, wcont, wappend, wappend2, wseti, wseti2, wdput, waug, wpar2, wpar3, wunp, wpop, wwhile, wvar, wcst, w1, w2, wn, wtest, wand, wor, wnot, wandV, worV, wnotV, wif, wchain, wchain3, wnil, wcons, wcall, wtup, wlst, wlc, wiSeq, wiRng1, wiRng2, wiEnum, wgn, s_wgt, s_wgnil, s_wgcons, wyes, wrnglist, wrngtuple, wrg1, wrg2, wdisp1, wdc, wno, wsm, wslice, wsliceL, dCut, dCutL, windex, wiZip, wupd, eg, put, del, dels, dIsi, dIsi2, tyD_int, tyD_bool, tyD_tuple, tyD_list, tyD_str, tyD_none, isi_i_i, isi_i_b, isi_i_t, isi_i_l, isi_i_n, isi_i_s, isi_b_i, isi_b_b, isi_b_n, isi_t_i, isi_t_b, isi_t_t, isi_t_l, isi_t_s, isi_t_n, isi_l_i, isi_l_b, isi_l_t, isi_l_l, isi_l_n, isi_l_s, isi_s_i, isi_s_b, isi_s_s, isi_s_t, isi_s_l, isi_s_n, atI_0, atI_1, atI_2, dIx_tup, dIx_list, dLe_int, dLe_pair, dEq_int, dNe_int, dEq_bool, dNe_bool, dAdd_int, dSub_int, dLt_int, dGt_int, dGe_int, dLtG_int, dGtG_int, dGeG_int, dLeG_int, dLeG_pair, dMinG_two, dMaxG_two, dNeg_int, dLen_list, dLen_tup, dTuple_list, dTuple_tup, dSortG_list, dSortG_tup, dSortG_dic, seqD_list, seqD_tup, List.map_cons, List.map_nil, List.cons_append, List.nil_append, List.append_nil, List.replicate_succ, List.replicate_zero, List.length_cons, List.length_nil, Option.some.injEq, exists_eq_left', exists_eq_left, true_and, and_true, PyData.bool.injEq, PyData.int.injEq, PyData.list.injEq, PyData.tuple.injEq, List.cons.injEq, Nat.reduceAdd, Nat.reduceSub, Bool.not_true, Bool.not_false, Bool.and_true, Bool.true_and, Bool.and_false, Bool.false_and, if_true, if_false, Bool.false_eq_true]
  exact w_need_both_ok h hr (w_need_size_ok hk (w_near_of_ok h (w_shaved_rows_ok h hr hk ⟨_, rows_last N hs k, q⟩)))
end K54
namespace K54
open PySem PySem.Spec VS
end K54
namespace K54
open PySem PySem.Spec VS
theorem w_layers_of_ok {hs : List Int} {Q : D → Prop} (hl : hs.length ≤ 1000) (q : Q (.list ((sortset hs).map (layD hs)))) : w_layers_of [rowD hs] Q := by
  simp only [w_layers_of, b_layers_of, N_layers_of, rowD, wseq, wskip, wset, wret, wretN, wexpr, wifs, wfor, wnever, wbreak, wcont, wappend, wappend2, wseti, wseti2, wdput, waug, wpar2, wpar3, wunp, wpop, wwhile, wvar, wcst, w1, w2, wn, wtest, wand, wor, wnot, wandV, worV, wnotV, wif, wchain, wchain3, wnil, wcons, wcall, wtup, wlst, wlc, wiSeq, wiRng1, wiRng2, wiEnum, wgn, s_wgt, s_wgnil, s_wgcons, wyes, wrnglist, wrngtuple, wrg1, wrg2, wdisp1, wdc, wno, wsm, wslice, wsliceL, dCut, dCutL, windex, wiZip, wupd, eg, put, del, dels, dIsi, dIsi2, tyD_int, tyD_bool, tyD_tuple, tyD_list, tyD_str, tyD_none, isi_i_i, isi_i_b, isi_i_t, isi_i_l, isi_i_n, isi_i_s, isi_b_i, isi_b_b, isi_b_n, isi_t_i, isi_t_b, isi_t_t, isi_t_l, isi_t_s, isi_t_n, isi_l_i, isi_l_b, isi_l_t, isi_l_l, isi_l_n, isi_l_s, isi_s_i, isi_s_b, isi_s_s, isi_s_t, isi_s_l, isi_s_n, atI_0, atI_1, atI_2, dIx_tup, dIx_list, dLe_int, dLe_pair, dEq_int, dNe_int, dEq_bool, dNe_bool, dAdd_int, dSub_int, dLt_int, dGt_int, dGe_int, dLtG_int, dGtG_int, dGeG_int, dLeG_int, dLeG_pair, dMinG_two, dMaxG_two, dNeg_int, dLen_list, dLen_tup, dTuple_list, dTuple_tup, dSortG_list, dSortG_tup, dSortG_dic, seqD_list, seqD_tup, List.map_cons, List.map_nil, List.cons_append, List.nil_append, List.append_nil, List.replicate_succ, List.replicate_zero, List.length_cons, List.length_nil, Option.some.injEq, exists_eq_left', exists_eq_left, true_and, and_true, PyData.bool.injEq, PyData.int.injEq, PyData.list.injEq, PyData.tuple.injEq, List.cons.injEq, Nat.reduceAdd, Nat.reduceSub, Bool.not_true, Bool.not_false, Bool.and_true, Bool.true_and, Bool.and_false, Bool.false_and, if_true, if_false, Bool.false_eq_true]
  refine ⟨sz_small (by decide), fun _ => ⟨by rw [List.length_map]; exact sz_small hl, wcd_row (by simp) hs _ ?_⟩⟩
  have hlen := sortset_len hs
  refine ⟨_, iDic_sorted hs, _, rfl, fun _ => ?_⟩
  refine wfl_inv intD (fun pre ρ => ∃ a b c, ρ = [some (rowD hs), some (.list (pre.map (layD hs))), a, b, c]) (fun ρ hI => ?_) (fun pre x post ρ M e hM hI => ?_) ⟨none, none, none, rfl⟩
  · obtain ⟨a, b, c, rfl⟩ := hI
    simp only [wseq, wskip, wset, wret, wretN, wexpr, wifs, wfor, wnever, wbreak, wcont, wappend, wappend2, wseti, wseti2, wdput, waug, wpar2, wpar3, wunp, wpop, wwhile, wvar, wcst, w1, w2, wn, wtest, wand, wor, wnot, wandV, worV, wnotV, wif, wchain, wchain3, wnil, wcons, wcall, wtup, wlst, wlc, wiSeq, wiRng1, wiRng2, wiEnum, wgn, s_wgt, s_wgnil, s_wgcons, wyes, wrnglist, wrngtuple, wrg1, wrg2, wdisp1, wdc, wno, wsm, wslice, wsliceL, dCut, dCutL, windex, wiZip, wupd, eg, put, del, dels, dIsi, dIsi2, tyD_int, tyD_bool, tyD_tuple, tyD_list, tyD_str, tyD_none, isi_i_i, isi_i_b, isi_i_t, isi_i_l, isi_i_n, isi_i_s, isi_b_i, isi_b_b, isi_b_n, isi_t_i, isi_t_b, isi_t_t, isi_t_l, isi_t_s, isi_t_n, isi_l_i, isi_l_b, isi_l_t, isi_l_l, isi_l_n, isi_l_s, isi_s_i, isi_s_b, isi_s_s, isi_s_t, isi_s_l, isi_s_n, atI_0, atI_1, atI_2, dIx_tup, dIx_list, dLe_int, dLe_pair, dEq_int, dNe_int, dEq_bool, dNe_bool, dAdd_int, dSub_int, dLt_int, dGt_int, dGe_int, dLtG_int, dGtG_int, dGeG_int, dLeG_int, dLeG_pair, dMinG_two, dMaxG_two, dNeg_int, dLen_list, dLen_tup, dTuple_list, dTuple_tup, dSortG_list, dSortG_tup, dSortG_dic, seqD_list, seqD_tup, List.map_cons, List.map_nil, List.cons_append, List.nil_append, List.append_nil, List.replicate_succ, List.replicate_zero, List.length_cons, List.length_nil, Option.some.injEq, exists_eq_left', exists_eq_left, true_and, and_true, PyData.bool.injEq, PyData.int.injEq, PyData.list.injEq, PyData.tuple.injEq, List.cons.injEq, Nat.reduceAdd, Nat.reduceSub, Bool.not_true, Bool.not_false, Bool.and_true, Bool.true_and, Bool.and_false, Bool.false_and, if_true, if_false, Bool.false_eq_true]
    exact q
  · obtain ⟨a, b, c, rfl⟩ := hI
    have hp : pre.length ≤ 1000 := by
      have := congrArg List.length e
      rw [List.length_append] at this; omega
    simp only [rowD, wseq, wskip, wset, wret, wretN, wexpr, wifs, wfor, wnever, wbreak, wcont, wappend, wappend2, wseti, wseti2, wdput, waug, wpar2, wpar3, wunp, wpop, wwhile, wvar, wcst, w1, w2, wn, wtest, wand, wor, wnot, wandV, worV, wnotV, wif, wchain, wchain3, wnil, wcons, wcall, wtup, wlst, wlc, wiSeq, wiRng1, wiRng2, wiEnum, wgn, s_wgt, s_wgnil, s_wgcons, wyes, wrnglist, wrngtuple, wrg1, wrg2, wdisp1, wdc, wno, wsm, wslice, wsliceL, dCut, dCutL, windex, wiZip, wupd, eg, put, del, dels, dIsi, dIsi2, tyD_int, tyD_bool, tyD_tuple, tyD_list, tyD_str, tyD_none, isi_i_i, isi_i_b, isi_i_t, isi_i_l, isi_i_n, isi_i_s, isi_b_i, isi_b_b, isi_b_n, isi_t_i, isi_t_b, isi_t_t, isi_t_l, isi_t_s, isi_t_n, isi_l_i, isi_l_b, isi_l_t, isi_l_l, isi_l_n, isi_l_s, isi_s_i, isi_s_b, isi_s_s, isi_s_t, isi_s_l, isi_s_n, atI_0, atI_1, atI_2, dIx_tup, dIx_list, dLe_int, dLe_pair, dEq_int, dNe_int, dEq_bool, dNe_bool, dAdd_int, dSub_int, dLt_int, dGt_int, dGe_int, dLtG_int, dGtG_int, dGeG_int, dLeG_int, dLeG_pair, dMinG_two, dMaxG_two, dNeg_int, dLen_list, dLen_tup, dTuple_list, dTuple_tup, dSortG_list, dSortG_tup, dSortG_dic, seqD_list, seqD_tup, List.map_cons, List.map_nil, List.cons_append, List.nil_append, List.append_nil, List.replicate_succ, List.replicate_zero, List.length_cons, List.length_nil, Option.some.injEq, exists_eq_left', exists_eq_left, true_and, and_true, PyData.bool.injEq, PyData.int.injEq, PyData.list.injEq, PyData.tuple.injEq, List.cons.injEq, Nat.reduceAdd, Nat.reduceSub, Bool.not_true, Bool.not_false, Bool.and_true, Bool.true_and, Bool.and_false, Bool.false_and, if_true, if_false, Bool.false_eq_true]
    refine ⟨by rw [List.length_map]; exact Nat.lt_of_le_of_lt hp (by decide), ⟨by rw [List.length_map]; omega, by rw [List.length_map]; omega⟩, by rw [rngD_len, List.length_map]; exact sz_small (by omega), ?_⟩
    rw [List.length_map, Int.toNat_natCast, rngD_nat]
    refine wcl_go (fun i : Nat => PyData.int i) natD (fun i => if decide (x ≤ hs.getD i 0) = true then some i else none) _ _ _ (fun i hi Qt Qf hq => ?_) ?_
    · have hi' : i < hs.length := List.mem_range.mp hi
      simp only [wseq, wskip, wset, wret, wretN, wexpr, wifs, wfor, wnever, wbreak, wcont, wappend, wappend2, wseti, wseti2, wdput, waug, wpar2, wpar3, wunp, wpop, wwhile, wvar, wcst, w1, w2, wn, wtest, wand, wor, wnot, wandV, worV, wnotV, wif, wchain, wchain3, wnil, wcons, wcall, wtup, wlst, wlc, wiSeq, wiRng1, wiRng2, wiEnum, wgn, s_wgt, s_wgnil, s_wgcons, wyes, wrnglist, wrngtuple, wrg1, wrg2, wdisp1, wdc, wno, wsm, wslice, wsliceL, dCut, dCutL, windex, wiZip, wupd, eg, put, del, dels, dIsi, dIsi2, tyD_int, tyD_bool, tyD_tuple, tyD_list, tyD_str, tyD_none, isi_i_i, isi_i_b, isi_i_t, isi_i_l, isi_i_n, isi_i_s, isi_b_i, isi_b_b, isi_b_n, isi_t_i, isi_t_b, isi_t_t, isi_t_l, isi_t_s, isi_t_n, isi_l_i, isi_l_b, isi_l_t, isi_l_l, isi_l_n, isi_l_s, isi_s_i, isi_s_b, isi_s_s, isi_s_t, isi_s_l, isi_s_n, atI_0, atI_1, atI_2, dIx_tup, dIx_list, dLe_int, dLe_pair, dEq_int, dNe_int, dEq_bool, dNe_bool, dAdd_int, dSub_int, dLt_int, dGt_int, dGe_int, dLtG_int, dGtG_int, dGeG_int, dLeG_int, dLeG_pair, dMinG_two, dMaxG_two, dNeg_int, dLen_list, dLen_tup, dTuple_list, dTuple_tup, dSortG_list, dSortG_tup, dSortG_dic, seqD_list, seqD_tup, List.map_cons, List.map_nil, List.cons_append, List.nil_append, List.append_nil, List.replicate_succ, List.replicate_zero, List.length_cons, List.length_nil, Option.some.injEq, exists_eq_left', exists_eq_left, true_and, and_true, PyData.bool.injEq, PyData.int.injEq, PyData.list.injEq, PyData.tuple.injEq, List.cons.injEq, Nat.reduceAdd, Nat.reduceSub, Bool.not_true, Bool.not_false, Bool.and_true, Bool.true_and, Bool.and_false, Bool.false_and, if_true, if_false, Bool.false_eq_true]
      refine ⟨_, row_at hi', ?_⟩
      simp only [wseq, wskip, wset, wret, wretN, wexpr, wifs, wfor, wnever, wbreak, wcont, wappend, wappend2, wseti, wseti2, wdput, waug, wpar2, wpar3, wunp, wpop, wwhile, wvar, wcst, w1, w2, wn, wtest, wand, wor, wnot, wandV, worV, wnotV, wif, wchain, wchain3, wnil, wcons, wcall, wtup, wlst, wlc, wiSeq, wiRng1, wiRng2, wiEnum, wgn, s_wgt, s_wgnil, s_wgcons, wyes, wrnglist, wrngtuple, wrg1, wrg2, wdisp1, wdc, wno, wsm, wslice, wsliceL, dCut, dCutL, windex, wiZip, wupd, eg, put, del, dels, dIsi, dIsi2, tyD_int, tyD_bool, tyD_tuple, tyD_list, tyD_str, tyD_none, isi_i_i, isi_i_b, isi_i_t, isi_i_l, isi_i_n, isi_i_s, isi_b_i, isi_b_b, isi_b_n, isi_t_i, isi_t_b, isi_t_t, isi_t_l, isi_t_s, isi_t_n, isi_l_i, isi_l_b, isi_l_t, isi_l_l, isi_l_n, isi_l_s, isi_s_i, isi_s_b, isi_s_s, isi_s_t, isi_s_l, isi_s_n, atI_0, atI_1, atI_2, dIx_tup, dIx_list, dLe_int, dLe_pair, dEq_int, dNe_int, dEq_bool, dNe_bool, dAdd_int, dSub_int, dLt_int, dGt_int, dGe_int, dLtG_int, dGtG_int, dGeG_int, dLeG_int, dLeG_pair, dMinG_two, dMaxG_two, dNeg_int, dLen_list, dLen_tup, dTuple_list, dTuple_tup, dSortG_list, dSortG_tup, dSortG_dic, seqD_list, seqD_tup, List.map_cons, List.map_nil, List.cons_append, List.nil_append, List.append_nil, List.replicate_succ, List.replicate_zero, List.length_cons, List.length_nil, Option.some.injEq, exists_eq_left', exists_eq_left, true_and, and_true, PyData.bool.injEq, PyData.int.injEq, PyData.list.injEq, PyData.tuple.injEq, List.cons.injEq, Nat.reduceAdd, Nat.reduceSub, Bool.not_true, Bool.not_false, Bool.and_true, Bool.true_and, Bool.and_false, Bool.false_and, if_true, if_false, Bool.false_eq_true]
      have e2 : hs.getD i 0 = hs[i] := by rw [List.getD_eq_getElem?_getD, List.getElem?_eq_getElem hi']; rfl
      rw [e2] at hq
      by_cases hx : x ≤ hs[i]
      · rw [if_pos (by simpa using hx)] at hq ⊢; exact hq
      · rw [if_neg (by simpa using hx)] at hq ⊢; exact hq
    · rw [filterMap_if, List.nil_append]
      simp only [List.map_append, List.map_cons, List.map_nil] at hM
      exact ⟨sz_small (by decide), hM _ ⟨_, _, _, rfl⟩⟩
theorem w_layers_ok {N : Net} {hs : List Int} {Q : D → Prop} (h : N.Ok) (hr : RowOk N.n hs) (q : Q (.list ((sortset hs).map (layD hs)))) : w_layers [netD N, rowD hs] Q := by
  have := h.n12
  have := hr.len
  simp only [w_layers, b_layers, N_layers, wseq, wskip, wset, wret, wretN, wexpr, wifs, wfor, wnever, wbreak, wcont, wappend, wappend2, wseti, wseti2, wdput, waug, wpar2, wpar3, wunp, wpop, wwhile, wvar, wcst, w1, w2, wn, wtest, wand, wor, wnot, wandV, worV, wnotV, wif, wchain, wchain3, wnil, wcons, wcall, wtup, wlst, wlc, wiSeq, wiRng1, wiRng2, wiEnum, wgn, s_wgt, s_wgnil, s_wgcons, wyes, wrnglist, wrngtuple, wrg1, wrg2, wdisp1, wdc, wno, wsm, wslice, wsliceL, dCut, dCutL, windex, wiZip, wupd, eg, put, del, dels, dIsi, dIsi2, tyD_int, tyD_bool, tyD_tuple, tyD_list, tyD_str, tyD_none, isi_i_i, isi_i_b, isi_i_t, isi_i_l, isi_i_n, isi_i_s, isi_b_i, isi_b_b, isi_b_n, isi_t_i, isi_t_b, isi_t_t, isi_t_l, isi_t_s, isi_t_n, isi_l_i, isi_l_b, isi_l_t, isi_l_l, isi_l_n, isi_l_s, isi_s_i, isi_s_b, isi_s_s, isi_s_t, isi_s_l, isi_s_n, atI_0, atI_1, atI_2, dIx_tup, dIx_list, dLe_int, dLe_pair, dEq_int, dNe_int, dEq_bool, dNe_bool, dAdd_int, dSub_int, dLt_int, dGt_int, dGe_int, dLtG_int, dGtG_int, dGeG_int, dLeG_int, dLeG_pair, dMinG_two, dMaxG_two, dNeg_int, dLen_list, dLen_tup, dTuple_list, dTuple_tup, dSortG_list, dSortG_tup, dSortG_dic, seqD_list, seqD_tup, List.map_cons, List.map_nil, List.cons_append, List.nil_append, List.append_nil, List.replicate_succ, List.replicate_zero, List.length_cons, List.length_nil, Option.some.injEq, exists_eq_left', exists_eq_left, true_and, and_true, PyData.bool.injEq, PyData.int.injEq, PyData.list.injEq, PyData.tuple.injEq, List.cons.injEq, Nat.reduceAdd, Nat.reduceSub, Bool.not_true, Bool.not_false, Bool.and_true, Bool.true_and, Bool.and_false, Bool.false_and, if_true, if_false, Bool.false_eq_true]
  exact w_need_both_ok h hr (w_layers_of_ok (by omega) q)
theorem w_layer_ok {N : Net} {hs : List Int} {t : Int} {Q : D → Prop} (h : N.Ok) (hr : RowOk N.n hs) (ht : -99 ≤ t ∧ t ≤ 99) (q : Q (ptsD (layL hs t))) : w_layer [netD N, rowD hs, .int t] Q := by
  have h12 := h.n12
  have hlen := hr.len
  simp only [w_layer, b_layer, N_layer, wseq, wskip, wset, wret, wretN, wexpr, wifs, wfor, wnever, wbreak, wcont, wappend, wappend2, wseti, wseti2, wdput, waug, wpar2, wpar3, wunp, wpop, wwhile, wvar, wcst, w1, w2, wn, wtest, wand, wor, wnot, wandV, worV, wnotV, wif, wchain, wchain3, wnil, wcons, wcall, wtup, wlst, wlc, wiSeq, wiRng1, wiRng2, wiEnum, wgn, s_wgt, s_wgnil, s_wgcons, wyes, wrnglist, wrngtuple, wrg1, wrg2, wdisp1, wdc, wno, wsm, wslice, wsliceL, dCut, dCutL, windex, wiZip, wupd, eg, put, del, dels, dIsi, dIsi2, tyD_int, tyD_bool, tyD_tuple, tyD_list, tyD_str, tyD_none, isi_i_i, isi_i_b, isi_i_t, isi_i_l, isi_i_n, isi_i_s, isi_b_i, isi_b_b, isi_b_n, isi_t_i, isi_t_b, isi_t_t, isi_t_l, isi_t_s, isi_t_n, isi_l_i, isi_l_b, isi_l_t, isi_l_l, isi_l_n, isi_l_s, isi_s_i, isi_s_b, isi_s_s, isi_s_t, isi_s_l, isi_s_n, atI_0, atI_1, atI_2, dIx_tup, dIx_list, dLe_int, dLe_pair, dEq_int, dNe_int, dEq_bool, dNe_bool, dAdd_int, dSub_int, dLt_int, dGt_int, dGe_int, dLtG_int, dGtG_int, dGeG_int, dLeG_int, dLeG_pair, dMinG_two, dMaxG_two, dNeg_int, dLen_list, dLen_tup, dTuple_list, dTuple_tup, dSortG_list, dSortG_tup, dSortG_dic, seqD_list, seqD_tup, List.map_cons, List.map_nil, List.cons_append, List.nil_append, List.append_nil, List.replicate_succ, List.replicate_zero, List.length_cons, List.length_nil, Option.some.injEq, exists_eq_left', exists_eq_left, true_and, and_true, PyData.bool.injEq, PyData.int.injEq, PyData.list.injEq, PyData.tuple.injEq, List.cons.injEq, Nat.reduceAdd, Nat.reduceSub, Bool.not_true, Bool.not_false, Bool.and_true, Bool.true_and, Bool.and_false, Bool.false_and, if_true, if_false, Bool.false_eq_true]
  refine w_need_both_ok h hr ?_
  rw [w_need_number_ok (by omega)]
  simp only [netD, rowD, wseq, wskip, wset, wret, wretN, wexpr, wifs, wfor, wnever, wbreak, wcont, wappend, wappend2, wseti, wseti2, wdput, waug, wpar2, wpar3, wunp, wpop, wwhile, wvar, wcst, w1, w2, wn, wtest, wand, wor, wnot, wandV, worV, wnotV, wif, wchain, wchain3, wnil, wcons, wcall, wtup, wlst, wlc, wiSeq, wiRng1, wiRng2, wiEnum, wgn, s_wgt, s_wgnil, s_wgcons, wyes, wrnglist, wrngtuple, wrg1, wrg2, wdisp1, wdc, wno, wsm, wslice, wsliceL, dCut, dCutL, windex, wiZip, wupd, eg, put, del, dels, dIsi, dIsi2, tyD_int, tyD_bool, tyD_tuple, tyD_list, tyD_str, tyD_none, isi_i_i, isi_i_b, isi_i_t, isi_i_l, isi_i_n, isi_i_s, isi_b_i, isi_b_b, isi_b_n, isi_t_i, isi_t_b, isi_t_t, isi_t_l, isi_t_s, isi_t_n, isi_l_i, isi_l_b, isi_l_t, isi_l_l, isi_l_n, isi_l_s, isi_s_i, isi_s_b, isi_s_s, isi_s_t, isi_s_l, isi_s_n, atI_0, atI_1, atI_2, dIx_tup, dIx_list, dLe_int, dLe_pair, dEq_int, dNe_int, dEq_bool, dNe_bool, dAdd_int, dSub_int, dLt_int, dGt_int, dGe_int, dLtG_int, dGtG_int, dGeG_int, dLeG_int, dLeG_pair, dMinG_two, dMaxG_two, dNeg_int, dLen_list, dLen_tup, dTuple_list, dTuple_tup, dSortG_list, dSortG_tup, dSortG_dic, seqD_list, seqD_tup, List.map_cons, List.map_nil, List.cons_append, List.nil_append, List.append_nil, List.replicate_succ, List.replicate_zero, List.length_cons, List.length_nil, Option.some.injEq, exists_eq_left', exists_eq_left, true_and, and_true, PyData.bool.injEq, PyData.int.injEq, PyData.list.injEq, PyData.tuple.injEq, List.cons.injEq, Nat.reduceAdd, Nat.reduceSub, Bool.not_true, Bool.not_false, Bool.and_true, Bool.true_and, Bool.and_false, Bool.false_and, if_true, if_false, Bool.false_eq_true]
  refine ⟨⟨by omega, by omega⟩, by rw [rngD_len]; exact sz_small (by omega), ?_⟩
  rw [Int.toNat_natCast, rngD_nat, ← hlen]
  refine wcl_go (fun i : Nat => PyData.int i) natD (fun i => if decide (t ≤ hs.getD i 0) = true then some i else none) _ _ _ (fun i hi Qt Qf hq => ?_) ?_
  · have hi' : i < hs.length := List.mem_range.mp hi
    simp only [wseq, wskip, wset, wret, wretN, wexpr, wifs, wfor, wnever, wbreak, wcont, wappend, wappend2, wseti, wseti2, wdput, waug, wpar2, wpar3, wunp, wpop, wwhile, wvar, wcst, w1, w2, wn, wtest, wand, wor, wnot, wandV, worV, wnotV, wif, wchain, wchain3, wnil, wcons, wcall, wtup, wlst, wlc, wiSeq, wiRng1, wiRng2, wiEnum, wgn, s_wgt, s_wgnil, s_wgcons, wyes, wrnglist, wrngtuple, wrg1, wrg2, wdisp1, wdc, wno, wsm, wslice, wsliceL, dCut, dCutL, windex, wiZip, wupd, eg, put, del, dels, dIsi, dIsi2, tyD_int, tyD_bool, tyD_tuple, tyD_list, tyD_str, tyD_none, isi_i_i, isi_i_b, isi_i_t, isi_i_l, isi_i_n, isi_i_s, isi_b_i, isi_b_b, isi_b_n, isi_t_i, isi_t_b, isi_t_t, isi_t_l, isi_t_s, isi_t_n, isi_l_i, isi_l_b, isi_l_t, isi_l_l, isi_l_n, isi_l_s, isi_s_i, isi_s_b, isi_s_s, isi_s_t, isi_s_l, isi_s_n, atI_0, atI_1, atI_2, dIx_tup, dIx_list, dLe_int, dLe_pair, dEq_int, dNe_int, dEq_bool, dNe_bool, dAdd_int, dSub_int, dLt_int, dGt_int, dGe_int, dLtG_int, dGtG_int, dGeG_int, dLeG_int, dLeG_pair, dMinG_two, dMaxG_two, dNeg_int, dLen_list, dLen_tup, dTuple_list, dTuple_tup, dSortG_list, dSortG_tup, dSortG_dic, seqD_list, seqD_tup, List.map_cons, List.map_nil, List.cons_append, List.nil_append, List.append_nil, List.replicate_succ, List.replicate_zero, List.length_cons, List.length_nil, Option.some.injEq, exists_eq_left', exists_eq_left, true_and, and_true, PyData.bool.injEq, PyData.int.injEq, PyData.list.injEq, PyData.tuple.injEq, List.cons.injEq, Nat.reduceAdd, Nat.reduceSub, Bool.not_true, Bool.not_false, Bool.and_true, Bool.true_and, Bool.and_false, Bool.false_and, if_true, if_false, Bool.false_eq_true]
    refine ⟨_, row_at hi', ?_⟩
    simp only [wseq, wskip, wset, wret, wretN, wexpr, wifs, wfor, wnever, wbreak, wcont, wappend, wappend2, wseti, wseti2, wdput, waug, wpar2, wpar3, wunp, wpop, wwhile, wvar, wcst, w1, w2, wn, wtest, wand, wor, wnot, wandV, worV, wnotV, wif, wchain, wchain3, wnil, wcons, wcall, wtup, wlst, wlc, wiSeq, wiRng1, wiRng2, wiEnum, wgn, s_wgt, s_wgnil, s_wgcons, wyes, wrnglist, wrngtuple, wrg1, wrg2, wdisp1, wdc, wno, wsm, wslice, wsliceL, dCut, dCutL, windex, wiZip, wupd, eg, put, del, dels, dIsi, dIsi2, tyD_int, tyD_bool, tyD_tuple, tyD_list, tyD_str, tyD_none, isi_i_i, isi_i_b, isi_i_t, isi_i_l, isi_i_n, isi_i_s, isi_b_i, isi_b_b, isi_b_n, isi_t_i, isi_t_b, isi_t_t, isi_t_l, isi_t_s, isi_t_n, isi_l_i, isi_l_b, isi_l_t, isi_l_l, isi_l_n, isi_l_s, isi_s_i, isi_s_b, isi_s_s, isi_s_t, isi_s_l, isi_s_n, atI_0, atI_1, atI_2, dIx_tup, dIx_list, dLe_int, dLe_pair, dEq_int, dNe_int, dEq_bool, dNe_bool, dAdd_int, dSub_int, dLt_int, dGt_int, dGe_int, dLtG_int, dGtG_int, dGeG_int, dLeG_int, dLeG_pair, dMinG_two, dMaxG_two, dNeg_int, dLen_list, dLen_tup, dTuple_list, dTuple_tup, dSortG_list, dSortG_tup, dSortG_dic, seqD_list, seqD_tup, List.map_cons, List.map_nil, List.cons_append, List.nil_append, List.append_nil, List.replicate_succ, List.replicate_zero, List.length_cons, List.length_nil, Option.some.injEq, exists_eq_left', exists_eq_left, true_and, and_true, PyData.bool.injEq, PyData.int.injEq, PyData.list.injEq, PyData.tuple.injEq, List.cons.injEq, Nat.reduceAdd, Nat.reduceSub, Bool.not_true, Bool.not_false, Bool.and_true, Bool.true_and, Bool.and_false, Bool.false_and, if_true, if_false, Bool.false_eq_true]
    have e2 : hs.getD i 0 = hs[i] := by rw [List.getD_eq_getElem?_getD, List.getElem?_eq_getElem hi']; rfl
    rw [e2] at hq
    by_cases hx : t ≤ hs[i]
    · rw [if_pos (by simpa using hx)] at hq ⊢; exact hq
    · rw [if_neg (by simpa using hx)] at hq ⊢; exact hq
  · rw [filterMap_if, List.nil_append]
    exact q
/-- the place of a number -/
def placeI (ks : List Int) (x : Int) : Nat := ks.findIdx (· == x)
theorem idx_ints {x : Int} : ∀ (ks : List Int) (j : Nat), x ∈ ks → idxD (intD x) (ks.map intD) j = some (j + placeI ks x)
  | y :: ks, j, h => by
    unfold placeI
    rw [List.findIdx_cons]
    show (if PyData.eqv (.int y) (.int x) = true then some j else idxD (intD x) (ks.map intD) (j + 1)) = _
    rw [PyData.eqv]
    by_cases e : y = x
    · rw [if_pos (by simp [e])]; simp [e]
    · rw [if_neg (by simp [e])]
      have hx : x ∈ ks := by
        rcases List.mem_cons.mp h with h | h
        · exact absurd h.symm e
        · exact h
      rw [idx_ints ks (j + 1) hx]
      have : (y == x) = false := by simp [e]
      rw [this]
      show some (j + 1 + placeI ks x) = some (j + (placeI ks x + 1))
      congr 1; omega
theorem dIndex_ints {x : Int} {ks : List Int} (hl : ks.length ≤ 1000) (h : x ∈ ks) : dIndex (.list (ks.map intD)) (intD x) = some (natD (placeI ks x)) := by
  show (if SeqAt.shaped (.list (ks.map intD)) = true ∧ SeqAt.shaped (intD x) = true then (idxD (intD x) (ks.map intD) 0).map fun j => PyData.int (j : Nat) else none) = _
  rw [if_pos ⟨shaped_of_nice (nice_ints hl) (by rw [depth_ints]; decide), rfl⟩, idx_ints ks 0 h, Nat.zero_add]
  rfl
theorem placeI_lt {ks : List Int} {x : Int} (h : x ∈ ks) : placeI ks x < ks.length := List.findIdx_lt_length_of_exists ⟨x, h, by simp⟩
/-! stacked -/
def valI (pre : List Int) (h : Int) : Int := pre.foldl (fun acc t => if t ≤ h then t else acc) 0
theorem valI_snoc (pre : List Int) (x h : Int) : valI (pre ++ [x]) h = if x ≤ h then x else valI pre h := by
  unfold valI; rw [List.foldl_append]; rfl
theorem valI_end {l : List Int} {h : Int} (hl : l.Pairwise (· < ·)) (hh : h ∈ l) : valI l h = h := by
  obtain ⟨a, b, rfl⟩ := List.append_of_mem hh
  have : ∀ (b : List Int) (acc : Int), (∀ x ∈ b, h < x) → b.foldl (fun acc t => if t ≤ h then t else acc) acc = acc := by
    intro b
    induction b with
    | nil => intro acc _; rfl
    | cons y b ih =>
      intro acc hb
      rw [List.foldl_cons, if_neg (by have := hb y (List.mem_cons_self ..); omega)]
      exact ih acc fun x hx => hb x (List.mem_cons_of_mem _ hx)
  unfold valI
  rw [List.foldl_append, List.foldl_cons, if_pos (Int.le_refl _)]
  refine this b h fun x hx => ?_
  exact (List.pairwise_cons.mp (List.pairwise_append.mp hl).2.1).1 x hx
theorem layL_lt (hs : List Int) (t : Int) : (layL hs t).Pairwise (· < ·) := List.Pairwise.filter _ List.pairwise_lt_range
theorem layL_mem {hs : List Int} {t : Int} {i : Nat} : i ∈ layL hs t ↔ i < hs.length ∧ t ≤ hs.getD i 0 := by
  unfold layL
  rw [List.mem_filter, List.mem_range, decide_eq_true_eq]
theorem getD_at {hs : List Int} {i : Nat} (h : i < hs.length) : hs.getD i 0 = hs[i] := by rw [List.getD_eq_getElem?_getD, List.getElem?_eq_getElem h]; rfl
theorem w_is_layer_ok {N : Net} {hs : List Int} {t : Int} {Q : D → Prop} (h : N.Ok) (hr : RowOk N.n hs) (ht : t ∈ hs) (q : Q (.bool true)) : w_is_layer [netD N, layD hs t] Q := by
  have h12 := h.n12
  have hlen := hr.len
  have hb := hr.bnd t ht
  simp only [w_is_layer, b_is_layer, N_is_layer, layD, w_within_int, w_tuple_of_tup, wseq, wskip, wset, wret, wretN, wexpr, wifs, wfor, wnever, wbreak, wcont, wappend, wappend2, wseti, wseti2, wdput, waug, wpar2, wpar3, wunp, wpop, wwhile, wvar, wcst, w1, w2, wn, wtest, wand, wor, wnot, wandV, worV, wnotV, wif, wchain, wchain3, wnil, wcons, wcall, wtup, wlst, wlc, wiSeq, wiRng1, wiRng2, wiEnum, wgn, s_wgt, s_wgnil, s_wgcons, wyes, wrnglist, wrngtuple, wrg1, wrg2, wdisp1, wdc, wno, wsm, wslice, wsliceL, dCut, dCutL, windex, wiZip, wupd, eg, put, del, dels, dIsi, dIsi2, tyD_int, tyD_bool, tyD_tuple, tyD_list, tyD_str, tyD_none, isi_i_i, isi_i_b, isi_i_t, isi_i_l, isi_i_n, isi_i_s, isi_b_i, isi_b_b, isi_b_n, isi_t_i, isi_t_b, isi_t_t, isi_t_l, isi_t_s, isi_t_n, isi_l_i, isi_l_b, isi_l_t, isi_l_l, isi_l_n, isi_l_s, isi_s_i, isi_s_b, isi_s_s, isi_s_t, isi_s_l, isi_s_n, atI_0, atI_1, atI_2, dIx_tup, dIx_list, dLe_int, dLe_pair, dEq_int, dNe_int, dEq_bool, dNe_bool, dAdd_int, dSub_int, dLt_int, dGt_int, dGe_int, dLtG_int, dGtG_int, dGeG_int, dLeG_int, dLeG_pair, dMinG_two, dMaxG_two, dNeg_int, dLen_list, dLen_tup, dTuple_list, dTuple_tup, dSortG_list, dSortG_tup, dSortG_dic, seqD_list, seqD_tup, List.map_cons, List.map_nil, List.cons_append, List.nil_append, List.append_nil, List.replicate_succ, List.replicate_zero, List.length_cons, List.length_nil, Option.some.injEq, exists_eq_left', exists_eq_left, true_and, and_true, PyData.bool.injEq, PyData.int.injEq, PyData.list.injEq, PyData.tuple.injEq, List.cons.injEq, Nat.reduceAdd, Nat.reduceSub, Bool.not_true, Bool.not_false, Bool.and_true, Bool.true_and, Bool.and_false, Bool.false_and, if_true, if_false, Bool.false_eq_true]
  rw [if_neg (by simp), if_neg (by simp; omega)]
  refine w_is_points_ok (by omega) (layL_lt hs t) (fun x hx => by have := layL_mem.mp hx; omega) ?_
  refine ⟨true, rfl, ?_⟩
  simp only [wseq, wskip, wset, wret, wretN, wexpr, wifs, wfor, wnever, wbreak, wcont, wappend, wappend2, wseti, wseti2, wdput, waug, wpar2, wpar3, wunp, wpop, wwhile, wvar, wcst, w1, w2, wn, wtest, wand, wor, wnot, wandV, worV, wnotV, wif, wchain, wchain3, wnil, wcons, wcall, wtup, wlst, wlc, wiSeq, wiRng1, wiRng2, wiEnum, wgn, s_wgt, s_wgnil, s_wgcons, wyes, wrnglist, wrngtuple, wrg1, wrg2, wdisp1, wdc, wno, wsm, wslice, wsliceL, dCut, dCutL, windex, wiZip, wupd, eg, put, del, dels, dIsi, dIsi2, tyD_int, tyD_bool, tyD_tuple, tyD_list, tyD_str, tyD_none, isi_i_i, isi_i_b, isi_i_t, isi_i_l, isi_i_n, isi_i_s, isi_b_i, isi_b_b, isi_b_n, isi_t_i, isi_t_b, isi_t_t, isi_t_l, isi_t_s, isi_t_n, isi_l_i, isi_l_b, isi_l_t, isi_l_l, isi_l_n, isi_l_s, isi_s_i, isi_s_b, isi_s_s, isi_s_t, isi_s_l, isi_s_n, atI_0, atI_1, atI_2, dIx_tup, dIx_list, dLe_int, dLe_pair, dEq_int, dNe_int, dEq_bool, dNe_bool, dAdd_int, dSub_int, dLt_int, dGt_int, dGe_int, dLtG_int, dGtG_int, dGeG_int, dLeG_int, dLeG_pair, dMinG_two, dMaxG_two, dNeg_int, dLen_list, dLen_tup, dTuple_list, dTuple_tup, dSortG_list, dSortG_tup, dSortG_dic, seqD_list, seqD_tup, List.map_cons, List.map_nil, List.cons_append, List.nil_append, List.append_nil, List.replicate_succ, List.replicate_zero, List.length_cons, List.length_nil, Option.some.injEq, exists_eq_left', exists_eq_left, true_and, and_true, PyData.bool.injEq, PyData.int.injEq, PyData.list.injEq, PyData.tuple.injEq, List.cons.injEq, Nat.reduceAdd, Nat.reduceSub, Bool.not_true, Bool.not_false, Bool.and_true, Bool.true_and, Bool.and_false, Bool.false_and, if_true, if_false, Bool.false_eq_true]
  refine ⟨sz_small (by decide), ?_⟩
  obtain ⟨i, hi, e⟩ := List.getElem_of_mem ht
  have hm : i ∈ layL hs t := layL_mem.mpr ⟨hi, by rw [getD_at hi, e]; exact Int.le_refl _⟩
  have hne : dNe (ptsD (layL hs t)) (.tuple []) = some (.bool true) := by
    unfold dNe
    rw [if_pos ⟨shaped_pts (Nat.le_trans (layL_len hs t) (by omega)), rfl⟩]
    cases hl : layL hs t with
    | nil => rw [hl] at hm; cases hm
    | cons x r => rfl
  exact ⟨_, hne, q⟩
theorem eqv_pts {xs ys : List Nat} (h : xs = ys) (hl : xs.length ≤ 1000) : dNe (ptsD xs) (ptsD ys) = some (.bool false) := by
  subst h
  exact dNe_self (shaped_pts hl)
theorem in_pts {x : Nat} {xs : List Nat} : dIn (natD x) (ptsD xs) = some (.bool (decide (x ∈ xs))) := by
  unfold dIn ptsD
  show (if flatD (natD x) = true ∧ (xs.map natD).all flatD = true then some ((xs.map natD).any fun z => PyData.eqv z (natD x)) else none).map PyData.bool = _
  rw [if_pos ⟨rfl, by simp [flatD]⟩]
  show some (PyData.bool _) = _
  congr 2
  rw [List.any_map]
  induction xs with
  | nil => rfl
  | cons y ys ih =>
    rw [List.any_cons, ih]
    show (PyData.eqv (.int (y : Nat)) (.int (x : Nat)) || _) = _
    rw [PyData.eqv]
    by_cases e : y = x
    · subst e; simp
    · have e' : x ≠ y := fun z => e z.symm
      have e2 : ¬ (y : Int) = (x : Int) := by omega
      simp [e', e2]
theorem w_stacked_ok {N : Net} {hs : List Int} {Q : D → Prop} (h : N.Ok) (hr : RowOk N.n hs) (q : Q (rowD hs)) : w_stacked [netD N, .list ((sortset hs).map (layD hs))] Q := by
  have h1 := h.n1
  have h12 := h.n12
  have hlen := hr.len
  have hs1 := sortset_len hs
  have hlt := sortset_lt hs
  have hmem := fun k => sortset_mem k hs
  have hnn : sortset hs ≠ [] := fun z => by
    have h0 : hs[0]'(by omega) ∈ sortset hs := (hmem _).mpr (List.getElem_mem _)
    rw [z] at h0; cases h0
  obtain ⟨t0, ts, ets⟩ := List.exists_cons_of_ne_nil hnn
  have hmin : ∀ x ∈ hs, t0 ≤ x := fun x hx => by
    have hx' := (hmem x).mpr hx
    rw [ets] at hx' hlt
    rcases List.mem_cons.mp hx' with rfl | hx'
    · exact Int.le_refl _
    · exact Int.le_of_lt ((List.pairwise_cons.mp hlt).1 x hx')
  simp only [w_stacked, b_stacked, N_stacked, wseq, wskip, wset, wret, wretN, wexpr, wifs, wfor, wnever, wbreak, wcont, wappend, wappend2, wseti, wseti2, wdput, waug, wpar2, wpar3, wunp, wpop, wwhile, wvar, wcst, w1, w2, wn, wtest, wand, wor, wnot, wandV, worV, wnotV, wif, wchain, wchain3, wnil, wcons, wcall, wtup, wlst, wlc, wiSeq, wiRng1, wiRng2, wiEnum, wgn, s_wgt, s_wgnil, s_wgcons, wyes, wrnglist, wrngtuple, wrg1, wrg2, wdisp1, wdc, wno, wsm, wslice, wsliceL, dCut, dCutL, windex, wiZip, wupd, eg, put, del, dels, dIsi, dIsi2, tyD_int, tyD_bool, tyD_tuple, tyD_list, tyD_str, tyD_none, isi_i_i, isi_i_b, isi_i_t, isi_i_l, isi_i_n, isi_i_s, isi_b_i, isi_b_b, isi_b_n, isi_t_i, isi_t_b, isi_t_t, isi_t_l, isi_t_s, isi_t_n, isi_l_i, isi_l_b, isi_l_t, isi_l_l, isi_l_n, isi_l_s, isi_s_i, isi_s_b, isi_s_s, isi_s_t, isi_s_l, isi_s_n, atI_0, atI_1, atI_2, dIx_tup, dIx_list, dLe_int, dLe_pair, dEq_int, dNe_int, dEq_bool, dNe_bool, dAdd_int, dSub_int, dLt_int, dGt_int, dGe_int, dLtG_int, dGtG_int, dGeG_int, dLeG_int, dLeG_pair, dMinG_two, dMaxG_two, dNeg_int, dLen_list, dLen_tup, dTuple_list, dTuple_tup, dSortG_list, dSortG_tup, dSortG_dic, seqD_list, seqD_tup, List.map_cons, List.map_nil, List.cons_append, List.nil_append, List.append_nil, List.replicate_succ, List.replicate_zero, List.length_cons, List.length_nil, Option.some.injEq, exists_eq_left', exists_eq_left, true_and, and_true, PyData.bool.injEq, PyData.int.injEq, PyData.list.injEq, PyData.tuple.injEq, List.cons.injEq, Nat.reduceAdd, Nat.reduceSub, Bool.not_true, Bool.not_false, Bool.and_true, Bool.true_and, Bool.and_false, Bool.false_and, if_true, if_false, Bool.false_eq_true]
  refine w_need_net_ok h ?_
  refine ⟨sz_small (by decide), ?_⟩
  have hne : dEq (.list ((sortset hs).map (layD hs))) (.list []) = some (.bool false) := by
    unfold dEq
    rw [if_pos ⟨shaped_of_nice (nice_layL (by omega) (by omega)) (by have := depth_layL hs (sortset hs); omega), rfl⟩, ets]
    rfl
  refine ⟨_, hne, _, rfl, ?_⟩
  rw [if_neg (by simp)]
  refine fun _ => ⟨by rw [List.length_map]; exact sz_small (by omega), ?_⟩
  refine wcl_map (layD hs) PyData.bool (fun _ => true) _ _ _ (fun x hx Qt hq => ?_) ?_
  · simp only [wseq, wskip, wset, wret, wretN, wexpr, wifs, wfor, wnever, wbreak, wcont, wappend, wappend2, wseti, wseti2, wdput, waug, wpar2, wpar3, wunp, wpop, wwhile, wvar, wcst, w1, w2, wn, wtest, wand, wor, wnot, wandV, worV, wnotV, wif, wchain, wchain3, wnil, wcons, wcall, wtup, wlst, wlc, wiSeq, wiRng1, wiRng2, wiEnum, wgn, s_wgt, s_wgnil, s_wgcons, wyes, wrnglist, wrngtuple, wrg1, wrg2, wdisp1, wdc, wno, wsm, wslice, wsliceL, dCut, dCutL, windex, wiZip, wupd, eg, put, del, dels, dIsi, dIsi2, tyD_int, tyD_bool, tyD_tuple, tyD_list, tyD_str, tyD_none, isi_i_i, isi_i_b, isi_i_t, isi_i_l, isi_i_n, isi_i_s, isi_b_i, isi_b_b, isi_b_n, isi_t_i, isi_t_b, isi_t_t, isi_t_l, isi_t_s, isi_t_n, isi_l_i, isi_l_b, isi_l_t, isi_l_l, isi_l_n, isi_l_s, isi_s_i, isi_s_b, isi_s_s, isi_s_t, isi_s_l, isi_s_n, atI_0, atI_1, atI_2, dIx_tup, dIx_list, dLe_int, dLe_pair, dEq_int, dNe_int, dEq_bool, dNe_bool, dAdd_int, dSub_int, dLt_int, dGt_int, dGe_int, dLtG_int, dGtG_int, dGeG_int, dLeG_int, dLeG_pair, dMinG_two, dMaxG_two, dNeg_int, dLen_list, dLen_tup, dTuple_list, dTuple_tup, dSortG_list, dSortG_tup, dSortG_dic, seqD_list, seqD_tup, List.map_cons, List.map_nil, List.cons_append, List.nil_append, List.append_nil, List.replicate_succ, List.replicate_zero, List.length_cons, List.length_nil, Option.some.injEq, exists_eq_left', exists_eq_left, true_and, and_true, PyData.bool.injEq, PyData.int.injEq, PyData.list.injEq, PyData.tuple.injEq, List.cons.injEq, Nat.reduceAdd, Nat.reduceSub, Bool.not_true, Bool.not_false, Bool.and_true, Bool.true_and, Bool.and_false, Bool.false_and, if_true, if_false, Bool.false_eq_true]
    exact w_is_layer_ok h hr ((hmem x).mp hx) hq
  rw [List.nil_append, dAll_bls]
  refine ⟨_, rfl, _, rfl, ?_⟩
  rw [if_neg (by simp)]
  have e0 : L2.atI ((sortset hs).map (layD hs)) 0 = some (layD hs t0) := by rw [ets, List.map_cons, atI_0]
  refine ⟨_, e0, ?_⟩
  simp only [netD, layD, wseq, wskip, wset, wret, wretN, wexpr, wifs, wfor, wnever, wbreak, wcont, wappend, wappend2, wseti, wseti2, wdput, waug, wpar2, wpar3, wunp, wpop, wwhile, wvar, wcst, w1, w2, wn, wtest, wand, wor, wnot, wandV, worV, wnotV, wif, wchain, wchain3, wnil, wcons, wcall, wtup, wlst, wlc, wiSeq, wiRng1, wiRng2, wiEnum, wgn, s_wgt, s_wgnil, s_wgcons, wyes, wrnglist, wrngtuple, wrg1, wrg2, wdisp1, wdc, wno, wsm, wslice, wsliceL, dCut, dCutL, windex, wiZip, wupd, eg, put, del, dels, dIsi, dIsi2, tyD_int, tyD_bool, tyD_tuple, tyD_list, tyD_str, tyD_none, isi_i_i, isi_i_b, isi_i_t, isi_i_l, isi_i_n, isi_i_s, isi_b_i, isi_b_b, isi_b_n, isi_t_i, isi_t_b, isi_t_t, isi_t_l, isi_t_s, isi_t_n, isi_l_i, isi_l_b, isi_l_t, isi_l_l, isi_l_n, isi_l_s, isi_s_i, isi_s_b, isi_s_s, isi_s_t, isi_s_l, isi_s_n, atI_0, atI_1, atI_2, dIx_tup, dIx_list, dLe_int, dLe_pair, dEq_int, dNe_int, dEq_bool, dNe_bool, dAdd_int, dSub_int, dLt_int, dGt_int, dGe_int, dLtG_int, dGtG_int, dGeG_int, dLeG_int, dLeG_pair, dMinG_two, dMaxG_two, dNeg_int, dLen_list, dLen_tup, dTuple_list, dTuple_tup, dSortG_list, dSortG_tup, dSortG_dic, seqD_list, seqD_tup, List.map_cons, List.map_nil, List.cons_append, List.nil_append, List.append_nil, List.replicate_succ, List.replicate_zero, List.length_cons, List.length_nil, Option.some.injEq, exists_eq_left', exists_eq_left, true_and, and_true, PyData.bool.injEq, PyData.int.injEq, PyData.list.injEq, PyData.tuple.injEq, List.cons.injEq, Nat.reduceAdd, Nat.reduceSub, Bool.not_true, Bool.not_false, Bool.and_true, Bool.true_and, Bool.and_false, Bool.false_and, if_true, if_false, Bool.false_eq_true]
  refine ⟨⟨by omega, by omega, by omega, by omega, by omega⟩, ?_⟩
  have er : PyData.tuple (rngD 0 ((N.n : Int) - 0).toNat) = ptsD (List.range N.n) := by
    rw [Int.sub_zero, Int.toNat_natCast, rngD_nat]; rfl
  rw [er]
  have el : layL hs t0 = List.range N.n := by
    unfold layL
    rw [hlen]
    refine List.filter_eq_self.mpr fun i hi => ?_
    have hi' := List.mem_range.mp hi
    rw [decide_eq_true_eq, getD_at (by omega)]
    exact hmin _ (List.getElem_mem _)
  refine ⟨_, eqv_pts el (Nat.le_trans (layL_len hs t0) (by omega)), _, rfl, ?_⟩
  rw [if_neg (by simp)]
  refine ⟨_, _, .inl ⟨rfl, rfl⟩, ?_⟩
  rw [cut_1]
  have ez : zipD ((sortset hs).map (layD hs)) (((sortset hs).map (layD hs)).drop 1) = ((sortset hs).zip ((sortset hs).drop 1)).map fun p => PyData.tuple [layD hs p.1, layD hs p.2] := by
    unfold zipD
    rw [← List.map_drop, List.zip_map, List.map_map]
    rfl
  rw [ez]
  refine wfl_inv (fun p : Int × Int => PyData.tuple [layD hs p.1, layD hs p.2]) (fun _ ρ => ∃ a b c, ρ = [some (netD N), some (.list ((sortset hs).map (layD hs))), a, b, none, none, none, c, none]) (fun ρ hI => ?_) (fun pre x post ρ M e hM hI => ?_) ⟨none, none, none, rfl⟩
  · obtain ⟨a, b, c, rfl⟩ := hI
    simp only [netD, dRepL, wseq, wskip, wset, wret, wretN, wexpr, wifs, wfor, wnever, wbreak, wcont, wappend, wappend2, wseti, wseti2, wdput, waug, wpar2, wpar3, wunp, wpop, wwhile, wvar, wcst, w1, w2, wn, wtest, wand, wor, wnot, wandV, worV, wnotV, wif, wchain, wchain3, wnil, wcons, wcall, wtup, wlst, wlc, wiSeq, wiRng1, wiRng2, wiEnum, wgn, s_wgt, s_wgnil, s_wgcons, wyes, wrnglist, wrngtuple, wrg1, wrg2, wdisp1, wdc, wno, wsm, wslice, wsliceL, dCut, dCutL, windex, wiZip, wupd, eg, put, del, dels, dIsi, dIsi2, tyD_int, tyD_bool, tyD_tuple, tyD_list, tyD_str, tyD_none, isi_i_i, isi_i_b, isi_i_t, isi_i_l, isi_i_n, isi_i_s, isi_b_i, isi_b_b, isi_b_n, isi_t_i, isi_t_b, isi_t_t, isi_t_l, isi_t_s, isi_t_n, isi_l_i, isi_l_b, isi_l_t, isi_l_l, isi_l_n, isi_l_s, isi_s_i, isi_s_b, isi_s_s, isi_s_t, isi_s_l, isi_s_n, atI_0, atI_1, atI_2, dIx_tup, dIx_list, dLe_int, dLe_pair, dEq_int, dNe_int, dEq_bool, dNe_bool, dAdd_int, dSub_int, dLt_int, dGt_int, dGe_int, dLtG_int, dGtG_int, dGeG_int, dLeG_int, dLeG_pair, dMinG_two, dMaxG_two, dNeg_int, dLen_list, dLen_tup, dTuple_list, dTuple_tup, dSortG_list, dSortG_tup, dSortG_dic, seqD_list, seqD_tup, List.map_cons, List.map_nil, List.cons_append, List.nil_append, List.append_nil, List.replicate_succ, List.replicate_zero, List.length_cons, List.length_nil, Option.some.injEq, exists_eq_left', exists_eq_left, true_and, and_true, PyData.bool.injEq, PyData.int.injEq, PyData.list.injEq, PyData.tuple.injEq, List.cons.injEq, Nat.reduceAdd, Nat.reduceSub, Bool.not_true, Bool.not_false, Bool.and_true, Bool.true_and, Bool.and_false, Bool.false_and, if_true, if_false, Bool.false_eq_true]
    have hrep : dMul (.list [.int 0]) (.int (N.n : Nat)) = some (.list ((List.range N.n).map fun i => intD (valI [] (hs.getD i 0)))) := by
      rw [dMul_rep (by omega)]
      congr 2
      apply List.ext_getElem
      · simp
      · intro i h1 h2
        simp [valI]
    refine ⟨sz_small (by decide), _, hrep, fun _ => ?_⟩
    refine wfl_inv (layD hs) (fun pre ρ => ∃ a b c d e, ρ = [some (netD N), some (.list ((sortset hs).map (layD hs))), a, b, some (.list ((List.range N.n).map fun i => intD (valI pre (hs.getD i 0)))), c, d, e, none]) (fun ρ hI => ?_) (fun pre x post ρ M e hM hI => ?_) ⟨a, b, none, none, c, rfl⟩
    · obtain ⟨a, b, c, d, e, rfl⟩ := hI
      simp only [wseq, wskip, wset, wret, wretN, wexpr, wifs, wfor, wnever, wbreak, wcont, wappend, wappend2, wseti, wseti2, wdput, waug, wpar2, wpar3, wunp, wpop, wwhile, wvar, wcst, w1, w2, wn, wtest, wand, wor, wnot, wandV, worV, wnotV, wif, wchain, wchain3, wnil, wcons, wcall, wtup, wlst, wlc, wiSeq, wiRng1, wiRng2, wiEnum, wgn, s_wgt, s_wgnil, s_wgcons, wyes, wrnglist, wrngtuple, wrg1, wrg2, wdisp1, wdc, wno, wsm, wslice, wsliceL, dCut, dCutL, windex, wiZip, wupd, eg, put, del, dels, dIsi, dIsi2, tyD_int, tyD_bool, tyD_tuple, tyD_list, tyD_str, tyD_none, isi_i_i, isi_i_b, isi_i_t, isi_i_l, isi_i_n, isi_i_s, isi_b_i, isi_b_b, isi_b_n, isi_t_i, isi_t_b, isi_t_t, isi_t_l, isi_t_s, isi_t_n, isi_l_i, isi_l_b, isi_l_t, isi_l_l, isi_l_n, isi_l_s, isi_s_i, isi_s_b, isi_s_s, isi_s_t, isi_s_l, isi_s_n, atI_0, atI_1, atI_2, dIx_tup, dIx_list, dLe_int, dLe_pair, dEq_int, dNe_int, dEq_bool, dNe_bool, dAdd_int, dSub_int, dLt_int, dGt_int, dGe_int, dLtG_int, dGtG_int, dGeG_int, dLeG_int, dLeG_pair, dMinG_two, dMaxG_two, dNeg_int, dLen_list, dLen_tup, dTuple_list, dTuple_tup, dSortG_list, dSortG_tup, dSortG_dic, seqD_list, seqD_tup, List.map_cons, List.map_nil, List.cons_append, List.nil_append, List.append_nil, List.replicate_succ, List.replicate_zero, List.length_cons, List.length_nil, Option.some.injEq, exists_eq_left', exists_eq_left, true_and, and_true, PyData.bool.injEq, PyData.int.injEq, PyData.list.injEq, PyData.tuple.injEq, List.cons.injEq, Nat.reduceAdd, Nat.reduceSub, Bool.not_true, Bool.not_false, Bool.and_true, Bool.true_and, Bool.and_false, Bool.false_and, if_true, if_false, Bool.false_eq_true]
      have : ((List.range N.n).map fun i => intD (valI (sortset hs) (hs.getD i 0))) = hs.map intD := by
        apply List.ext_getElem
        · simp [hlen]
        · intro i h1 h2
          simp only [List.length_map, List.length_range] at h1
          simp only [List.getElem_map, List.getElem_range]
          rw [getD_at (by omega), valI_end hlt ((hmem _).mpr (List.getElem_mem _))]
      rw [this]
      exact q
    · obtain ⟨a, b, c, d, e', rfl⟩ := hI
      simp only [layD, ptsD, wseq, wskip, wset, wret, wretN, wexpr, wifs, wfor, wnever, wbreak, wcont, wappend, wappend2, wseti, wseti2, wdput, waug, wpar2, wpar3, wunp, wpop, wwhile, wvar, wcst, w1, w2, wn, wtest, wand, wor, wnot, wandV, worV, wnotV, wif, wchain, wchain3, wnil, wcons, wcall, wtup, wlst, wlc, wiSeq, wiRng1, wiRng2, wiEnum, wgn, s_wgt, s_wgnil, s_wgcons, wyes, wrnglist, wrngtuple, wrg1, wrg2, wdisp1, wdc, wno, wsm, wslice, wsliceL, dCut, dCutL, windex, wiZip, wupd, eg, put, del, dels, dIsi, dIsi2, tyD_int, tyD_bool, tyD_tuple, tyD_list, tyD_str, tyD_none, isi_i_i, isi_i_b, isi_i_t, isi_i_l, isi_i_n, isi_i_s, isi_b_i, isi_b_b, isi_b_n, isi_t_i, isi_t_b, isi_t_t, isi_t_l, isi_t_s, isi_t_n, isi_l_i, isi_l_b, isi_l_t, isi_l_l, isi_l_n, isi_l_s, isi_s_i, isi_s_b, isi_s_s, isi_s_t, isi_s_l, isi_s_n, atI_0, atI_1, atI_2, dIx_tup, dIx_list, dLe_int, dLe_pair, dEq_int, dNe_int, dEq_bool, dNe_bool, dAdd_int, dSub_int, dLt_int, dGt_int, dGe_int, dLtG_int, dGtG_int, dGeG_int, dLeG_int, dLeG_pair, dMinG_two, dMaxG_two, dNeg_int, dLen_list, dLen_tup, dTuple_list, dTuple_tup, dSortG_list, dSortG_tup, dSortG_dic, seqD_list, seqD_tup, List.map_cons, List.map_nil, List.cons_append, List.nil_append, List.append_nil, List.replicate_succ, List.replicate_zero, List.length_cons, List.length_nil, Option.some.injEq, exists_eq_left', exists_eq_left, true_and, and_true, PyData.bool.injEq, PyData.int.injEq, PyData.list.injEq, PyData.tuple.injEq, List.cons.injEq, Nat.reduceAdd, Nat.reduceSub, Bool.not_true, Bool.not_false, Bool.and_true, Bool.true_and, Bool.and_false, Bool.false_and, if_true, if_false, Bool.false_eq_true]
      refine fun _ => ?_
      refine wfl_inv natD (fun pp ρ => ∃ e, ρ = [some (netD N), some (.list ((sortset hs).map (layD hs))), a, b, some (.list ((List.range N.n).map fun i => intD (if i ∈ pp then x else valI pre (hs.getD i 0)))), some (intD x), some (ptsD (layL hs x)), e, none]) (fun ρ hI => ?_) (fun pp y po ρ M2 e2 hM2 hI => ?_) ⟨e', by simp [ptsD, netD]⟩
      · obtain ⟨e3, rfl⟩ := hI
        have : ((List.range N.n).map fun i => intD (if i ∈ layL hs x then x else valI pre (hs.getD i 0))) = ((List.range N.n).map fun i => intD (valI (pre ++ [x]) (hs.getD i 0))) := by
          refine List.map_congr_left fun i hi => ?_
          have hi' := List.mem_range.mp hi
          rw [valI_snoc]
          by_cases hx : x ≤ hs.getD i 0
          · rw [if_pos (layL_mem.mpr ⟨by omega, hx⟩), if_pos hx]
          · rw [if_neg (fun z => hx (layL_mem.mp z).2), if_neg hx]
        rw [this]
        exact hM _ ⟨_, _, _, _, _, rfl⟩
      · obtain ⟨e3, rfl⟩ := hI
        have hy : y ∈ layL hs x := by rw [e2]; simp
        have hy1 := (layL_mem.mp hy).1
        simp only [wseq, wskip, wset, wret, wretN, wexpr, wifs, wfor, wnever, wbreak, wcont, wappend, wappend2, wseti, wseti2, wdput, waug, wpar2, wpar3, wunp, wpop, wwhile, wvar, wcst, w1, w2, wn, wtest, wand, wor, wnot, wandV, worV, wnotV, wif, wchain, wchain3, wnil, wcons, wcall, wtup, wlst, wlc, wiSeq, wiRng1, wiRng2, wiEnum, wgn, s_wgt, s_wgnil, s_wgcons, wyes, wrnglist, wrngtuple, wrg1, wrg2, wdisp1, wdc, wno, wsm, wslice, wsliceL, dCut, dCutL, windex, wiZip, wupd, eg, put, del, dels, dIsi, dIsi2, tyD_int, tyD_bool, tyD_tuple, tyD_list, tyD_str, tyD_none, isi_i_i, isi_i_b, isi_i_t, isi_i_l, isi_i_n, isi_i_s, isi_b_i, isi_b_b, isi_b_n, isi_t_i, isi_t_b, isi_t_t, isi_t_l, isi_t_s, isi_t_n, isi_l_i, isi_l_b, isi_l_t, isi_l_l, isi_l_n, isi_l_s, isi_s_i, isi_s_b, isi_s_s, isi_s_t, isi_s_l, isi_s_n, atI_0, atI_1, atI_2, dIx_tup, dIx_list, dLe_int, dLe_pair, dEq_int, dNe_int, dEq_bool, dNe_bool, dAdd_int, dSub_int, dLt_int, dGt_int, dGe_int, dLtG_int, dGtG_int, dGeG_int, dLeG_int, dLeG_pair, dMinG_two, dMaxG_two, dNeg_int, dLen_list, dLen_tup, dTuple_list, dTuple_tup, dSortG_list, dSortG_tup, dSortG_dic, seqD_list, seqD_tup, List.map_cons, List.map_nil, List.cons_append, List.nil_append, List.append_nil, List.replicate_succ, List.replicate_zero, List.length_cons, List.length_nil, Option.some.injEq, exists_eq_left', exists_eq_left, true_and, and_true, PyData.bool.injEq, PyData.int.injEq, PyData.list.injEq, PyData.tuple.injEq, List.cons.injEq, Nat.reduceAdd, Nat.reduceSub, Bool.not_true, Bool.not_false, Bool.and_true, Bool.true_and, Bool.and_false, Bool.false_and, if_true, if_false, Bool.false_eq_true]
        have el : ((List.range N.n).map fun i => intD (if i ∈ pp then x else valI pre (hs.getD i 0))).set y (intD x) = (List.range N.n).map fun i => intD (if i ∈ pp ++ [y] then x else valI pre (hs.getD i 0)) := by
          apply List.ext_getElem
          · simp
          · intro i h1 h2
            simp only [List.length_set, List.length_map, List.length_range] at h1
            rw [List.getElem_set]
            simp only [List.getElem_map, List.getElem_range, List.mem_append, List.mem_singleton]
            by_cases ey : y = i
            · subst ey; rw [if_pos rfl, if_pos (.inr rfl)]
            · rw [if_neg ey]
              by_cases ei : i ∈ pp
              · rw [if_pos ei, if_pos (.inl ei)]
              · rw [if_neg ei, if_neg (fun z => by rcases z with z | z; exact ei z; exact ey z.symm)]
        refine ⟨_, (y : Int), y, rfl, rfl, by rw [List.length_map, List.length_range]; exact ixN_nat (by omega), ?_⟩
        rw [el]
        exact hM2 _ ⟨some (natD y), rfl⟩
  · obtain ⟨a, b, c, rfl⟩ := hI
    have hx : x ∈ (sortset hs).zip ((sortset hs).drop 1) := by rw [e]; simp
    obtain ⟨i, hi, hxi⟩ := List.getElem_of_mem hx
    rw [List.length_zip, List.length_drop] at hi
    rw [List.getElem_zip] at hxi
    have e1 : x.1 = (sortset hs)[i] := by rw [← hxi]
    have e2 : x.2 = (sortset hs)[i + 1] := by
      rw [← hxi]
      show ((sortset hs).drop 1)[i]'(by rw [List.length_drop]; omega) = _
      rw [List.getElem_drop]
      simp only [Nat.add_comm]
    have hlt2 := List.pairwise_iff_getElem.mp hlt i (i + 1) (by omega) (by omega) (by omega)
    rw [← e1, ← e2] at hlt2
    have hsub : ∀ z, z ∈ layL hs x.2 → z ∈ layL hs x.1 := fun z hz => by
      obtain ⟨z1, z2⟩ := layL_mem.mp hz
      exact layL_mem.mpr ⟨z1, by omega⟩
    have hin : x.1 ∈ hs := (hmem _).mp (by rw [e1]; exact List.getElem_mem _)
    obtain ⟨j, hj, ej⟩ := List.getElem_of_mem hin
    have hlen2 : (layL hs x.2).length < (layL hs x.1).length := by
      have e3 : layL hs x.2 = (layL hs x.1).filter fun i => decide (x.2 ≤ hs.getD i 0) := by
        unfold layL
        rw [List.filter_filter]
        refine List.filter_congr fun i _ => ?_
        by_cases h2 : x.2 ≤ hs.getD i 0
        · have h3 : x.1 ≤ hs.getD i 0 := by omega
          rw [decide_eq_true h2, decide_eq_true h3]; rfl
        · rw [decide_eq_false h2]; rfl
      rw [e3]
      refine List.length_filter_lt_length_iff_exists.mpr ⟨j, layL_mem.mpr ⟨hj, by rw [getD_at hj, ej]; exact Int.le_refl _⟩, ?_⟩
      rw [getD_at hj, ej]
      simp; omega
    simp only [layD, wseq, wskip, wset, wret, wretN, wexpr, wifs, wfor, wnever, wbreak, wcont, wappend, wappend2, wseti, wseti2, wdput, waug, wpar2, wpar3, wunp, wpop, wwhile, wvar, wcst, w1, w2, wn, wtest, wand, wor, wnot, wandV, worV, wnotV, wif, wchain, wchain3, wnil, wcons, wcall, wtup, wlst, wlc, wiSeq, wiRng1, wiRng2, wiEnum, wgn, s_wgt, s_wgnil, s_wgcons, wyes, wrnglist, wrngtuple, wrg1, wrg2, wdisp1, wdc, wno, wsm, wslice, wsliceL, dCut, dCutL, windex, wiZip, wupd, eg, put, del, dels, dIsi, dIsi2, tyD_int, tyD_bool, tyD_tuple, tyD_list, tyD_str, tyD_none, isi_i_i, isi_i_b, isi_i_t, isi_i_l, isi_i_n, isi_i_s, isi_b_i, isi_b_b, isi_b_n, isi_t_i, isi_t_b, isi_t_t, isi_t_l, isi_t_s, isi_t_n, isi_l_i, isi_l_b, isi_l_t, isi_l_l, isi_l_n, isi_l_s, isi_s_i, isi_s_b, isi_s_s, isi_s_t, isi_s_l, isi_s_n, atI_0, atI_1, atI_2, dIx_tup, dIx_list, dLe_int, dLe_pair, dEq_int, dNe_int, dEq_bool, dNe_bool, dAdd_int, dSub_int, dLt_int, dGt_int, dGe_int, dLtG_int, dGtG_int, dGeG_int, dLeG_int, dLeG_pair, dMinG_two, dMaxG_two, dNeg_int, dLen_list, dLen_tup, dTuple_list, dTuple_tup, dSortG_list, dSortG_tup, dSortG_dic, seqD_list, seqD_tup, List.map_cons, List.map_nil, List.cons_append, List.nil_append, List.append_nil, List.replicate_succ, List.replicate_zero, List.length_cons, List.length_nil, Option.some.injEq, exists_eq_left', exists_eq_left, true_and, and_true, PyData.bool.injEq, PyData.int.injEq, PyData.list.injEq, PyData.tuple.injEq, List.cons.injEq, Nat.reduceAdd, Nat.reduceSub, Bool.not_true, Bool.not_false, Bool.and_true, Bool.true_and, Bool.and_false, Bool.false_and, if_true, if_false, Bool.false_eq_true]
    rw [if_neg (by simp; omega)]
    refine ⟨_, rfl, _, rfl, _, rfl, _, rfl, ?_⟩
    rw [if_neg (by simp; omega)]
    refine ⟨_, rfl, fun _ => ⟨by have := layL_len hs x.2; rw [List.length_map]; exact sz_small (by omega), ?_⟩⟩
    refine wcl_map natD PyData.bool (fun _ => true) _ _ _ (fun z hz Qt hq => ?_) ?_
    · simp only [wseq, wskip, wset, wret, wretN, wexpr, wifs, wfor, wnever, wbreak, wcont, wappend, wappend2, wseti, wseti2, wdput, waug, wpar2, wpar3, wunp, wpop, wwhile, wvar, wcst, w1, w2, wn, wtest, wand, wor, wnot, wandV, worV, wnotV, wif, wchain, wchain3, wnil, wcons, wcall, wtup, wlst, wlc, wiSeq, wiRng1, wiRng2, wiEnum, wgn, s_wgt, s_wgnil, s_wgcons, wyes, wrnglist, wrngtuple, wrg1, wrg2, wdisp1, wdc, wno, wsm, wslice, wsliceL, dCut, dCutL, windex, wiZip, wupd, eg, put, del, dels, dIsi, dIsi2, tyD_int, tyD_bool, tyD_tuple, tyD_list, tyD_str, tyD_none, isi_i_i, isi_i_b, isi_i_t, isi_i_l, isi_i_n, isi_i_s, isi_b_i, isi_b_b, isi_b_n, isi_t_i, isi_t_b, isi_t_t, isi_t_l, isi_t_s, isi_t_n, isi_l_i, isi_l_b, isi_l_t, isi_l_l, isi_l_n, isi_l_s, isi_s_i, isi_s_b, isi_s_s, isi_s_t, isi_s_l, isi_s_n, atI_0, atI_1, atI_2, dIx_tup, dIx_list, dLe_int, dLe_pair, dEq_int, dNe_int, dEq_bool, dNe_bool, dAdd_int, dSub_int, dLt_int, dGt_int, dGe_int, dLtG_int, dGtG_int, dGeG_int, dLeG_int, dLeG_pair, dMinG_two, dMaxG_two, dNeg_int, dLen_list, dLen_tup, dTuple_list, dTuple_tup, dSortG_list, dSortG_tup, dSortG_dic, seqD_list, seqD_tup, List.map_cons, List.map_nil, List.cons_append, List.nil_append, List.append_nil, List.replicate_succ, List.replicate_zero, List.length_cons, List.length_nil, Option.some.injEq, exists_eq_left', exists_eq_left, true_and, and_true, PyData.bool.injEq, PyData.int.injEq, PyData.list.injEq, PyData.tuple.injEq, List.cons.injEq, Nat.reduceAdd, Nat.reduceSub, Bool.not_true, Bool.not_false, Bool.and_true, Bool.true_and, Bool.and_false, Bool.false_and, if_true, if_false, Bool.false_eq_true]
      refine ⟨_, in_pts, ?_⟩
      rw [decide_eq_true (hsub z hz)]
      exact hq
    · rw [List.nil_append, dAll_bls]
      refine ⟨_, rfl, _, rfl, ?_⟩
      rw [if_neg (by simp)]
      exact hM _ ⟨_, _, _, rfl⟩
end K54
namespace K54
open PySem PySem.Spec VS
theorem law_true : b_law { nx := fun _ => False, rt := fun d => d = .bool true } (put (List.replicate N_law.length none) 1 .none) := by
  unfold b_law
  simp only [N_law, put, List.length_cons, List.length_nil, List.replicate_succ, List.replicate_zero, Nat.reduceAdd]
  refine wseq_go fun M hM => ?_
  simp only [wseq, wskip, wset, wret, wretN, wexpr, wifs, wfor, wnever, wbreak, wcont, wappend, wappend2, wseti, wseti2, wdput, waug, wpar2, wpar3, wunp, wpop, wwhile, wvar, wcst, w1, w2, wn, wtest, wand, wor, wnot, wandV, worV, wnotV, wif, wchain, wchain3, wnil, wcons, wcall, wtup, wlst, wlc, wiSeq, wiRng1, wiRng2, wiEnum, wgn, s_wgt, s_wgnil, s_wgcons, wyes, wrnglist, wrngtuple, wrg1, wrg2, wdisp1, wdc, wno, wsm, wslice, wsliceL, dCut, dCutL, windex, wiZip, wupd, eg, put, del, dels, dIsi, dIsi2, tyD_int, tyD_bool, tyD_tuple, tyD_list, tyD_str, tyD_none, isi_i_i, isi_i_b, isi_i_t, isi_i_l, isi_i_n, isi_i_s, isi_b_i, isi_b_b, isi_b_n, isi_t_i, isi_t_b, isi_t_t, isi_t_l, isi_t_s, isi_t_n, isi_l_i, isi_l_b, isi_l_t, isi_l_l, isi_l_n, isi_l_s, isi_s_i, isi_s_b, isi_s_s, isi_s_t, isi_s_l, isi_s_n, atI_0, atI_1, atI_2, dIx_tup, dIx_list, dLe_int, dLe_pair, dEq_int, dNe_int, dEq_bool, dNe_bool, dAdd_int, dSub_int, dLt_int, dGt_int, dGe_int, dLtG_int, dGtG_int, dGeG_int, dLeG_int, dLeG_pair, dMinG_two, dMaxG_two, dNeg_int, dLen_list, dLen_tup, dTuple_list, dTuple_tup, dSortG_list, dSortG_tup, dSortG_dic, seqD_list, seqD_tup, List.map_cons, List.map_nil, List.cons_append, List.nil_append, List.append_nil, List.replicate_succ, List.replicate_zero, List.length_cons, List.length_nil, Option.some.injEq, exists_eq_left', exists_eq_left, true_and, and_true, PyData.bool.injEq, PyData.int.injEq, PyData.list.injEq, PyData.tuple.injEq, List.cons.injEq, Nat.reduceAdd, Nat.reduceSub, Bool.not_true, Bool.not_false, Bool.and_true, Bool.true_and, Bool.and_false, Bool.false_and, if_true, if_false, Bool.false_eq_true]
  refine w__law_net_ok (most := 12) (by omega) (by omega) fun N hN _ => hM _ ?_
  clear hM M
  have h1 := hN.n1
  have h12 := hN.n12
  refine wseq_go fun M hM => ?_
  simp only [netD, wseq, wskip, wset, wret, wretN, wexpr, wifs, wfor, wnever, wbreak, wcont, wappend, wappend2, wseti, wseti2, wdput, waug, wpar2, wpar3, wunp, wpop, wwhile, wvar, wcst, w1, w2, wn, wtest, wand, wor, wnot, wandV, worV, wnotV, wif, wchain, wchain3, wnil, wcons, wcall, wtup, wlst, wlc, wiSeq, wiRng1, wiRng2, wiEnum, wgn, s_wgt, s_wgnil, s_wgcons, wyes, wrnglist, wrngtuple, wrg1, wrg2, wdisp1, wdc, wno, wsm, wslice, wsliceL, dCut, dCutL, windex, wiZip, wupd, eg, put, del, dels, dIsi, dIsi2, tyD_int, tyD_bool, tyD_tuple, tyD_list, tyD_str, tyD_none, isi_i_i, isi_i_b, isi_i_t, isi_i_l, isi_i_n, isi_i_s, isi_b_i, isi_b_b, isi_b_n, isi_t_i, isi_t_b, isi_t_t, isi_t_l, isi_t_s, isi_t_n, isi_l_i, isi_l_b, isi_l_t, isi_l_l, isi_l_n, isi_l_s, isi_s_i, isi_s_b, isi_s_s, isi_s_t, isi_s_l, isi_s_n, atI_0, atI_1, atI_2, dIx_tup, dIx_list, dLe_int, dLe_pair, dEq_int, dNe_int, dEq_bool, dNe_bool, dAdd_int, dSub_int, dLt_int, dGt_int, dGe_int, dLtG_int, dGtG_int, dGeG_int, dLeG_int, dLeG_pair, dMinG_two, dMaxG_two, dNeg_int, dLen_list, dLen_tup, dTuple_list, dTuple_tup, dSortG_list, dSortG_tup, dSortG_dic, seqD_list, seqD_tup, List.map_cons, List.map_nil, List.cons_append, List.nil_append, List.append_nil, List.replicate_succ, List.replicate_zero, List.length_cons, List.length_nil, Option.some.injEq, exists_eq_left', exists_eq_left, true_and, and_true, PyData.bool.injEq, PyData.int.injEq, PyData.list.injEq, PyData.tuple.injEq, List.cons.injEq, Nat.reduceAdd, Nat.reduceSub, Bool.not_true, Bool.not_false, Bool.and_true, Bool.true_and, Bool.and_false, Bool.false_and, if_true, if_false, Bool.false_eq_true]
  refine hM _ ?_
  clear hM M
  refine wseq_go fun M hM => ?_
  simp only [wseq, wskip, wset, wret, wretN, wexpr, wifs, wfor, wnever, wbreak, wcont, wappend, wappend2, wseti, wseti2, wdput, waug, wpar2, wpar3, wunp, wpop, wwhile, wvar, wcst, w1, w2, wn, wtest, wand, wor, wnot, wandV, worV, wnotV, wif, wchain, wchain3, wnil, wcons, wcall, wtup, wlst, wlc, wiSeq, wiRng1, wiRng2, wiEnum, wgn, s_wgt, s_wgnil, s_wgcons, wyes, wrnglist, wrngtuple, wrg1, wrg2, wdisp1, wdc, wno, wsm, wslice, wsliceL, dCut, dCutL, windex, wiZip, wupd, eg, put, del, dels, dIsi, dIsi2, tyD_int, tyD_bool, tyD_tuple, tyD_list, tyD_str, tyD_none, isi_i_i, isi_i_b, isi_i_t, isi_i_l, isi_i_n, isi_i_s, isi_b_i, isi_b_b, isi_b_n, isi_t_i, isi_t_b, isi_t_t, isi_t_l, isi_t_s, isi_t_n, isi_l_i, isi_l_b, isi_l_t, isi_l_l, isi_l_n, isi_l_s, isi_s_i, isi_s_b, isi_s_s, isi_s_t, isi_s_l, isi_s_n, atI_0, atI_1, atI_2, dIx_tup, dIx_list, dLe_int, dLe_pair, dEq_int, dNe_int, dEq_bool, dNe_bool, dAdd_int, dSub_int, dLt_int, dGt_int, dGe_int, dLtG_int, dGtG_int, dGeG_int, dLeG_int, dLeG_pair, dMinG_two, dMaxG_two, dNeg_int, dLen_list, dLen_tup, dTuple_list, dTuple_tup, dSortG_list, dSortG_tup, dSortG_dic, seqD_list, seqD_tup, List.map_cons, List.map_nil, List.cons_append, List.nil_append, List.append_nil, List.replicate_succ, List.replicate_zero, List.length_cons, List.length_nil, Option.some.injEq, exists_eq_left', exists_eq_left, true_and, and_true, PyData.bool.injEq, PyData.int.injEq, PyData.list.injEq, PyData.tuple.injEq, List.cons.injEq, Nat.reduceAdd, Nat.reduceSub, Bool.not_true, Bool.not_false, Bool.and_true, Bool.true_and, Bool.and_false, Bool.false_and, if_true, if_false, Bool.false_eq_true]
  refine ⟨sz_small (by decide), w__law_pick_ok (by simp) (by simp) fun x hx => ?_⟩
  obtain ⟨top, rfl, ht⟩ : ∃ top : Nat, x = natD top ∧ top ≤ 20 := by
    simp at hx
    rcases hx with rfl | rfl
    · exact ⟨3, rfl, by omega⟩
    · exact ⟨20, rfl, by omega⟩
  refine w__law_heights_ok (by omega) (by omega) fun hs hr hb => taken_iff (by omega) (by omega) fun k hk => ⟨_, _, ⟨rfl, rfl⟩, hM _ ?_⟩
  clear hM M hx
  have hlen := hr.len
  have hk' : k ≤ N.n := by omega
  have hcr := cutR_ok (k := k) rfl hr
  have hfr := fillR_ok (k := k) hr
  have hsr := shavR_ok (k := k) hr
  have hcl := hcr.len
  have hfl := hfr.len
  have hshl := hsr.len
  refine wseq_go fun M hM => ?_
  simp only [wseq, wskip, wset, wret, wretN, wexpr, wifs, wfor, wnever, wbreak, wcont, wappend, wappend2, wseti, wseti2, wdput, waug, wpar2, wpar3, wunp, wpop, wwhile, wvar, wcst, w1, w2, wn, wtest, wand, wor, wnot, wandV, worV, wnotV, wif, wchain, wchain3, wnil, wcons, wcall, wtup, wlst, wlc, wiSeq, wiRng1, wiRng2, wiEnum, wgn, s_wgt, s_wgnil, s_wgcons, wyes, wrnglist, wrngtuple, wrg1, wrg2, wdisp1, wdc, wno, wsm, wslice, wsliceL, dCut, dCutL, windex, wiZip, wupd, eg, put, del, dels, dIsi, dIsi2, tyD_int, tyD_bool, tyD_tuple, tyD_list, tyD_str, tyD_none, isi_i_i, isi_i_b, isi_i_t, isi_i_l, isi_i_n, isi_i_s, isi_b_i, isi_b_b, isi_b_n, isi_t_i, isi_t_b, isi_t_t, isi_t_l, isi_t_s, isi_t_n, isi_l_i, isi_l_b, isi_l_t, isi_l_l, isi_l_n, isi_l_s, isi_s_i, isi_s_b, isi_s_s, isi_s_t, isi_s_l, isi_s_n, atI_0, atI_1, atI_2, dIx_tup, dIx_list, dLe_int, dLe_pair, dEq_int, dNe_int, dEq_bool, dNe_bool, dAdd_int, dSub_int, dLt_int, dGt_int, dGe_int, dLtG_int, dGtG_int, dGeG_int, dLeG_int, dLeG_pair, dMinG_two, dMaxG_two, dNeg_int, dLen_list, dLen_tup, dTuple_list, dTuple_tup, dSortG_list, dSortG_tup, dSortG_dic, seqD_list, seqD_tup, List.map_cons, List.map_nil, List.cons_append, List.nil_append, List.append_nil, List.replicate_succ, List.replicate_zero, List.length_cons, List.length_nil, Option.some.injEq, exists_eq_left', exists_eq_left, true_and, and_true, PyData.bool.injEq, PyData.int.injEq, PyData.list.injEq, PyData.tuple.injEq, List.cons.injEq, Nat.reduceAdd, Nat.reduceSub, Bool.not_true, Bool.not_false, Bool.and_true, Bool.true_and, Bool.and_false, Bool.false_and, if_true, if_false, Bool.false_eq_true]
  refine w_cut_ok hN hr hk' (w_fill_ok hN hr hk' (w_shave_ok hN hr hk' ⟨_, _, _, ⟨rfl, rfl, rfl⟩, hM _ ?_⟩))
  clear hM M
  -- four levels
  refine wseq_go fun M hM => ?_
  simp only [wseq, wskip, wset, wret, wretN, wexpr, wifs, wfor, wnever, wbreak, wcont, wappend, wappend2, wseti, wseti2, wdput, waug, wpar2, wpar3, wunp, wpop, wwhile, wvar, wcst, w1, w2, wn, wtest, wand, wor, wnot, wandV, worV, wnotV, wif, wchain, wchain3, wnil, wcons, wcall, wtup, wlst, wlc, wiSeq, wiRng1, wiRng2, wiEnum, wgn, s_wgt, s_wgnil, s_wgcons, wyes, wrnglist, wrngtuple, wrg1, wrg2, wdisp1, wdc, wno, wsm, wslice, wsliceL, dCut, dCutL, windex, wiZip, wupd, eg, put, del, dels, dIsi, dIsi2, tyD_int, tyD_bool, tyD_tuple, tyD_list, tyD_str, tyD_none, isi_i_i, isi_i_b, isi_i_t, isi_i_l, isi_i_n, isi_i_s, isi_b_i, isi_b_b, isi_b_n, isi_t_i, isi_t_b, isi_t_t, isi_t_l, isi_t_s, isi_t_n, isi_l_i, isi_l_b, isi_l_t, isi_l_l, isi_l_n, isi_l_s, isi_s_i, isi_s_b, isi_s_s, isi_s_t, isi_s_l, isi_s_n, atI_0, atI_1, atI_2, dIx_tup, dIx_list, dLe_int, dLe_pair, dEq_int, dNe_int, dEq_bool, dNe_bool, dAdd_int, dSub_int, dLt_int, dGt_int, dGe_int, dLtG_int, dGtG_int, dGeG_int, dLeG_int, dLeG_pair, dMinG_two, dMaxG_two, dNeg_int, dLen_list, dLen_tup, dTuple_list, dTuple_tup, dSortG_list, dSortG_tup, dSortG_dic, seqD_list, seqD_tup, List.map_cons, List.map_nil, List.cons_append, List.nil_append, List.append_nil, List.replicate_succ, List.replicate_zero, List.length_cons, List.length_nil, Option.some.injEq, exists_eq_left', exists_eq_left, true_and, and_true, PyData.bool.injEq, PyData.int.injEq, PyData.list.injEq, PyData.tuple.injEq, List.cons.injEq, Nat.reduceAdd, Nat.reduceSub, Bool.not_true, Bool.not_false, Bool.and_true, Bool.true_and, Bool.and_false, Bool.false_and, if_true, if_false, Bool.false_eq_true]
  refine ⟨⟨by omega, by omega⟩, ?_⟩
  rw [show Int.toNat 4 = 4 from rfl, rngD_nat]
  refine wfl_inv (fun i : Nat => PyData.int i) (fun pre ρ => ∃ a b c, ρ = [none, some .none, some (netD N), some (natD N.n), some (rowD hs), some (natD k), some (rowD (cutR N hs k)), some (rowD (fillR N hs k)), some (rowD (shavR N hs k)), a, b, c, none]) (fun ρ hI => ?_) (fun pre x post ρ M2 e hM2 hI => ?_) ⟨none, none, none, rfl⟩
  · obtain ⟨a, b, c, rfl⟩ := hI
    refine hM _ ?_
    clear hM M
    have hne : hs ≠ [] := by intro z; rw [z] at hlen; simp at hlen; omega
    have hsl := sortset_len hs
    have hcsl := sortset_len (cutR N hs k)
    have hsm := fun t => sortset_mem t hs
    obtain ⟨tl, etl⟩ := sortset_head hne
    refine wseq_go fun M hM => ?_
    simp only [wseq, wskip, wset, wret, wretN, wexpr, wifs, wfor, wnever, wbreak, wcont, wappend, wappend2, wseti, wseti2, wdput, waug, wpar2, wpar3, wunp, wpop, wwhile, wvar, wcst, w1, w2, wn, wtest, wand, wor, wnot, wandV, worV, wnotV, wif, wchain, wchain3, wnil, wcons, wcall, wtup, wlst, wlc, wiSeq, wiRng1, wiRng2, wiEnum, wgn, s_wgt, s_wgnil, s_wgcons, wyes, wrnglist, wrngtuple, wrg1, wrg2, wdisp1, wdc, wno, wsm, wslice, wsliceL, dCut, dCutL, windex, wiZip, wupd, eg, put, del, dels, dIsi, dIsi2, tyD_int, tyD_bool, tyD_tuple, tyD_list, tyD_str, tyD_none, isi_i_i, isi_i_b, isi_i_t, isi_i_l, isi_i_n, isi_i_s, isi_b_i, isi_b_b, isi_b_n, isi_t_i, isi_t_b, isi_t_t, isi_t_l, isi_t_s, isi_t_n, isi_l_i, isi_l_b, isi_l_t, isi_l_l, isi_l_n, isi_l_s, isi_s_i, isi_s_b, isi_s_s, isi_s_t, isi_s_l, isi_s_n, atI_0, atI_1, atI_2, dIx_tup, dIx_list, dLe_int, dLe_pair, dEq_int, dNe_int, dEq_bool, dNe_bool, dAdd_int, dSub_int, dLt_int, dGt_int, dGe_int, dLtG_int, dGtG_int, dGeG_int, dLeG_int, dLeG_pair, dMinG_two, dMaxG_two, dNeg_int, dLen_list, dLen_tup, dTuple_list, dTuple_tup, dSortG_list, dSortG_tup, dSortG_dic, seqD_list, seqD_tup, List.map_cons, List.map_nil, List.cons_append, List.nil_append, List.append_nil, List.replicate_succ, List.replicate_zero, List.length_cons, List.length_nil, Option.some.injEq, exists_eq_left', exists_eq_left, true_and, and_true, PyData.bool.injEq, PyData.int.injEq, PyData.list.injEq, PyData.tuple.injEq, List.cons.injEq, Nat.reduceAdd, Nat.reduceSub, Bool.not_true, Bool.not_false, Bool.and_true, Bool.true_and, Bool.and_false, Bool.false_and, if_true, if_false, Bool.false_eq_true]
    refine w_layers_ok hN hcr (w_stacked_ok hN hcr ⟨_, ne_row (by omega) (by omega), _, rfl, ?_⟩)
    rw [if_neg (by simp)]
    refine w_layers_ok hN hr ?_
    rw [etl]
    simp only [wseq, wskip, wset, wret, wretN, wexpr, wifs, wfor, wnever, wbreak, wcont, wappend, wappend2, wseti, wseti2, wdput, waug, wpar2, wpar3, wunp, wpop, wwhile, wvar, wcst, w1, w2, wn, wtest, wand, wor, wnot, wandV, worV, wnotV, wif, wchain, wchain3, wnil, wcons, wcall, wtup, wlst, wlc, wiSeq, wiRng1, wiRng2, wiEnum, wgn, s_wgt, s_wgnil, s_wgcons, wyes, wrnglist, wrngtuple, wrg1, wrg2, wdisp1, wdc, wno, wsm, wslice, wsliceL, dCut, dCutL, windex, wiZip, wupd, eg, put, del, dels, dIsi, dIsi2, tyD_int, tyD_bool, tyD_tuple, tyD_list, tyD_str, tyD_none, isi_i_i, isi_i_b, isi_i_t, isi_i_l, isi_i_n, isi_i_s, isi_b_i, isi_b_b, isi_b_n, isi_t_i, isi_t_b, isi_t_t, isi_t_l, isi_t_s, isi_t_n, isi_l_i, isi_l_b, isi_l_t, isi_l_l, isi_l_n, isi_l_s, isi_s_i, isi_s_b, isi_s_s, isi_s_t, isi_s_l, isi_s_n, atI_0, atI_1, atI_2, dIx_tup, dIx_list, dLe_int, dLe_pair, dEq_int, dNe_int, dEq_bool, dNe_bool, dAdd_int, dSub_int, dLt_int, dGt_int, dGe_int, dLtG_int, dGtG_int, dGeG_int, dLeG_int, dLeG_pair, dMinG_two, dMaxG_two, dNeg_int, dLen_list, dLen_tup, dTuple_list, dTuple_tup, dSortG_list, dSortG_tup, dSortG_dic, seqD_list, seqD_tup, List.map_cons, List.map_nil, List.cons_append, List.nil_append, List.append_nil, List.replicate_succ, List.replicate_zero, List.length_cons, List.length_nil, Option.some.injEq, exists_eq_left', exists_eq_left, true_and, and_true, PyData.bool.injEq, PyData.int.injEq, PyData.list.injEq, PyData.tuple.injEq, List.cons.injEq, Nat.reduceAdd, Nat.reduceSub, Bool.not_true, Bool.not_false, Bool.and_true, Bool.true_and, Bool.and_false, Bool.false_and, if_true, if_false, Bool.false_eq_true]
    refine ⟨_, min_row hne, ⟨by omega, by omega, by omega, by omega, by omega⟩, sz_small (by decide), ?_⟩
    have ed : PyData.tuple [intD (mn hs), PyData.tuple (rngD 0 ((N.n : Int) - 0).toNat)] = layD hs (mn hs) := by
      unfold layD ptsD
      rw [lay_least hne, hlen, Int.sub_zero, Int.toNat_natCast, rngD_nat]
    rw [ed]
    have hnd : Nd 2 (layD hs (mn hs)) := by
      unfold layD
      exact nd_tup (ndA_cons (nd_int 1 _) (ndA_cons (nd_pts (by have := layL_len hs (mn hs); omega)) ndA_nil)) (by simp)
    refine ⟨_, dNe_self (hnd.shaped (by decide)), _, rfl, ?_⟩
    rw [if_neg (by simp)]
    refine hM _ ?_
    clear hM M
    -- the layers of the row cut are open
    refine wseq_go fun M hM => ?_
    simp only [wseq, wskip, wset, wret, wretN, wexpr, wifs, wfor, wnever, wbreak, wcont, wappend, wappend2, wseti, wseti2, wdput, waug, wpar2, wpar3, wunp, wpop, wwhile, wvar, wcst, w1, w2, wn, wtest, wand, wor, wnot, wandV, worV, wnotV, wif, wchain, wchain3, wnil, wcons, wcall, wtup, wlst, wlc, wiSeq, wiRng1, wiRng2, wiEnum, wgn, s_wgt, s_wgnil, s_wgcons, wyes, wrnglist, wrngtuple, wrg1, wrg2, wdisp1, wdc, wno, wsm, wslice, wsliceL, dCut, dCutL, windex, wiZip, wupd, eg, put, del, dels, dIsi, dIsi2, tyD_int, tyD_bool, tyD_tuple, tyD_list, tyD_str, tyD_none, isi_i_i, isi_i_b, isi_i_t, isi_i_l, isi_i_n, isi_i_s, isi_b_i, isi_b_b, isi_b_n, isi_t_i, isi_t_b, isi_t_t, isi_t_l, isi_t_s, isi_t_n, isi_l_i, isi_l_b, isi_l_t, isi_l_l, isi_l_n, isi_l_s, isi_s_i, isi_s_b, isi_s_s, isi_s_t, isi_s_l, isi_s_n, atI_0, atI_1, atI_2, dIx_tup, dIx_list, dLe_int, dLe_pair, dEq_int, dNe_int, dEq_bool, dNe_bool, dAdd_int, dSub_int, dLt_int, dGt_int, dGe_int, dLtG_int, dGtG_int, dGeG_int, dLeG_int, dLeG_pair, dMinG_two, dMaxG_two, dNeg_int, dLen_list, dLen_tup, dTuple_list, dTuple_tup, dSortG_list, dSortG_tup, dSortG_dic, seqD_list, seqD_tup, List.map_cons, List.map_nil, List.cons_append, List.nil_append, List.append_nil, List.replicate_succ, List.replicate_zero, List.length_cons, List.length_nil, Option.some.injEq, exists_eq_left', exists_eq_left, true_and, and_true, PyData.bool.injEq, PyData.int.injEq, PyData.list.injEq, PyData.tuple.injEq, List.cons.injEq, Nat.reduceAdd, Nat.reduceSub, Bool.not_true, Bool.not_false, Bool.and_true, Bool.true_and, Bool.and_false, Bool.false_and, if_true, if_false, Bool.false_eq_true]
    refine w_layers_ok hN hcr ⟨_, rfl, fun _ => ⟨by rw [List.length_map]; exact sz_small (by omega), ?_⟩⟩
    refine wcl_map (layD (cutR N hs k)) PyData.bool (fun _ => true) _ _ _ (fun t ht Qt hq => ?_) (hM _ ?_)
    · simp only [layD, wseq, wskip, wset, wret, wretN, wexpr, wifs, wfor, wnever, wbreak, wcont, wappend, wappend2, wseti, wseti2, wdput, waug, wpar2, wpar3, wunp, wpop, wwhile, wvar, wcst, w1, w2, wn, wtest, wand, wor, wnot, wandV, worV, wnotV, wif, wchain, wchain3, wnil, wcons, wcall, wtup, wlst, wlc, wiSeq, wiRng1, wiRng2, wiEnum, wgn, s_wgt, s_wgnil, s_wgcons, wyes, wrnglist, wrngtuple, wrg1, wrg2, wdisp1, wdc, wno, wsm, wslice, wsliceL, dCut, dCutL, windex, wiZip, wupd, eg, put, del, dels, dIsi, dIsi2, tyD_int, tyD_bool, tyD_tuple, tyD_list, tyD_str, tyD_none, isi_i_i, isi_i_b, isi_i_t, isi_i_l, isi_i_n, isi_i_s, isi_b_i, isi_b_b, isi_b_n, isi_t_i, isi_t_b, isi_t_t, isi_t_l, isi_t_s, isi_t_n, isi_l_i, isi_l_b, isi_l_t, isi_l_l, isi_l_n, isi_l_s, isi_s_i, isi_s_b, isi_s_s, isi_s_t, isi_s_l, isi_s_n, atI_0, atI_1, atI_2, dIx_tup, dIx_list, dLe_int, dLe_pair, dEq_int, dNe_int, dEq_bool, dNe_bool, dAdd_int, dSub_int, dLt_int, dGt_int, dGe_int, dLtG_int, dGtG_int, dGeG_int, dLeG_int, dLeG_pair, dMinG_two, dMaxG_two, dNeg_int, dLen_list, dLen_tup, dTuple_list, dTuple_tup, dSortG_list, dSortG_tup, dSortG_dic, seqD_list, seqD_tup, List.map_cons, List.map_nil, List.cons_append, List.nil_append, List.append_nil, List.replicate_succ, List.replicate_zero, List.length_cons, List.length_nil, Option.some.injEq, exists_eq_left', exists_eq_left, true_and, and_true, PyData.bool.injEq, PyData.int.injEq, PyData.list.injEq, PyData.tuple.injEq, List.cons.injEq, Nat.reduceAdd, Nat.reduceSub, Bool.not_true, Bool.not_false, Bool.and_true, Bool.true_and, Bool.and_false, Bool.false_and, if_true, if_false, Bool.false_eq_true]
      refine w_is_open_set_ok hN (lay_lt _ _) (fun x hx => by have := (lay_mem.mp hx).1; omega) hk' ?_
      rw [lay_cut hcl, cut_again hlen]
      simpa using hq
    rw [List.nil_append]
    clear hM M
    refine wseq_go fun M hM => ?_
    simp only [wseq, wskip, wset, wret, wretN, wexpr, wifs, wfor, wnever, wbreak, wcont, wappend, wappend2, wseti, wseti2, wdput, waug, wpar2, wpar3, wunp, wpop, wwhile, wvar, wcst, w1, w2, wn, wtest, wand, wor, wnot, wandV, worV, wnotV, wif, wchain, wchain3, wnil, wcons, wcall, wtup, wlst, wlc, wiSeq, wiRng1, wiRng2, wiEnum, wgn, s_wgt, s_wgnil, s_wgcons, wyes, wrnglist, wrngtuple, wrg1, wrg2, wdisp1, wdc, wno, wsm, wslice, wsliceL, dCut, dCutL, windex, wiZip, wupd, eg, put, del, dels, dIsi, dIsi2, tyD_int, tyD_bool, tyD_tuple, tyD_list, tyD_str, tyD_none, isi_i_i, isi_i_b, isi_i_t, isi_i_l, isi_i_n, isi_i_s, isi_b_i, isi_b_b, isi_b_n, isi_t_i, isi_t_b, isi_t_t, isi_t_l, isi_t_s, isi_t_n, isi_l_i, isi_l_b, isi_l_t, isi_l_l, isi_l_n, isi_l_s, isi_s_i, isi_s_b, isi_s_s, isi_s_t, isi_s_l, isi_s_n, atI_0, atI_1, atI_2, dIx_tup, dIx_list, dLe_int, dLe_pair, dEq_int, dNe_int, dEq_bool, dNe_bool, dAdd_int, dSub_int, dLt_int, dGt_int, dGe_int, dLtG_int, dGtG_int, dGeG_int, dLeG_int, dLeG_pair, dMinG_two, dMaxG_two, dNeg_int, dLen_list, dLen_tup, dTuple_list, dTuple_tup, dSortG_list, dSortG_tup, dSortG_dic, seqD_list, seqD_tup, List.map_cons, List.map_nil, List.cons_append, List.nil_append, List.append_nil, List.replicate_succ, List.replicate_zero, List.length_cons, List.length_nil, Option.some.injEq, exists_eq_left', exists_eq_left, true_and, and_true, PyData.bool.injEq, PyData.int.injEq, PyData.list.injEq, PyData.tuple.injEq, List.cons.injEq, Nat.reduceAdd, Nat.reduceSub, Bool.not_true, Bool.not_false, Bool.and_true, Bool.true_and, Bool.and_false, Bool.false_and, if_true, if_false, Bool.false_eq_true]
    refine ⟨_, notIn_bools (by rw [List.length_map]; omega), _, rfl, ?_⟩
    rw [if_neg (by simp)]
    refine hM _ ?_
    clear hM M
    simp only [wseq, wskip, wset, wret, wretN, wexpr, wifs, wfor, wnever, wbreak, wcont, wappend, wappend2, wseti, wseti2, wdput, waug, wpar2, wpar3, wunp, wpop, wwhile, wvar, wcst, w1, w2, wn, wtest, wand, wor, wnot, wandV, worV, wnotV, wif, wchain, wchain3, wnil, wcons, wcall, wtup, wlst, wlc, wiSeq, wiRng1, wiRng2, wiEnum, wgn, s_wgt, s_wgnil, s_wgcons, wyes, wrnglist, wrngtuple, wrg1, wrg2, wdisp1, wdc, wno, wsm, wslice, wsliceL, dCut, dCutL, windex, wiZip, wupd, eg, put, del, dels, dIsi, dIsi2, tyD_int, tyD_bool, tyD_tuple, tyD_list, tyD_str, tyD_none, isi_i_i, isi_i_b, isi_i_t, isi_i_l, isi_i_n, isi_i_s, isi_b_i, isi_b_b, isi_b_n, isi_t_i, isi_t_b, isi_t_t, isi_t_l, isi_t_s, isi_t_n, isi_l_i, isi_l_b, isi_l_t, isi_l_l, isi_l_n, isi_l_s, isi_s_i, isi_s_b, isi_s_s, isi_s_t, isi_s_l, isi_s_n, atI_0, atI_1, atI_2, dIx_tup, dIx_list, dLe_int, dLe_pair, dEq_int, dNe_int, dEq_bool, dNe_bool, dAdd_int, dSub_int, dLt_int, dGt_int, dGe_int, dLtG_int, dGtG_int, dGeG_int, dLeG_int, dLeG_pair, dMinG_two, dMaxG_two, dNeg_int, dLen_list, dLen_tup, dTuple_list, dTuple_tup, dSortG_list, dSortG_tup, dSortG_dic, seqD_list, seqD_tup, List.map_cons, List.map_nil, List.cons_append, List.nil_append, List.append_nil, List.replicate_succ, List.replicate_zero, List.length_cons, List.length_nil, Option.some.injEq, exists_eq_left', exists_eq_left, true_and, and_true, PyData.bool.injEq, PyData.int.injEq, PyData.list.injEq, PyData.tuple.injEq, List.cons.injEq, Nat.reduceAdd, Nat.reduceSub, Bool.not_true, Bool.not_false, Bool.and_true, Bool.true_and, Bool.and_false, Bool.false_and, if_true, if_false, Bool.false_eq_true]
    refine w_layers_ok hN hr ⟨_, rfl, fun _ => ⟨by rw [List.length_map]; exact sz_small (by omega), ?_⟩⟩
    refine wcl_map (layD hs) PyData.bool (fun t => decide (openL N (layL hs t) k = layL hs t)) _ _ _ (fun t ht Qt hq => ?_) ?_
    · simp only [layD, wseq, wskip, wset, wret, wretN, wexpr, wifs, wfor, wnever, wbreak, wcont, wappend, wappend2, wseti, wseti2, wdput, waug, wpar2, wpar3, wunp, wpop, wwhile, wvar, wcst, w1, w2, wn, wtest, wand, wor, wnot, wandV, worV, wnotV, wif, wchain, wchain3, wnil, wcons, wcall, wtup, wlst, wlc, wiSeq, wiRng1, wiRng2, wiEnum, wgn, s_wgt, s_wgnil, s_wgcons, wyes, wrnglist, wrngtuple, wrg1, wrg2, wdisp1, wdc, wno, wsm, wslice, wsliceL, dCut, dCutL, windex, wiZip, wupd, eg, put, del, dels, dIsi, dIsi2, tyD_int, tyD_bool, tyD_tuple, tyD_list, tyD_str, tyD_none, isi_i_i, isi_i_b, isi_i_t, isi_i_l, isi_i_n, isi_i_s, isi_b_i, isi_b_b, isi_b_n, isi_t_i, isi_t_b, isi_t_t, isi_t_l, isi_t_s, isi_t_n, isi_l_i, isi_l_b, isi_l_t, isi_l_l, isi_l_n, isi_l_s, isi_s_i, isi_s_b, isi_s_s, isi_s_t, isi_s_l, isi_s_n, atI_0, atI_1, atI_2, dIx_tup, dIx_list, dLe_int, dLe_pair, dEq_int, dNe_int, dEq_bool, dNe_bool, dAdd_int, dSub_int, dLt_int, dGt_int, dGe_int, dLtG_int, dGtG_int, dGeG_int, dLeG_int, dLeG_pair, dMinG_two, dMaxG_two, dNeg_int, dLen_list, dLen_tup, dTuple_list, dTuple_tup, dSortG_list, dSortG_tup, dSortG_dic, seqD_list, seqD_tup, List.map_cons, List.map_nil, List.cons_append, List.nil_append, List.append_nil, List.replicate_succ, List.replicate_zero, List.length_cons, List.length_nil, Option.some.injEq, exists_eq_left', exists_eq_left, true_and, and_true, PyData.bool.injEq, PyData.int.injEq, PyData.list.injEq, PyData.tuple.injEq, List.cons.injEq, Nat.reduceAdd, Nat.reduceSub, Bool.not_true, Bool.not_false, Bool.and_true, Bool.true_and, Bool.and_false, Bool.false_and, if_true, if_false, Bool.false_eq_true]
      exact w_is_open_set_ok hN (lay_lt _ _) (fun x hx => by have := (lay_mem.mp hx).1; omega) hk' hq
    rw [List.nil_append]
    refine ⟨_, notIn_bools (by rw [List.length_map]; omega), _, eq_row (by omega) (by omega), _, dEq_bool _ _, ?_⟩
    have ea : ((sortset hs).map fun t => decide (openL N (layL hs t) k = layL hs t)).all id = decide (cutR N hs k = hs) := by
      rw [Bool.eq_iff_iff, List.all_map, List.all_eq_true, decide_eq_true_eq]
      simp only [Function.comp, id, decide_eq_true_eq]
      constructor
      · intro h; exact lay_all hlen fun t ht => h t ((hsm t).mpr ht)
      · intro h t ht
        rw [lay_cut hlen, h]
    rw [ea]
    simp
  · obtain ⟨a, b, c, rfl⟩ := hI
    refine wseq_go fun M3 hM3 => ?_
    simp only [rowD, wseq, wskip, wset, wret, wretN, wexpr, wifs, wfor, wnever, wbreak, wcont, wappend, wappend2, wseti, wseti2, wdput, waug, wpar2, wpar3, wunp, wpop, wwhile, wvar, wcst, w1, w2, wn, wtest, wand, wor, wnot, wandV, worV, wnotV, wif, wchain, wchain3, wnil, wcons, wcall, wtup, wlst, wlc, wiSeq, wiRng1, wiRng2, wiEnum, wgn, s_wgt, s_wgnil, s_wgcons, wyes, wrnglist, wrngtuple, wrg1, wrg2, wdisp1, wdc, wno, wsm, wslice, wsliceL, dCut, dCutL, windex, wiZip, wupd, eg, put, del, dels, dIsi, dIsi2, tyD_int, tyD_bool, tyD_tuple, tyD_list, tyD_str, tyD_none, isi_i_i, isi_i_b, isi_i_t, isi_i_l, isi_i_n, isi_i_s, isi_b_i, isi_b_b, isi_b_n, isi_t_i, isi_t_b, isi_t_t, isi_t_l, isi_t_s, isi_t_n, isi_l_i, isi_l_b, isi_l_t, isi_l_l, isi_l_n, isi_l_s, isi_s_i, isi_s_b, isi_s_s, isi_s_t, isi_s_l, isi_s_n, atI_0, atI_1, atI_2, dIx_tup, dIx_list, dLe_int, dLe_pair, dEq_int, dNe_int, dEq_bool, dNe_bool, dAdd_int, dSub_int, dLt_int, dGt_int, dGe_int, dLtG_int, dGtG_int, dGeG_int, dLeG_int, dLeG_pair, dMinG_two, dMaxG_two, dNeg_int, dLen_list, dLen_tup, dTuple_list, dTuple_tup, dSortG_list, dSortG_tup, dSortG_dic, seqD_list, seqD_tup, List.map_cons, List.map_nil, List.cons_append, List.nil_append, List.append_nil, List.replicate_succ, List.replicate_zero, List.length_cons, List.length_nil, Option.some.injEq, exists_eq_left', exists_eq_left, true_and, and_true, PyData.bool.injEq, PyData.int.injEq, PyData.list.injEq, PyData.tuple.injEq, List.cons.injEq, Nat.reduceAdd, Nat.reduceSub, Bool.not_true, Bool.not_false, Bool.and_true, Bool.true_and, Bool.and_false, Bool.false_and, if_true, if_false, Bool.false_eq_true]
    refine w__law_pick_tup (by rw [List.length_map]; omega) (by rw [List.length_map]; omega) fun y hy => ?_
    obtain ⟨t, ht', rfl⟩ := List.mem_map.mp hy
    refine taken_iff (by omega) (by omega) fun r hr2 => ?_
    simp only [wseq, wskip, wset, wret, wretN, wexpr, wifs, wfor, wnever, wbreak, wcont, wappend, wappend2, wseti, wseti2, wdput, waug, wpar2, wpar3, wunp, wpop, wwhile, wvar, wcst, w1, w2, wn, wtest, wand, wor, wnot, wandV, worV, wnotV, wif, wchain, wchain3, wnil, wcons, wcall, wtup, wlst, wlc, wiSeq, wiRng1, wiRng2, wiEnum, wgn, s_wgt, s_wgnil, s_wgcons, wyes, wrnglist, wrngtuple, wrg1, wrg2, wdisp1, wdc, wno, wsm, wslice, wsliceL, dCut, dCutL, windex, wiZip, wupd, eg, put, del, dels, dIsi, dIsi2, tyD_int, tyD_bool, tyD_tuple, tyD_list, tyD_str, tyD_none, isi_i_i, isi_i_b, isi_i_t, isi_i_l, isi_i_n, isi_i_s, isi_b_i, isi_b_b, isi_b_n, isi_t_i, isi_t_b, isi_t_t, isi_t_l, isi_t_s, isi_t_n, isi_l_i, isi_l_b, isi_l_t, isi_l_l, isi_l_n, isi_l_s, isi_s_i, isi_s_b, isi_s_s, isi_s_t, isi_s_l, isi_s_n, atI_0, atI_1, atI_2, dIx_tup, dIx_list, dLe_int, dLe_pair, dEq_int, dNe_int, dEq_bool, dNe_bool, dAdd_int, dSub_int, dLt_int, dGt_int, dGe_int, dLtG_int, dGtG_int, dGeG_int, dLeG_int, dLeG_pair, dMinG_two, dMaxG_two, dNeg_int, dLen_list, dLen_tup, dTuple_list, dTuple_tup, dSortG_list, dSortG_tup, dSortG_dic, seqD_list, seqD_tup, List.map_cons, List.map_nil, List.cons_append, List.nil_append, List.append_nil, List.replicate_succ, List.replicate_zero, List.length_cons, List.length_nil, Option.some.injEq, exists_eq_left', exists_eq_left, true_and, and_true, PyData.bool.injEq, PyData.int.injEq, PyData.list.injEq, PyData.tuple.injEq, List.cons.injEq, Nat.reduceAdd, Nat.reduceSub, Bool.not_true, Bool.not_false, Bool.and_true, Bool.true_and, Bool.and_false, Bool.false_and, if_true, if_false, Bool.false_eq_true]
    refine hM3 _ ?_
    clear hM3 M3
    obtain ⟨lv, elv, hlv⟩ : ∃ lv : Int, t + (r : Int) = lv ∧ -99 ≤ lv ∧ lv ≤ 99 := ⟨_, rfl, by have := hb t ht'; omega⟩
    rw [elv]
    have hlt := lay_lt hs lv
    have hlb : ∀ x ∈ layL hs lv, x < N.n := fun x hx => by have := (lay_mem.mp hx).1; omega
    have hll : ∀ (r : List Int), r.length = N.n → (layL r lv).length ≤ 12 := fun r hr => by have := layL_len r lv; omega
    refine wseq_go fun M3 hM3 => ?_
    simp only [wseq, wskip, wset, wret, wretN, wexpr, wifs, wfor, wnever, wbreak, wcont, wappend, wappend2, wseti, wseti2, wdput, waug, wpar2, wpar3, wunp, wpop, wwhile, wvar, wcst, w1, w2, wn, wtest, wand, wor, wnot, wandV, worV, wnotV, wif, wchain, wchain3, wnil, wcons, wcall, wtup, wlst, wlc, wiSeq, wiRng1, wiRng2, wiEnum, wgn, s_wgt, s_wgnil, s_wgcons, wyes, wrnglist, wrngtuple, wrg1, wrg2, wdisp1, wdc, wno, wsm, wslice, wsliceL, dCut, dCutL, windex, wiZip, wupd, eg, put, del, dels, dIsi, dIsi2, tyD_int, tyD_bool, tyD_tuple, tyD_list, tyD_str, tyD_none, isi_i_i, isi_i_b, isi_i_t, isi_i_l, isi_i_n, isi_i_s, isi_b_i, isi_b_b, isi_b_n, isi_t_i, isi_t_b, isi_t_t, isi_t_l, isi_t_s, isi_t_n, isi_l_i, isi_l_b, isi_l_t, isi_l_l, isi_l_n, isi_l_s, isi_s_i, isi_s_b, isi_s_s, isi_s_t, isi_s_l, isi_s_n, atI_0, atI_1, atI_2, dIx_tup, dIx_list, dLe_int, dLe_pair, dEq_int, dNe_int, dEq_bool, dNe_bool, dAdd_int, dSub_int, dLt_int, dGt_int, dGe_int, dLtG_int, dGtG_int, dGeG_int, dLeG_int, dLeG_pair, dMinG_two, dMaxG_two, dNeg_int, dLen_list, dLen_tup, dTuple_list, dTuple_tup, dSortG_list, dSortG_tup, dSortG_dic, seqD_list, seqD_tup, List.map_cons, List.map_nil, List.cons_append, List.nil_append, List.append_nil, List.replicate_succ, List.replicate_zero, List.length_cons, List.length_nil, Option.some.injEq, exists_eq_left', exists_eq_left, true_and, and_true, PyData.bool.injEq, PyData.int.injEq, PyData.list.injEq, PyData.tuple.injEq, List.cons.injEq, Nat.reduceAdd, Nat.reduceSub, Bool.not_true, Bool.not_false, Bool.and_true, Bool.true_and, Bool.and_false, Bool.false_and, if_true, if_false, Bool.false_eq_true]
    refine w_layer_ok hN hr hlv (hM3 _ ?_)
    clear hM3 M3
    refine wseq_go fun M3 hM3 => ?_
    simp only [wseq, wskip, wset, wret, wretN, wexpr, wifs, wfor, wnever, wbreak, wcont, wappend, wappend2, wseti, wseti2, wdput, waug, wpar2, wpar3, wunp, wpop, wwhile, wvar, wcst, w1, w2, wn, wtest, wand, wor, wnot, wandV, worV, wnotV, wif, wchain, wchain3, wnil, wcons, wcall, wtup, wlst, wlc, wiSeq, wiRng1, wiRng2, wiEnum, wgn, s_wgt, s_wgnil, s_wgcons, wyes, wrnglist, wrngtuple, wrg1, wrg2, wdisp1, wdc, wno, wsm, wslice, wsliceL, dCut, dCutL, windex, wiZip, wupd, eg, put, del, dels, dIsi, dIsi2, tyD_int, tyD_bool, tyD_tuple, tyD_list, tyD_str, tyD_none, isi_i_i, isi_i_b, isi_i_t, isi_i_l, isi_i_n, isi_i_s, isi_b_i, isi_b_b, isi_b_n, isi_t_i, isi_t_b, isi_t_t, isi_t_l, isi_t_s, isi_t_n, isi_l_i, isi_l_b, isi_l_t, isi_l_l, isi_l_n, isi_l_s, isi_s_i, isi_s_b, isi_s_s, isi_s_t, isi_s_l, isi_s_n, atI_0, atI_1, atI_2, dIx_tup, dIx_list, dLe_int, dLe_pair, dEq_int, dNe_int, dEq_bool, dNe_bool, dAdd_int, dSub_int, dLt_int, dGt_int, dGe_int, dLtG_int, dGtG_int, dGeG_int, dLeG_int, dLeG_pair, dMinG_two, dMaxG_two, dNeg_int, dLen_list, dLen_tup, dTuple_list, dTuple_tup, dSortG_list, dSortG_tup, dSortG_dic, seqD_list, seqD_tup, List.map_cons, List.map_nil, List.cons_append, List.nil_append, List.append_nil, List.replicate_succ, List.replicate_zero, List.length_cons, List.length_nil, Option.some.injEq, exists_eq_left', exists_eq_left, true_and, and_true, PyData.bool.injEq, PyData.int.injEq, PyData.list.injEq, PyData.tuple.injEq, List.cons.injEq, Nat.reduceAdd, Nat.reduceSub, Bool.not_true, Bool.not_false, Bool.and_true, Bool.true_and, Bool.and_false, Bool.false_and, if_true, if_false, Bool.false_eq_true]
    refine w_layer_ok hN hcr hlv (w_open_set_ok hN hlt hlb hk' ?_)
    rw [lay_cut hlen]
    have l1 := hll _ hcl
    have l2 := hll _ hfl
    have l3 := hll _ hshl
    refine ⟨_, ne_ptsD (by omega) (by omega), _, rfl, ?_⟩
    rw [if_neg (by simp)]
    refine hM3 _ ?_
    clear hM3 M3
    refine wseq_go fun M3 hM3 => ?_
    simp only [wseq, wskip, wset, wret, wretN, wexpr, wifs, wfor, wnever, wbreak, wcont, wappend, wappend2, wseti, wseti2, wdput, waug, wpar2, wpar3, wunp, wpop, wwhile, wvar, wcst, w1, w2, wn, wtest, wand, wor, wnot, wandV, worV, wnotV, wif, wchain, wchain3, wnil, wcons, wcall, wtup, wlst, wlc, wiSeq, wiRng1, wiRng2, wiEnum, wgn, s_wgt, s_wgnil, s_wgcons, wyes, wrnglist, wrngtuple, wrg1, wrg2, wdisp1, wdc, wno, wsm, wslice, wsliceL, dCut, dCutL, windex, wiZip, wupd, eg, put, del, dels, dIsi, dIsi2, tyD_int, tyD_bool, tyD_tuple, tyD_list, tyD_str, tyD_none, isi_i_i, isi_i_b, isi_i_t, isi_i_l, isi_i_n, isi_i_s, isi_b_i, isi_b_b, isi_b_n, isi_t_i, isi_t_b, isi_t_t, isi_t_l, isi_t_s, isi_t_n, isi_l_i, isi_l_b, isi_l_t, isi_l_l, isi_l_n, isi_l_s, isi_s_i, isi_s_b, isi_s_s, isi_s_t, isi_s_l, isi_s_n, atI_0, atI_1, atI_2, dIx_tup, dIx_list, dLe_int, dLe_pair, dEq_int, dNe_int, dEq_bool, dNe_bool, dAdd_int, dSub_int, dLt_int, dGt_int, dGe_int, dLtG_int, dGtG_int, dGeG_int, dLeG_int, dLeG_pair, dMinG_two, dMaxG_two, dNeg_int, dLen_list, dLen_tup, dTuple_list, dTuple_tup, dSortG_list, dSortG_tup, dSortG_dic, seqD_list, seqD_tup, List.map_cons, List.map_nil, List.cons_append, List.nil_append, List.append_nil, List.replicate_succ, List.replicate_zero, List.length_cons, List.length_nil, Option.some.injEq, exists_eq_left', exists_eq_left, true_and, and_true, PyData.bool.injEq, PyData.int.injEq, PyData.list.injEq, PyData.tuple.injEq, List.cons.injEq, Nat.reduceAdd, Nat.reduceSub, Bool.not_true, Bool.not_false, Bool.and_true, Bool.true_and, Bool.and_false, Bool.false_and, if_true, if_false, Bool.false_eq_true]
    refine w_layer_ok hN hfr hlv (w_close_set_ok hN hlt hlb hk' ?_)
    rw [lay_fill hlen]
    refine ⟨_, ne_ptsD (by omega) (by omega), _, rfl, ?_⟩
    rw [if_neg (by simp)]
    refine hM3 _ ?_
    clear hM3 M3
    simp only [wseq, wskip, wset, wret, wretN, wexpr, wifs, wfor, wnever, wbreak, wcont, wappend, wappend2, wseti, wseti2, wdput, waug, wpar2, wpar3, wunp, wpop, wwhile, wvar, wcst, w1, w2, wn, wtest, wand, wor, wnot, wandV, worV, wnotV, wif, wchain, wchain3, wnil, wcons, wcall, wtup, wlst, wlc, wiSeq, wiRng1, wiRng2, wiEnum, wgn, s_wgt, s_wgnil, s_wgcons, wyes, wrnglist, wrngtuple, wrg1, wrg2, wdisp1, wdc, wno, wsm, wslice, wsliceL, dCut, dCutL, windex, wiZip, wupd, eg, put, del, dels, dIsi, dIsi2, tyD_int, tyD_bool, tyD_tuple, tyD_list, tyD_str, tyD_none, isi_i_i, isi_i_b, isi_i_t, isi_i_l, isi_i_n, isi_i_s, isi_b_i, isi_b_b, isi_b_n, isi_t_i, isi_t_b, isi_t_t, isi_t_l, isi_t_s, isi_t_n, isi_l_i, isi_l_b, isi_l_t, isi_l_l, isi_l_n, isi_l_s, isi_s_i, isi_s_b, isi_s_s, isi_s_t, isi_s_l, isi_s_n, atI_0, atI_1, atI_2, dIx_tup, dIx_list, dLe_int, dLe_pair, dEq_int, dNe_int, dEq_bool, dNe_bool, dAdd_int, dSub_int, dLt_int, dGt_int, dGe_int, dLtG_int, dGtG_int, dGeG_int, dLeG_int, dLeG_pair, dMinG_two, dMaxG_two, dNeg_int, dLen_list, dLen_tup, dTuple_list, dTuple_tup, dSortG_list, dSortG_tup, dSortG_dic, seqD_list, seqD_tup, List.map_cons, List.map_nil, List.cons_append, List.nil_append, List.append_nil, List.replicate_succ, List.replicate_zero, List.length_cons, List.length_nil, Option.some.injEq, exists_eq_left', exists_eq_left, true_and, and_true, PyData.bool.injEq, PyData.int.injEq, PyData.list.injEq, PyData.tuple.injEq, List.cons.injEq, Nat.reduceAdd, Nat.reduceSub, Bool.not_true, Bool.not_false, Bool.and_true, Bool.true_and, Bool.and_false, Bool.false_and, if_true, if_false, Bool.false_eq_true]
    refine w_layer_ok hN hsr hlv (w_shave_set_ok hN hlt hlb hk' ?_)
    rw [lay_shave hlen]
    refine ⟨_, ne_ptsD (by omega) (by omega), _, rfl, ?_⟩
    rw [if_neg (by simp)]
    exact hM2 _ ⟨_, _, _, rfl⟩
end K54
open PySem PySem.W PyProof.Rows
set_option maxHeartbeats 0 in
theorem PySem.Challenge.cw_shavenets_k54_across_cuts_and_layers_holds : PySem.Challenge.rw_shavenets_k54_across_cuts_and_layers.Holds := by
  w_on; o_law; k_head; (case hw => w_witness2)
  k_fill
  refine L2.walk_of (l := PySem.Challenge.rw_shavenets_k54_across_cuts_and_layers) (n := 63) (k := 8) (x := "_law_script") (CX := fun _ => L2.CX0) (sp := fun w => VS.spLaw _) rfl (by decide) rfl ⟨rfl, by decide, by decide⟩ (fun w h Y => PySem.W.kIn_of Y) ?F (fun _ _ _ _ hl hO hS => VS.spLaw_of hl hO hS) (fun _ _ _ _ _ h => h)
  case F =>
    intro w mg fa h KX G hmg
    refine' K54.all_mk K54.law_true KX G hmg ?a0 ?l0 ?c0 ?k0 ?a1 ?l1 ?c1 ?k1 ?a2 ?l2 ?c2 ?k2 ?a3 ?l3 ?c3 ?k3 ?a4 ?l4 ?c4 ?k4 ?a5 ?l5 ?c5 ?k5 ?a6 ?l6 ?c6 ?k6 ?a7 ?l7 ?c7 ?k7 ?a8 ?l8 ?c8 ?k8 ?a9 ?l9 ?c9 ?k9 ?a10 ?l10 ?c10 ?k10 ?a11 ?l11 ?c11 ?k11 ?a12 ?l12 ?c12 ?k12 ?a13 ?l13 ?c13 ?k13 ?a14 ?l14 ?c14 ?k14 ?a15 ?l15 ?c15 ?k15 ?a16 ?l16 ?c16 ?k16 ?a17 ?l17 ?c17 ?k17 ?a18 ?l18 ?c18 ?k18 ?a19 ?l19 ?c19 ?k19 ?a20 ?l20 ?c20 ?k20 ?a21 ?l21 ?c21 ?k21 ?a22 ?l22 ?c22 ?k22 ?a23 ?l23 ?c23 ?k23 ?a24 ?l24 ?c24 ?k24 ?a25 ?l25 ?c25 ?k25 ?a26 ?l26 ?c26 ?k26 ?a27 ?l27 ?c27 ?k27 ?a28 ?l28 ?c28 ?k28 ?a29 ?l29 ?c29 ?k29 ?a30 ?l30 ?c30 ?k30 ?a31 ?l31 ?c31 ?k31 ?a32 ?l32 ?c32 ?k32 ?a33 ?l33 ?c33 ?k33 ?a34 ?l34 ?c34 ?k34 ?a35 ?l35 ?c35 ?k35 ?a36 ?l36 ?c36 ?k36 ?a37 ?l37 ?c37 ?k37 ?a38 ?l38 ?c38 ?k38 ?a39 ?l39 ?c39 ?k39 ?a40 ?l40 ?c40 ?k40 ?a41 ?l41 ?c41 ?k41 ?a42 ?l42 ?c42 ?k42 ?a43 ?l43 ?c43 ?k43 ?z_all ?z_bool ?z_enumerate ?z_int ?z_isinstance ?z_len ?z_list ?z_max ?z_min ?z_range ?z_sorted ?z_tuple ?z_zip ?v_MOST_HEIGHT ?v_MOST_POINTS
    (case a0 => k_is); (case l0 => k_is); (case c0 => k_is); (case k0 => k_is); (case a1 => k_is); (case l1 => k_is); (case c1 => k_is); (case k1 => k_is); (case a2 => k_is); (case l2 => k_is); (case c2 => k_is); (case k2 => k_is); (case a3 => k_is); (case l3 => k_is); (case c3 => k_is); (case k3 => k_is); (case a4 => k_is); (case l4 => k_is); (case c4 => k_is); (case k4 => k_is); (case a5 => k_is); (case l5 => k_is); (case c5 => k_is); (case k5 => k_is); (case a6 => k_is); (case l6 => k_is); (case c6 => k_is); (case k6 => k_is); (case a7 => k_is); (case l7 => k_is); (case c7 => k_is); (case k7 => k_is); (case a8 => k_is); (case l8 => k_is); (case c8 => k_is); (case k8 => k_is); (case a9 => k_is); (case l9 => k_is); (case c9 => k_is); (case k9 => k_is); (case a10 => k_is); (case l10 => k_is); (case c10 => k_is); (case k10 => k_is); (case a11 => k_is); (case l11 => k_is); (case c11 => k_is); (case k11 => k_is); (case a12 => k_is); (case l12 => k_is); (case c12 => k_is); (case k12 => k_is); (case a13 => k_is); (case l13 => k_is); (case c13 => k_is); (case k13 => k_is); (case a14 => k_is); (case l14 => k_is); (case c14 => k_is); (case k14 => k_is); (case a15 => k_is); (case l15 => k_is); (case c15 => k_is); (case k15 => k_is); (case a16 => k_is); (case l16 => k_is); (case c16 => k_is); (case k16 => k_is); (case a17 => k_is); (case l17 => k_is); (case c17 => k_is); (case k17 => k_is); (case a18 => k_is); (case l18 => k_is); (case c18 => k_is); (case k18 => k_is); (case a19 => k_is); (case l19 => k_is); (case c19 => k_is); (case k19 => k_is); (case a20 => k_is); (case l20 => k_is); (case c20 => k_is); (case k20 => k_is); (case a21 => k_is); (case l21 => k_is); (case c21 => k_is); (case k21 => k_is); (case a22 => k_is); (case l22 => k_is); (case c22 => k_is); (case k22 => k_is); (case a23 => k_is); (case l23 => k_is); (case c23 => k_is); (case k23 => k_is); (case a24 => k_is); (case l24 => k_is); (case c24 => k_is); (case k24 => k_is); (case a25 => k_is); (case l25 => k_is); (case c25 => k_is); (case k25 => k_is); (case a26 => k_is); (case l26 => k_is); (case c26 => k_is); (case k26 => k_is); (case a27 => k_is); (case l27 => k_is); (case c27 => k_is); (case k27 => k_is); (case a28 => k_is); (case l28 => k_is); (case c28 => k_is); (case k28 => k_is); (case a29 => k_is); (case l29 => k_is); (case c29 => k_is); (case k29 => k_is); (case a30 => k_is); (case l30 => k_is); (case c30 => k_is); (case k30 => k_is); (case a31 => k_is); (case l31 => k_is); (case c31 => k_is); (case k31 => k_is); (case a32 => k_is); (case l32 => k_is); (case c32 => k_is); (case k32 => k_is); (case a33 => k_is); (case l33 => k_is); (case c33 => k_is); (case k33 => k_is); (case a34 => k_is); (case l34 => k_is); (case c34 => k_is); (case k34 => k_is); (case a35 => k_is); (case l35 => k_is); (case c35 => k_is); (case k35 => k_is); (case a36 => k_is); (case l36 => k_is); (case c36 => k_is); (case k36 => k_is); (case a37 => k_is); (case l37 => k_is); (case c37 => k_is); (case k37 => k_is); (case a38 => k_is); (case l38 => k_is); (case c38 => k_is); (case k38 => k_is); (case a39 => k_is); (case l39 => k_is); (case c39 => k_is); (case k39 => k_is); (case a40 => k_is); (case l40 => k_is); (case c40 => k_is); (case k40 => k_is); (case a41 => k_is); (case l41 => k_is); (case c41 => k_is); (case k41 => k_is); (case a42 => k_is); (case l42 => k_is); (case c42 => k_is); (case k42 => k_is); (case a43 => k_is); (case l43 => k_is); (case c43 => k_is); (case k43 => k_is); (case z_all => k_is); (case z_bool => k_is); (case z_enumerate => k_is); (case z_int => k_is); (case z_isinstance => k_is); (case z_len => k_is); (case z_list => k_is); (case z_max => k_is); (case z_min => k_is); (case z_range => k_is); (case z_sorted => k_is); (case z_tuple => k_is); (case z_zip => k_is); (case v_MOST_HEIGHT => k_is); (case v_MOST_POINTS => k_is)
