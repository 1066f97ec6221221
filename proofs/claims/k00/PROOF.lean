import PyProof.Rows.All
import Wide.All
import OpenK.AllK
import Wide.FinOn
import HandS.ForMost
import HandS.Defaults
import HandS.IsInst
import HandS.Zip
import HandS.NoneIn
import PySem.Challenge.RW_neverfull_k00_shapes_spots_and_ways
set_option Elab.async false
set_option linter.all false
set_option maxRecDepth 100000
/-! DLa: deep values over the hand layer. A value of Python is a tree DV; what is changed in place stands in a world W (cells by number), everything else is a plain tree. -/
namespace L2
namespace DL
open PySem PySem.Spec PyProof.Rows

inductive DV where
  | non | bl (b : Bool) | int (i : Int) | str (s : Str) | tup (xs : List DV) | lst (xs : List DV) | loc (i : Nat) | cst (v : V) | scr (ns : List Int)

/-- where the cells stand (none: a cell that is no more), and objects that no datum speaks of -/
structure Rh where
  rho : List (Option Addr)
  hid : List Addr
def Rh.out (r : Rh) (a : Addr) : Prop := some a ∉ r.rho ∧ a ∉ r.hid

/-- a tuple -/
def TQ (K : PySem.W.Frag) (r : Rh) (H : Hp) (a : Addr) (vs : List V) : Prop :=
  (r.out a ∧ H a = some (.tup vs)) ∨ ∃ (o : Obj) (its : Array Value) (n : Nat), K.lookup a = some o ∧ o.cls = .type "tuple" ∧ o.data = .seq its n ∧ its.size ≤ sizeLine ∧ Vals vs its.toList
theorem TQ.sq {K : PySem.W.Frag} {r : Rh} {H : Hp} {a : Addr} {vs : List V} (h : TQ K r H a vs) : SqT K H a vs := by
  rcases h with h | h
  · exact .of h.2
  · exact .inr h
/-- the script: never changed -/
def SQ (K : PySem.W.Frag) (r : Rh) (H : Hp) (a : Addr) (vs : List V) : Prop :=
  (r.out a ∧ Rd H a (.lst vs)) ∨ ∃ (o : Obj) (its : Array Value) (n : Nat), K.lookup a = some o ∧ o.cls = .type "list" ∧ o.dict = none ∧ o.data = .seq its n ∧ its.size ≤ sizeLine ∧ Vals vs its.toList
theorem SQ.sq {K : PySem.W.Frag} {r : Rh} {H : Hp} {a : Addr} {vs : List V} (h : SQ K r H a vs) : SqL K H a vs := by
  rcases h with h | h
  · exact .inl h.2
  · exact .inr h

mutual
inductive Rv (K : PySem.W.Frag) (r : Rh) (H : Hp) : DV → V → Prop
  | non : Rv K r H .non .non
  | bl (b : Bool) : Rv K r H (.bl b) (.bl b)
  | int (i : Int) : Rv K r H (.int i) (.int i)
  | str (s : Str) : Rv K r H (.str s) (.str s)
  | cst (v : V) : Rv K r H (.cst v) v
  | loc {i : Nat} {a : Addr} : r.rho[i]? = some (some a) → Rv K r H (.loc i) (.ref a)
  | scr {ns : List Int} {a : Addr} : SQ K r H a (ns.map V.int) → Rv K r H (.scr ns) (.ref a)
  | tup {a : Addr} {vs : List V} {xs : List DV} : TQ K r H a vs → Rvs K r H xs vs → Rv K r H (.tup xs) (.ref a)
  | lst {a : Addr} {vs : List V} {xs : List DV} : r.out a → H a = some (.lst vs) → Rvs K r H xs vs → Rv K r H (.lst xs) (.ref a)
inductive Rvs (K : PySem.W.Frag) (r : Rh) (H : Hp) : List DV → List V → Prop
  | nil : Rvs K r H [] []
  | cons {x : DV} {v : V} {xs : List DV} {vs : List V} : Rv K r H x v → Rvs K r H xs vs → Rvs K r H (x :: xs) (v :: vs)
end

/-- from one moment to a later one: the cells that are there keep their places, new ones are new, all else that was there stays -/
structure Ext (r : Rh) (H : Hp) (r' : Rh) (H' : Hp) : Prop where
  hid : r'.hid = r.hid
  get : ∀ (i : Nat) (a : Addr), r.rho[i]? = some (some a) → r'.rho[i]? = some (some a)
  len : r.rho.length ≤ r'.rho.length
  new : ∀ a, some a ∈ r'.rho → some a ∉ r.rho → H a = none
  keep : ∀ a o, some a ∉ r.rho → H a = some o → H' a = some o
theorem Ext.refl (r : Rh) (H : Hp) : Ext r H r H := ⟨rfl, fun _ _ h => h, Nat.le_refl _, fun a h n => absurd h n, fun a o _ h => h⟩
theorem Ext.notin {r r' : Rh} {H H' : Hp} (e : Ext r H r' H') {a : Addr} {o : HO} (h : H a = some o) (n : some a ∉ r.rho) : some a ∉ r'.rho := fun m => by
  have z := e.new a m n
  rw [h] at z; cases z
theorem Ext.out {r r' : Rh} {H H' : Hp} (e : Ext r H r' H') {a : Addr} {o : HO} (h : H a = some o) (n : r.out a) : r'.out a := ⟨e.notin h n.1, by rw [e.hid]; exact n.2⟩
theorem Ext.trans {r0 r1 r2 : Rh} {H0 H1 H2 : Hp} (a : Ext r0 H0 r1 H1) (b : Ext r1 H1 r2 H2) : Ext r0 H0 r2 H2 where
  hid := b.hid.trans a.hid
  get := fun i c h => b.get i c (a.get i c h)
  len := Nat.le_trans a.len b.len
  new := fun c h n => by
    by_cases m : some c ∈ r1.rho
    · exact a.new c m n
    · cases q : H0 c with
      | none => rfl
      | some o =>
        have z := b.new c h m
        rw [a.keep c o n q] at z; cases z
  keep := fun c o n h => b.keep c o (a.notin h n) (a.keep c o n h)
/-- nothing but a new object outside the cells -/
theorem Ext.laid {r : Rh} {H : Hp} {p : Addr} {o : HO} (hp : H p = none) : Ext r H r (upd H p o) :=
  ⟨rfl, fun _ _ h => h, Nat.le_refl _, fun a h n => absurd h n, fun a u _ h => by rw [upd_ne (ne_of_none h hp)]; exact h⟩
theorem Ext.of_same {r : Rh} {H H' : Hp} (h : Same H H') : Ext r H r H' := ⟨rfl, fun _ _ h => h, Nat.le_refl _, fun a h n => absurd h n, fun a o _ q => h a o q⟩

/-- the same where more may be hidden -/
structure Exw (r : Rh) (H : Hp) (r' : Rh) (H' : Hp) : Prop where
  get : ∀ (i : Nat) (a : Addr), r.rho[i]? = some (some a) → r'.rho[i]? = some (some a)
  new : ∀ a, some a ∈ r'.rho → some a ∉ r.rho → H a = none
  newh : ∀ a, a ∈ r'.hid → a ∉ r.hid → H a = none
  keep : ∀ a o, some a ∉ r.rho → H a = some o → H' a = some o
theorem Ext.w {r r' : Rh} {H H' : Hp} (e : Ext r H r' H') : Exw r H r' H' := ⟨e.get, e.new, fun a m n => absurd (by rw [← e.hid]; exact m) n, e.keep⟩
theorem Exw.notin {r r' : Rh} {H H' : Hp} (e : Exw r H r' H') {a : Addr} {o : HO} (h : H a = some o) (n : some a ∉ r.rho) : some a ∉ r'.rho := fun m => by
  have z := e.new a m n
  rw [h] at z; cases z
theorem Exw.out {r r' : Rh} {H H' : Hp} (e : Exw r H r' H') {a : Addr} {o : HO} (h : H a = some o) (n : r.out a) : r'.out a := ⟨e.notin h n.1, fun m => by
  have z := e.newh a m n.2
  rw [h] at z; cases z⟩
theorem Exw.trans {r0 r1 r2 : Rh} {H0 H1 H2 : Hp} (a : Exw r0 H0 r1 H1) (b : Exw r1 H1 r2 H2) (dj : ∀ c, c ∈ r2.hid → c ∉ r1.hid → c ∉ r0.hid → some c ∉ r0.rho) : Exw r0 H0 r2 H2 where
  get := fun i c h => b.get i c (a.get i c h)
  new := fun c h n => by
    by_cases m : some c ∈ r1.rho
    · exact a.new c m n
    · cases q : H0 c with
      | none => rfl
      | some o =>
        have z := b.new c h m
        rw [a.keep c o n q] at z; cases z
  newh := fun c h n => by
    by_cases m : c ∈ r1.hid
    · exact a.newh c m n
    · cases q : H0 c with
      | none => rfl
      | some o =>
        have z := b.newh c h m
        rw [a.keep c o (dj c h m n) q] at z; cases z
  keep := fun c o n h => b.keep c o (a.notin h n) (a.keep c o n h)

section
variable {K : PySem.W.Frag} {r r' : Rh} {H H' : Hp}
theorem Rd.extw {a : Addr} {u : HO} (e : Exw r H r' H') (n : r.out a) (h : Rd H a u) : r'.out a ∧ Rd H' a u := by
  rcases h with h | ⟨o, h⟩
  · exact ⟨e.out h n, .inl (e.keep _ _ n.1 h)⟩
  · exact ⟨e.out h n, .inr ⟨o, e.keep _ _ n.1 h⟩⟩
theorem TQ.extw {a : Addr} {vs : List V} (e : Exw r H r' H') (h : TQ K r H a vs) : TQ K r' H' a vs := by
  rcases h with ⟨n, h⟩ | h
  · exact .inl ⟨e.out h n, e.keep _ _ n.1 h⟩
  · exact .inr h
theorem SQ.extw {a : Addr} {vs : List V} (e : Exw r H r' H') (h : SQ K r H a vs) : SQ K r' H' a vs := by
  rcases h with ⟨n, h⟩ | h
  · exact .inl (Rd.extw e n h)
  · exact .inr h
mutual
theorem Rv.extw (e : Exw r H r' H') : ∀ {x : DV} {v : V}, Rv K r H x v → Rv K r' H' x v
  | _, _, .non => .non
  | _, _, .bl b => .bl b
  | _, _, .int i => .int i
  | _, _, .str s => .str s
  | _, _, .cst v => .cst v
  | _, _, .loc h => .loc (e.get _ _ h)
  | _, _, .scr h => .scr (h.extw e)
  | _, _, .tup h q => .tup (h.extw e) (Rvs.extw e q)
  | _, _, .lst n h q => .lst (e.out h n) (e.keep _ _ n.1 h) (Rvs.extw e q)
theorem Rvs.extw (e : Exw r H r' H') : ∀ {xs : List DV} {vs : List V}, Rvs K r H xs vs → Rvs K r' H' xs vs
  | _, _, .nil => .nil
  | _, _, .cons h q => .cons (Rv.extw e h) (Rvs.extw e q)
end
theorem Rd.ext {a : Addr} {u : HO} (e : Ext r H r' H') (n : r.out a) (h : Rd H a u) : r'.out a ∧ Rd H' a u := by
  rcases h with h | ⟨o, h⟩
  · exact ⟨e.out h n, .inl (e.keep _ _ n.1 h)⟩
  · exact ⟨e.out h n, .inr ⟨o, e.keep _ _ n.1 h⟩⟩
theorem TQ.ext {a : Addr} {vs : List V} (e : Ext r H r' H') (h : TQ K r H a vs) : TQ K r' H' a vs := by
  rcases h with ⟨n, h⟩ | h
  · exact .inl ⟨e.out h n, e.keep _ _ n.1 h⟩
  · exact .inr h
theorem SQ.ext {a : Addr} {vs : List V} (e : Ext r H r' H') (h : SQ K r H a vs) : SQ K r' H' a vs := by
  rcases h with ⟨n, h⟩ | h
  · exact .inl (Rd.ext e n h)
  · exact .inr h
mutual
theorem Rv.ext (e : Ext r H r' H') : ∀ {x : DV} {v : V}, Rv K r H x v → Rv K r' H' x v
  | _, _, .non => .non
  | _, _, .bl b => .bl b
  | _, _, .int i => .int i
  | _, _, .str s => .str s
  | _, _, .cst v => .cst v
  | _, _, .loc h => .loc (e.get _ _ h)
  | _, _, .scr h => .scr (h.ext e)
  | _, _, .tup h q => .tup (h.ext e) (Rvs.ext e q)
  | _, _, .lst n h q => .lst (e.out h n) (e.keep _ _ n.1 h) (Rvs.ext e q)
theorem Rvs.ext (e : Ext r H r' H') : ∀ {xs : List DV} {vs : List V}, Rvs K r H xs vs → Rvs K r' H' xs vs
  | _, _, .nil => .nil
  | _, _, .cons h q => .cons (Rv.ext e h) (Rvs.ext e q)
end
theorem Rvs.length : ∀ {xs : List DV} {vs : List V}, Rvs K r H xs vs → xs.length = vs.length
  | _, _, .nil => rfl
  | _, _, .cons _ q => by rw [List.length_cons, List.length_cons, Rvs.length q]
theorem Rvs.get : ∀ {xs : List DV} {vs : List V} {i : Nat} {x : DV}, Rvs K r H xs vs → xs[i]? = some x → ∃ v, vs[i]? = some v ∧ Rv K r H x v
  | _, _, _, _, .nil, e => by simp at e
  | _, _, 0, _, .cons q _, e => by simp at e; subst e; exact ⟨_, rfl, q⟩
  | _, _, i + 1, x, .cons _ t, e => by
    obtain ⟨v, h1, h2⟩ := Rvs.get (i := i) (x := x) t (by simpa using e)
    exact ⟨v, by simpa using h1, h2⟩
theorem Rvs.append : ∀ {xs ys : List DV} {vs us : List V}, Rvs K r H xs vs → Rvs K r H ys us → Rvs K r H (xs ++ ys) (vs ++ us)
  | _, _, _, _, .nil, s => s
  | _, _, _, _, .cons q t, s => .cons q (Rvs.append t s)
theorem Rvs.take : ∀ {xs : List DV} {vs : List V} (n : Nat), Rvs K r H xs vs → Rvs K r H (xs.take n) (vs.take n)
  | _, _, 0, _ => .nil
  | _, _, _ + 1, .nil => .nil
  | _, _, n + 1, .cons q t => .cons q (Rvs.take n t)
theorem Rvs.drop : ∀ {xs : List DV} {vs : List V} (n : Nat), Rvs K r H xs vs → Rvs K r H (xs.drop n) (vs.drop n)
  | _, _, 0, q => q
  | _, _, _ + 1, .nil => .nil
  | _, _, n + 1, .cons _ t => Rvs.drop n t
theorem Rvs.set {x : DV} {v : V} (q : Rv K r H x v) : ∀ {xs : List DV} {vs : List V} (n : Nat), Rvs K r H xs vs → Rvs K r H (xs.set n x) (vs.set n v)
  | _, _, _, .nil => .nil
  | _, _, 0, .cons _ t => .cons q t
  | _, _, n + 1, .cons z t => .cons z (Rvs.set q n t)
theorem Rvs.getD {xs : List DV} {vs : List V} (h : Rvs K r H xs vs) {i : Nat} {v : V} (e : vs[i]? = some v) : ∃ x, xs[i]? = some x ∧ Rv K r H x v := by
  obtain ⟨l, _⟩ := List.getElem?_eq_some_iff.mp e
  have l' : i < xs.length := by rw [h.length]; exact l
  obtain ⟨v', e', q⟩ := h.get (List.getElem?_eq_getElem l')
  rw [e] at e'; cases e'
  exact ⟨_, List.getElem?_eq_getElem l', q⟩
end

/-! ### the world -/
inductive Cell where
  | dead
  | lst (xs : List DV)
abbrev Wd := List Cell
def CellOk (K : PySem.W.Frag) (r : Rh) (H : Hp) (a : Addr) : Cell → Prop
  | .dead => False
  | .lst xs => ∃ vs, H a = some (.lst vs) ∧ Rvs K r H xs vs
structure Hw (K : PySem.W.Frag) (r : Rh) (H : Hp) (W : Wd) : Prop where
  len : r.rho.length = W.length
  nd : ∀ (i j : Nat) (a : Addr), r.rho[i]? = some (some a) → r.rho[j]? = some (some a) → i = j
  ok : ∀ (i : Nat) (a : Addr) (c : Cell), r.rho[i]? = some (some a) → W[i]? = some c → CellOk K r H a c
  live : ∀ (i : Nat) (c : Cell), W[i]? = some c → c ≠ .dead → ∃ a, r.rho[i]? = some (some a)
  hd : ∀ a ∈ r.hid, ∃ o, H a = some o
  sep : ∀ a, some a ∈ r.rho → a ∉ r.hid
section
variable {K : PySem.W.Frag} {r r' : Rh} {H H' : Hp} {W : Wd}
theorem CellOk.there {a : Addr} {c : Cell} (h : CellOk K r H a c) : ∃ o, H a = some o := by
  cases c with
  | dead => exact h.elim
  | lst xs => obtain ⟨vs, e, _⟩ := h; exact ⟨_, e⟩
theorem mem_of {α : Type} {l : List α} {i : Nat} {a : α} (h : l[i]? = some a) : a ∈ l := by
  obtain ⟨k, q⟩ := List.getElem?_eq_some_iff.mp h
  exact q ▸ List.getElem_mem k
theorem Hw.there (h : Hw K r H W) {a : Addr} (m : some a ∈ r.rho) : ∃ o, H a = some o := by
  obtain ⟨i, l, e⟩ := List.mem_iff_getElem.mp m
  have l' : i < W.length := by rw [← h.len]; exact l
  exact (h.ok i a W[i] (by rw [List.getElem?_eq_getElem l, e]) (List.getElem?_eq_getElem l')).there
theorem Hw.notin (h : Hw K r H W) {p : Addr} (hp : H p = none) : some p ∉ r.rho := fun m => by
  obtain ⟨o, e⟩ := h.there m
  rw [hp] at e; cases e
theorem Hw.fresh (h : Hw K r H W) {p : Addr} (hp : H p = none) : r.out p := ⟨h.notin hp, fun m => by
  obtain ⟨o, e⟩ := h.hd p m
  rw [hp] at e; cases e⟩
theorem CellOk.move {a : Addr} {c : Cell} (h : CellOk K r H a c) (e : Ext r H r' H') (k : H' a = H a) : CellOk K r' H' a c := by
  cases c with
  | dead => exact h
  | lst xs => obtain ⟨vs, q, z⟩ := h; exact ⟨vs, k.trans q, z.ext e⟩
/-- nothing is changed, new objects come outside the cells -/
theorem Hw.same (h : Hw K r H W) (s : Same H H') : Hw K r H' W where
  len := h.len
  nd := h.nd
  live := h.live
  sep := h.sep
  hd := fun a m => by
    obtain ⟨o, q⟩ := h.hd a m
    exact ⟨o, s a o q⟩
  ok := fun i a c e1 e2 => (h.ok i a c e1 e2).move (Ext.of_same s) (by
    obtain ⟨o, q⟩ := (h.ok i a c e1 e2).there
    rw [s a o q, q])
theorem same_laid {p : Addr} {o : HO} (hp : H p = none) : Same H (upd H p o) := fun b u q => by rw [upd_ne (ne_of_none q hp)]; exact q
theorem Hw.laid (h : Hw K r H W) {p : Addr} {o : HO} (hp : H p = none) : Hw K r (upd H p o) W := h.same (same_laid hp)
/-- a new cell -/
theorem Hw.cell (h : Hw K r H W) {p : Addr} {o : HO} {c : Cell} (hp : H p = none) (nc : c ≠ .dead) (hc : CellOk K ⟨r.rho ++ [some p], r.hid⟩ (upd H p o) p c) :
    Ext r H ⟨r.rho ++ [some p], r.hid⟩ (upd H p o) ∧ Hw K ⟨r.rho ++ [some p], r.hid⟩ (upd H p o) (W ++ [c]) := by
  have np := h.notin hp
  have get : ∀ (i : Nat) (a : Addr), r.rho[i]? = some (some a) → (r.rho ++ [some p])[i]? = some (some a) := fun i a q => by
    obtain ⟨l, _⟩ := List.getElem?_eq_some_iff.mp q
    rw [List.getElem?_append_left l]; exact q
  have e : Ext r H ⟨r.rho ++ [some p], r.hid⟩ (upd H p o) := ⟨rfl, get, by simp, fun a m n => by
      rcases List.mem_append.mp m with m | m
      · exact absurd m n
      · have z := List.mem_singleton.mp m
        cases z; exact hp, fun a u _ q => by rw [upd_ne (ne_of_none q hp)]; exact q⟩
  have last : ∀ (i : Nat) (x : Option Addr), ¬ i < r.rho.length → (r.rho ++ [some p])[i]? = some x → i = r.rho.length ∧ x = some p := fun i x hi q => by
    obtain ⟨l, _⟩ := List.getElem?_eq_some_iff.mp q
    have i0 : i = r.rho.length := by rw [List.length_append] at l; simp at l; omega
    subst i0
    rw [List.getElem?_append_right (Nat.le_refl _)] at q
    simp at q
    exact ⟨rfl, q.symm⟩
  refine ⟨e, ?_, ?_, ?_, ?_, ?_, ?_⟩
  · show (r.rho ++ [some p]).length = _
    rw [List.length_append, List.length_append, h.len]; rfl
  · intro i j a e1 e2
    by_cases hi : i < r.rho.length
    · have e1' : r.rho[i]? = some (some a) := by rw [← List.getElem?_append_left hi (l₂ := [some p])]; exact e1
      by_cases hj : j < r.rho.length
      · have e2' : r.rho[j]? = some (some a) := by rw [← List.getElem?_append_left hj (l₂ := [some p])]; exact e2
        exact h.nd i j a e1' e2'
      · obtain ⟨_, z⟩ := last j _ hj e2
        cases z
        exact absurd (mem_of e1') np
    · obtain ⟨i0, z⟩ := last i _ hi e1
      cases z
      by_cases hj : j < r.rho.length
      · have e2' : r.rho[j]? = some (some p) := by rw [← List.getElem?_append_left hj (l₂ := [some p])]; exact e2
        exact absurd (mem_of e2') np
      · obtain ⟨j0, _⟩ := last j _ hj e2
        rw [i0, j0]
  · intro i a d e1 e2
    by_cases hi : i < r.rho.length
    · have e1' : r.rho[i]? = some (some a) := by rw [← List.getElem?_append_left hi (l₂ := [some p])]; exact e1
      rw [List.getElem?_append_left (by rw [← h.len]; exact hi)] at e2
      refine (h.ok i a d e1' e2).move e ?_
      obtain ⟨o', q⟩ := (h.ok i a d e1' e2).there
      rw [upd_ne (ne_of_none q hp)]
    · obtain ⟨i0, z⟩ := last i _ hi e1
      cases z
      subst i0
      rw [h.len, List.getElem?_append_right (Nat.le_refl _)] at e2
      simp at e2
      subst e2
      exact hc
  · intro i d e2 nd
    by_cases hi : i < W.length
    · rw [List.getElem?_append_left hi] at e2
      obtain ⟨a, q⟩ := h.live i d e2 nd
      exact ⟨a, get i a q⟩
    · obtain ⟨l, _⟩ := List.getElem?_eq_some_iff.mp e2
      have i0 : i = W.length := by rw [List.length_append] at l; simp at l; omega
      subst i0
      exact ⟨p, by show (r.rho ++ [some p])[W.length]? = _; rw [← h.len, List.getElem?_append_right (Nat.le_refl _)]; simp⟩
  · intro a m
    obtain ⟨u, q⟩ := h.hd a m
    exact ⟨u, by rw [upd_ne (ne_of_none q hp)]; exact q⟩
  · intro a m
    rcases List.mem_append.mp m with m | m
    · exact h.sep a m
    · have z := List.mem_singleton.mp m
      cases z
      exact (h.fresh hp).2
/-- a cell is changed -/
theorem Hw.put (h : Hw K r H W) {i : Nat} {a : Addr} {o : HO} {c : Cell} (hi : r.rho[i]? = some (some a)) (hc : CellOk K r (upd H a o) a c) : Ext r H r (upd H a o) ∧ Hw K r (upd H a o) (W.set i c) := by
  have m : some a ∈ r.rho := mem_of hi
  have e : Ext r H r (upd H a o) := ⟨rfl, fun _ _ q => q, Nat.le_refl _, fun b mb n => absurd mb n, fun b u n q => by rw [upd_ne (fun z => n (by rw [z]; exact m))]; exact q⟩
  have hh : a ∉ r.hid := h.sep a m
  refine ⟨e, ?_, h.nd, ?_, ?_, ?_, h.sep⟩
  · rw [List.length_set]; exact h.len
  · intro j b d e1 e2
    by_cases hj : j = i
    · subst hj
      rw [hi] at e1; cases e1
      rw [List.getElem?_set] at e2
      split at e2
      · split at e2
        · cases e2; exact hc
        · cases e2
      · rename_i z; exact absurd rfl z
    · rw [List.getElem?_set_ne (Ne.symm hj)] at e2
      refine (h.ok j b d e1 e2).move e ?_
      have nb : b ≠ a := fun z => by
        subst z
        exact hj (h.nd j i b e1 hi)
      rw [upd_ne nb]
  · intro j d e2 nd
    by_cases hj : j = i
    · subst hj; exact ⟨a, hi⟩
    · rw [List.getElem?_set_ne (Ne.symm hj)] at e2
      exact h.live j d e2 nd
  · intro b mb
    obtain ⟨u, q⟩ := h.hd b mb
    exact ⟨u, by rw [upd_ne (fun z => hh (by rw [← z]; exact mb))]; exact q⟩
end

/-! ### slots -/
abbrev DEnv := List (Option DV)
def RelE (K : PySem.W.Frag) (r : Rh) (H : Hp) (env : DEnv) (sg : St) : Prop := env.length = sg.length ∧ ∀ (i : Nat) (x : DV), env[i]? = some (some x) → ∃ v, sg[i]? = some (some v) ∧ Rv K r H x v
section
variable {K : PySem.W.Frag} {r r' : Rh} {H H' : Hp} {W : Wd} {env : DEnv} {sg : St}
theorem RelE.ext (e : Ext r H r' H') (h : RelE K r H env sg) : RelE K r' H' env sg := ⟨h.1, fun i x q => by
  obtain ⟨v, a, z⟩ := h.2 i x q
  exact ⟨v, a, z.ext e⟩⟩
theorem RelE.set (h : RelE K r H env sg) {i : Nat} {x : DV} {v : V} (z : Rv K r H x v) : RelE K r H (env.set i (some x)) (sg.set i (some v)) := ⟨by rw [List.length_set, List.length_set]; exact h.1, fun j y q => by
  by_cases hj : j = i
  · subst hj
    rw [List.getElem?_set] at q
    split at q
    · split at q
      · rename_i l
        have q' := Option.some.inj (Option.some.inj q)
        subst q'
        refine ⟨v, ?_, z⟩
        rw [List.getElem?_set, if_pos rfl, if_pos (by rw [← h.1]; exact l)]
      · cases q
    · rename_i z; exact absurd rfl z
  · rw [List.getElem?_set_ne (Ne.symm hj)] at q
    obtain ⟨u, a, ru⟩ := h.2 j y q
    exact ⟨u, by rw [List.getElem?_set_ne (Ne.symm hj)]; exact a, ru⟩⟩
end
end DL
end L2

set_option maxRecDepth 100000
/-! DLb: the judgements and the general rules. -/
namespace L2
namespace DL
open PySem PySem.Spec PyProof.Rows

abbrev M (α : Type) := Wd → Option (α × Wd)
def mb {α β : Type} (m : M α) (k : α → M β) : M β := fun W => match m W with
  | some (a, W') => k a W'
  | none => none
def mr {α : Type} (a : α) : M α := fun W => some (a, W)
def mo {α : Type} (o : Option α) : M α := fun W => match o with
  | some a => some (a, W)
  | none => none
abbrev ES := DEnv → M DV
abbrev EB := DEnv → M Bool
abbrev EA := DEnv → M (List DV)
theorem mb_inv {α β : Type} {m : M α} {k : α → M β} {W : Wd} {b : β} {W' : Wd} (h : mb m k W = some (b, W')) : ∃ a W1, m W = some (a, W1) ∧ k a W1 = some (b, W') := by
  unfold mb at h
  split at h
  · rename_i a W1 e; exact ⟨a, W1, e, h⟩
  · cases h
theorem mo_inv {α : Type} {o : Option α} {W : Wd} {b : α} {W' : Wd} (h : mo o W = some (b, W')) : o = some b ∧ W' = W := by
  unfold mo at h
  split at h
  · cases h; exact ⟨rfl, rfl⟩
  · cases h
theorem mr_inv {α : Type} {a : α} {W : Wd} {b : α} {W' : Wd} (h : mr a W = some (b, W')) : b = a ∧ W' = W := by
  cases h; exact ⟨rfl, rfl⟩

/-- what an expression does, as a reading of the hand layer -/
def tX (K : PySem.W.Frag) (F : ES) : TE := fun sg H Q => ∃ r env W, RelE K r H env sg ∧ Hw K r H W ∧ ∃ x W', F env W = some (x, W') ∧
  ∀ r' H' v, Ext r H r' H' → Hw K r' H' W' → Rv K r' H' x v → Q v H'
def tXB (K : PySem.W.Frag) (F : EB) : TT := fun sg H Q => ∃ r env W, RelE K r H env sg ∧ Hw K r H W ∧ ∃ x W', F env W = some (x, W') ∧
  ∀ r' H', Ext r H r' H' → Hw K r' H' W' → Q x H'
def tXA (K : PySem.W.Frag) (F : EA) : TA := fun sg H Q => ∃ r env W, RelE K r H env sg ∧ Hw K r H W ∧ ∃ xs W', F env W = some (xs, W') ∧
  ∀ r' H' vs, Ext r H r' H' → Hw K r' H' W' → Rvs K r' H' xs vs → Q vs H'
abbrev DE (X : Cx) (e : Expr) (F : ES) : Prop := PE X e (tX X.K F)
abbrev DT (X : Cx) (e : Expr) (F : EB) : Prop := PT X e (tXB X.K F)
abbrev DW (X : Cx) (e : Expr) (F : EB) : Prop := PW X e (tXB X.K F)
abbrev DA (X : Cx) (es : List Expr) (F : EA) : Prop := PA X es (tXA X.K F)
theorem pe_imp {X : Cx} {e : Expr} {t t' : TE} (h : PE X e t) (i : ∀ sg H Q, t' sg H Q → t sg H Q) : PE X e t' := ⟨fun pins s sg H Q I w => h.run pins s sg H Q I (i sg H Q w)⟩
theorem pt_imp {X : Cx} {e : Expr} {t t' : TT} (h : PT X e t) (i : ∀ sg H Q, t' sg H Q → t sg H Q) : PT X e t' := ⟨fun pins s sg H Q I w => h.run pins s sg H Q I (i sg H Q w)⟩
theorem pw_imp {X : Cx} {e : Expr} {t t' : TT} (h : PW X e t) (i : ∀ sg H Q, t' sg H Q → t sg H Q) : PW X e t' := ⟨fun wh pins s sg H Q I w => h.run wh pins s sg H Q I (i sg H Q w)⟩
theorem pa_imp {X : Cx} {e : List Expr} {t t' : TA} (h : PA X e t) (i : ∀ sg H Q, t' sg H Q → t sg H Q) : PA X e t' := ⟨fun pos pins s sg H Q I w => h.run pos pins s sg H Q I (i sg H Q w)⟩
theorem ps_imp {X : Cx} {e : Stmt} {t t' : TS} (h : PS X e t) (i : ∀ D sg H, t' D sg H → t D sg H) : PS X e t' := ⟨fun pins s sg H D I w => h.run pins s sg H D I (i D sg H w)⟩
theorem pss_imp {X : Cx} {e : List Stmt} {t t' : TS} (h : PSs X e t) (i : ∀ D sg H, t' D sg H → t D sg H) : PSs X e t' := ⟨fun pins s sg H D I w => h.run pins s sg H D I (i D sg H w)⟩

section
variable {X : Cx}

/-! ### names and constants -/
def eV (i : Nat) : ES := fun env => mo (env[i]?.join)
theorem of_var {K : PySem.W.Frag} {i : Nat} : ∀ sg H Q, tX K (eV i) sg H Q → tVar i sg H Q := by
  rintro sg H Q ⟨r, env, W, he, hw, x, W', e, q⟩
  obtain ⟨e1, rfl⟩ := mo_inv e
  have e2 : env[i]? = some (some x) := by
    cases h : env[i]? with
    | none => rw [h] at e1; cases e1
    | some o => rw [h] at e1; exact congrArg some e1
  obtain ⟨v, h1, h2⟩ := he.2 i x e2
  exact ⟨v, h1, q r H v (Ext.refl r H) hw h2⟩
theorem dv (i : Nat) {x : Str} {pos : Pos} (hN : X.N[i]? = some x := by rfl) (hv : Vis X.env.scope x := by first | exact Or.inl rfl | exact Or.inr (Or.inl rfl) | exact Or.inr (Or.inr rfl)) (hd : (x == ("__debug__" : Str)) = false := by decide)
    (hcd : (x == ("__classdict__" : Str)) = false := by decide) : DE X (.Name x pos) (eV i) := pe_imp (pv i hN hv hd hcd) of_var
/-- a constant -/
def eC (d : DV) : ES := fun _ => mr d
theorem of_con {K : PySem.W.Frag} {d : DV} {v : V} (c : ∀ r H, Rv K r H d v) : ∀ sg H Q, tX K (eC d) sg H Q → tC v sg H Q := by
  rintro sg H Q ⟨r, env, W, he, hw, x, W', e, q⟩
  obtain ⟨rfl, rfl⟩ := mr_inv e
  exact q r H v (Ext.refl r H) hw (c r H)
theorem de_int {i j pos} : DE X (.Constant (.int i) j pos) (eC (.int i)) := pe_imp pe_int (of_con fun _ _ => .int i)
theorem de_bl {i j pos} : DE X (.Constant (.bool i) j pos) (eC (.bl i)) := pe_imp pe_bl (of_con fun _ _ => .bl i)
theorem de_non {j pos} : DE X (.Constant .none j pos) (eC .non) := pe_imp pe_non (of_con fun _ _ => .non)
theorem de_str {i j pos} : DE X (.Constant (.str i) j pos) (eC (.str i)) := pe_imp pe_str (of_con fun _ _ => .str i)
theorem de_glob {x : Str} {d : DV} {v : V} {u : Value} {pos : Pos} (hg : Gl X x) (hm : X.mg x = some u) (rl : RelV v u) (c : ∀ r H, Rv X.K r H d v) (hd : (x == ("__debug__" : Str)) = false := by decide) : DE X (.Name x pos) (eC d) :=
  pe_imp (pe_glob hg hm rl hd) (of_con c)
theorem de_ty {x : Str} {n : String} {pos : Pos} (hg : Gl X x) (hm : X.mg x = none) (hv : bootBuiltins x = some (.type n)) (hn : x ≠ "__name__" := by decide) (hd : (x == ("__debug__" : Str)) = false := by decide) : DE X (.Name x pos) (eC (.cst (.ty n))) :=
  pe_imp (pe_bltn hg hm hv (v := .ty n) rfl hn hd) (of_con fun _ _ => .cst _)

/-! ### operators -/
/-- a rule of the hand layer for two values serves a function of two data -/
def OpD (K : PySem.W.Frag) (r2 : R2) (G : DV → DV → M DV) : Prop := ∀ r H W x y z W' v w Q, Hw K r H W → G x y W = some (z, W') → Rv K r H x v → Rv K r H y w →
  (∀ r' H' u, Ext r H r' H' → Hw K r' H' W' → Rv K r' H' z u → Q u H') → r2 v w H Q
def eO (G : DV → DV → M DV) (F F' : ES) : ES := fun env => mb (F env) fun x => mb (F' env) fun y => G x y
theorem of_op {K : PySem.W.Frag} {r2 : R2} {G : DV → DV → M DV} {F F' : ES} (g : OpD K r2 G) : ∀ sg H Q, tX K (eO G F F') sg H Q → tOp r2 (tX K F) (tX K F') sg H Q := by
  rintro sg H Q ⟨r, env, W, he, hw, z, W', e, q⟩
  obtain ⟨x, W1, e1, e⟩ := mb_inv e
  obtain ⟨y, W2, e2, e⟩ := mb_inv e
  refine ⟨r, env, W, he, hw, x, W1, e1, fun r1 H1 v x1 w1 rx => ?_⟩
  refine ⟨r1, env, W1, he.ext x1, w1, y, W2, e2, fun r2 H2 w x2 w2 ry => ?_⟩
  exact g r2 H2 W2 x y z W' v w Q w2 e (rx.ext x2) ry fun r3 H3 u x3 w3 rz => q r3 H3 u ((x1.trans x2).trans x3) w3 rz
theorem de_op {op : Operator} {r2 : R2} {G : DV → DV → M DV} {a b : Expr} {F F' : ES} {pos : Pos} (ho : OpR X (binaryOp op) r2) (g : OpD X.K r2 G) (ha : DE X a F) (hb : DE X b F') : DE X (.BinOp a op b pos) (eO G F F') :=
  pe_imp (pe_op ho ha hb) (of_op g)
theorem de_cmp {op : CmpOp} {r2 : R2} {G : DV → DV → M DV} {a b : Expr} {F F' : ES} {pos : Pos} (ho : OpR X (compareOp op) r2) (g : OpD X.K r2 G) (ha : DE X a F) (hb : DE X b F') (hm : behindInMarks op b = false) : DE X (.Compare a [op] [b] pos) (eO G F F') :=
  pe_imp (pe_cmpR ho ha hb hm) (of_op g)
theorem de_ix {r2 : R2} {G : DV → DV → M DV} {a b : Expr} {F F' : ES} {pos : Pos} (ho : IxR X r2) (g : OpD X.K r2 G) (ha : DE X a F) (hb : DE X b F') (hs : PlainIx b := by exact fun _ _ => rfl) : DE X (.Subscript a b pos) (eO G F F') :=
  pe_imp (pe_ix ho ha hb hs) (of_op g)
theorem OpD.or {K : PySem.W.Frag} {r2 r2' : R2} {G G' : DV → DV → M DV} (h : OpD K r2 G) (h' : OpD K r2' G') : OpD K (fun x y H Q => r2 x y H Q ∨ r2' x y H Q) (fun x y W => match G x y W with | some z => some z | none => G' x y W) := by
  intro r H W x y z W' v w Q hw e rx ry q
  dsimp only at e
  cases h1 : G x y W with
  | some p =>
    rw [h1] at e
    dsimp only at e
    exact .inl (h r H W x y z W' v w Q hw (h1.trans e) rx ry q)
  | none =>
    rw [h1] at e
    exact .inr (h' r H W x y z W' v w Q hw e rx ry q)
/-- only the result is a bool -/
def mB (d : DV) : M Bool := fun W => match d with
  | .bl b => some (b, W)
  | _ => none
theorem mB_inv {d : DV} {W : Wd} {b : Bool} {W' : Wd} (h : mB d W = some (b, W')) : d = .bl b ∧ W' = W := by
  unfold mB at h
  split at h
  · cases h; exact ⟨rfl, rfl⟩
  · cases h
theorem Rv.bl_inv {K : PySem.W.Frag} {r : Rh} {H : Hp} {b : Bool} {v : V} (h : Rv K r H (.bl b) v) : v = .bl b := by cases h; rfl
theorem Rv.int_inv {K : PySem.W.Frag} {r : Rh} {H : Hp} {b : Int} {v : V} (h : Rv K r H (.int b) v) : v = .int b := by cases h; rfl
theorem Rv.str_inv {K : PySem.W.Frag} {r : Rh} {H : Hp} {b : Str} {v : V} (h : Rv K r H (.str b) v) : v = .str b := by cases h; rfl
theorem Rv.non_inv {K : PySem.W.Frag} {r : Rh} {H : Hp} {v : V} (h : Rv K r H .non v) : v = .non := by cases h; rfl
theorem Rv.cst_inv {K : PySem.W.Frag} {r : Rh} {H : Hp} {v w : V} (h : Rv K r H (.cst w) v) : v = w := by cases h; rfl
/-- a test by its value -/
def bT (F : ES) : EB := fun env => mb (F env) mB
theorem of_test {K : PySem.W.Frag} {t : TE} {F : ES} (i : ∀ sg H Q, tX K F sg H Q → t sg H Q) : ∀ sg H Q, tXB K (bT F) sg H Q → tTest t sg H Q := by
  rintro sg H Q ⟨r, env, W, he, hw, b, W', e, q⟩
  obtain ⟨d, W1, e1, e⟩ := mb_inv e
  obtain ⟨rfl, rfl⟩ := mB_inv e
  refine i sg H _ ⟨r, env, W, he, hw, .bl b, W', e1, fun r' H' v x w rz => ?_⟩
  exact ⟨b, rz.bl_inv, q r' H' x w⟩
theorem dt_cmp {op : CmpOp} {r2 : R2} {G : DV → DV → M DV} {a b : Expr} {F F' : ES} {pos : Pos} (ho : OpR X (compareOp op) r2) (g : OpD X.K r2 G) (ha : DE X a F) (hb : DE X b F') (hm : behindInMarks op b = false) : DT X (.Compare a [op] [b] pos) (bT (eO G F F')) :=
  pt_imp (pt_cmpR ho ha hb hm) (of_test (of_op g))
theorem dt_val {e : Expr} {F : ES} (h : DE X e F) (he : ∀ whole, isTrue e X.env whole = (do let v ← whole; standAt e.pos; holding [v] (truthy v)) := by intro _; rfl) : DT X e (bT F) := by
  refine pt_imp (pt_val h he) ?_
  rintro sg H Q ⟨r, env, W, hE, hw, b, W', e, q⟩
  obtain ⟨d, W1, e1, e⟩ := mb_inv e
  obtain ⟨rfl, rfl⟩ := mB_inv e
  exact ⟨r, env, W, hE, hw, .bl b, W', e1, fun r' H' v x w rz => ⟨b, rz.bl_inv, q r' H' x w⟩⟩
/-- a chain of two comparisons -/
def eCh (G G' : DV → DV → M DV) (F F1 F2 : ES) : ES := fun env => mb (F env) fun x => mb (F1 env) fun y => mb (G x y) fun c => mb (mB c) fun b => if b = true then mb (F2 env) fun z => G' y z else mr (.bl false)
def bNot (F : EB) : EB := fun env => mb (F env) fun b => mr (!b)
def bAnd (F F' : EB) : EB := fun env => mb (F env) fun b => if b = true then F' env else mr false
def bOr (F F' : EB) : EB := fun env => mb (F env) fun b => if b = true then mr true else F' env
theorem dt_not {a : Expr} {F : EB} {pos : Pos} (h : DT X a F) : DT X (.UnaryOp .Not a pos) (bNot F) := by
  refine pt_imp (pt_not h) ?_
  rintro sg H Q ⟨r, env, W, hE, hw, b, W', e, q⟩
  obtain ⟨c, W1, e1, e⟩ := mb_inv e
  obtain ⟨rfl, rfl⟩ := mr_inv e
  exact ⟨r, env, W, hE, hw, c, _, e1, fun r' H' x w => q r' H' x w⟩
theorem of_and {K : PySem.W.Frag} {F F' : EB} : ∀ sg H Q, tXB K (bAnd F F') sg H Q → tAnd (tXB K F) (tXB K F') sg H Q := by
  rintro sg H Q ⟨r, env, W, hE, hw, b, W', e, q⟩
  obtain ⟨c, W1, e1, e⟩ := mb_inv e
  refine ⟨r, env, W, hE, hw, c, _, e1, fun r' H' x w => ?_⟩
  cases c with
  | true => exact iteT ⟨r', env, W1, hE.ext x, w, b, W', e, fun r2 H2 x2 w2 => q r2 H2 (x.trans x2) w2⟩
  | false =>
    obtain ⟨rfl, rfl⟩ := mr_inv (show mr false W1 = some (b, W') from e)
    exact iteF (q r' H' x w)
theorem of_or {K : PySem.W.Frag} {F F' : EB} : ∀ sg H Q, tXB K (bOr F F') sg H Q → tOr (tXB K F) (tXB K F') sg H Q := by
  rintro sg H Q ⟨r, env, W, hE, hw, b, W', e, q⟩
  obtain ⟨c, W1, e1, e⟩ := mb_inv e
  refine ⟨r, env, W, hE, hw, c, _, e1, fun r' H' x w => ?_⟩
  cases c with
  | false => exact iteF ⟨r', env, W1, hE.ext x, w, b, W', e, fun r2 H2 x2 w2 => q r2 H2 (x.trans x2) w2⟩
  | true =>
    obtain ⟨rfl, rfl⟩ := mr_inv (show mr true W1 = some (b, W') from e)
    exact iteT (q r' H' x w)
theorem dw_and1 {a : Expr} {F : EB} {pos : Pos} (h : DT X a F) : DW X (.BoolOp .And [a] pos) F := pw_and1 h
theorem dw_or1 {a : Expr} {F : EB} {pos : Pos} (h : DT X a F) : DW X (.BoolOp .Or [a] pos) F := pw_or1 h
theorem dw_and {a b : Expr} {rest : List Expr} {F F' : EB} {pos : Pos} (h : DT X a F) (h' : DW X (.BoolOp .And (b :: rest) pos) F') : DW X (.BoolOp .And (a :: b :: rest) pos) (bAnd F F') := pw_imp (pw_and h h') of_and
theorem dw_or {a b : Expr} {rest : List Expr} {F F' : EB} {pos : Pos} (h : DT X a F) (h' : DW X (.BoolOp .Or (b :: rest) pos) F') : DW X (.BoolOp .Or (a :: b :: rest) pos) (bOr F F') := pw_imp (pw_or h h') of_or
/-- and, or, not as values: all but the last are bools -/
def eAnd (F F' : ES) : ES := fun env => mb (F env) fun c => mb (mB c) fun b => if b = true then F' env else mr (.bl false)
def eOr (F F' : ES) : ES := fun env => mb (F env) fun c => mb (mB c) fun b => if b = true then mr (.bl true) else F' env
def eNot (F : ES) : ES := fun env => mb (F env) fun c => mb (mB c) fun b => mr (.bl (!b))
theorem de_one {op} {a : Expr} {F : ES} {pos : Pos} (h : DE X a F) : DE X (.BoolOp op [a] pos) F := pe_one h
theorem de_and {a b : Expr} {rest : List Expr} {F F' : ES} {pos : Pos} (h : DE X a F) (h' : DE X (.BoolOp .And (b :: rest) pos) F') : DE X (.BoolOp .And (a :: b :: rest) pos) (eAnd F F') := by
  refine pe_imp (pe_and h h') ?_
  rintro sg H Q ⟨r, env, W, hE, hw, z, W', e, q⟩
  obtain ⟨c, W1, e1, e⟩ := mb_inv e
  obtain ⟨b, W2, e2, e⟩ := mb_inv e
  obtain ⟨rfl, rfl⟩ := mB_inv e2
  refine ⟨r, env, W, hE, hw, _, _, e1, fun r' H' v x w rv => ⟨b, rv.bl_inv, ?_⟩⟩
  cases b with
  | true => exact iteT ⟨r', env, W2, hE.ext x, w, z, W', e, fun r2 H2 v x2 w2 => q r2 H2 v (x.trans x2) w2⟩
  | false =>
    obtain ⟨rfl, rfl⟩ := mr_inv (show mr (DV.bl false) W2 = some (z, W') from e)
    exact iteF (q r' H' _ x w (.bl _))
theorem de_or {a b : Expr} {rest : List Expr} {F F' : ES} {pos : Pos} (h : DE X a F) (h' : DE X (.BoolOp .Or (b :: rest) pos) F') : DE X (.BoolOp .Or (a :: b :: rest) pos) (eOr F F') := by
  refine pe_imp (pe_or h h') ?_
  rintro sg H Q ⟨r, env, W, hE, hw, z, W', e, q⟩
  obtain ⟨c, W1, e1, e⟩ := mb_inv e
  obtain ⟨b, W2, e2, e⟩ := mb_inv e
  obtain ⟨rfl, rfl⟩ := mB_inv e2
  refine ⟨r, env, W, hE, hw, _, _, e1, fun r' H' v x w rv => ⟨b, rv.bl_inv, ?_⟩⟩
  cases b with
  | false => exact iteF ⟨r', env, W2, hE.ext x, w, z, W', e, fun r2 H2 v x2 w2 => q r2 H2 v (x.trans x2) w2⟩
  | true =>
    obtain ⟨rfl, rfl⟩ := mr_inv (show mr (DV.bl true) W2 = some (z, W') from e)
    exact iteT (q r' H' _ x w (.bl _))
theorem de_not {a : Expr} {F : ES} {pos : Pos} (h : DE X a F) : DE X (.UnaryOp .Not a pos) (eNot F) := by
  refine pe_imp (pe_not h) ?_
  rintro sg H Q ⟨r, env, W, hE, hw, z, W', e, q⟩
  obtain ⟨c, W1, e1, e⟩ := mb_inv e
  obtain ⟨b, W2, e2, e⟩ := mb_inv e
  obtain ⟨rfl, rfl⟩ := mB_inv e2
  obtain ⟨rfl, rfl⟩ := mr_inv e
  exact ⟨r, env, W, hE, hw, _, _, e1, fun r' H' v x w rv => ⟨b, rv.bl_inv, q r' H' _ x w (.bl _)⟩⟩
def eIf (B : EB) (F F' : ES) : ES := fun env => mb (B env) fun b => if b = true then F env else F' env
theorem de_if {c a b : Expr} {B : EB} {F F' : ES} {pos : Pos} (hc : DT X c B) (ha : DE X a F) (hb : DE X b F') : DE X (.IfExp c a b pos) (eIf B F F') := by
  refine pe_imp (pe_ifExp hc ha hb) ?_
  rintro sg H Q ⟨r, env, W, hE, hw, z, W', e, q⟩
  obtain ⟨c, W1, e1, e⟩ := mb_inv e
  refine ⟨r, env, W, hE, hw, _, _, e1, fun r' H' x w => ?_⟩
  cases c with
  | true => exact iteT ⟨r', env, W1, hE.ext x, w, z, W', e, fun r2 H2 v x2 w2 => q r2 H2 v (x.trans x2) w2⟩
  | false => exact iteF ⟨r', env, W1, hE.ext x, w, z, W', e, fun r2 H2 v x2 w2 => q r2 H2 v (x.trans x2) w2⟩

/-! ### arguments -/
def aN : EA := fun _ => mr []
def aC (F : ES) (A : EA) : EA := fun env => mb (F env) fun x => mb (A env) fun xs => mr (x :: xs)
theorem da_nil : DA X [] aN := by
  refine pa_imp pa_nil ?_
  rintro sg H Q ⟨r, env, W, hE, hw, z, W', e, q⟩
  obtain ⟨rfl, rfl⟩ := mr_inv e
  exact q r H [] (Ext.refl _ _) hw .nil
theorem of_cons {K : PySem.W.Frag} {F : ES} {A : EA} : ∀ sg H Q, tXA K (aC F A) sg H Q → tCons (tX K F) (tXA K A) sg H Q := by
  rintro sg H Q ⟨r, env, W, hE, hw, z, W', e, q⟩
  obtain ⟨x, W1, e1, e⟩ := mb_inv e
  obtain ⟨xs, W2, e2, e⟩ := mb_inv e
  obtain ⟨rfl, rfl⟩ := mr_inv e
  refine ⟨r, env, W, hE, hw, _, _, e1, fun r1 H1 v x1 w1 rx => ?_⟩
  exact ⟨r1, env, W1, hE.ext x1, w1, _, _, e2, fun r2 H2 vs x2 w2 rs => q r2 H2 _ (x1.trans x2) w2 (.cons (rx.ext x2) rs)⟩
theorem da_cons {a : Expr} {es : List Expr} {F : ES} {A : EA} (ha : DE X a F) (hr : DA X es A) (hs : starEach (a :: es) X.env = (false, eval a X.env) :: starEach es X.env := by rfl) : DA X (a :: es) (aC F A) :=
  pa_imp (pa_cons ha hr hs) of_cons
/-- a tuple, a list -/
def lineOk (xs : List DV) : Bool := decide (xs.length ≤ sizeLine)
def eTup (A : EA) : ES := fun env => mb (A env) fun xs => mo (if lineOk xs = true then some (.tup xs) else none)
def eLst (A : EA) : ES := fun env => mb (A env) fun xs => mo (if lineOk xs = true then some (.lst xs) else none)
theorem if_inv {α : Type} {c : Bool} {a b : α} (h : (if c = true then some a else none) = some b) : c = true ∧ a = b := by
  cases c with
  | true => exact ⟨rfl, Option.some.inj h⟩
  | false => cases h
theorem Rv.newTup {K : PySem.W.Frag} {r : Rh} {H : Hp} {W : Wd} {xs : List DV} {vs : List V} {p : Addr} (hw : Hw K r H W) (q : Rvs K r H xs vs) (hp : H p = none) : Rv K r (upd H p (.tup vs)) (.tup xs) (.ref p) :=
  .tup (.inl ⟨hw.fresh hp, upd_same⟩) (q.ext (Ext.laid hp))
theorem Rv.newLst {K : PySem.W.Frag} {r : Rh} {H : Hp} {W : Wd} {xs : List DV} {vs : List V} {p : Addr} (hw : Hw K r H W) (q : Rvs K r H xs vs) (hp : H p = none) : Rv K r (upd H p (.lst vs)) (.lst xs) (.ref p) :=
  .lst (hw.fresh hp) upd_same (q.ext (Ext.laid hp))
theorem de_tup {es : List Expr} {A : EA} {x1 pos} (h : DA X es A) : DE X (.Tuple es x1 pos) (eTup A) := by
  refine pe_imp (pe_tup h) ?_
  rintro sg H Q ⟨r, env, W, hE, hw, z, W', e, q⟩
  obtain ⟨xs, W1, e1, e⟩ := mb_inv e
  obtain ⟨e2, rfl⟩ := mo_inv e
  obtain ⟨l, rfl⟩ := if_inv e2
  refine ⟨r, env, W, hE, hw, _, _, e1, fun r1 H1 vs x1 w1 rs => ⟨by rw [← rs.length]; exact of_decide_eq_true l, fun p hp => ?_⟩⟩
  exact q r1 _ _ (x1.trans (Ext.laid hp)) (w1.laid hp) (Rv.newTup w1 rs hp)
theorem de_lst {es : List Expr} {A : EA} {pos} (h : DA X es A) : DE X (.List es pos) (eLst A) := by
  refine pe_imp (pe_lst h) ?_
  rintro sg H Q ⟨r, env, W, hE, hw, z, W', e, q⟩
  obtain ⟨xs, W1, e1, e⟩ := mb_inv e
  obtain ⟨e2, rfl⟩ := mo_inv e
  obtain ⟨l, rfl⟩ := if_inv e2
  refine ⟨r, env, W, hE, hw, _, _, e1, fun r1 H1 vs x1 w1 rs => ⟨by rw [← rs.length]; exact of_decide_eq_true l, fun p hp => ?_⟩⟩
  exact q r1 _ _ (x1.trans (Ext.laid hp)) (w1.laid hp) (Rv.newLst w1 rs hp)
/-- a list that will be changed: a cell -/
def eNew (A : EA) : ES := fun env => mb (A env) fun xs W => if lineOk xs = true then some (.loc W.length, W ++ [.lst xs]) else none
theorem de_new {es : List Expr} {A : EA} {pos} (h : DA X es A) : DE X (.List es pos) (eNew A) := by
  refine pe_imp (pe_lst h) ?_
  rintro sg H Q ⟨r, env, W, hE, hw, z, W', e, q⟩
  obtain ⟨xs, W1, e1, e⟩ := mb_inv e
  obtain ⟨l, e2⟩ := if_inv e
  cases e2
  refine ⟨r, env, W, hE, hw, _, _, e1, fun r1 H1 vs x1 w1 rs => ⟨by rw [← rs.length]; exact of_decide_eq_true l, fun p hp => ?_⟩⟩
  obtain ⟨y, z⟩ := w1.cell (c := .lst xs) (o := .lst vs) hp (fun z => nomatch z) ⟨vs, upd_same, rs.ext (by
    exact ⟨rfl, fun i a q => by
      obtain ⟨l, _⟩ := List.getElem?_eq_some_iff.mp q
      show (r1.rho ++ [some p])[i]? = _
      rw [List.getElem?_append_left l]; exact q, by simp, fun a m n => by
      rcases List.mem_append.mp m with m | m
      · exact absurd m n
      · have z := List.mem_singleton.mp m
        cases z; exact hp, fun a u _ q => by rw [upd_ne (ne_of_none q hp)]; exact q⟩)⟩
  exact q _ _ _ (x1.trans y) z (.loc (by show (r1.rho ++ [some p])[W1.length]? = _; rw [← w1.len, List.getElem?_append_right (Nat.le_refl _)]; simp))

/-! ### built-ins -/
def CallD (K : PySem.W.Frag) (rc : List V → Hp → VK → Prop) (G : List DV → M DV) : Prop := ∀ r H W xs z W' vs Q, Hw K r H W → G xs W = some (z, W') → Rvs K r H xs vs →
  (∀ r' H' u, Ext r H r' H' → Hw K r' H' W' → Rv K r' H' z u → Q u H') → rc vs H Q
def eK (G : List DV → M DV) (A : EA) : ES := fun env => mb (A env) G
theorem of_cb {K : PySem.W.Frag} {rc : List V → Hp → VK → Prop} {G : List DV → M DV} {A : EA} (g : CallD K rc G) : ∀ sg H Q, tX K (eK G A) sg H Q → tCB rc (tXA K A) sg H Q := by
  rintro sg H Q ⟨r, env, W, hE, hw, z, W', e, q⟩
  obtain ⟨xs, W1, e1, e⟩ := mb_inv e
  exact ⟨r, env, W, hE, hw, _, _, e1, fun r1 H1 vs x1 w1 rs => g r1 H1 W1 xs z W' vs Q w1 e rs fun r2 H2 u x2 w2 ru => q r2 H2 u (x1.trans x2) w2 ru⟩
end
end DL
end L2

set_option maxRecDepth 100000
/-! DLg: promises of defs that are called while no repr is under way (guards = some []): what repr of lists and tuples asks. -/
namespace L2
namespace DL
open PySem PySem.Spec PyProof.Rows

/-- the def at f keeps the promise sp when it is called with nothing under way -/
structure FnG (P : Program) (w : PySem.World) (K : PySem.W.Frag) (mg : Str → Option Value) (base : Heap) (CX : CXT) (k : Nat) (f : Addr) (fd : FuncData) (ps : List Str) (sp : Sp) : Prop where
  many : ∀ vs H Q E, sp vs H Q E → vs.length = ps.length
  go : ∀ (A : Around) (out : List Env) (s : Shared) (H : Hp) (ar : Args) (us : List Value) (vs : List V) (Q : VK) (E : XK), Room k A ∧ A.guards = some [] → Env0 P w K mg base A out s H → BindsTo s fd ar (ps.zip us) → Vals vs us → sp vs H Q E →
    codeAny (model P w) A (.call (.ref f) ar) (CR CX out P w H s Q E) s
section
variable {P : Program} {w : PySem.World} {K : PySem.W.Frag} {mg : Str → Option Value} {base : Heap} {CX : CXT} {j k : Nat} {f : Addr} {fd : FuncData} {ps : List Str} {sp sp' : Sp}
theorem FnG.up (F : FnG P w K mg base CX j f fd ps sp) (h : j ≤ k) : FnG P w K mg base CX k f fd ps sp := ⟨F.many, fun A out s H ar us vs Q E hr => F.go A out s H ar us vs Q E ⟨hr.1.mono h, hr.2⟩⟩
theorem FnG.weak (F : FnG P w K mg base CX k f fd ps sp) (h : ∀ vs H Q E, sp' vs H Q E → sp vs H Q E) : FnG P w K mg base CX k f fd ps sp' :=
  ⟨fun vs H Q E q => F.many vs H Q E (h _ _ _ _ q), fun A out s H ar us vs Q E hr he hb hv hs => F.go A out s H ar us vs Q E hr he hb hv (h _ _ _ _ hs)⟩
end
/-- a call comes back to the caller -/
theorem back_call {X : Cx} {CX : CXT} {pins : List (Addr × Obj)} {sg : St} {H : Hp} {s : Shared} {Q : VK} {E : XK} (I : Inv X pins sg H s) (hx : ∀ e s', CX X.stack H s E e s' → X.xe e s') {c : Code} (h : codeAny (model X.prog X.w) X.A c (CR CX X.stack X.prog X.w H s Q E) s) :
    codeAny (model X.prog X.w) X.A c (fun r s' => match r with
      | .ok (.ret u) => EP X pins sg Q u s'
      | .ok _ => False
      | .error e => X.xe e s') s := by
  refine codeAny_mono h fun r s' hq => ?_
  match r, hq with
  | .error e, hq => exact hx e s' hq
  | .ok (.ret u), hq => exact I.after hq
theorem call_back {X : Cx} {pins : List (Addr × Obj)} {sg : St} {Q : VK} {s : Shared} {g : Value} {us : List Value} {kw : List (Str × Value)}
    (h : codeAny (model X.prog X.w) X.A (.call g ⟨us, kw⟩) (fun r s' => match r with
      | .ok (.ret u) => EP X pins sg Q u s'
      | .ok _ => False
      | .error e => X.xe e s') s) : wpAny (model X.prog X.w) X.A (call g us kw) (EP X pins sg Q) X.xe s := by
  refine wpAny_call (codeAny_mono h fun r s' hq => ?_)
  match r, hq with
  | .error e, hq => exact hq
  | .ok (.ret u), hq => exact hq
section
variable {X : Cx} {CX : CXT} {k : Nat} {f : Addr} {fd : FuncData} {ps : List Str} {sp : Sp} {ds : List Value} {dvs : List V} {E : XK} {x : Str} {p pos : Pos} {e : Expr} {es : List Expr} {t : TA}
/-- room for calls, and nothing under way -/
def Rm (k : Nat) (A : Around) : Prop := Room k A ∧ A.guards = some []
theorem Rm.le {j k : Nat} {A : Around} (h : Rm k A) (l : j ≤ k) : Rm j A := ⟨h.1.mono l, h.2⟩
theorem FnG.at {pins : List (Addr × Obj)} {sg : St} {H : Hp} {s : Shared} {Q : VK} {us : List Value} {vs : List V} (F : FnG X.prog X.w X.K X.mg X.base CX k f fd ps sp) (hr : Rm k X.A) (hb : Binds X.K fd ps ds) (hd : Vals dvs ds) (hx : Passes CX X E)
    (I : Inv X pins sg H s) (rl : Vals vs us) (h : sp (vs ++ dvs) H Q E) : wpAny (model X.prog X.w) X.A (call (.ref f) us) (EP X pins sg Q) X.xe s := by
  have both : Vals (vs ++ dvs) (us ++ ds) := rl.append hd
  exact call_back (back_call I (fun e s' => hx pins sg H s e s' I) (F.go X.A X.stack s H ⟨us, []⟩ (us ++ ds) (vs ++ dvs) Q E hr I.env0 (hb s us I.kIn (by rw [← both.length]; exact F.many _ _ _ _ h)) both h))
theorem pe_callG (F : FnG X.prog X.w X.K X.mg X.base CX k f fd ps sp) (hr : Rm k X.A) (gl : Gl X x) (gm : X.mg x = some (.ref f)) (kp : PySem.W.keepIn X.K (.ref f) = true) (hb : Binds X.K fd ps ds) (hd : Vals dvs ds) (hx : Passes CX X E)
    (ha : PA X (e :: es) t) (nodb : (x == ("__debug__" : Str)) = false) (st : starEach (e :: es) X.env = (false, eval e X.env) :: starEach es X.env) (pl : (backTo pos (starEach es X.env)).any (·.1) = false) :
    PE X (.Call (.Name x p) (e :: es) [] pos) (tCall sp dvs E t) :=
  ⟨fun pins s sg H Q I h => wpAny_Call_Name_kw (ld_glob I gl gm (PySem.W.callWith_K (h₀ := X.base) I.ok.mod.kin kp (thn (ha.run pos pins s sg H _ I h) fun us s1 ⟨vs, H1, I1, rl, q⟩ => ⟨I1.kIn, F.at hr hb hd hx I1 rl q⟩) st pl) nodb)⟩
theorem pe_callG0 (F : FnG X.prog X.w X.K X.mg X.base CX k f fd ps sp) (hr : Rm k X.A) (gl : Gl X x) (gm : X.mg x = some (.ref f)) (kp : PySem.W.keepIn X.K (.ref f) = true) (hb : Binds X.K fd ps ds) (hd : Vals dvs ds) (hx : Passes CX X E)
    (nodb : (x == ("__debug__" : Str)) = false) : PE X (.Call (.Name x p) [] [] pos) (tCall sp dvs E tNil) :=
  ⟨fun pins s sg H Q I h => wpAny_Call_Name_kw (ld_glob I gl gm (PySem.W.callWith_K0 I.kIn kp (F.at (us := []) hr hb hd hx I .nil h)) nodb)⟩
end
/-- a def's body keeps its promise -/
theorem fnG_of {CX : CXT} {P : Program} {w : PySem.World} {K : PySem.W.Frag} {mg : Str → Option Value} {base : Heap} {k : Nat} {x qual : Str} {st : Stmt} {f : Addr} {fd : FuncData} {N ps : List Str} {sp : Sp} (F : Fun K x qual st f fd) (Sc : FnScope N ps (defScope st))
    (many : ∀ vs H Q E, sp vs H Q E → vs.length = ps.length)
    (body : ∀ (cdv : Value) (A : Around) (out : List Env) (s : Shared) (H : Hp) (vs : List V) (Q : VK) (E : XK), Rm k (A.deeper (envOfC qual (defScope st) s.heap.objs.size f cdv)) → sp vs H Q E →
      ∃ t, PSs (cxOf CX P w K mg base N qual (defScope st) f cdv A out s H E) (defBody st) t ∧ t { nx := fun _ H' => Q .non H', rt := Q } (start N vs) H) :
    FnG P w K mg base CX (k + 1) f fd ps sp := by
  obtain ⟨oc, od, kV, doc, pm, an, cdv, ct, osl, rfl, lk, hcd⟩ := F.ex
  refine ⟨many, fun A out s H ar us vs Q E hr e0 hb rl hsp => ?_⟩
  have old : ∀ b o, base.get? b = some o → s.heap.get? b = some o := fun b o q => (e0.bs b o q).1
  have KX : K.In s.heap := e0.mod.kin.keeps old
  refine codeAny_call_function hr.1.depth (KX _ _ lk) rfl Sc.co Sc.gen rfl (PySem.W.codeRec_of KX hcd) (hb _ _ _ _ (wpAny_newFunctionEnv_cells Sc.kind (fun y hy => ?_) fun env he s1 z => ?_))
  · rcases Sc.par y.1 (List.of_mem_zip (a := y.1) (b := y.2) hy).1 with q | q
    · exact .inl q
    · exact .inr ⟨q, PySem.W.cellsFrom_some _ _ _ (.inl q)⟩
  · subst he
    obtain ⟨t, ht, hq⟩ := body cdv A out s H vs Q E ⟨hr.1.deeper _, hr.2⟩ hsp
    refine ⟨(e0.mod.nolimit.keeps old).keeps z.toInCall.keep, codeAny_func (wpAny_mono (ht.run [] s1 (start N vs) H _ (inv_start Sc hr.1.hd e0 (many _ _ _ _ hsp) rl z) hq) (fun fl s' hs => ?_) fun _ _ q => q)⟩
    match fl, hs with
    | .ret u, ⟨v, _, H', J, rv, q⟩ => exact ⟨v, H', J.os, J.bare, J.base, J.hok, rv, q⟩
    | .next, ⟨_, H', J, q⟩ => exact ⟨.non, H', J.os, J.bare, J.base, J.hok, rfl, q⟩
    | .brk, ⟨_, _, _, q⟩ => exact q.elim
    | .cont, ⟨_, _, _, q⟩ => exact q.elim
end DL
end L2

set_option maxRecDepth 100000
/-! DLc: calls, targets, statements, loops, comprehensions, a def. -/
namespace L2
namespace DL
open PySem PySem.Spec PyProof.Rows

/-! ### what a def does -/
def spD (K : PySem.W.Frag) (n : Nat) (fn : List DV → M DV) : Sp := fun vs H Q _ => ∃ r W xs, xs.length = n ∧ Hw K r H W ∧ Rvs K r H xs vs ∧ ∃ x W', fn xs W = some (x, W') ∧
  ∀ r' H' v, Ext r H r' H' → Hw K r' H' W' → Rv K r' H' x v → Q v H'
def eF (n : Nat) (fn : List DV → M DV) (A : EA) : ES := fun env => mb (A env) fun xs => if (xs.length == n) = true then fn xs else fun _ => none
theorem len_inv {n : Nat} {xs : List DV} {fn : List DV → M DV} {W : Wd} {z : DV × Wd} (e : (if (xs.length == n) = true then fn xs else fun _ => none) W = some z) : xs.length = n ∧ fn xs W = some z := by
  by_cases c : (xs.length == n) = true
  · rw [if_pos c] at e
    exact ⟨by simpa using c, e⟩
  · rw [if_neg c] at e; cases e
section
variable {X : Cx} {k : Nat} {f : Addr} {fd : FuncData} {ps : List Str} {fn : List DV → M DV} {x : Str} {p pos : Pos} {e : Expr} {es : List Expr} {A : EA} {n : Nat}
theorem de_callB {id : String} {rc : List V → Hp → VK → Prop} {G : List DV → M DV} (hc : CallR X (.builtin id) rc) (g : CallD X.K rc G) (hg : Gl X x) (hm : X.mg x = none) (hv : bootBuiltins x = some (.builtin id)) (ha : DA X (e :: es) A) (hn : x ≠ "__name__" := by decide) (hdb : (x == ("__debug__" : Str)) = false := by decide)
    (he : starEach (e :: es) X.env = (false, eval e X.env) :: starEach es X.env := by rfl) (hpl : (backTo pos (starEach es X.env)).any (·.1) = false := by rfl) : DE X (.Call (.Name x p) (e :: es) [] pos) (eK G A) := pe_imp (pe_callB hc hg hm hv ha hn hdb he hpl) (of_cb g)
theorem de_callTy {T : String} {rc : List V → Hp → VK → Prop} {G : List DV → M DV} (hc : CallR X (.type T) rc) (g : CallD X.K rc G) (hg : Gl X x) (hm : X.mg x = none) (hv : bootBuiltins x = some (.type T)) (ha : DA X (e :: es) A) (hn : x ≠ "__name__" := by decide) (hdb : (x == ("__debug__" : Str)) = false := by decide)
    (he : starEach (e :: es) X.env = (false, eval e X.env) :: starEach es X.env := by rfl) (hpl : (backTo pos (starEach es X.env)).any (·.1) = false := by rfl) : DE X (.Call (.Name x p) (e :: es) [] pos) (eK G A) := pe_imp (pe_callTy hc hg hm hv ha hn hdb he hpl) (of_cb g)
theorem de_call (F : FnG X.prog X.w X.K X.mg X.base CX0 k f fd ps (spD X.K n fn)) (hr : Rm k X.A) (hg : Gl X x) (hm : X.mg x = some (.ref f)) (hk : PySem.W.keepIn X.K (.ref f) = true) (hb : Binds X.K fd ps [])
    (ha : DA X (e :: es) A) (hdb : (x == ("__debug__" : Str)) = false := by decide) (he : starEach (e :: es) X.env = (false, eval e X.env) :: starEach es X.env := by rfl) (hpl : (backTo pos (starEach es X.env)).any (·.1) = false := by rfl) :
    DE X (.Call (.Name x p) (e :: es) [] pos) (eF n fn A) := by
  refine pe_imp (pe_callG F hr hg hm hk hb .nil pass0 ha hdb he hpl) ?_
  rintro sg H Q ⟨r, env, W, hE, hw, z, W', e, q⟩
  obtain ⟨xs, W1, e1, e⟩ := mb_inv e
  obtain ⟨l, e⟩ := len_inv e
  refine ⟨r, env, W, hE, hw, _, _, e1, fun r1 H1 vs x1 w1 rs => ?_⟩
  refine ⟨r1, W1, xs, l, w1, by rw [List.append_nil]; exact rs, z, W', e, fun r2 H2 u x2 w2 ru => q r2 H2 u (x1.trans x2) w2 ru⟩
theorem de_call0 (F : FnG X.prog X.w X.K X.mg X.base CX0 k f fd ps (spD X.K 0 fn)) (hr : Rm k X.A) (hg : Gl X x) (hm : X.mg x = some (.ref f)) (hk : PySem.W.keepIn X.K (.ref f) = true) (hb : Binds X.K fd ps [])
    (hdb : (x == ("__debug__" : Str)) = false := by decide) : DE X (.Call (.Name x p) [] [] pos) (fun _ => fn []) := by
  refine pe_imp (pe_callG0 F hr hg hm hk hb .nil pass0 hdb) ?_
  rintro sg H Q ⟨r, env, W, hE, hw, z, W', e, q⟩
  exact ⟨r, W, [], rfl, hw, .nil, z, W', e, q⟩
end

/-! ### keywords -/
abbrev DK (X : Cx) (kws : List Keyword) (F : EA) : Prop := PK X kws (tXA X.K F)
theorem pk_imp {X : Cx} {e : List Keyword} {t t' : TA} (h : PK X e t) (i : ∀ sg H Q, t' sg H Q → t sg H Q) : PK X e t' := ⟨fun pos pins s sg H Q I w => h.run pos pins s sg H Q I (i sg H Q w)⟩
def perm {α : Type} (ix : List Nat) (l : List α) : List α := ix.filterMap (l[·]?)
theorem Vals.perm {vs : List V} {us : List Value} (h : Vals vs us) : ∀ ix : List Nat, Vals (perm ix vs) (perm ix us)
  | [] => .nil
  | i :: ix => by
    have t := Vals.perm h ix
    cases q : vs[i]? with
    | none =>
      have q' := h.none_of q
      show Vals ((i :: ix).filterMap (vs[·]?)) ((i :: ix).filterMap (us[·]?))
      rw [List.filterMap_cons, List.filterMap_cons, q, q']
      exact t
    | some v =>
      obtain ⟨u, q', rl⟩ := h.get q
      show Vals ((i :: ix).filterMap (vs[·]?)) ((i :: ix).filterMap (us[·]?))
      rw [List.filterMap_cons, List.filterMap_cons, q, q']
      exact .cons rl t
theorem Rvs.none_of {K : PySem.W.Frag} {r : Rh} {H : Hp} {xs : List DV} {vs : List V} {i : Nat} (h : Rvs K r H xs vs) (e : xs[i]? = none) : vs[i]? = none := by
  have h2 := List.getElem?_eq_none_iff.mp e
  exact List.getElem?_eq_none_iff.mpr (by rw [← h.length]; exact h2)
theorem Rvs.perm {K : PySem.W.Frag} {r : Rh} {H : Hp} {xs : List DV} {vs : List V} (h : Rvs K r H xs vs) : ∀ ix : List Nat, Rvs K r H (perm ix xs) (perm ix vs)
  | [] => .nil
  | i :: ix => by
    have t := Rvs.perm h ix
    cases q : xs[i]? with
    | none =>
      have q' := h.none_of q
      show Rvs K r H ((i :: ix).filterMap (xs[·]?)) ((i :: ix).filterMap (vs[·]?))
      rw [List.filterMap_cons, List.filterMap_cons, q, q']
      exact t
    | some v =>
      obtain ⟨u, q', rl⟩ := h.get q
      show Rvs K r H ((i :: ix).filterMap (xs[·]?)) ((i :: ix).filterMap (vs[·]?))
      rw [List.filterMap_cons, List.filterMap_cons, q, q']
      exact .cons rl t
/-- m keywords ks, no positional values: they come to the parameters in the order ix -/
def KwOk (K : PySem.W.Frag) (fd : FuncData) (ps ks : List Str) (ix : List Nat) : Prop := ∀ (s : Shared) (ws : List Value), K.In s.heap → ws.length = ks.length → BindsTo s fd ⟨[], ks.zip ws⟩ (ps.zip (perm ix ws))
theorem Fun.kw {K : PySem.W.Frag} {x qual : Str} {st : Stmt} {f : Addr} {fd : FuncData} {ps ks : List Str} {ix : List Nat} (F : Fun K x qual st f fd)
    (h : ∀ (kV doc pm : Value) (an : Option Addr) (cdv ct : Value) (ws : List Value), ws.length = ks.length → bindArgs (PySem.W.fnOf x qual (defArgs st) (defBody st) (defScope st) .none kV doc pm an cdv ct) ⟨[], ks.zip ws⟩ = pure (ps.zip (perm ix ws))) : KwOk K fd ps ks ix := by
  obtain ⟨oc, od, kV, doc, pm, an, cdv, ct, osl, rfl, lk, hcd⟩ := F.ex
  exact fun s ws _ hl => .of_eq (h kV doc pm an cdv ct ws hl)
def eFK (n m : Nat) (ix : List Nat) (fn : List DV → M DV) (A : EA) : ES := fun env => mb (A env) fun xs => if (xs.length == m) = true then (if ((perm ix xs).length == n) = true then fn (perm ix xs) else fun _ => none) else fun _ => none
section
variable {X : Cx} {k : Nat} {f : Addr} {fd : FuncData} {ps ks : List Str} {ix : List Nat} {fn : List DV → M DV} {x : Str} {p pos : Pos} {e : Expr} {nm : Str} {kpos : Pos} {kws : List Keyword} {F : ES} {A : EA} {n : Nat}
theorem dk_nil : DK X [] aN := by
  refine pk_imp pk_nil ?_
  rintro sg H Q ⟨r, env, W, hE, hw, z, W', e, q⟩
  obtain ⟨rfl, rfl⟩ := mr_inv e
  exact q r H [] (Ext.refl _ _) hw .nil
theorem dk_cons (ha : DE X e F) (hr : DK X kws A) : DK X (⟨nm, e, kpos⟩ :: kws) (aC F A) := pk_imp (pk_cons ha hr) of_cons
theorem de_callK0 (F : FnG X.prog X.w X.K X.mg X.base CX0 k f fd ps (spD X.K n fn)) (hr : Rm k X.A) (hg : Gl X x) (hm : X.mg x = some (.ref f)) (hk : PySem.W.keepIn X.K (.ref f) = true) (hb : KwOk X.K fd ps ks ix)
    (hkw : DK X kws A) (hall : (backToKw pos (keywordEach kws X.env)).all (·.1.isSome) = true := by rfl) (hks : (backToKw pos (keywordEach kws X.env)).filterMap (·.1) = ks := by rfl)
    (hdb : (x == ("__debug__" : Str)) = false := by decide) (hpl : ((backTo pos (starEach [] X.env)).any (·.1) || (backToKw pos (keywordEach kws X.env)).any (·.1.isNone)) = false := by rfl) :
    DE X (.Call (.Name x p) [] kws pos) (eFK n ks.length ix fn A) := by
  refine ⟨fun pins s sg H Q I h => ?_⟩
  refine wpAny_Call_Name_kw (ld_glob I hg hm ?_ hdb)
  refine PySem.W.callWith_KW0 (h₀ := X.base) I.ok.mod.kin hk hall (thn (hkw.run pos pins s sg H (fun vs H1 => vs.length = ks.length ∧ spD X.K n fn (perm ix vs) H1 Q (fun _ _ _ => False)) I ?_) fun ws s2 ⟨zs, H2, I2, rz, l2, q2⟩ => ⟨I2.kIn, ?_⟩) hpl
  · obtain ⟨r, env, W, hE, hw, z, W', e, q⟩ := h
    obtain ⟨xs, W1, e1, e⟩ := mb_inv e
    obtain ⟨lm, e⟩ := len_inv (fn := fun xs => if ((perm ix xs).length == n) = true then fn (perm ix xs) else fun _ => none) e
    obtain ⟨l, e⟩ := len_inv (xs := perm ix xs) e
    refine ⟨r, env, W, hE, hw, _, _, e1, fun r1 H1 vs x1 w1 rs => ⟨by rw [← rs.length]; exact lm, ?_⟩⟩
    exact ⟨r1, W1, perm ix xs, l, w1, rs.perm ix, z, W', e, fun r2 H2 u x2 w2 ru => q r2 H2 u (x1.trans x2) w2 ru⟩
  · rw [hks]
    exact call_back (back_call I2 (fun e s' q => False.elim q) (F.go X.A X.stack s2 H2 ⟨[], ks.zip ws⟩ (perm ix ws) (perm ix zs) Q (fun _ _ _ => False) hr I2.env0 (hb s2 ws I2.kIn (rz.length.symm.trans l2)) (Vals.perm rz ix) q2))
end

/-! ### targets -/
abbrev GS := DV → DEnv → M DEnv
def tXG (K : PySem.W.Frag) (ss : List Nat) (G : GS) : TG := fun v sg H Q => ∃ r env W x, RelE K r H env sg ∧ Hw K r H W ∧ Rv K r H x v ∧ ∃ env' W', G x env W = some (env', W') ∧
  ∀ r' H' sg', Ext r H r' H' → Hw K r' H' W' → RelE K r' H' env' sg' → wipe sg' ss = wipe sg ss → Q sg' H'
abbrev GSs := List DV → DEnv → M DEnv
def tXGs (K : PySem.W.Frag) (ss : List Nat) (G : GSs) : TGs := fun vs sg H Q => ∃ r env W xs, RelE K r H env sg ∧ Hw K r H W ∧ Rvs K r H xs vs ∧ ∃ env' W', G xs env W = some (env', W') ∧
  ∀ r' H' sg', Ext r H r' H' → Hw K r' H' W' → RelE K r' H' env' sg' → wipe sg' ss = wipe sg ss → Q sg' H'
abbrev DG (X : Cx) (ss : List Nat) (tg : Expr) (G : GS) : Prop := PG X tg (tXG X.K ss G)
abbrev DGs (X : Cx) (ss : List Nat) (tg : List Expr) (G : GSs) : Prop := PGs X tg (tXGs X.K ss G)
theorem pg_imp {X : Cx} {e : Expr} {t t' : TG} (h : PG X e t) (i : ∀ v sg H Q, t' v sg H Q → t v sg H Q) : PG X e t' := ⟨fun pins s sg H v u Q I rl w => h.run pins s sg H v u Q I rl (i v sg H Q w)⟩
theorem pgs_imp {X : Cx} {e : List Expr} {t t' : TGs} (h : PGs X e t) (i : ∀ v sg H Q, t' v sg H Q → t v sg H Q) : PGs X e t' := ⟨fun pins s sg H v u Q I rl w => h.run pins s sg H v u Q I rl (i v sg H Q w)⟩
theorem set_set_ne {α : Type} (l : List α) {i j : Nat} (a b : α) (h : i ≠ j) : (l.set i a).set j b = (l.set j b).set i a := List.set_comm a b h
theorem wipe_set {sg : St} {i : Nat} {x : Option V} : ∀ {ss : List Nat}, i ∈ ss → wipe (sg.set i x) ss = wipe sg ss
  | [], h => by cases h
  | v :: ss, h => by
    show (wipe (sg.set i x) ss).set v none = (wipe sg ss).set v none
    by_cases m : i ∈ ss
    · rw [wipe_set m]
    · have e : i = v := by
        rcases List.mem_cons.mp h with z | z
        · exact z
        · exact absurd z m
      subst e
      have w : ∀ (ss : List Nat), i ∉ ss → wipe (sg.set i x) ss = (wipe sg ss).set i x := by
        intro ss
        induction ss with
        | nil => intro _; rfl
        | cons u us ih =>
          intro n
          show (wipe (sg.set i x) us).set u none = ((wipe sg us).set u none).set i x
          rw [ih (fun z => n (List.mem_cons_of_mem _ z))]
          exact List.set_comm _ _ (fun z => n (by rw [z]; exact List.mem_cons_self))
      rw [w ss m, List.set_set]
def gN (i : Nat) : GS := fun x env => mr (env.set i (some x))
section
variable {X : Cx} {ss : List Nat}
theorem of_gname {K : PySem.W.Frag} {i : Nat} (hs : i ∈ ss) : ∀ v sg H Q, tXG K ss (gN i) v sg H Q → gName i v sg H Q := by
  rintro v sg H Q ⟨r, env, W, x, hE, hw, rx, env', W', e, q⟩
  obtain ⟨rfl, rfl⟩ := mr_inv e
  exact q r H _ (Ext.refl _ _) hw (hE.set rx) (wipe_set hs)
theorem dg_name {i : Nat} {x : Str} {pos : Pos} (hN : X.N.Nodup) (hi : X.N[i]? = some x) (hx : Loc X.env.scope x) (hs : i ∈ ss := by decide) (hf : X.fn x = true ∨ X.env.scope.names.lookup x = some .local := by first | exact .inl rfl | exact .inr rfl | assumption) : DG X ss (.Name x pos) (gN i) :=
  pg_imp (pg_name hN hi hx hf) (of_gname hs)
def gsN : GSs := fun xs env => match xs with
  | [] => mr env
  | _ => fun _ => none
def gsC (G : GS) (Gs : GSs) : GSs := fun xs env => match xs with
  | x :: r => mb (G x env) fun env' => Gs r env'
  | [] => fun _ => none
theorem dgs_nil : DGs X ss [] gsN := by
  refine pgs_imp pgs_nil ?_
  rintro vs sg H Q ⟨r, env, W, xs, hE, hw, rx, env', W', e, q⟩
  cases rx with
  | nil =>
    obtain ⟨rfl, rfl⟩ := mr_inv (show mr env W = some (env', W') from e)
    exact ⟨rfl, q r H sg (Ext.refl _ _) hw hE rfl⟩
  | cons _ _ => cases (show none = some (env', W') from e)
theorem dgs_cons {e : Expr} {es : List Expr} {G : GS} {Gs : GSs} (h1 : DG X ss e G) (h2 : DGs X ss es Gs)
    (hs : (assignEach (e :: es) X.env).map (·.2) = assign e X.env :: (assignEach es X.env).map (·.2) := by rfl) : DGs X ss (e :: es) (gsC G Gs) := by
  refine pgs_imp (pgs_cons h1 h2 hs) ?_
  rintro vs sg H Q ⟨r, env, W, xs, hE, hw, rx, env', W', e, q⟩
  cases rx with
  | nil => cases (show none = some (env', W') from e)
  | @cons x v xs vs rx rs =>
    obtain ⟨env1, W1, e1, e⟩ := mb_inv (show mb (G x env) (fun env' => Gs xs env') W = some (env', W') from e)
    refine ⟨v, vs, rfl, r, env, W, x, hE, hw, rx, env1, W1, e1, fun r1 H1 sg1 x1 w1 hE1 hq1 => ?_⟩
    exact ⟨r1, env1, W1, xs, hE1, w1, rs.ext x1, env', W', e, fun r2 H2 sg2 x2 w2 hE2 hq2 => q r2 H2 sg2 (x1.trans x2) w2 hE2 (hq2.trans hq1)⟩
def gT (n : Nat) (Gs : GSs) : GS := fun x env => match x with
  | .tup xs => if (xs.length == n) = true then Gs xs env else fun _ => none
  | _ => fun _ => none
theorem dg_tup {es : List Expr} {k : Nat} {Gs : GSs} {n : Nat} {pos : Pos} (hc : X.calm = true) (h : DGs X ss es Gs)
    (hn : (assignEach es X.env).length = n := by rfl) (hst : (assignEach es X.env).findIdx? (·.1) = none := by rfl) : DG X ss (.Tuple es k pos) (gT n Gs) := by
  refine pg_imp (pg_tup hc h hn hst) ?_
  rintro v sg H Q ⟨r, env, W, x, hE, hw, rx, env', W', e, q⟩
  unfold gT at e
  split at e
  · rename_i xs
    cases rx with
    | @tup a vs _ hq rs =>
      by_cases c : (xs.length == n) = true
      · rw [if_pos c] at e
        exact ⟨a, vs, rfl, hq.sq, by rw [← rs.length]; simpa using c, r, env, W, xs, hE, hw, rs, env', W', e, q⟩
      · rw [if_neg c] at e; cases e
  · cases e
end

/-! ### statements -/
inductive Fl where
  | nx (env : DEnv) | rt (x : DV) | bk (env : DEnv) | ct (env : DEnv)
/-- n: how many cells there were when the def (or the loop) began -/
abbrev SS := Nat → DEnv → M Fl
def FlOk (K : PySem.W.Frag) (r : Rh) (H : Hp) (D : Ends) : Fl → Prop
  | .nx env => ∀ sg, RelE K r H env sg → D.nx sg H
  | .rt x => ∀ v, Rv K r H x v → D.rt v H
  | .bk env => ∀ sg, RelE K r H env sg → D.bk sg H
  | .ct env => ∀ sg, RelE K r H env sg → D.ct sg H
def tSS (K : PySem.W.Frag) (S : SS) : TS := fun D sg H => ∃ r0 H0 r env W, Ext r0 H0 r H ∧ RelE K r H env sg ∧ Hw K r H W ∧ ∃ f W', S r0.rho.length env W = some (f, W') ∧
  ∀ r' H', Ext r0 H0 r' H' → Hw K r' H' W' → FlOk K r' H' D f
abbrev DS (X : Cx) (st : Stmt) (S : SS) : Prop := PS X st (tSS X.K S)
abbrev DSs (X : Cx) (st : List Stmt) (S : SS) : Prop := PSs X st (tSS X.K S)
def sSeq (S T : SS) : SS := fun n env => mb (S n env) fun f => match f with
  | .nx env' => T n env'
  | .rt x => mr (.rt x)
  | .bk env' => mr (.bk env')
  | .ct env' => mr (.ct env')
def sNil : SS := fun _ env => mr (.nx env)
section
variable {X : Cx} {st : Stmt} {rest : List Stmt} {S T : SS} {pos : Pos}
theorem dss_nil : DSs X [] sNil := by
  refine pss_imp pss_nil ?_
  rintro D sg H ⟨r0, H0, r, env, W, x0, hE, hw, f, W', e, q⟩
  obtain ⟨rfl, rfl⟩ := mr_inv e
  exact q r H x0 hw sg hE
theorem dss_one (h : DS X st S) : DSs X [st] S := pss_one h
theorem dss_cons (h1 : DS X st S) (h2 : DSs X rest T) : DSs X (st :: rest) (sSeq S T) := by
  refine pss_imp (pss_cons h1 h2) ?_
  rintro D sg H ⟨r0, H0, r, env, W, x0, hE, hw, f, W', e, q⟩
  obtain ⟨g, W1, e1, e⟩ := mb_inv e
  refine ⟨r0, H0, r, env, W, x0, hE, hw, g, W1, e1, fun r1 H1 x1 w1 => ?_⟩
  cases g with
  | nx env1 => exact fun sg1 hE1 => ⟨r0, H0, r1, env1, W1, x1, hE1, w1, f, W', e, q⟩
  | rt x => obtain ⟨rfl, rfl⟩ := mr_inv e; exact q r1 H1 x1 w1
  | bk x => obtain ⟨rfl, rfl⟩ := mr_inv e; exact q r1 H1 x1 w1
  | ct x => obtain ⟨rfl, rfl⟩ := mr_inv e; exact q r1 H1 x1 w1
theorem ds_pass : DS X (.Pass pos) sNil := by
  refine ps_imp ps_pass ?_
  rintro D sg H ⟨r0, H0, r, env, W, x0, hE, hw, f, W', e, q⟩
  obtain ⟨rfl, rfl⟩ := mr_inv e
  exact q r H x0 hw sg hE
theorem ds_break : DS X (.Break pos) (fun _ env => mr (.bk env)) := by
  refine ps_imp ps_break ?_
  rintro D sg H ⟨r0, H0, r, env, W, x0, hE, hw, f, W', e, q⟩
  obtain ⟨rfl, rfl⟩ := mr_inv e
  exact q r H x0 hw sg hE
theorem ds_continue : DS X (.Continue pos) (fun _ env => mr (.ct env)) := by
  refine ps_imp ps_continue ?_
  rintro D sg H ⟨r0, H0, r, env, W, x0, hE, hw, f, W', e, q⟩
  obtain ⟨rfl, rfl⟩ := mr_inv e
  exact q r H x0 hw sg hE
def sExpr (F : ES) : SS := fun _ env => mb (F env) fun _ => mr (.nx env)
theorem ds_expr {e : Expr} {F : ES} (he : DE X e F) (hs : swapsWith e none pos.line X.env = pure false := by rfl) : DS X (.Expr e pos) (sExpr F) := by
  refine ps_imp (ps_expr he hs) ?_
  rintro D sg H ⟨r0, H0, r, env, W, x0, hE, hw, f, W', e, q⟩
  obtain ⟨x, W1, e1, e⟩ := mb_inv e
  obtain ⟨rfl, rfl⟩ := mr_inv e
  exact ⟨r, env, W, hE, hw, x, _, e1, fun r1 H1 v x1 w1 rv => q r1 H1 (x0.trans x1) w1 sg (hE.ext x1)⟩
def sRet (F : ES) : SS := fun _ env => mb (F env) fun x => mr (.rt x)
theorem ds_ret {e : Expr} {F : ES} (he : DE X e F) : DS X (.Return (some e) pos) (sRet F) := by
  refine ps_imp (ps_ret he) ?_
  rintro D sg H ⟨r0, H0, r, env, W, x0, hE, hw, f, W', e, q⟩
  obtain ⟨x, W1, e1, e⟩ := mb_inv e
  obtain ⟨rfl, rfl⟩ := mr_inv e
  exact ⟨r, env, W, hE, hw, x, _, e1, fun r1 H1 v x1 w1 rv => q r1 H1 (x0.trans x1) w1 v rv⟩
def sIf (B : EB) (S T : SS) : SS := fun n env => mb (B env) fun b => if b = true then S n env else T n env
theorem ds_if {c : Expr} {a b : List Stmt} {B : EB} (hc : DT X c B) (ha : DSs X a S) (hb : DSs X b T) : DS X (.If c a b pos) (sIf B S T) := by
  refine ps_imp (ps_if hc ha hb) ?_
  rintro D sg H ⟨r0, H0, r, env, W, x0, hE, hw, f, W', e, q⟩
  obtain ⟨c, W1, e1, e⟩ := mb_inv e
  refine ⟨r, env, W, hE, hw, c, W1, e1, fun r1 H1 x1 w1 => ?_⟩
  cases c with
  | true => exact iteT ⟨r0, H0, r1, env, W1, x0.trans x1, hE.ext x1, w1, f, W', e, q⟩
  | false => exact iteF ⟨r0, H0, r1, env, W1, x0.trans x1, hE.ext x1, w1, f, W', e, q⟩
def sAsg (F : ES) (G : GS) : SS := fun _ env => mb (F env) fun x => mb (G x env) fun env' => mr (.nx env')
theorem of_asg {K : PySem.W.Frag} {F : ES} {G : GS} {ss : List Nat} : ∀ D sg H, tSS K (sAsg F G) D sg H → tAsg (tX K F) (tXG K ss G) D sg H := by
  rintro D sg H ⟨r0, H0, r, env, W, x0, hE, hw, f, W', e, q⟩
  obtain ⟨x, W1, e1, e⟩ := mb_inv e
  obtain ⟨env', W2, e2, e⟩ := mb_inv e
  obtain ⟨rfl, rfl⟩ := mr_inv e
  refine ⟨r, env, W, hE, hw, x, _, e1, fun r1 H1 v x1 w1 rv => ?_⟩
  exact ⟨r1, env, W1, x, hE.ext x1, w1, rv, env', _, e2, fun r2 H2 sg2 x2 w2 hE2 _ => q r2 H2 ((x0.trans x1).trans x2) w2 sg2 hE2⟩
theorem ds_asg {tg e : Expr} {F : ES} {G : GS} {ss : List Nat} (he : DE X e F) (hg : DG X ss tg G) (hs : swapsWithSole [tg] e pos.line X.env = pure false := by rfl) (hw : swappedStores [tg] e X.env = pure none := by rfl)
    (h1 : (assignEach [tg] X.env).map (·.2) = [assign tg X.env] := by rfl) : DS X (.Assign [tg] e pos) (sAsg F G) := ps_imp (ps_asg he hg hs hw h1) of_asg
theorem ds_set {i : Nat} {x : Str} {e : Expr} {F : ES} {pos' : Pos} (hN : X.N.Nodup) (hi : X.N[i]? = some x) (hx : Loc X.env.scope x) (he : DE X e F) (hs : swapsWith e (some (.Name x pos')) pos.line X.env = pure false := by rfl) (hf : X.fn x = true ∨ X.env.scope.names.lookup x = some .local := by first | exact .inl rfl | exact .inr rfl | assumption) :
    DS X (.Assign [.Name x pos'] e pos) (sAsg F (gN i)) := by
  refine ps_imp (ps_set hN hi hx he hs hf) fun D sg H h => ?_
  have h2 := of_asg (ss := [i]) D sg H h
  obtain ⟨r, env, W, hE, hw, x, W', e, q⟩ := h2
  exact ⟨r, env, W, hE, hw, x, W', e, fun r' H' v x' w' rv => of_gname (ss := [i]) (List.mem_singleton.mpr rfl) _ _ _ _ (q r' H' v x' w' rv)⟩
/-- a, b = x, y -/
def sPar (i j : Nat) (A : EA) : SS := fun _ env => mb (A env) fun xs => match xs with
  | [x, y] => mr (.nx ((env.set i (some x)).set j (some y)))
  | _ => fun _ => none
theorem ds_par {i j : Nat} {x y : Str} {a b : Expr} {A : EA} {px py pt : Pos} {kt k2 pt2} (hc : X.calm = true) (hN : X.N.Nodup) (hi : X.N[i]? = some x) (hj : X.N[j]? = some y) (hij : i ≠ j)
    (hx : X.env.scope.names.lookup x = some .local) (hy : X.env.scope.names.lookup y = some .local) (ha : DA X [a, b] A) (h : PS X (.Assign [.Tuple [.Name x px, .Name y py] kt pt] (.Tuple [a, b] k2 pt2) pos) (tPar i j (tXA X.K A))) :
    DS X (.Assign [.Tuple [.Name x px, .Name y py] kt pt] (.Tuple [a, b] k2 pt2) pos) (sPar i j A) := by
  refine ps_imp h ?_
  rintro D sg H ⟨r0, H0, r, env, W, x0, hE, hw, f, W', e, q⟩
  obtain ⟨xs, W1, e1, e⟩ := mb_inv e
  refine ⟨r, env, W, hE, hw, xs, W1, e1, fun r1 H1 vs x1 w1 rs => ?_⟩
  cases rs with
  | nil => cases (show none = some (f, W') from e)
  | cons r1' rs =>
    cases rs with
    | nil => cases (show none = some (f, W') from e)
    | cons r2' rs =>
      cases rs with
      | cons _ _ => cases (show none = some (f, W') from e)
      | nil =>
        obtain ⟨rfl, rfl⟩ := mr_inv (show mr _ W1 = some (f, W') from e)
        exact ⟨_, _, rfl, q r1 H1 (x0.trans x1) w1 _ (((hE.ext x1).set r1').set r2')⟩
/-- x op= e -/
def sAug (i : Nat) (F : ES) (G : DV → DV → M DV) : SS := fun _ env => mb (eV i env) fun x => mb (F env) fun y => mb (G x y) fun z => mr (.nx (env.set i (some z)))
theorem ds_aug {i : Nat} {x : Str} {e : Expr} {F : ES} {op : Operator} {ti : TIp} {G : DV → DV → M DV} {pos' : Pos} (h : PS X (.AugAssign (.Name x pos') op e pos) (tAug i (tX X.K F) ti)) (g : OpD X.K ti G) : DS X (.AugAssign (.Name x pos') op e pos) (sAug i F G) := by
  refine ps_imp h ?_
  rintro D sg H ⟨r0, H0, r, env, W, x0, hE, hw, f, W', e, q⟩
  obtain ⟨x, W1, e1, e⟩ := mb_inv e
  obtain ⟨y, W2, e2, e⟩ := mb_inv e
  obtain ⟨z, W3, e3, e⟩ := mb_inv e
  obtain ⟨rfl, rfl⟩ := mr_inv e
  obtain ⟨v, hv, r1, env1, W1', hE1, hw1, hrest⟩ : ∃ v, sg[i]? = some (some v) ∧ ∃ r1 env1 W1', RelE X.K r1 H env1 sg ∧ Hw X.K r1 H W1' ∧ (r1 = r ∧ env1 = env ∧ W1' = W1 ∧ Rv X.K r H x v) := by
    obtain ⟨h1, rfl⟩ := mo_inv e1
    have e2 : env[i]? = some (some x) := by
      cases h : env[i]? with
      | none => rw [h] at h1; cases h1
      | some o => rw [h] at h1; exact congrArg some h1
    obtain ⟨v, a1, a2⟩ := hE.2 i x e2
    exact ⟨v, a1, r, env, _, hE, hw, rfl, rfl, rfl, a2⟩
  obtain ⟨rfl, rfl, rfl, rv⟩ := hrest
  refine ⟨v, hv, r1, env1, W1', hE, hw1, y, W2, e2, fun r2 H2 w x2 w2 rw' => ?_⟩
  refine g r2 H2 W2 x y z _ v w _ w2 e3 (rv.ext x2) rw' fun r3 H3 u x3 w3 ru => ?_
  exact q r3 H3 ((x0.trans x2).trans x3) w3 _ ((hE.ext (x2.trans x3)).set ru)
end

/-! ### what is walked -/
abbrev IS := DEnv → M (List DV)
def ItD (K : PySem.W.Frag) (xs : List DV) (r : Rh) (H : Hp) (J : It) : Prop := ∀ r2 H2 W2, Exw r H r2 H2 → Hw K r2 H2 W2 →
  (∀ (i : Nat) (x : DV), xs[i]? = some x → J.go i H2 ∧ ∀ v H3, J.yld i H2 v H3 → Same H2 H3 ∧ Rv K r2 H3 x v) ∧ (∀ i : Nat, xs.length ≤ i → J.stop i H2)
def tXI (K : PySem.W.Frag) (I : IS) : TI := fun sg H R => ∃ r env W, RelE K r H env sg ∧ Hw K r H W ∧ ∃ xs W', I env W = some (xs, W') ∧
  ∀ r' H' J, Ext r H r' H' → Hw K r' H' W' → ItD K xs r' H' J → R J H'
abbrev DI (X : Cx) (tg iter : Expr) (I : IS) : Prop := PI X tg iter (tXI X.K I)
theorem pi_imp {X : Cx} {tg e : Expr} {t t' : TI} (h : PI X tg e t) (i : ∀ sg H Q, t' sg H Q → t sg H Q) : PI X tg e t' := ⟨fun pins s sg H Q I w => h.run pins s sg H Q I (i sg H Q w)⟩
def iD (F : ES) : IS := fun env => mb (F env) fun x => match x with
  | .lst xs => mr xs
  | .scr ns => mr (ns.map DV.int)
  | _ => fun _ => none
def iT (F : ES) : IS := fun env => mb (F env) fun x => match x with
  | .tup xs => mr xs
  | _ => fun _ => none
theorem map_ints {K : PySem.W.Frag} {r : Rh} {H : Hp} : ∀ ns : List Int, Rvs K r H (ns.map DV.int) (ns.map V.int)
  | [] => .nil
  | n :: ns => .cons (.int n) (map_ints ns)
/-- a list that stands still -/
theorem itd_list {K : PySem.W.Frag} {r : Rh} {H : Hp} {a : Addr} {xs : List DV} {vs : List V} (hq : ∀ r' H', Exw r H r' H' → SqL K H' a vs) (rs : Rvs K r H xs vs) : ItD K xs r H (Itl K a) := fun r2 H2 W2 e w =>
  ⟨fun i x ex => by
    obtain ⟨v, ev, rv⟩ := rs.get ex
    refine ⟨⟨vs, v, hq r2 H2 e, ev⟩, fun u H3 y => ?_⟩
    obtain ⟨rfl, y⟩ := y
    have := y vs (hq r2 _ e)
    rw [ev] at this; cases this
    exact ⟨Same.refl _, rv.extw e⟩,
  fun i l => ⟨vs, hq r2 H2 e, by rw [← rs.length]; exact l⟩⟩
theorem itd_tup {K : PySem.W.Frag} {r : Rh} {H : Hp} {a : Addr} {xs : List DV} {vs : List V} (hq : ∀ r' H', Exw r H r' H' → SqT K H' a vs) (rs : Rvs K r H xs vs) : ItD K xs r H (Itt K a) := fun r2 H2 W2 e w =>
  ⟨fun i x ex => by
    obtain ⟨v, ev, rv⟩ := rs.get ex
    refine ⟨⟨vs, v, hq r2 H2 e, ev⟩, fun u H3 y => ?_⟩
    obtain ⟨rfl, y⟩ := y
    have := y vs (hq r2 _ e)
    rw [ev] at this; cases this
    exact ⟨Same.refl _, rv.extw e⟩,
  fun i l => ⟨vs, hq r2 H2 e, by rw [← rs.length]; exact l⟩⟩
section
variable {X : Cx} {tg l : Expr} {F : ES}
theorem di_list (h : DE X l F) : DI X tg l (iD F) := by
  refine pi_imp (pi_list h) ?_
  rintro sg H R ⟨r, env, W, hE, hw, xs, W', e, q⟩
  obtain ⟨x, W1, e1, e⟩ := mb_inv e
  refine ⟨r, env, W, hE, hw, x, W1, e1, fun r1 H1 v x1 w1 rv => ?_⟩
  cases rv with
  | @lst a vs ys ho hl rs =>
    obtain ⟨rfl, rfl⟩ := mr_inv (show mr ys W1 = some (xs, W') from e)
    refine ⟨a, rfl, ⟨vs, .of hl⟩, q r1 H1 _ x1 w1 (itd_list (fun r' H' e' => .of (e'.keep _ _ ho.1 hl)) rs)⟩
  | @scr ns a hs =>
    obtain ⟨rfl, rfl⟩ := mr_inv (show mr (ns.map DV.int) W1 = some (xs, W') from e)
    exact ⟨a, rfl, ⟨_, hs.sq⟩, q r1 H1 _ x1 w1 (itd_list (fun r' H' e' => (hs.extw e').sq) (map_ints ns))⟩
  | _ => cases (show none = some (xs, W') from e)
theorem di_tup (h : DE X l F) : DI X tg l (iT F) := by
  refine pi_imp (pi_tup h) ?_
  rintro sg H R ⟨r, env, W, hE, hw, xs, W', e, q⟩
  obtain ⟨x, W1, e1, e⟩ := mb_inv e
  refine ⟨r, env, W, hE, hw, x, W1, e1, fun r1 H1 v x1 w1 rv => ?_⟩
  cases rv with
  | @tup a vs ys hq rs =>
    obtain ⟨rfl, rfl⟩ := mr_inv (show mr ys W1 = some (xs, W') from e)
    exact ⟨a, rfl, ⟨vs, hq.sq⟩, q r1 H1 _ x1 w1 (itd_tup (fun r' H' e' => (hq.extw e').sq) rs)⟩
  | _ => cases (show none = some (xs, W') from e)
end
/-- lo, lo + 1, .. -/
def upFrom (lo : Int) (n : Nat) : List DV := (List.range n).map fun i => DV.int (lo + (i : Nat))
theorem upFrom_get {lo : Int} {n i : Nat} {x : DV} (h : (upFrom lo n)[i]? = some x) : i < n ∧ x = .int (lo + (i : Nat)) := by
  unfold upFrom at h
  rw [List.getElem?_map] at h
  cases q : (List.range n)[i]? with
  | none => rw [q] at h; cases h
  | some j =>
    rw [q] at h
    obtain ⟨l, e⟩ := List.getElem?_eq_some_iff.mp q
    rw [List.getElem_range] at e
    rw [List.length_range] at l
    subst e
    exact ⟨l, (Option.some.inj h).symm⟩
theorem itd_range {K : PySem.W.Frag} {r : Rh} {H : Hp} {lo : Int} {n : Nat} : ItD K (upFrom lo n) r H (Itr lo n) := fun r2 H2 W2 e w =>
  ⟨fun i x ex => by
    obtain ⟨l, rfl⟩ := upFrom_get ex
    refine ⟨l, fun u H3 y => ?_⟩
    obtain ⟨rfl, rfl⟩ := y
    exact ⟨Same.refl _, .int _⟩,
  fun i l => by
    have z : (upFrom lo n).length = n := by unfold upFrom; rw [List.length_map, List.length_range]
    rw [z] at l; exact l⟩
def rngOk (i : Int) : Bool := decide (-(2 ^ 62) ≤ i ∧ i < 2 ^ 62)
def iR1 (A : EA) : IS := fun env => mb (A env) fun xs => match xs with
  | [.int j] => if rngOk j = true then mr (upFrom 0 j.toNat) else fun _ => none
  | _ => fun _ => none
def iR2 (A : EA) : IS := fun env => mb (A env) fun xs => match xs with
  | [.int i, .int j] => if (rngOk i && rngOk j) = true then mr (upFrom i (j - i).toNat) else fun _ => none
  | _ => fun _ => none
section
variable {X : Cx} {tg a b : Expr} {A : EA} {p pos : Pos}
theorem if_some {α : Type} {c : Bool} {m : M α} {W : Wd} {z : α × Wd} (h : (if c = true then m else fun _ => none) W = some z) : c = true ∧ m W = some z := by
  cases c with
  | true => exact ⟨rfl, h⟩
  | false => cases h
theorem di_range1 (hg : Gl X "range") (hm : X.mg "range" = none) (ha : DA X [a] A) (hs : starEach [a] X.env = [(false, eval a X.env)] := by rfl) (h : PI X tg (.Call (.Name "range" p) [a] [] pos) (iRng1 (tXA X.K A))) : DI X tg (.Call (.Name "range" p) [a] [] pos) (iR1 A) := by
  refine pi_imp h ?_
  rintro sg H R ⟨r, env, W, hE, hw, ys, W', e, q⟩
  obtain ⟨xs, W1, e1, e⟩ := mb_inv e
  refine ⟨r, env, W, hE, hw, xs, W1, e1, fun r1 H1 vs x1 w1 rs => ?_⟩
  try dsimp only at e
  split at e
  · rename_i j
    cases rs with
    | cons r1' rs =>
      cases rs
      obtain rfl := r1'.int_inv
      obtain ⟨c, e⟩ := if_some e
      obtain ⟨rfl, rfl⟩ := mr_inv e
      have c' := of_decide_eq_true c
      exact ⟨j, rfl, c'.1, c'.2, q r1 H1 _ x1 w1 itd_range⟩
  · cases e
theorem di_range2 (h : PI X tg (.Call (.Name "range" p) [a, b] [] pos) (iRng2 (tXA X.K A))) : DI X tg (.Call (.Name "range" p) [a, b] [] pos) (iR2 A) := by
  refine pi_imp h ?_
  rintro sg H R ⟨r, env, W, hE, hw, ys, W', e, q⟩
  obtain ⟨xs, W1, e1, e⟩ := mb_inv e
  refine ⟨r, env, W, hE, hw, xs, W1, e1, fun r1 H1 vs x1 w1 rs => ?_⟩
  try dsimp only at e
  split at e
  · rename_i i j
    cases rs with
    | cons r1' rs =>
      cases rs with
      | cons r2' rs =>
        cases rs
        obtain rfl := r1'.int_inv
        obtain rfl := r2'.int_inv
        obtain ⟨c, e⟩ := if_some e
        obtain ⟨rfl, rfl⟩ := mr_inv e
        rw [Bool.and_eq_true] at c
        have c1 := of_decide_eq_true c.1
        have c2 := of_decide_eq_true c.2
        exact ⟨i, j, rfl, ⟨c1.1, c1.2, c2.1, c2.2⟩, q r1 H1 _ x1 w1 itd_range⟩
  · cases e
end

/-! ### for -/
def sLoop (G : GS) (B : SS) (n : Nat) : List DV → DEnv → M Fl
  | [], env => mr (.nx env)
  | x :: xs, env => mb (G x env) fun env1 => mb (B n env1) fun f => match f with
    | .nx e => sLoop G B n xs e
    | .ct e => sLoop G B n xs e
    | .bk e => mr (.nx e)
    | .rt v => mr (.rt v)
def sFor (I : IS) (G : GS) (B : SS) : SS := fun _ env => mb (I env) fun xs W => sLoop G B W.length xs env W
theorem of_for {K : PySem.W.Frag} {I : IS} {G : GS} {B : SS} {ss : List Nat} : ∀ D sg H, tSS K (sFor I G B) D sg H → tFor (tXI K I) (tXG K ss G) (tSS K B) D sg H := by
  rintro D sg H ⟨r0, H0, r, env, W, x0, hE, hw, f, W', e, q⟩
  obtain ⟨xs, W1, e1, e⟩ := mb_inv e
  refine ⟨r, env, W, hE, hw, xs, W1, e1, fun r1 H1 J x1 w1 it => ?_⟩
  rw [← w1.len] at e
  refine ⟨fun i m sg2 H2 => m = xs.length - i ∧ i ≤ xs.length ∧ ∃ r2 env2 W2, Ext r1 H1 r2 H2 ∧ RelE K r2 H2 env2 sg2 ∧ Hw K r2 H2 W2 ∧ sLoop G B r1.rho.length (xs.drop i) env2 W2 = some (f, W'), ⟨xs.length, by simp, Nat.zero_le _, r1, env, W1, Ext.refl _ _, hE.ext x1, w1, e⟩, ?_⟩
  rintro i m sg2 H2 ⟨rfl, hi, r2, env2, W2, x2, hE2, w2, e2⟩
  obtain ⟨it1, it2⟩ := it r2 H2 W2 x2.w w2
  by_cases hlt : i < xs.length
  · refine .inr ⟨(it1 i xs[i] (List.getElem?_eq_getElem hlt)).1, fun sg3 H3 => i + 1 ≤ xs.length ∧ ∃ r3 env3 W3, Ext r1 H1 r3 H3 ∧ RelE K r3 H3 env3 sg3 ∧ Hw K r3 H3 W3 ∧ sLoop G B r1.rho.length (xs.drop (i + 1)) env3 W3 = some (f, W'), fun sg3 H3 z => ⟨xs.length - (i + 1), by omega, rfl, z.1, z.2⟩, fun v H3 y => ?_⟩
    obtain ⟨sm, rv⟩ := (it1 i xs[i] (List.getElem?_eq_getElem hlt)).2 v H3 y
    rw [List.drop_eq_getElem_cons hlt] at e2
    obtain ⟨env3, W3, e3, e2⟩ := mb_inv e2
    obtain ⟨g, W4, e4, e2⟩ := mb_inv e2
    refine ⟨r2, env2, W2, xs[i], hE2.ext (Ext.of_same sm), w2.same sm, rv, env3, W3, e3, fun r4 H4 sg4 x4 w4 hE4 _ => ?_⟩
    have x4' : Ext r1 H1 r4 H4 := (x2.trans (Ext.of_same sm)).trans x4
    refine ⟨r1, H1, r4, env3, W3, x4', hE4, w4, g, W4, e4, fun r5 H5 x5 w5 => ?_⟩
    cases g with
    | nx en => exact fun sg5 hE5 => ⟨hlt, r5, en, W4, x5, hE5, w5, e2⟩
    | ct en => exact fun sg5 hE5 => ⟨hlt, r5, en, W4, x5, hE5, w5, e2⟩
    | bk en =>
      obtain ⟨rfl, rfl⟩ := mr_inv e2
      exact q r5 H5 ((x0.trans x1).trans x5) w5
    | rt v =>
      obtain ⟨rfl, rfl⟩ := mr_inv e2
      exact q r5 H5 ((x0.trans x1).trans x5) w5
  · have ei : i = xs.length := by omega
    subst ei
    rw [List.drop_length] at e2
    obtain ⟨rfl, rfl⟩ := mr_inv e2
    exact .inl ⟨it2 _ (Nat.le_refl _), q r2 H2 ((x0.trans x1).trans x2) w2 sg2 hE2⟩
section
variable {X : Cx} {tg iter : Expr} {body : List Stmt} {I : IS} {G : GS} {B : SS} {pos : Pos} {ss : List Nat}
theorem ds_for (hp : PassesOwn (model X.prog X.w) X.A X.env X.xe) (hc : X.calm = true) (hi : DI X tg iter I) (hg : DG X ss tg G) (hb : DSs X body B) (hs : ∀ x, foldedSetIterable iter X.env x = pure x := by intro _; rfl) : DS X (.For tg iter body [] pos) (sFor I G B) :=
  ps_imp (ps_for hp hc hi hg hb hs) of_for
end

/-! ### list comprehensions -/
def wipeD (env : DEnv) : List Nat → DEnv
  | [] => env
  | v :: vs => (wipeD env vs).set v none
theorem RelE.wipe {K : PySem.W.Frag} {r : Rh} {H : Hp} {env : DEnv} {sg : St} (h : RelE K r H env sg) : ∀ ss : List Nat, RelE K r H (wipeD env ss) (wipe sg ss)
  | [] => h
  | v :: ss => by
    have t := RelE.wipe h ss
    refine ⟨by show ((wipeD env ss).set v none).length = ((L2.wipe sg ss).set v none).length; rw [List.length_set, List.length_set]; exact t.1, fun i x e => ?_⟩
    have e' : ((wipeD env ss).set v none)[i]? = some (some x) := e
    show ∃ u, ((L2.wipe sg ss).set v none)[i]? = some (some u) ∧ _
    by_cases hi : v = i
    · subst hi
      by_cases hv : v < (wipeD env ss).length
      · rw [List.getElem?_set_self hv] at e'; cases e'
      · rw [List.getElem?_eq_none (by simpa using hv)] at e'; cases e'
    · rw [List.getElem?_set_ne hi] at e' ⊢
      exact t.2 i x e'
/-- the items made so far are acc -/
def cLoop (G : GS) (B : EB) (F : ES) (env : DEnv) : List DV → List DV → M (List DV)
  | [], acc => mr acc
  | x :: xs, acc => mb (G x env) fun env1 => mb (B env1) fun b => if b = true then mb (F env1) fun y => if (acc.length < sizeLine) then cLoop G B F env xs (acc ++ [y]) else fun _ => none else cLoop G B F env xs acc
def eComp (ss : List Nat) (I : IS) (G : GS) (B : EB) (F : ES) : ES := fun env => mb (I env) fun xs => mb (cLoop G B F (wipeD env ss) xs []) fun ys => mr (.lst ys)
theorem wipe_wipe (sg : St) : ∀ ss : List Nat, wipe (wipe sg ss) ss = wipe sg ss := fun ss => by
  have : ∀ (us : List Nat), (∀ u ∈ us, u ∈ ss) → wipe (wipe sg us) ss = wipe sg ss := by
    intro us
    induction us with
    | nil => intro _; rfl
    | cons u us ih =>
      intro h
      show wipe ((wipe sg us).set u none) ss = wipe sg ss
      rw [wipe_set (h u List.mem_cons_self)]
      exact ih fun v hv => h v (List.mem_cons_of_mem _ hv)
  exact this ss fun u hu => hu
section
variable {K : PySem.W.Frag} {r : Rh} {H : Hp} {D a : Addr} {o u : HO} {vs : List V}
theorem Rd.unhid (z : (⟨r.rho, D :: r.hid⟩ : Rh).out a) (h : Rd H a u) : Rd (upd H D o) a u := by
  have ne : a ≠ D := fun e => z.2 (by rw [e]; exact List.mem_cons_self)
  rcases h with h | ⟨w, h⟩
  · exact .inl (by rw [upd_ne ne]; exact h)
  · exact .inr ⟨w, by rw [upd_ne ne]; exact h⟩
theorem SQ.unhid (h : SQ K ⟨r.rho, D :: r.hid⟩ H a vs) : SQ K ⟨r.rho, D :: r.hid⟩ (upd H D o) a vs := by
  rcases h with ⟨z, h⟩ | h
  · exact .inl ⟨z, Rd.unhid z h⟩
  · exact .inr h
theorem TQ.unhid (h : TQ K ⟨r.rho, D :: r.hid⟩ H a vs) : TQ K ⟨r.rho, D :: r.hid⟩ (upd H D o) a vs := by
  rcases h with ⟨z, h⟩ | h
  · exact .inl ⟨z, by rw [upd_ne (fun e => z.2 (by rw [e]; exact List.mem_cons_self))]; exact h⟩
  · exact .inr h
theorem Rd.hide (hD : H D = none) (z : r.out a) (h : Rd H a u) : (⟨r.rho, D :: r.hid⟩ : Rh).out a ∧ Rd (upd H D o) a u := by
  have ne : a ≠ D := by
    rcases h with h | ⟨w, h⟩
    · exact ne_of_none h hD
    · exact ne_of_none h hD
  refine ⟨⟨z.1, fun m => ?_⟩, ?_⟩
  · rcases List.mem_cons.mp m with e | e
    · exact ne e
    · exact z.2 e
  · rcases h with h | ⟨w, h⟩
    · exact .inl (by rw [upd_ne ne]; exact h)
    · exact .inr ⟨w, by rw [upd_ne ne]; exact h⟩
theorem SQ.hide (hD : H D = none) (h : SQ K r H a vs) : SQ K ⟨r.rho, D :: r.hid⟩ (upd H D o) a vs := by
  rcases h with ⟨z, h⟩ | h
  · exact .inl (Rd.hide hD z h)
  · exact .inr h
theorem TQ.hide (hD : H D = none) (h : TQ K r H a vs) : TQ K ⟨r.rho, D :: r.hid⟩ (upd H D o) a vs := by
  rcases h with ⟨z, h⟩ | h
  · exact .inl ⟨(Rd.hide (o := o) hD z (.inl h)).1, by rw [upd_ne (ne_of_none h hD)]; exact h⟩
  · exact .inr h
end
mutual
/-- data do not speak of a hidden object: it may be changed -/
theorem Rv.unhid {K : PySem.W.Frag} {r : Rh} {H : Hp} {D : Addr} {o : HO} (n : some D ∉ r.rho) : ∀ {x : DV} {v : V}, Rv K ⟨r.rho, D :: r.hid⟩ H x v → Rv K ⟨r.rho, D :: r.hid⟩ (upd H D o) x v
  | _, _, .non => .non
  | _, _, .bl b => .bl b
  | _, _, .int i => .int i
  | _, _, .str s => .str s
  | _, _, .cst v => .cst v
  | _, _, .loc h => .loc h
  | _, _, .scr h => .scr (SQ.unhid h)
  | _, _, .tup h q => .tup (TQ.unhid h) (Rvs.unhid n q)
  | _, _, .lst z h q => .lst z (by rw [upd_ne (fun e => z.2 (by rw [e]; exact List.mem_cons_self))]; exact h) (Rvs.unhid n q)
theorem Rvs.unhid {K : PySem.W.Frag} {r : Rh} {H : Hp} {D : Addr} {o : HO} (n : some D ∉ r.rho) : ∀ {xs : List DV} {vs : List V}, Rvs K ⟨r.rho, D :: r.hid⟩ H xs vs → Rvs K ⟨r.rho, D :: r.hid⟩ (upd H D o) xs vs
  | _, _, .nil => .nil
  | _, _, .cons h q => .cons (Rv.unhid n h) (Rvs.unhid n q)
end
mutual
theorem Rv.hide {K : PySem.W.Frag} {r : Rh} {H : Hp} {D : Addr} {o : HO} (hD : H D = none) : ∀ {x : DV} {v : V}, Rv K r H x v → Rv K ⟨r.rho, D :: r.hid⟩ (upd H D o) x v
  | _, _, .non => .non
  | _, _, .bl b => .bl b
  | _, _, .int i => .int i
  | _, _, .str s => .str s
  | _, _, .cst v => .cst v
  | _, _, .loc h => .loc h
  | _, _, .scr h => .scr (SQ.hide hD h)
  | _, _, .tup h q => .tup (TQ.hide hD h) (Rvs.hide hD q)
  | _, _, .lst z h q => .lst ⟨z.1, fun m => by
        rcases List.mem_cons.mp m with e | e
        · exact ne_of_none h hD e
        · exact z.2 e⟩ (by rw [upd_ne (ne_of_none h hD)]; exact h) (Rvs.hide hD q)
theorem Rvs.hide {K : PySem.W.Frag} {r : Rh} {H : Hp} {D : Addr} {o : HO} (hD : H D = none) : ∀ {xs : List DV} {vs : List V}, Rvs K r H xs vs → Rvs K ⟨r.rho, D :: r.hid⟩ (upd H D o) xs vs
  | _, _, .nil => .nil
  | _, _, .cons h q => .cons (Rv.hide hD h) (Rvs.hide hD q)
end
mutual
theorem Rv.show {K : PySem.W.Frag} {r : Rh} {H : Hp} {D : Addr} : ∀ {x : DV} {v : V}, Rv K ⟨r.rho, D :: r.hid⟩ H x v → Rv K r H x v
  | _, _, .non => .non
  | _, _, .bl b => .bl b
  | _, _, .int i => .int i
  | _, _, .str s => .str s
  | _, _, .cst v => .cst v
  | _, _, .loc h => .loc h
  | _, _, .scr h => .scr (by
      rcases h with ⟨z, h⟩ | h
      · exact .inl ⟨⟨z.1, fun m => z.2 (List.mem_cons_of_mem _ m)⟩, h⟩
      · exact .inr h)
  | _, _, .tup h q => .tup (by
      rcases h with ⟨z, h⟩ | h
      · exact .inl ⟨⟨z.1, fun m => z.2 (List.mem_cons_of_mem _ m)⟩, h⟩
      · exact .inr h) (Rvs.show q)
  | _, _, .lst z h q => .lst ⟨z.1, fun m => z.2 (List.mem_cons_of_mem _ m)⟩ h (Rvs.show q)
theorem Rvs.show {K : PySem.W.Frag} {r : Rh} {H : Hp} {D : Addr} : ∀ {xs : List DV} {vs : List V}, Rvs K ⟨r.rho, D :: r.hid⟩ H xs vs → Rvs K r H xs vs
  | _, _, .nil => .nil
  | _, _, .cons h q => .cons (Rv.show h) (Rvs.show q)
end
end DL
end L2

set_option maxRecDepth 100000
/-! DLd: list comprehensions, a def's end, freezing. -/
namespace L2
namespace DL
open PySem PySem.Spec PyProof.Rows

section
variable {K : PySem.W.Frag} {rho : List (Option Addr)} {hid : List Addr} {H : Hp} {D : Addr} {o : HO} {W : Wd}
theorem CellOk.unhid {a : Addr} {c : Cell} (n : some D ∉ rho) (ne : a ≠ D) (h : CellOk K ⟨rho, D :: hid⟩ H a c) : CellOk K ⟨rho, D :: hid⟩ (upd H D o) a c := by
  cases c with
  | dead => exact h
  | lst xs => obtain ⟨vs, q, z⟩ := h; exact ⟨vs, by rw [upd_ne ne]; exact q, Rvs.unhid (r := ⟨rho, hid⟩) n z⟩
theorem Hw.hidnot (h : Hw K ⟨rho, D :: hid⟩ H W) : some D ∉ rho := fun m => h.sep D m List.mem_cons_self
theorem Hw.unhid (h : Hw K ⟨rho, D :: hid⟩ H W) : Hw K ⟨rho, D :: hid⟩ (upd H D o) W where
  len := h.len
  nd := h.nd
  live := h.live
  sep := h.sep
  hd := fun a m => by
    by_cases e : a = D
    · subst e; exact ⟨o, upd_same⟩
    · obtain ⟨u, q⟩ := h.hd a m
      exact ⟨u, by rw [upd_ne e]; exact q⟩
  ok := fun i a c e1 e2 => CellOk.unhid h.hidnot (fun e => h.hidnot (by rw [← e]; exact mem_of e1)) (h.ok i a c e1 e2)
theorem CellOk.hide {a : Addr} {c : Cell} (hD : H D = none) (h : CellOk K ⟨rho, hid⟩ H a c) : CellOk K ⟨rho, D :: hid⟩ (upd H D o) a c := by
  cases c with
  | dead => exact h
  | lst xs => obtain ⟨vs, q, z⟩ := h; exact ⟨vs, by rw [upd_ne (ne_of_none q hD)]; exact q, Rvs.hide (r := ⟨rho, hid⟩) hD z⟩
theorem Hw.hide (h : Hw K ⟨rho, hid⟩ H W) (hD : H D = none) : Hw K ⟨rho, D :: hid⟩ (upd H D o) W where
  len := h.len
  nd := h.nd
  live := h.live
  sep := fun a m => by
    intro z
    rcases List.mem_cons.mp z with e | e
    · exact h.notin hD (by rw [← e]; exact m)
    · exact h.sep a m e
  hd := fun a m => by
    rcases List.mem_cons.mp m with e | e
    · rw [e]; exact ⟨o, upd_same⟩
    · obtain ⟨u, q⟩ := h.hd a e
      exact ⟨u, by rw [upd_ne (ne_of_none q hD)]; exact q⟩
  ok := fun i a c e1 e2 => CellOk.hide hD (h.ok i a c e1 e2)
theorem CellOk.show {a : Addr} {c : Cell} (h : CellOk K ⟨rho, D :: hid⟩ H a c) : CellOk K ⟨rho, hid⟩ H a c := by
  cases c with
  | dead => exact h
  | lst xs => obtain ⟨vs, q, z⟩ := h; exact ⟨vs, q, Rvs.show (r := ⟨rho, hid⟩) z⟩
theorem Hw.show (h : Hw K ⟨rho, D :: hid⟩ H W) : Hw K ⟨rho, hid⟩ H W where
  len := h.len
  nd := h.nd
  live := h.live
  sep := fun a m z => h.sep a m (List.mem_cons_of_mem _ z)
  hd := fun a m => h.hd a (List.mem_cons_of_mem _ m)
  ok := fun i a c e1 e2 => (h.ok i a c e1 e2).show
theorem RelE.unhid {env : DEnv} {sg : St} (n : some D ∉ rho) (h : RelE K ⟨rho, D :: hid⟩ H env sg) : RelE K ⟨rho, D :: hid⟩ (upd H D o) env sg := ⟨h.1, fun i x q => by
  obtain ⟨v, a, z⟩ := h.2 i x q
  exact ⟨v, a, Rv.unhid (r := ⟨rho, hid⟩) n z⟩⟩
theorem RelE.hide {env : DEnv} {sg : St} (hD : H D = none) (h : RelE K ⟨rho, hid⟩ H env sg) : RelE K ⟨rho, D :: hid⟩ (upd H D o) env sg := ⟨h.1, fun i x q => by
  obtain ⟨v, a, z⟩ := h.2 i x q
  exact ⟨v, a, Rv.hide (r := ⟨rho, hid⟩) hD z⟩⟩
end

/-- what stands between two turns of a comprehension whose list grows at D -/
structure CInv (K : PySem.W.Frag) (r1 : Rh) (H1 : Hp) (D : Addr) (env : DEnv) (sg : St) (acc : List DV) (rho : List (Option Addr)) (W : Wd) (H : Hp) : Prop where
  x : Ext r1 H1 ⟨rho, r1.hid⟩ H
  d : ∃ avs, H D = some (.lst avs) ∧ Rvs K ⟨rho, D :: r1.hid⟩ H acc avs
  e : RelE K ⟨rho, D :: r1.hid⟩ H env sg
  w : Hw K ⟨rho, D :: r1.hid⟩ H W
theorem of_comp {K : PySem.W.Frag} {I : IS} {G : GS} {B : EB} {F : ES} {ss : List Nat} : ∀ sg H Q, tX K (eComp ss I G B F) sg H Q → tLc (tXI K I) (tXG K ss G) (tXB K B) (tX K F) ss sg H Q := by
  rintro sg H Q ⟨r, env, W, hE, hw, z, W', e, q⟩
  obtain ⟨xs, W1, e1, e⟩ := mb_inv e
  obtain ⟨ys, W2, e2, e⟩ := mb_inv e
  obtain ⟨rfl, rfl⟩ := mr_inv e
  refine ⟨r, env, W, hE, hw, xs, W1, e1, fun r1 H1 J x1 w1 it D hD => ?_⟩
  refine ⟨fun i m H2 => m = xs.length - i ∧ i ≤ xs.length ∧ ∃ acc rho W2, CInv K r1 H1 D (wipeD env ss) (wipe sg ss) acc rho W2 H2 ∧ cLoop G B F (wipeD env ss) (xs.drop i) acc W2 = some (ys, W'),
    ⟨xs.length, by simp, Nat.zero_le _, [], r1.rho, W1, ⟨Ext.laid hD, ⟨[], upd_same, .nil⟩, RelE.hide hD ((hE.ext x1).wipe ss), Hw.hide w1 hD⟩, e2⟩, ?_⟩
  rintro i m H2 ⟨rfl, hi, acc, rho, W2, iv, e3⟩
  obtain ⟨avs, hDa, ra⟩ := iv.d
  have nD : some D ∉ rho := iv.w.hidnot
  have xw : Exw r1 H1 ⟨rho, D :: r1.hid⟩ H2 := ⟨iv.x.get, iv.x.new, fun a ma na => by
    rcases List.mem_cons.mp ma with z | z
    · rw [z]; exact hD
    · exact absurd z na, iv.x.keep⟩
  obtain ⟨it1, it2⟩ := it ⟨rho, D :: r1.hid⟩ H2 W2 xw iv.w
  by_cases hlt : i < xs.length
  · refine .inr ⟨(it1 i xs[i] (List.getElem?_eq_getElem hlt)).1, fun H3 => i + 1 ≤ xs.length ∧ ∃ acc rho W2, CInv K r1 H1 D (wipeD env ss) (wipe sg ss) acc rho W2 H3 ∧ cLoop G B F (wipeD env ss) (xs.drop (i + 1)) acc W2 = some (ys, W'), fun H3 z => ⟨xs.length - (i + 1), by omega, rfl, z.1, z.2⟩, fun v H3 y => ?_⟩
    obtain ⟨sm, rv⟩ := (it1 i xs[i] (List.getElem?_eq_getElem hlt)).2 v H3 y
    rw [List.drop_eq_getElem_cons hlt] at e3
    obtain ⟨env1, W3, e4, e3⟩ := mb_inv e3
    obtain ⟨b, W4, e5, e3⟩ := mb_inv e3
    have x0 : Ext (⟨rho, D :: r1.hid⟩ : Rh) H2 ⟨rho, D :: r1.hid⟩ H3 := Ext.of_same sm
    refine ⟨_, wipeD env ss, W2, xs[i], iv.e.ext x0, iv.w.same sm, rv, env1, W3, e4, fun r4 H4 sg4 x4 w4 hE4 hq4 => ⟨hq4.trans (wipe_wipe sg ss), ?_⟩⟩
    refine ⟨r4, env1, W3, hE4, w4, b, W4, e5, fun r5 H5 x5 w5 => ?_⟩
    -- back from a later state in which D is hidden
    have back : ∀ (r6 : Rh) (H6 : Hp), Ext (⟨rho, D :: r1.hid⟩ : Rh) H2 r6 H6 → r6 = ⟨r6.rho, D :: r1.hid⟩ ∧ Ext r1 H1 ⟨r6.rho, r1.hid⟩ H6 ∧ H6 D = some (.lst avs) ∧ Rvs K r6 H6 acc avs ∧ RelE K r6 H6 (wipeD env ss) (wipe sg ss) := fun r6 H6 x6 => by
      obtain ⟨rho6, hid6⟩ := r6
      obtain rfl : hid6 = D :: r1.hid := x6.hid
      refine ⟨rfl, ⟨rfl, fun j a q => x6.get j a (iv.x.get j a q), Nat.le_trans iv.x.len x6.len, fun a ma na => ?_, fun a u na qa => x6.keep a u (iv.x.notin qa na) (iv.x.keep a u na qa)⟩, x6.keep D _ nD hDa, ra.ext x6, iv.e.ext x6⟩
      by_cases mm : some a ∈ rho
      · exact iv.x.new a mm na
      · cases qa : H1 a with
        | none => rfl
        | some u =>
          have z := x6.new a ma mm
          rw [iv.x.keep a u na qa] at z; cases z
    cases b with
    | false =>
      refine iteF ?_
      obtain ⟨k1, k2, k3, k4, k5⟩ := back r5 H5 ((x0.trans x4).trans x5)
      rw [k1] at k4 k5 w5
      exact ⟨hlt, acc, r5.rho, W4, ⟨k2, ⟨avs, k3, k4⟩, k5, w5⟩, e3⟩
    | true =>
      refine iteT ?_
      obtain ⟨y', W5, e6, e3⟩ := mb_inv (show mb (F env1) _ W4 = some (ys, W') from e3)
      refine ⟨r5, env1, W4, hE4.ext x5, w5, y', W5, e6, fun r6 H6 u x6 w6 ru => ?_⟩
      obtain ⟨k1, k2, k3, k4, k5⟩ := back r6 H6 (((x0.trans x4).trans x5).trans x6)
      rw [k1] at k4 k5 w6 ru
      have n6 : some D ∉ r6.rho := w6.hidnot
      by_cases c : acc.length < sizeLine
      · rw [if_pos c] at e3
        refine ⟨avs, k3, by rw [← ra.length]; exact c, hlt, acc ++ [y'], r6.rho, W5, ⟨?_, ⟨avs ++ [u], upd_same, ?_⟩, RelE.unhid n6 k5, Hw.unhid w6⟩, e3⟩
        · exact ⟨rfl, k2.get, k2.len, k2.new, fun a o na qa => by rw [upd_ne (ne_of_none qa hD)]; exact k2.keep a o na qa⟩
        · exact (Rvs.unhid (r := ⟨r6.rho, r1.hid⟩) n6 k4).append (.cons (Rv.unhid (r := ⟨r6.rho, r1.hid⟩) n6 ru) .nil)
      · rw [if_neg c] at e3; cases e3
  · have ei : i = xs.length := by omega
    subst ei
    rw [List.drop_length] at e3
    obtain ⟨rfl, rfl⟩ := mr_inv e3
    refine .inl ⟨it2 _ (Nat.le_refl _), q ⟨rho, r1.hid⟩ H2 _ (x1.trans iv.x) (Hw.show iv.w) (.lst ⟨nD, fun m => ?_⟩ hDa (Rvs.show (r := ⟨rho, r1.hid⟩) ra))⟩
    obtain ⟨o, q⟩ := w1.hd D m
    rw [hD] at q; cases q
section
variable {X : Cx} {elt tg iter : Expr} {ifs : List Expr} {scope : Scope} {own : List (Str × Nat)} {pos : Pos} {I : IS} {G : GS} {B : EB} {F : ES}
abbrev DTs (X : Cx) (ifs : List Expr) (B : EB) : Prop := PTs X ifs (tXB X.K B)
def bYes : EB := fun _ => mr true
theorem dts_nil : DTs X [] bYes := ⟨fun _ _ _ H Q I h => wpAny_tests_nil ⟨H, I, by
  obtain ⟨r, env, W, hE, hw, b, W', e, q⟩ := h
  obtain ⟨rfl, rfl⟩ := mr_inv e
  exact q r H (Ext.refl _ _) hw⟩⟩
theorem dts_one {c : Expr} (h : DT X c B) : DTs X [c] B := pts_one h
theorem de_comp (hc : X.calm = true) (hN : X.N.Nodup) (hi : DI X tg iter I) (ok : BlkOk X.N X.env.scope scope own)
    (hg : ∀ (s : Shared) (H : Hp) (C : Addr) (cl : List (Str × Addr)) (fp : List Addr), DG (X.blk s H scope (compEnvC scope cl C X.env) fp) (own.map (·.2)) tg G) (ht : ∀ (s : Shared) (H : Hp) (C : Addr) (cl : List (Str × Addr)) (fp : List Addr), DTs (X.blk s H scope (compEnvC scope cl C X.env) fp) ifs B)
    (he : ∀ (s : Shared) (H : Hp) (C : Addr) (cl : List (Str × Addr)) (fp : List Addr), DE (X.blk s H scope (compEnvC scope cl C X.env) fp) elt F) (hs : ∀ x, foldedSetIterable iter X.env x = pure x := by intro _; rfl) :
    DE X (.ListComp elt [⟨tg, iter, ifs, 0⟩] scope pos) (eComp (own.map (·.2)) I G B F) := pe_imp (pe_lc hc hN hi ok hg ht he hs) of_comp
theorem ds_setLc {i : Nat} {y : Str} {py spos : Pos} (hc : X.calm = true) (hN : X.N.Nodup) (hy : X.N[i]? = some y) (hyl : X.env.scope.names.lookup y = some .local)
    (hsw : swapsWith (.ListComp elt [⟨tg, iter, ifs, 0⟩] scope pos) (some (.Name y py)) spos.line X.env = pure true) (hi : DI X tg iter I) (ok : BlkOk X.N X.env.scope scope own)
    (hg : ∀ (s : Shared) (H : Hp) (C : Addr) (cl : List (Str × Addr)) (fp : List Addr), DG (X.blk s H scope (compEnvC scope cl C X.env) fp) (own.map (·.2)) tg G) (ht : ∀ (s : Shared) (H : Hp) (C : Addr) (cl : List (Str × Addr)) (fp : List Addr), DTs (X.blk s H scope (compEnvC scope cl C X.env) fp) ifs B)
    (he : ∀ (s : Shared) (H : Hp) (C : Addr) (cl : List (Str × Addr)) (fp : List Addr), DE (X.blk s H scope (compEnvC scope cl C X.env) fp) elt F) (hs : ∀ x, foldedSetIterable iter X.env x = pure x := by intro _; rfl) :
    DS X (.Assign [.Name y py] (.ListComp elt [⟨tg, iter, ifs, 0⟩] scope pos) spos) (sAsg (eComp (own.map (·.2)) I G B F) (gN i)) := by
  refine ps_imp (ps_setLc (g := tXG X.K (own.map (·.2)) G) (tt := tXB X.K B) (te := tX X.K F) hc hN hy hyl hsw hi ok hg ht he hs) fun D sg H h => ?_
  obtain ⟨r, env, W, hE, hw, x, W', e, q⟩ := of_asg (ss := [i]) D sg H h
  refine of_comp sg H _ ⟨r, env, W, hE, hw, x, W', e, fun r' H' v x' w' rv => of_gname (ss := [i]) (List.mem_singleton.mpr rfl) _ _ _ _ (q r' H' v x' w' rv)⟩
end

/-! ### a def's end: cells of its own that nobody speaks of are dropped -/
mutual
def DV.lo (n : Nat) : DV → Bool
  | .loc i => decide (i < n)
  | .tup xs => DV.loL n xs
  | .lst xs => DV.loL n xs
  | _ => true
def DV.loL (n : Nat) : List DV → Bool
  | [] => true
  | x :: xs => DV.lo n x && DV.loL n xs
end
def Cell.lo (n : Nat) : Cell → Bool
  | .dead => true
  | .lst xs => DV.loL n xs
def fin (n : Nat) (x : DV) (W : Wd) : Option (DV × Wd) := if W.length = n then some (x, W) else if (x.lo n && (W.take n).all (Cell.lo n)) = true then some (x, W.take n) else some (x, W)
section
variable {K : PySem.W.Frag} {rho : List (Option Addr)} {hid : List Addr} {H : Hp} {n : Nat}
theorem out_take {a : Addr} (h : (⟨rho, hid⟩ : Rh).out a) : (⟨rho.take n, hid⟩ : Rh).out a := ⟨fun m => h.1 (List.mem_of_mem_take m), h.2⟩
mutual
theorem Rv.cut : ∀ {x : DV} {v : V}, x.lo n = true → Rv K ⟨rho, hid⟩ H x v → Rv K ⟨rho.take n, hid⟩ H x v
  | _, _, _, .non => .non
  | _, _, _, .bl b => .bl b
  | _, _, _, .int i => .int i
  | _, _, _, .str s => .str s
  | _, _, _, .cst v => .cst v
  | .loc i, _, b, .loc h => .loc (by
      have l : i < n := of_decide_eq_true b
      show (rho.take n)[i]? = _
      rw [List.getElem?_take]
      rw [if_pos l]; exact h)
  | _, _, _, .scr h => .scr (by
      rcases h with ⟨z, h⟩ | h
      · exact .inl ⟨out_take z, h⟩
      · exact .inr h)
  | .tup xs, _, b, .tup h q => .tup (by
      rcases h with ⟨z, h⟩ | h
      · exact .inl ⟨out_take z, h⟩
      · exact .inr h) (Rvs.cut (show DV.loL n xs = true from b) q)
  | .lst xs, _, b, .lst z h q => .lst (out_take z) h (Rvs.cut (show DV.loL n xs = true from b) q)
theorem Rvs.cut : ∀ {xs : List DV} {vs : List V}, DV.loL n xs = true → Rvs K ⟨rho, hid⟩ H xs vs → Rvs K ⟨rho.take n, hid⟩ H xs vs
  | _, _, _, .nil => .nil
  | x :: xs, _, b, .cons h q => .cons (Rv.cut (Bool.and_eq_true_iff.mp (show (x.lo n && DV.loL n xs) = true from b)).1 h) (Rvs.cut (Bool.and_eq_true_iff.mp (show (x.lo n && DV.loL n xs) = true from b)).2 q)
end
theorem take_get {α : Type} {l : List α} {i : Nat} {a : α} (h : (l.take n)[i]? = some a) : l[i]? = some a ∧ i < n := by
  rw [List.getElem?_take] at h
  split at h
  · rename_i l; exact ⟨h, l⟩
  · cases h
theorem Hw.cut {W : Wd} (h : Hw K ⟨rho, hid⟩ H W) (b : (W.take n).all (Cell.lo n) = true) : Hw K ⟨rho.take n, hid⟩ H (W.take n) where
  len := by show (rho.take n).length = (W.take n).length; rw [List.length_take, List.length_take]; exact congrArg _ h.len
  nd := fun i j a e1 e2 => h.nd i j a (take_get e1).1 (take_get e2).1
  live := fun i c e nd => by
    obtain ⟨e', l⟩ := take_get e
    obtain ⟨a, q⟩ := h.live i c e' nd
    refine ⟨a, ?_⟩
    show (rho.take n)[i]? = _
    rw [List.getElem?_take, if_pos l]; exact q
  sep := fun a m => h.sep a (List.mem_of_mem_take m)
  hd := h.hd
  ok := fun i a c e1 e2 => by
    have k := h.ok i a c (take_get e1).1 (take_get e2).1
    have bc : c.lo n = true := List.all_eq_true.mp b c (mem_of e2)
    cases c with
    | dead => exact k
    | lst xs => obtain ⟨vs, q, z⟩ := k; exact ⟨vs, q, Rvs.cut bc z⟩
theorem Ext.cut {r0 : Rh} {H0 : Hp} {r : Rh} (x : Ext r0 H0 r H) : Ext r0 H0 ⟨r.rho.take r0.rho.length, r.hid⟩ H where
  hid := x.hid
  get := fun i a q => by
    obtain ⟨l, _⟩ := List.getElem?_eq_some_iff.mp q
    show (r.rho.take r0.rho.length)[i]? = _
    rw [List.getElem?_take, if_pos l]; exact x.get i a q
  len := by
    show _ ≤ (r.rho.take _).length
    rw [List.length_take]
    exact Nat.le_min.mpr ⟨Nat.le_refl _, x.len⟩
  new := fun a m na => x.new a (List.mem_of_mem_take m) na
  keep := x.keep
end
theorem fin_ok {K : PySem.W.Frag} {r0 : Rh} {H0 : Hp} {r : Rh} {H : Hp} {W W' : Wd} {x y : DV} {v : V} (x0 : Ext r0 H0 r H) (w : Hw K r H W) (rv : Rv K r H x v) (e : fin r0.rho.length x W = some (y, W')) :
    ∃ r', Ext r0 H0 r' H ∧ Hw K r' H W' ∧ Rv K r' H y v := by
  obtain ⟨rho, hid⟩ := r
  unfold fin at e
  split at e
  · cases e; exact ⟨_, x0, w, rv⟩
  · split at e
    · rename_i c
      cases e
      rw [Bool.and_eq_true] at c
      exact ⟨⟨rho.take r0.rho.length, hid⟩, x0.cut, w.cut c.2, rv.cut c.1⟩
    · cases e; exact ⟨_, x0, w, rv⟩

/-! ### a def -/
def runF (nN : Nat) (S : SS) : List DV → M DV := fun xs W => match S W.length (xs.map some ++ List.replicate (nN - xs.length) none) W with
  | some (.rt x, W') => fin W.length x W'
  | some (.nx _, W') => fin W.length .non W'
  | _ => none
theorem rel_start {K : PySem.W.Frag} {r : Rh} {H : Hp} {N : List Str} {xs : List DV} {vs : List V} (h : Rvs K r H xs vs) : RelE K r H (xs.map some ++ List.replicate (N.length - xs.length) none) (start N vs) := by
  have l := h.length
  refine ⟨by unfold start; rw [List.length_append, List.length_append, List.length_map, List.length_map, List.length_replicate, List.length_replicate, l], fun i x e => ?_⟩
  unfold start
  by_cases hi : i < xs.length
  · rw [List.getElem?_append_left (by rw [List.length_map]; exact hi), List.getElem?_map] at e
    cases q : xs[i]? with
    | none => rw [q] at e; cases e
    | some y =>
      rw [q] at e
      have e' : y = x := Option.some.inj (Option.some.inj e)
      subst e'
      obtain ⟨v, e2, rv⟩ := h.get q
      exact ⟨v, by rw [List.getElem?_append_left (by rw [List.length_map, ← l]; exact hi), List.getElem?_map, e2]; rfl, rv⟩
  · rw [List.getElem?_append_right (by rw [List.length_map]; omega)] at e
    have m := mem_of e
    have := (List.mem_replicate.mp m).2
    cases this
theorem fnD {P : Program} {w : PySem.World} {K : PySem.W.Frag} {mg : Str → Option Value} {base : Heap} {x qual : Str} {st : Stmt} {f : Addr} {fd : FuncData} {N ps : List Str} {k : Nat} {S : SS} (F : Fun K x qual st f fd) (Sc : FnScope N ps (defScope st))
    (hb : ∀ (cdv : Value) (A : Around) (out : List Env) (s : Shared) (H : Hp) (E : XK), Rm k (A.deeper (envOfC qual (defScope st) s.heap.objs.size f cdv)) → DSs (cxOf CX0 P w K mg base N qual (defScope st) f cdv A out s H E).nox (defBody st) S) :
    FnG P w K mg base CX0 (k + 1) f fd ps (spD K ps.length (runF N.length S)) := by
  refine fnG_of F Sc (fun vs H Q E h => ?_) (fun cdv A out s H vs Q E hr h => ?_)
  · obtain ⟨r, W, xs, l, hw, rs, _⟩ := h
    rw [← rs.length]; exact l
  · obtain ⟨r, W, xs, l, hw, rs, z, W', e, q⟩ := h
    refine ⟨_, (hb cdv A out s H E hr).nox, ?_⟩
    unfold runF at e
    rw [← hw.len] at e
    refine ⟨r, H, r, _, W, Ext.refl _ _, rel_start rs, hw, ?_⟩
    split at e
    · rename_i y W1 e1
      refine ⟨_, _, e1, fun r1 H1 x1 w1 v rv => ?_⟩
      obtain ⟨r2, k1, k2, k3⟩ := fin_ok x1 w1 rv e
      exact q r2 H1 v k1 k2 k3
    · rename_i y W1 e1
      refine ⟨_, _, e1, fun r1 H1 x1 w1 sg hE => ?_⟩
      obtain ⟨r2, k1, k2, k3⟩ := fin_ok (x := .non) x1 w1 .non e
      exact q r2 H1 _ k1 k2 k3
    · cases e
/-- the same by another name of what it does -/
theorem FnG.say {P : Program} {w : PySem.World} {K : PySem.W.Frag} {mg : Str → Option Value} {base : Heap} {k n : Nat} {f : Addr} {fd : FuncData} {ps : List Str} {fn fn' : List DV → M DV} (F : FnG P w K mg base CX0 k f fd ps (spD K n fn))
    (h : ∀ xs W z, fn' xs W = some z → fn xs W = some z) : FnG P w K mg base CX0 k f fd ps (spD K n fn') :=
  F.weak fun vs H Q E ⟨r, W, xs, l, hw, rs, z, W', e, q⟩ => ⟨r, W, xs, l, hw, rs, z, W', h _ _ _ e, q⟩
end DL
end L2

set_option maxRecDepth 100000
/-! DLe: operators and built-ins upon data. -/
namespace L2
namespace DL
open PySem PySem.Spec PyProof.Rows

/-! ### data as the library's data -/
mutual
def toPy : DV → Option PyData
  | .non => some .none
  | .bl b => some (.bool b)
  | .int i => some (.int i)
  | .str s => some (.str s)
  | .tup xs => (toPys xs).map .tuple
  | .lst xs => (toPys xs).map .list
  | .scr ns => some (.list (ns.map .int))
  | .loc _ => none
  | .cst _ => none
def toPys : List DV → Option (List PyData)
  | [] => some []
  | x :: xs => (toPy x).bind fun d => (toPys xs).map fun ds => d :: ds
end
theorem dp_ints {K : PySem.W.Frag} {H : Hp} : ∀ ns : List Int, DpAll K H (ns.map V.int) (ns.map PyData.int)
  | [] => .nil
  | n :: ns => .cons (.int n) (dp_ints ns)
section
variable {K : PySem.W.Frag} {r : Rh} {H : Hp}
mutual
theorem Rv.dp : ∀ {x : DV} {v : V} {d : PyData}, Rv K r H x v → toPy x = some d → Dp K H v d
  | _, _, _, .non, e => by cases e; exact .non
  | _, _, _, .bl b, e => by cases e; exact .bl b
  | _, _, _, .int i, e => by cases e; exact .int i
  | _, _, _, .str s, e => by cases e; exact .str s
  | _, _, _, .cst v, e => by cases e
  | _, _, _, .loc h, e => by cases e
  | _, _, _, .scr h, e => by cases e; exact .lst h.sq (dp_ints _)
  | .tup xs, _, _, .tup h q, e => by
    obtain ⟨ds, e1, e2⟩ := Option.map_eq_some_iff.mp (show (toPys xs).map PyData.tuple = some _ from e)
    cases e2
    exact .tup h.sq (Rvs.dp q e1)
  | .lst xs, _, _, .lst z h q, e => by
    obtain ⟨ds, e1, e2⟩ := Option.map_eq_some_iff.mp (show (toPys xs).map PyData.list = some _ from e)
    cases e2
    exact .lst (.of h) (Rvs.dp q e1)
theorem Rvs.dp : ∀ {xs : List DV} {vs : List V} {ds : List PyData}, Rvs K r H xs vs → toPys xs = some ds → DpAll K H vs ds
  | _, _, _, .nil, e => by cases e; exact .nil
  | x :: xs, _, _, .cons h q, e => by
    obtain ⟨d, e1, e2⟩ := Option.bind_eq_some_iff.mp (show (toPy x).bind _ = some _ from e)
    obtain ⟨ds, e3, e4⟩ := Option.map_eq_some_iff.mp e2
    cases e4
    exact .cons (Rv.dp h e1) (Rvs.dp q e3)
end
end

/-! ### operators -/
def mz (o : Option DV) : M DV := mo o
/-- an answer without a new object -/
theorem done0 {K : PySem.W.Frag} {r : Rh} {H : Hp} {W : Wd} {z : DV} {u : V} {Q : VK} (hw : Hw K r H W) (rz : Rv K r H z u) (q : ∀ r' H' u, Ext r H r' H' → Hw K r' H' W → Rv K r' H' z u → Q u H') : Q u H := q r H u (Ext.refl _ _) hw rz
def dI (g : Int → Int → Option DV) (x y : DV) : Option DV := match x, y with
  | .int i, .int j => g i j
  | _, _ => none
theorem dI_inv {g : Int → Int → Option DV} {x y z : DV} (h : dI g x y = some z) : ∃ i j, x = .int i ∧ y = .int j ∧ g i j = some z := by
  unfold dI at h
  split at h
  · exact ⟨_, _, rfl, rfl, h⟩
  · cases h
def oI (g : Int → Int → Option DV) : DV → DV → M DV := fun x y => mo (dI g x y)
theorem od_i0 {K : PySem.W.Frag} {g : Int → Int → Int} : OpD K (rI0 fun i j => .int (g i j)) (oI fun i j => some (.int (g i j))) := by
  intro r H W x y z W' v w Q hw e rx ry q
  replace e := mo_inv e
  obtain ⟨e, rfl⟩ := e
  replace e := dI_inv e
  obtain ⟨i, j, rfl, rfl, e⟩ := e
  cases e
  obtain rfl := rx.int_inv
  obtain rfl := ry.int_inv
  exact ⟨i, j, rfl, rfl, done0 hw (.int _) q⟩
theorem od_b0 {K : PySem.W.Frag} {g : Int → Int → Bool} : OpD K (rI0 fun i j => .bl (g i j)) (oI fun i j => some (.bl (g i j))) := by
  intro r H W x y z W' v w Q hw e rx ry q
  replace e := mo_inv e
  obtain ⟨e, rfl⟩ := e
  replace e := dI_inv e
  obtain ⟨i, j, rfl, rfl, e⟩ := e
  cases e
  obtain rfl := rx.int_inv
  obtain rfl := ry.int_inv
  exact ⟨i, j, rfl, rfl, done0 hw (.bl _) q⟩
theorem od_i {K : PySem.W.Frag} {C : Int → Int → Prop} {c : Int → Int → Bool} {g : Int → Int → Int} (hc : ∀ i j, c i j = true → C i j) : OpD K (rI C fun i j => .int (g i j)) (oI fun i j => if c i j = true then some (.int (g i j)) else none) := by
  intro r H W x y z W' v w Q hw e rx ry q
  replace e := mo_inv e
  obtain ⟨e, rfl⟩ := e
  replace e := dI_inv e
  obtain ⟨i, j, rfl, rfl, e⟩ := e
  obtain ⟨c, rfl⟩ := if_inv e
  obtain rfl := rx.int_inv
  obtain rfl := ry.int_inv
  exact ⟨i, j, rfl, rfl, hc i j c, done0 hw (.int _) q⟩
def oSub := oI fun i j => some (.int (i - j))
def bound64 (i : Int) : Bool := decide (-(2 ^ 64) < i ∧ i < 2 ^ 64)
def oMul := oI fun i j => if (bound64 i || bound64 j) = true then some (.int (i * j)) else none
def oDiv := oI fun i j => if (decide (0 < j ∧ j < 1073741824)) = true then some (.int (i / j)) else none
def oMod := oI fun i j => if (decide (0 < j)) = true then some (.int (i % j)) else none
def oPow := oI fun i j => if (decide (0 ≤ j ∧ j ≤ 1000000 ∧ i.natAbs < 2 ^ 64)) = true then some (.int (i ^ j.toNat)) else none
def oLt := oI fun i j => some (.bl (decide (i < j)))
def oLe := oI fun i j => some (.bl (decide (i ≤ j)))
def oGt := oI fun i j => some (.bl (decide (j < i)))
def oGe := oI fun i j => some (.bl (decide (j ≤ i)))
theorem od_mul {K : PySem.W.Frag} : OpD K (rI CMul fun i j => .int (i * j)) oMul := od_i fun i j h => by
  rcases Bool.or_eq_true_iff.mp h with h | h
  · exact .inl (of_decide_eq_true h)
  · exact .inr (of_decide_eq_true h)
theorem od_div {K : PySem.W.Frag} : OpD K (rI CDiv fun i j => .int (i / j)) oDiv := od_i fun i j h => (of_decide_eq_true h : 0 < j ∧ j < 1073741824)
theorem od_mod {K : PySem.W.Frag} : OpD K (rI (fun _ j => 0 < j) fun i j => .int (i % j)) oMod := od_i fun i j h => of_decide_eq_true h
theorem od_pow {K : PySem.W.Frag} : OpD K (rI CPow fun i j => .int (i ^ j.toNat)) oPow := od_i fun i j h => (of_decide_eq_true h : 0 ≤ j ∧ j ≤ 1000000 ∧ i.natAbs < 2 ^ 64)
section
variable {X : Cx} {a b : Expr} {F F' : ES} {pos : Pos}
theorem de_sub (ha : DE X a F) (hb : DE X b F') : DE X (.BinOp a .Sub b pos) (eO oSub F F') := de_op op_sub od_i0 ha hb
theorem de_mul (ha : DE X a F) (hb : DE X b F') : DE X (.BinOp a .Mult b pos) (eO oMul F F') := de_op op_mul od_mul ha hb
theorem de_div (ha : DE X a F) (hb : DE X b F') : DE X (.BinOp a .FloorDiv b pos) (eO oDiv F F') := de_op op_fdiv od_div ha hb
theorem de_mod (ha : DE X a F) (hb : DE X b F') : DE X (.BinOp a .Mod b pos) (eO oMod F F') := de_op op_mod od_mod ha hb
theorem de_pow (ha : DE X a F) (hb : DE X b F') : DE X (.BinOp a .Pow b pos) (eO oPow F F') := de_op op_pow od_pow ha hb
end
/-- + : ints, texts, tuples, lists -/
def dAdd (x y : DV) : Option DV := match x, y with
  | .int i, .int j => some (.int (i + j))
  | .str i, .str j => if decide (i.length + j.length ≤ sizeLine) = true then some (.str (i ++ j)) else none
  | .lst xs, .lst ys => if decide (xs.length + ys.length ≤ sizeLine) = true then some (.lst (xs ++ ys)) else none
  | .tup xs, .tup ys => if (!xs.isEmpty && decide (xs.length + ys.length ≤ sizeLine)) = true then some (.tup (xs ++ ys)) else none
  | _, _ => none
def oAdd : DV → DV → M DV := fun x y => mo (dAdd x y)
abbrev rAddA (K : PySem.W.Frag) : R2 := fun x y H Q => rI0 (fun i j => .int (i + j)) x y H Q ∨ (∃ i j, x = .str i ∧ y = .str j ∧ i.length + j.length ≤ sizeLine ∧ Q (.str (i ++ j)) H) ∨ rCat x y H Q ∨ rCatT K x y H Q
theorem od_add {K : PySem.W.Frag} : OpD K (rAddA K) oAdd := by
  intro r H W x y z W' v w Q hw e rx ry q
  replace e := mo_inv e
  obtain ⟨e, rfl⟩ := e
  unfold dAdd at e
  split at e
  · cases e
    obtain rfl := rx.int_inv
    obtain rfl := ry.int_inv
    exact .inl ⟨_, _, rfl, rfl, done0 hw (.int _) q⟩
  · obtain ⟨c, rfl⟩ := if_inv e
    obtain rfl := rx.str_inv
    obtain rfl := ry.str_inv
    exact .inr (.inl ⟨_, _, rfl, rfl, of_decide_eq_true c, done0 hw (.str _) q⟩)
  · obtain ⟨c, rfl⟩ := if_inv e
    have l := of_decide_eq_true c
    cases rx with
    | lst z1 h1 q1 =>
      cases ry with
      | lst z2 h2 q2 =>
        refine .inr (.inr (.inl ⟨_, _, _, _, rfl, rfl, h1, h2, by rw [← q1.length, ← q2.length]; exact l, fun p hp => ?_⟩))
        exact q r _ _ (Ext.laid hp) (hw.laid hp) (Rv.newLst hw (q1.append q2) hp)
  · obtain ⟨c, rfl⟩ := if_inv e
    rw [Bool.and_eq_true] at c
    have l := of_decide_eq_true c.2
    cases rx with
    | @tup a1 vs1 xs1 h1 q1 =>
      cases ry with
      | @tup a2 vs2 xs2 h2 q2 =>
        refine .inr (.inr (.inr ⟨_, _, _, _, rfl, rfl, h1.sq, h2.sq, fun z => ?_, by rw [← q1.length, ← q2.length]; exact l, fun z => ?_, fun _ p hp => ?_⟩))
        · subst z
          cases q1
          exact absurd c.1 (by decide)
        · subst z
          cases q2
          rw [List.append_nil] at q
          exact done0 hw (.tup h1 q1) q
        · exact q r _ _ (Ext.laid hp) (hw.laid hp) (Rv.newTup hw (q1.append q2) hp)
  · cases e
/-- == -/
def dEqD (x y : DV) : Option Bool := (toPy x).bind fun d => (toPy y).bind fun e => if (SeqAt.shaped d && SeqAt.shaped e) = true then some (PyData.eqv d e) else none
def dEq (x y : DV) : Option Bool := match x, y with
  | .int i, .int j => some (decide (i = j))
  | .str i, .str j => some (decide (i = j))
  | .bl i, .bl j => some (decide (i = j))
  | _, _ => dEqD x y
def oEq : DV → DV → M DV := fun x y => mo ((dEq x y).map .bl)
def oNe : DV → DV → M DV := fun x y => mo ((dEq x y).map fun b => .bl (!b))
theorem dEqD_inv {x y : DV} {b : Bool} (h : dEqD x y = some b) : ∃ d e, toPy x = some d ∧ toPy y = some e ∧ SeqAt.shaped d = true ∧ SeqAt.shaped e = true ∧ PyData.eqv d e = b := by
  obtain ⟨d, e1, h⟩ := Option.bind_eq_some_iff.mp h
  obtain ⟨e, e2, h⟩ := Option.bind_eq_some_iff.mp h
  obtain ⟨c, h⟩ := if_inv h
  rw [Bool.and_eq_true] at c
  exact ⟨d, e, e1, e2, c.1, c.2, h⟩
theorem dEq_rel {K : PySem.W.Frag} {r : Rh} {H : Hp} {x y : DV} {v w : V} {b : Bool} (h : dEq x y = some b) (rx : Rv K r H x v) (ry : Rv K r H y w) :
    (scal v w = true ∧ b = decide (v = w)) ∨ ∃ d e, Dp K H v d ∧ Dp K H w e ∧ SeqAt.shaped d = true ∧ SeqAt.shaped e = true ∧ PyData.eqv d e = b := by
  unfold dEq at h
  split at h
  · obtain rfl := rx.int_inv
    obtain rfl := ry.int_inv
    cases h
    exact .inl ⟨rfl, by simp⟩
  · obtain rfl := rx.str_inv
    obtain rfl := ry.str_inv
    cases h
    exact .inl ⟨rfl, by simp⟩
  · obtain rfl := rx.bl_inv
    obtain rfl := ry.bl_inv
    cases h
    exact .inl ⟨rfl, by simp⟩
  · obtain ⟨d, e2, h1, h2, s1, s2, e⟩ := dEqD_inv h
    exact .inr ⟨d, e2, rx.dp h1, ry.dp h2, s1, s2, e⟩
theorem od_eq {K : PySem.W.Frag} : OpD K (fun x y H Q => rEq x y H Q ∨ rEqD K x y H Q) oEq := by
  intro r H W x y z W' v w Q hw e rx ry q
  replace e := mo_inv e
  obtain ⟨e, rfl⟩ := e
  replace e := Option.map_eq_some_iff.mp e
  obtain ⟨b, e, rfl⟩ := e
  rcases dEq_rel e rx ry with ⟨h1, rfl⟩ | ⟨d, e2, h1, h2, s1, s2, rfl⟩
  · exact .inl ⟨h1, done0 hw (.bl _) q⟩
  · exact .inr ⟨d, e2, h1, h2, s1, s2, done0 hw (.bl _) q⟩
theorem od_ne {K : PySem.W.Frag} : OpD K (fun x y H Q => rNe x y H Q ∨ rNeD K x y H Q) oNe := by
  intro r H W x y z W' v w Q hw e rx ry q
  replace e := mo_inv e
  obtain ⟨e, rfl⟩ := e
  replace e := Option.map_eq_some_iff.mp e
  obtain ⟨b, e, rfl⟩ := e
  rcases dEq_rel e rx ry with ⟨h1, rfl⟩ | ⟨d, e2, h1, h2, s1, s2, rfl⟩
  · exact .inl ⟨h1, done0 hw (.bl _) q⟩
  · exact .inr ⟨d, e2, h1, h2, s1, s2, done0 hw (.bl _) q⟩
/-- flat data -/
def flatD : DV → Option V
  | .non => some .non
  | .bl b => some (.bl b)
  | .int i => some (.int i)
  | .str s => some (.str s)
  | _ => none
def flatDs : List DV → Option (List V)
  | [] => some []
  | x :: xs => (flatD x).bind fun v => (flatDs xs).map fun vs => v :: vs
theorem Rv.flat {K : PySem.W.Frag} {r : Rh} {H : Hp} {x : DV} {v u : V} (h : Rv K r H x v) (e : flatD x = some u) : v = u ∧ flatV u = true := by
  cases h <;> first | (cases e; exact ⟨rfl, rfl⟩) | cases e
theorem Rvs.flat {K : PySem.W.Frag} {r : Rh} {H : Hp} : ∀ {xs : List DV} {vs us : List V}, Rvs K r H xs vs → flatDs xs = some us → vs = us ∧ us.all flatV = true
  | _, _, _, .nil, e => by cases e; exact ⟨rfl, rfl⟩
  | x :: xs, _, _, .cons h q, e => by
    obtain ⟨u, e1, e2⟩ := Option.bind_eq_some_iff.mp (show (flatD x).bind _ = some _ from e)
    obtain ⟨us, e3, e4⟩ := Option.map_eq_some_iff.mp e2
    cases e4
    obtain ⟨rfl, f1⟩ := h.flat e1
    obtain ⟨rfl, f2⟩ := Rvs.flat q e3
    exact ⟨rfl, by rw [List.all_cons, f1, f2]; rfl⟩
def signOf (s : Str) : Option Nat := match s.cps.toList with
  | [c] => some c
  | _ => none
theorem sign_inv {s : Str} {c : Nat} (h : signOf s = some c) : s = ⟨#[c]⟩ := by
  obtain ⟨⟨l⟩⟩ := s
  unfold signOf at h
  split at h
  · rename_i d e
    cases h
    have e' : l = [c] := e
    rw [e']
  · cases h
/-- in -/
def dIn (x y : DV) : Option Bool := match y with
  | .tup ys => (flatD x).bind fun v => (flatDs ys).map fun vs => inV v vs
  | .lst ys => (flatD x).bind fun v => (flatDs ys).map fun vs => inV v vs
  | .str t => match x with
    | .str s => (signOf s).map fun c => decide (c ∈ t.cps.toList)
    | _ => none
  | _ => none
def oIn : DV → DV → M DV := fun x y => mo ((dIn x y).map .bl)
def oNotIn : DV → DV → M DV := fun x y => mo ((dIn x y).map fun b => .bl (!b))
abbrev rInA (K : PySem.W.Frag) : R2 := fun x y H Q => rIn K false x y H Q ∨ ∃ (c : Nat) (z : Str), x = .str ⟨#[c]⟩ ∧ y = .str z ∧ Q (.bl (decide (c ∈ z.cps.toList))) H
abbrev rNotInA (K : PySem.W.Frag) : R2 := fun x y H Q => rIn K true x y H Q ∨ ∃ (c : Nat) (z : Str), x = .str ⟨#[c]⟩ ∧ y = .str z ∧ Q (.bl (!decide (c ∈ z.cps.toList))) H
theorem dIn_ok {K : PySem.W.Frag} {r : Rh} {H : Hp} {x y : DV} {v w : V} {b : Bool} (h : dIn x y = some b) (rx : Rv K r H x v) (ry : Rv K r H y w) :
    (∃ p xs, w = .ref p ∧ (SqL K H p xs ∨ SqT K H p xs) ∧ flatV v = true ∧ xs.all flatV = true ∧ b = inV v xs) ∨ ∃ (c : Nat) (z : Str), v = .str ⟨#[c]⟩ ∧ w = .str z ∧ b = decide (c ∈ z.cps.toList) := by
  unfold dIn at h
  split at h
  · obtain ⟨u, e1, h⟩ := Option.bind_eq_some_iff.mp h
    obtain ⟨us, e2, rfl⟩ := Option.map_eq_some_iff.mp h
    obtain ⟨rfl, f1⟩ := rx.flat e1
    cases ry with
    | tup hq qs =>
      obtain ⟨rfl, f2⟩ := qs.flat e2
      exact .inl ⟨_, _, rfl, .inr hq.sq, f1, f2, rfl⟩
  · obtain ⟨u, e1, h⟩ := Option.bind_eq_some_iff.mp h
    obtain ⟨us, e2, rfl⟩ := Option.map_eq_some_iff.mp h
    obtain ⟨rfl, f1⟩ := rx.flat e1
    cases ry with
    | lst z hq qs =>
      obtain ⟨rfl, f2⟩ := qs.flat e2
      exact .inl ⟨_, _, rfl, .inl (.of hq), f1, f2, rfl⟩
  · split at h
    · obtain ⟨c, e1, rfl⟩ := Option.map_eq_some_iff.mp h
      have e2 := sign_inv e1
      subst e2
      obtain rfl := rx.str_inv
      obtain rfl := ry.str_inv
      exact .inr ⟨c, _, rfl, rfl, rfl⟩
    · cases h
  · cases h
theorem od_in {K : PySem.W.Frag} : OpD K (rInA K) oIn := by
  intro r H W x y z W' v w Q hw e rx ry q
  replace e := mo_inv e
  obtain ⟨e, rfl⟩ := e
  replace e := Option.map_eq_some_iff.mp e
  obtain ⟨b, e, rfl⟩ := e
  rcases dIn_ok e rx ry with ⟨p, xs, rfl, h1, h2, h3, rfl⟩ | ⟨c, t, rfl, rfl, rfl⟩
  · exact .inl ⟨p, xs, rfl, h1, h2, h3, done0 hw (.bl _) q⟩
  · exact .inr ⟨c, t, rfl, rfl, done0 hw (.bl _) q⟩
theorem od_notIn {K : PySem.W.Frag} : OpD K (rNotInA K) oNotIn := by
  intro r H W x y z W' v w Q hw e rx ry q
  replace e := mo_inv e
  obtain ⟨e, rfl⟩ := e
  replace e := Option.map_eq_some_iff.mp e
  obtain ⟨b, e, rfl⟩ := e
  rcases dIn_ok e rx ry with ⟨p, xs, rfl, h1, h2, h3, rfl⟩ | ⟨c, t, rfl, rfl, rfl⟩
  · exact .inl ⟨p, xs, rfl, h1, h2, h3, done0 hw (.bl _) q⟩
  · exact .inr ⟨c, t, rfl, rfl, done0 hw (.bl _) q⟩
/-- is None -/
def isN : DV → Bool
  | .non => true
  | .cst v => decide (v = .non)
  | _ => false
theorem Rv.isN {K : PySem.W.Frag} {r : Rh} {H : Hp} {x : DV} {v : V} (h : Rv K r H x v) : decide (v = .non) = DL.isN x := by
  cases h <;> first | rfl | simp [DL.isN]
def oIs : DV → DV → M DV := fun x y => mo (match y with | .non => some (.bl (isN x)) | _ => none)
def oIsNot : DV → DV → M DV := fun x y => mo (match y with | .non => some (.bl (!isN x)) | _ => none)
theorem od_is {K : PySem.W.Frag} : OpD K (fun x y H Q => y = .non ∧ Q (.bl (decide (x = .non))) H) oIs := by
  intro r H W x y z W' v w Q hw e rx ry q
  replace e := mo_inv e
  obtain ⟨e, rfl⟩ := e
  split at e
  · cases e
    rw [rx.isN]
    exact ⟨ry.non_inv, done0 hw (.bl _) q⟩
  · cases e
theorem od_isNot {K : PySem.W.Frag} : OpD K (fun x y H Q => y = .non ∧ Q (.bl (!decide (x = .non))) H) oIsNot := by
  intro r H W x y z W' v w Q hw e rx ry q
  replace e := mo_inv e
  obtain ⟨e, rfl⟩ := e
  split at e
  · cases e
    rw [rx.isN]
    exact ⟨ry.non_inv, done0 hw (.bl _) q⟩
  · cases e
section
variable {X : Cx} {a b c : Expr} {F F' F2 : ES} {pos : Pos} {k : Nat}
theorem de_add (ha : DE X a F) (hb : DE X b F') : DE X (.BinOp a .Add b pos) (eO oAdd F F') := de_op (op_add.or (op_add_str.or (op_cat.or op_catT))) od_add ha hb
/-- the rule of a comparison -/
structure CmpR (X : Cx) (op : CmpOp) (G : DV → DV → M DV) : Prop where
  ex : ∃ r2 : R2, OpR X (compareOp op) r2 ∧ OpD X.K r2 G
theorem c_lt : CmpR X .Lt oLt := ⟨_, op_lt, od_b0⟩
theorem c_le : CmpR X .LtE oLe := ⟨_, op_le, od_b0⟩
theorem c_gt : CmpR X .Gt oGt := ⟨_, op_gt, od_b0⟩
theorem c_ge : CmpR X .GtE oGe := ⟨_, op_ge, od_b0⟩
theorem c_eq (hr : Rm k X.A) : CmpR X .Eq oEq := ⟨_, op_eq.or (op_eqD hr.1.units), od_eq⟩
theorem c_ne (hr : Rm k X.A) : CmpR X .NotEq oNe := ⟨_, op_ne.or (op_neD hr.1.units), od_ne⟩
theorem c_in : CmpR X .In oIn := ⟨_, op_in_seq.or op_in_sign, od_in⟩
theorem c_notIn : CmpR X .NotIn oNotIn := ⟨_, op_notIn_seq.or op_notIn_sign, od_notIn⟩
theorem c_is : CmpR X .Is oIs := ⟨_, op_isN, od_is⟩
theorem c_isNot : CmpR X .IsNot oIsNot := ⟨_, op_notN, od_isNot⟩
theorem de_c {op : CmpOp} {G : DV → DV → M DV} (h : CmpR X op G) (ha : DE X a F) (hb : DE X b F') (hm : behindInMarks op b = false := by rfl) : DE X (.Compare a [op] [b] pos) (eO G F F') := by
  obtain ⟨r2, h1, h2⟩ := h.ex
  exact de_cmp h1 h2 ha hb hm
theorem dt_c {op : CmpOp} {G : DV → DV → M DV} (h : CmpR X op G) (ha : DE X a F) (hb : DE X b F') (hm : behindInMarks op b = false := by rfl) : DT X (.Compare a [op] [b] pos) (bT (eO G F F')) := by
  obtain ⟨r2, h1, h2⟩ := h.ex
  exact dt_cmp h1 h2 ha hb hm
theorem of_chain {K : PySem.W.Frag} {r2 r2' : R2} {G G' : DV → DV → M DV} (g : OpD K r2 G) (g' : OpD K r2' G') : ∀ sg H Q, tX K (eCh G G' F F' F2) sg H Q → tChain r2 r2' (tX K F) (tX K F') (tX K F2) sg H Q := by
  rintro sg H Q ⟨r, env, W, hE, hw, z, W', e, q⟩
  obtain ⟨x, W1, e1, e⟩ := mb_inv e
  obtain ⟨y, W2, e2, e⟩ := mb_inv e
  obtain ⟨d, W3, e3, e⟩ := mb_inv e
  obtain ⟨b, W4, e4, e⟩ := mb_inv e
  obtain ⟨rfl, rfl⟩ := mB_inv e4
  refine ⟨r, env, W, hE, hw, x, W1, e1, fun r1 H1 v x1 w1 rx => ?_⟩
  refine ⟨r1, env, W1, hE.ext x1, w1, y, W2, e2, fun r2 H2 w x2 w2 ry => ?_⟩
  refine g r2 H2 W2 x y _ _ v w _ w2 e3 (rx.ext x2) ry fun r3 H3 u x3 w3 ru => ⟨b, ru.bl_inv, ?_⟩
  cases b with
  | true =>
    obtain ⟨z', W5, e5, e⟩ := mb_inv (show mb (F2 env) _ W4 = some (z, W') from e)
    refine iteT ⟨r3, env, W4, hE.ext ((x1.trans x2).trans x3), w3, z', W5, e5, fun r4 H4 u' x4 w4 rz => ?_⟩
    exact g' r4 H4 W5 y z' z W' w u' Q w4 e (ry.ext (x3.trans x4)) rz fun r5 H5 t x5 w5 rt => q r5 H5 t ((((x1.trans x2).trans x3).trans x4).trans x5) w5 rt
  | false =>
    obtain ⟨rfl, rfl⟩ := mr_inv (show mr (DV.bl false) W4 = some (z, W') from e)
    exact iteF (q r3 H3 _ ((x1.trans x2).trans x3) w3 (.bl _))
theorem de_ch {op op' : CmpOp} {G G' : DV → DV → M DV} (h : CmpR X op G) (h' : CmpR X op' G') (ha : DE X a F) (hb : DE X b F') (hc : DE X c F2) (hm : lastMarks [op, op'] [b, c] = false := by with_unfolding_all rfl) : DE X (.Compare a [op, op'] [b, c] pos) (eCh G G' F F' F2) := by
  obtain ⟨r2, h1, h2⟩ := h.ex
  obtain ⟨r2', h3, h4⟩ := h'.ex
  exact pe_imp (pe_chain h1 h3 ha hb hc hm) (of_chain h2 h4)
theorem dt_ch {op op' : CmpOp} {G G' : DV → DV → M DV} (h : CmpR X op G) (h' : CmpR X op' G') (ha : DE X a F) (hb : DE X b F') (hc : DE X c F2) (hm : lastMarks [op, op'] [b, c] = false := by with_unfolding_all rfl) : DT X (.Compare a [op, op'] [b, c] pos) (bT (eCh G G' F F' F2)) := by
  obtain ⟨r2, h1, h2⟩ := h.ex
  obtain ⟨r2', h3, h4⟩ := h'.ex
  exact pt_imp (pt_chain h1 h3 ha hb hc hm) (of_test (of_chain h2 h4))
end
end DL
end L2

set_option maxRecDepth 100000
/-! DLf: subscripts, slices, built-in functions, iterators, append. -/
namespace L2
namespace DL
open PySem PySem.Spec PyProof.Rows

/-! ### subscripts -/
/-- the items of what may be subscripted by a number -/
def itemsOf (W : Wd) : DV → Option (List DV)
  | .tup xs => some xs
  | .lst xs => some xs
  | .scr ns => some (ns.map DV.int)
  | .loc i => match W[i]? with
    | some (.lst xs) => some xs
    | _ => none
  | _ => none
theorem atI_rel {K : PySem.W.Frag} {r : Rh} {H : Hp} {xs : List DV} {vs : List V} {i : Int} {x : DV} (h : Rvs K r H xs vs) (e : atI xs i = some x) : ∃ v, atI vs i = some v ∧ Rv K r H x v := by
  unfold atI at e ⊢
  obtain ⟨j, e1, e2⟩ := Option.bind_eq_some_iff.mp e
  obtain ⟨v, e3, rv⟩ := h.get e2
  exact ⟨v, by rw [← h.length, e1]; exact e3, rv⟩
def oIx : DV → DV → M DV := fun x y W => match y with
  | .int i => match x with
    | .str s => if s.length ≤ sizeLine then ((atI s.cps.toList i).map fun c => DV.str ⟨#[c]⟩).map fun z => (z, W) else none
    | _ => ((itemsOf W x).bind fun xs => atI xs i).map fun z => (z, W)
  | _ => none
abbrev rIxA (K : PySem.W.Frag) : R2 := fun x y H Q => rIxL K x y H Q ∨ rIxT K x y H Q ∨ rIxS x y H Q
theorem items_rel {K : PySem.W.Frag} {r : Rh} {H : Hp} {W : Wd} {x : DV} {xs : List DV} {v : V} (hw : Hw K r H W) (rx : Rv K r H x v) (e : itemsOf W x = some xs) : ∃ a vs, v = .ref a ∧ (SqL K H a vs ∨ SqT K H a vs) ∧ Rvs K r H xs vs := by
  cases rx with
  | tup h q => cases e; exact ⟨_, _, rfl, .inr h.sq, q⟩
  | lst z h q => cases e; exact ⟨_, _, rfl, .inl (.of h), q⟩
  | scr h => cases e; exact ⟨_, _, rfl, .inl h.sq, map_ints _⟩
  | @loc i a h =>
    unfold itemsOf at e
    dsimp only at e
    cases q : W[i]? with
    | none => rw [q] at e; cases e
    | some c =>
      rw [q] at e
      cases c with
      | dead => cases e
      | lst ys =>
        cases e
        obtain ⟨vs, h1, h2⟩ := hw.ok i a _ h q
        exact ⟨a, vs, rfl, .inl (.of h1), h2⟩
  | _ => cases e
theorem od_ix {K : PySem.W.Frag} : OpD K (rIxA K) oIx := by
  intro r H W x y z W' v w Q hw e rx ry q
  unfold oIx at e
  split at e
  · rename_i i
    obtain rfl := ry.int_inv
    split at e
    · rename_i s
      obtain rfl := rx.str_inv
      by_cases l : s.length ≤ sizeLine
      · rw [if_pos l] at e
        obtain ⟨d, e3, e2⟩ := Option.map_eq_some_iff.mp e
        cases e2
        obtain ⟨c, e4, rfl⟩ := Option.map_eq_some_iff.mp e3
        exact .inr (.inr ⟨s, i, c, rfl, rfl, l, e4, done0 hw (.str _) q⟩)
      · rw [if_neg l] at e; cases e
    · obtain ⟨d, e4, e2⟩ := Option.map_eq_some_iff.mp e
      cases e2
      obtain ⟨xs, e1, e5⟩ := Option.bind_eq_some_iff.mp e4
      obtain ⟨a, vs, rfl, hs, rs⟩ := items_rel hw rx e1
      obtain ⟨u, e3, ru⟩ := atI_rel rs e5
      rcases hs with hs | hs
      · exact .inl ⟨a, vs, i, u, rfl, rfl, hs, e3, done0 hw ru q⟩
      · exact .inr (.inl ⟨a, vs, i, u, rfl, rfl, hs, e3, done0 hw ru q⟩)
  · cases e
section
variable {X : Cx} {a b : Expr} {F F' : ES} {pos : Pos}
theorem de_at (ha : DE X a F) (hb : DE X b F') (hs : PlainIx b := by exact fun _ _ => rfl) : DE X (.Subscript a b pos) (eO oIx F F') := de_ix (ix_list.or (ix_tup.or ix_str)) od_ix ha hb hs
end
/-! ### slices -/
def cutD (xs : List DV) (lo hi : Option Int) : List DV := (xs.drop (HT.sIx xs.length 0 lo)).take (HT.sIx xs.length xs.length hi - HT.sIx xs.length 0 lo)
theorem Rvs.cutD {K : PySem.W.Frag} {r : Rh} {H : Hp} {xs : List DV} {vs : List V} (h : Rvs K r H xs vs) (lo hi : Option Int) : Rvs K r H (DL.cutD xs lo hi) (cutV vs lo hi) := by
  unfold DL.cutD cutV
  rw [h.length]
  exact (h.drop _).take _
abbrev EO := DEnv → M (Option Int)
def tXO (K : PySem.W.Frag) (F : EO) : TO := fun sg H Q => ∃ r env W, RelE K r H env sg ∧ Hw K r H W ∧ ∃ x W', F env W = some (x, W') ∧ ∀ r' H', Ext r H r' H' → Hw K r' H' W' → Q x H'
abbrev DO (X : Cx) (e : Option Expr) (F : EO) : Prop := PO X e (tXO X.K F)
theorem po_imp {X : Cx} {e : Option Expr} {t t' : TO} (h : PO X e t) (i : ∀ sg H Q, t' sg H Q → t sg H Q) : PO X e t' := ⟨fun pins s sg H Q I w => h.run pins s sg H Q I (i sg H Q w)⟩
def oNone : EO := fun _ => mr none
def oSome (F : ES) : EO := fun env => mb (F env) fun x => match x with
  | .int i => mr (some i)
  | _ => fun _ => none
def dSl (x : DV) (lo hi : Option Int) : M DV := fun W => match x with
  | .str s => if s.length ≤ sizeLine then some (.str (cutS s lo hi), W) else none
  | .tup xs => if HT.sIx xs.length 0 lo = 0 ∧ HT.sIx xs.length xs.length hi = xs.length then none else some (.tup (cutD xs lo hi), W)
  | .lst xs => some (.lst (cutD xs lo hi), W)
  | .scr ns => some (.lst (cutD (ns.map DV.int) lo hi), W)
  | _ => none
def eSl (F : ES) (L U : EO) : ES := fun env => mb (F env) fun x => mb (L env) fun lo => mb (U env) fun hi => dSl x lo hi
section
variable {X : Cx} {a : Expr} {l u : Option Expr} {F : ES} {L U : EO} {pos p2 : Pos}
theorem do_none : DO X none oNone := by
  refine po_imp po_none ?_
  rintro sg H Q ⟨r, env, W, hE, hw, x, W', e, q⟩
  obtain ⟨rfl, rfl⟩ := mr_inv e
  exact q r H (Ext.refl _ _) hw
theorem do_some (h : DE X a F) : DO X (some a) (oSome F) := by
  refine po_imp (po_some h) ?_
  rintro sg H Q ⟨r, env, W, hE, hw, x, W', e, q⟩
  obtain ⟨y, W1, e1, e⟩ := mb_inv e
  refine ⟨r, env, W, hE, hw, y, W1, e1, fun r1 H1 v x1 w1 rv => ?_⟩
  cases rv with
  | int i =>
    obtain ⟨rfl, rfl⟩ := mr_inv (show mr (some i) W1 = some (x, W') from e)
    exact ⟨i, rfl, q r1 H1 x1 w1⟩
  | _ => cases (show none = some (x, W') from e)
theorem de_slice (he : DE X a F) (hl : DO X l L) (hu : DO X u U) : DE X (.Subscript a (.Slice l u none p2) pos) (eSl F L U) := by
  refine pe_imp (pe_slice (sl_list.or (sl_tup.or sl_str)) he hl hu) ?_
  rintro sg H Q ⟨r, env, W, hE, hw, z, W', e, q⟩
  obtain ⟨x, W1, e1, e⟩ := mb_inv e
  obtain ⟨lo, W2, e2, e⟩ := mb_inv e
  obtain ⟨hi, W3, e3, e⟩ := mb_inv e
  refine ⟨r, env, W, hE, hw, x, W1, e1, fun r1 H1 v x1 w1 rx => ?_⟩
  refine ⟨r1, env, W1, hE.ext x1, w1, lo, W2, e2, fun r2 H2 x2 w2 => ?_⟩
  refine ⟨r2, env, W2, (hE.ext x1).ext x2, w2, hi, W3, e3, fun r3 H3 x3 w3 => ?_⟩
  have x4 := (x1.trans x2).trans x3
  have rx' := rx.ext (x2.trans x3)
  cases rx' with
  | str s =>
    unfold dSl at e
    dsimp only at e
    by_cases c : s.length ≤ sizeLine
    · rw [if_pos c] at e; cases e
      exact .inr (.inr ⟨s, rfl, c, q r3 H3 _ x4 w3 (.str _)⟩)
    · rw [if_neg c] at e; cases e
  | @tup b vs xs h1 q1 =>
    unfold dSl at e
    dsimp only at e
    by_cases c : HT.sIx xs.length 0 lo = 0 ∧ HT.sIx xs.length xs.length hi = xs.length
    · rw [if_pos c] at e; cases e
    · rw [if_neg c] at e; cases e
      refine .inr (.inl ⟨b, vs, rfl, h1.sq, by rw [← q1.length]; exact c, fun p hp => ?_⟩)
      exact q r3 _ _ (x4.trans (Ext.laid hp)) (w3.laid hp) (Rv.newTup w3 (q1.cutD lo hi) hp)
  | @lst b vs xs z1 h1 q1 =>
    cases (show some (DV.lst (cutD xs lo hi), W3) = some (z, W') from e)
    refine .inl ⟨b, vs, rfl, .of h1, fun p hp => ?_⟩
    exact q r3 _ _ (x4.trans (Ext.laid hp)) (w3.laid hp) (Rv.newLst w3 (q1.cutD lo hi) hp)
  | @scr ns b h1 =>
    cases (show some (DV.lst (cutD (ns.map DV.int) lo hi), W3) = some (z, W') from e)
    refine .inl ⟨b, _, rfl, h1.sq, fun p hp => ?_⟩
    exact q r3 _ _ (x4.trans (Ext.laid hp)) (w3.laid hp) (Rv.newLst w3 ((map_ints ns).cutD lo hi) hp)
  | _ => cases (show none = some (z, W') from e)
end
/-! ### built-in functions -/
/-- one argument -/
def k1 (g : DV → M DV) : List DV → M DV := fun xs => match xs with
  | [x] => g x
  | _ => fun _ => none
def k2 (g : DV → DV → M DV) : List DV → M DV := fun xs => match xs with
  | [x, y] => g x y
  | _ => fun _ => none
theorem k1_inv {g : DV → M DV} {xs : List DV} {W : Wd} {z : DV × Wd} (h : k1 g xs W = some z) : ∃ x, xs = [x] ∧ g x W = some z := by
  unfold k1 at h
  split at h
  · exact ⟨_, rfl, h⟩
  · cases h
theorem k2_inv {g : DV → DV → M DV} {xs : List DV} {W : Wd} {z : DV × Wd} (h : k2 g xs W = some z) : ∃ x y, xs = [x, y] ∧ g x y W = some z := by
  unfold k2 at h
  split at h
  · exact ⟨_, _, rfl, h⟩
  · cases h
theorem Rvs.one {K : PySem.W.Frag} {r : Rh} {H : Hp} {x : DV} {vs : List V} (h : Rvs K r H [x] vs) : ∃ v, vs = [v] ∧ Rv K r H x v := by
  cases h with
  | cons h t => cases t; exact ⟨_, rfl, h⟩
theorem Rvs.two {K : PySem.W.Frag} {r : Rh} {H : Hp} {x y : DV} {vs : List V} (h : Rvs K r H [x, y] vs) : ∃ v w, vs = [v, w] ∧ Rv K r H x v ∧ Rv K r H y w := by
  cases h with
  | cons h t =>
    cases t with
    | cons h2 t => cases t; exact ⟨_, _, rfl, h, h2⟩
/-- len -/
def kLen : List DV → M DV := k1 fun x W => match x with
  | .str s => if s.length ≤ sizeLine then some (.int s.length, W) else none
  | _ => (itemsOf W x).map fun xs => (.int xs.length, W)
theorem cd_len {K : PySem.W.Frag} : CallD K (fun xs H Q => ∃ x n, xs = [x] ∧ LenV K x H n ∧ Q (.int n) H) kLen := by
  intro r H W xs z W' vs Q hw e rs q
  replace e := k1_inv e
  obtain ⟨x, rfl, e⟩ := e
  obtain ⟨v, rfl, rx⟩ := rs.one
  try dsimp only at e
  split at e
  · rename_i s
    obtain rfl := rx.str_inv
    by_cases l : s.length ≤ sizeLine
    · rw [if_pos l] at e; cases e
      exact ⟨_, _, rfl, ⟨l, rfl⟩, done0 hw (.int _) q⟩
    · rw [if_neg l] at e; cases e
  · obtain ⟨ys, e1, e2⟩ := Option.map_eq_some_iff.mp e
    cases e2
    obtain ⟨a, us, rfl, hs, rl⟩ := items_rel hw rx e1
    refine ⟨_, ys.length, rfl, ?_, done0 hw (.int _) q⟩
    rcases hs with hs | hs
    · exact .inl ⟨us, hs, rl.length⟩
    · exact .inr ⟨us, hs, rl.length⟩
/-- all -/
def bools : List DV → Option (List Bool)
  | [] => some []
  | .bl b :: xs => (bools xs).map fun bs => b :: bs
  | _ => none
theorem bools_rel {K : PySem.W.Frag} {r : Rh} {H : Hp} : ∀ {xs : List DV} {vs : List V} {bs : List Bool}, Rvs K r H xs vs → bools xs = some bs → vs = bs.map V.bl
  | _, _, _, .nil, e => by cases e; rfl
  | .bl b :: xs, _, _, .cons h t, e => by
    obtain ⟨cs, e1, e2⟩ := Option.map_eq_some_iff.mp (show (bools xs).map _ = some _ from e)
    cases e2
    obtain rfl := h.bl_inv
    rw [bools_rel t e1]; rfl
  | .non :: _, _, _, .cons _ _, e => by cases e
  | .int _ :: _, _, _, .cons _ _, e => by cases e
  | .str _ :: _, _, _, .cons _ _, e => by cases e
  | .tup _ :: _, _, _, .cons _ _, e => by cases e
  | .lst _ :: _, _, _, .cons _ _, e => by cases e
  | .loc _ :: _, _, _, .cons _ _, e => by cases e
  | .cst _ :: _, _, _, .cons _ _, e => by cases e
  | .scr _ :: _, _, _, .cons _ _, e => by cases e
def kAll : List DV → M DV := k1 fun x => mo (match x with
  | .lst xs => (bools xs).map fun bs => .bl (bs.all id)
  | _ => none)
def kAny : List DV → M DV := k1 fun x => mo (match x with
  | .lst xs => (bools xs).map fun bs => .bl (bs.any id)
  | _ => none)
theorem cd_all {K : PySem.W.Frag} : CallD K (rAll K) kAll := by
  intro r H W xs z W' vs Q hw e rs q
  replace e := k1_inv e
  obtain ⟨x, rfl, e⟩ := e
  obtain ⟨v, rfl, rx⟩ := rs.one
  obtain ⟨e5, e6⟩ := mo_inv e
  subst e6
  clear e
  split at e5
  · obtain ⟨bs, e1, rfl⟩ := Option.map_eq_some_iff.mp e5
    cases rx with
    | lst z h t =>
      have e2 := bools_rel t e1
      subst e2
      exact ⟨_, bs, rfl, .of h, done0 hw (.bl _) q⟩
  · cases e5
/-- isinstance -/
def tyD (W : Wd) : DV → Option String
  | .non => some "NoneType"
  | .bl _ => some "bool"
  | .int _ => some "int"
  | .str _ => some "str"
  | .tup _ => some "tuple"
  | .lst _ => some "list"
  | .scr _ => some "list"
  | .loc i => match W[i]? with
    | some (.lst _) => some "list"
    | _ => none
  | .cst _ => none
theorem ty_rel {K : PySem.W.Frag} {r : Rh} {H : Hp} {W : Wd} {x : DV} {v : V} {t : String} (hw : Hw K r H W) (rx : Rv K r H x v) (e : tyD W x = some t) : TyX K H v (.type t) := by
  cases rx with
  | non => cases e; exact .base .non
  | bl b => cases e; exact .base (.bl b)
  | int i => cases e; exact .base (.int i)
  | str s => cases e; exact .base (.str s)
  | cst v => cases e
  | tup h q =>
    cases e
    rcases h with ⟨_, h⟩ | ⟨o, its, n, h1, h2, _⟩
    · exact .base (.tup h)
    · exact .kTuple h1 h2
  | lst z h q => cases e; exact .base (.lst h)
  | scr h =>
    cases e
    rcases h with ⟨_, h | ⟨o, h⟩⟩ | ⟨o, its, n, h1, h2, _⟩
    · exact .base (.lst h)
    · exact .base (.frz h)
    · exact .kList h1 h2
  | @loc i a h =>
    unfold tyD at e
    dsimp only at e
    cases q : W[i]? with
    | none => rw [q] at e; cases e
    | some c =>
      rw [q] at e
      cases c with
      | dead => cases e
      | lst ys =>
        cases e
        obtain ⟨vs, h1, h2⟩ := hw.ok i a _ h q
        exact .base (.lst h1)
/-- is a value of the type t one of the class c -/
def isSub (t c : String) : Bool := t == c || (t == "bool" && c == "int")
def known : List String := ["int", "bool", "str", "tuple", "list"]
def clsOf : DV → Option String
  | .cst (.ty n) => some n
  | _ => none
def clsAll : List DV → Option (List String)
  | [] => some []
  | x :: xs => (clsOf x).bind fun n => (clsAll xs).map fun ns => n :: ns
def kIsi : List DV → M DV := k2 fun x c W => (tyD W x).bind fun t => match c with
  | .tup cs => (clsAll cs).bind fun ns => if ns.all (known.contains ·) = true then some (.bl (ns.any (isSub t)), W) else none
  | _ => (clsOf c).bind fun n => if known.contains n = true then some (.bl (isSub t n), W) else none
theorem kit_known (K : PySem.W.Frag) {t c : String} (ht : t ∈ ["NoneType", "bool", "int", "str", "tuple", "list"]) (hc : known.contains c = true) : PySem.W.kitOne K (.type t) (.type c) = some (isSub t c) := by
  have hc' : c ∈ known := by simpa using hc
  simp only [known, List.mem_cons, List.not_mem_nil, or_false] at ht hc'
  rcases ht with rfl | rfl | rfl | rfl | rfl | rfl <;> rcases hc' with rfl | rfl | rfl | rfl | rfl <;> first | rfl | (with_unfolding_all rfl) | (unfold PySem.W.kitOne PySem.W.kitCls; decide +kernel)
theorem ty_in {W : Wd} {x : DV} {t : String} (e : tyD W x = some t) : t ∈ ["NoneType", "bool", "int", "str", "tuple", "list"] := by
  unfold tyD at e
  split at e <;> first | (cases e; done) | (cases e; decide) | (split at e <;> first | (cases e; done) | (cases e; decide))
theorem kit_all (K : PySem.W.Frag) {t : String} (ht : t ∈ ["NoneType", "bool", "int", "str", "tuple", "list"]) : ∀ ns : List String, ns.all (known.contains ·) = true → PySem.W.kitAny K (.type t) (ns.map Value.type) = some (ns.any (isSub t))
  | [], _ => rfl
  | n :: ns, h => by
    rw [List.all_cons, Bool.and_eq_true] at h
    have i := kit_all K ht ns h.2
    have j := kit_known K ht h.1
    show (match PySem.W.kitOne K (.type t) (.type n) with | some true => some true | some false => PySem.W.kitAny K (.type t) (ns.map Value.type) | none => none) = _
    rw [j, List.any_cons]
    cases isSub t n with
    | true => rfl
    | false => rw [Bool.false_or]; exact i
theorem cls_inv {x : DV} {n : String} (h : clsOf x = some n) : x = .cst (.ty n) := by
  unfold clsOf at h
  split at h
  · cases h; rfl
  · cases h
theorem clsAll_rel {K : PySem.W.Frag} {r : Rh} {H : Hp} : ∀ {xs : List DV} {vs : List V} {ns : List String}, Rvs K r H xs vs → clsAll xs = some ns → Paired ClsV vs (ns.map Value.type)
  | _, _, _, .nil, e => by cases e; exact .nil
  | x :: xs, _, _, .cons h t, e => by
    obtain ⟨n, e1, e2⟩ := Option.bind_eq_some_iff.mp (show (clsOf x).bind _ = some _ from e)
    obtain ⟨ns, e3, e4⟩ := Option.map_eq_some_iff.mp e2
    cases e4
    have := cls_inv e1
    subst this
    obtain rfl := h.cst_inv
    exact .cons (.ty n) (clsAll_rel t e3)
theorem cd_isi {K : PySem.W.Frag} : CallD K (fun xs H Q => rIsi K xs H Q ∨ rIsiT K xs H Q ∨ rIsiK K xs H Q) kIsi := by
  intro r H W xs z W' vs Q hw e rs q
  replace e := k2_inv e
  obtain ⟨x, c, rfl, e⟩ := e
  obtain ⟨v, w, rfl, rx, rc⟩ := rs.two
  obtain ⟨t, e1, e⟩ := Option.bind_eq_some_iff.mp e
  have ty := ty_rel hw rx e1
  have ti := ty_in e1
  split at e
  · rename_i cs
    obtain ⟨ns, e2, e⟩ := Option.bind_eq_some_iff.mp e
    obtain ⟨k, e⟩ := if_inv e
    cases e
    cases rc with
    | @tup tp us _ h t' =>
      have cl := clsAll_rel t' e2
      rcases h with ⟨_, h⟩ | ⟨o, its, n, h1, h2, h3, _, h4⟩
      · exact .inr (.inl ⟨v, tp, us, .type t, ns.map Value.type, _, rfl, h, cl, ty, kit_all K ti ns k, done0 hw (.bl _) q⟩)
      · have e4 : its.toList = ns.map Value.type := ClsV.all cl h4
        obtain ⟨oc, od, oda, osl⟩ := o
        dsimp only at h2 h3
        subst h2 h3
        refine .inr (.inr ⟨v, tp, od, ns.map Value.type, n, osl, .type t, _, rfl, ?_, ty, kit_all K ti ns k, done0 hw (.bl _) q⟩)
        rw [h1, ← e4]
  · obtain ⟨n, e2, e⟩ := Option.bind_eq_some_iff.mp e
    obtain ⟨k, e⟩ := if_inv e
    cases e
    have := cls_inv e2
    subst this
    obtain rfl := rc.cst_inv
    exact .inl ⟨v, .ty n, .type t, .type n, _, rfl, .ty n, ty, kit_known K ti k, done0 hw (.bl _) q⟩
section
variable {X : Cx} {x : Str} {p pos : Pos} {e : Expr} {es : List Expr} {A : EA}
theorem CallR.or {f : Value} {r1 r2 : List V → Hp → VK → Prop} (h : CallR X f r1) (h' : CallR X f r2) : CallR X f (fun xs H Q => r1 xs H Q ∨ r2 xs H Q) := by
  intro pins s sg H xs us Q I rl q
  rcases q with q | q
  · exact h pins s sg H xs us Q I rl q
  · exact h' pins s sg H xs us Q I rl q
/-- a built-in function's rule -/
structure BR (X : Cx) (f : Value) (G : List DV → M DV) : Prop where
  ex : ∃ rc, CallR X f rc ∧ CallD X.K rc G
theorem b_len : BR X (.builtin "len") kLen := ⟨_, call_len, cd_len⟩
theorem b_all (hc : X.calm = true := by rfl) : BR X (.builtin "all") kAll := ⟨_, cr_all hc, cd_all⟩
theorem b_isi : BR X (.builtin "isinstance") kIsi := ⟨_, CallR.or call_isi (CallR.or call_isiT call_isiK), cd_isi⟩
theorem de_b {id : String} {G : List DV → M DV} (h : BR X (.builtin id) G) (hg : Gl X x) (hm : X.mg x = none) (ha : DA X (e :: es) A) (hv : bootBuiltins x = some (.builtin id) := by decide +kernel) (hn : x ≠ "__name__" := by decide) (hdb : (x == ("__debug__" : Str)) = false := by decide)
    (he : starEach (e :: es) X.env = (false, eval e X.env) :: starEach es X.env := by rfl) (hpl : (backTo pos (starEach es X.env)).any (·.1) = false := by rfl) : DE X (.Call (.Name x p) (e :: es) [] pos) (eK G A) := by
  obtain ⟨rc, h1, h2⟩ := h.ex
  exact de_callB h1 h2 hg hm hv ha hn hdb he hpl
theorem de_t {T : String} {G : List DV → M DV} (h : BR X (.type T) G) (hg : Gl X x) (hm : X.mg x = none) (ha : DA X (e :: es) A) (hv : bootBuiltins x = some (.type T) := by decide +kernel) (hn : x ≠ "__name__" := by decide) (hdb : (x == ("__debug__" : Str)) = false := by decide)
    (he : starEach (e :: es) X.env = (false, eval e X.env) :: starEach es X.env := by rfl) (hpl : (backTo pos (starEach es X.env)).any (·.1) = false := by rfl) : DE X (.Call (.Name x p) (e :: es) [] pos) (eK G A) := by
  obtain ⟨rc, h1, h2⟩ := h.ex
  exact de_callTy h1 h2 hg hm hv ha hn hdb he hpl
end
/-! ### int, abs, min, tuple, list -/
def kInt : List DV → M DV := k1 fun x => mo (match x with
  | .int i => some (.int i)
  | .bl b => some (.int (if b then 1 else 0))
  | _ => none)
def kAbs : List DV → M DV := k1 fun x => mo (match x with
  | .int i => some (.int (if i < 0 then -i else i))
  | _ => none)
def kMin2 : List DV → M DV := k2 (oI fun i j => some (.int (if j < i then j else i)))
def kMax2 : List DV → M DV := k2 (oI fun i j => some (.int (if j > i then j else i)))
def kTuple : List DV → M DV := k1 fun x W => match x with
  | .tup xs => some (.tup xs, W)
  | _ => (itemsOf W x).map fun xs => (.tup xs, W)
def kList : List DV → M DV := k1 fun x W => (itemsOf W x).map fun xs => (.lst xs, W)
theorem cd_int {K : PySem.W.Frag} : CallD K (fun xs H Q => (∃ i, xs = [.int i] ∧ Q (.int i) H) ∨ ∃ k, xs = [.bl k] ∧ Q (.int (if k then 1 else 0)) H) kInt := by
  intro r H W xs z W' vs Q hw e rs q
  replace e := k1_inv e
  obtain ⟨x, rfl, e⟩ := e
  obtain ⟨v, rfl, rx⟩ := rs.one
  obtain ⟨e5, e6⟩ := mo_inv e
  subst e6
  clear e
  cases rx with
  | int i => cases e5; exact .inl ⟨i, rfl, done0 hw (.int _) q⟩
  | bl b => cases e5; exact .inr ⟨b, rfl, done0 hw (.int _) q⟩
  | _ => cases e5
theorem cd_abs {K : PySem.W.Frag} : CallD K (fun xs H Q => ∃ i, xs = [.int i] ∧ Q (.int (if i < 0 then -i else i)) H) kAbs := by
  intro r H W xs z W' vs Q hw e rs q
  replace e := k1_inv e
  obtain ⟨x, rfl, e⟩ := e
  obtain ⟨v, rfl, rx⟩ := rs.one
  obtain ⟨e5, e6⟩ := mo_inv e
  subst e6
  clear e
  cases rx with
  | int i => cases e5; exact ⟨i, rfl, done0 hw (.int _) q⟩
  | _ => cases e5
theorem cd_ii {K : PySem.W.Frag} {g : Int → Int → Int} : CallD K (fun xs H Q => ∃ i j, xs = [.int i, .int j] ∧ Q (.int (g i j)) H) (k2 (oI fun i j => some (.int (g i j)))) := by
  intro r H W xs z W' vs Q hw e rs q
  replace e := k2_inv e
  obtain ⟨x, y, rfl, e⟩ := e
  obtain ⟨v, w, rfl, rx, ry⟩ := rs.two
  obtain ⟨e5, e6⟩ := mo_inv e
  subst e6
  clear e
  replace e5 := dI_inv e5
  obtain ⟨i, j, rfl, rfl, e5⟩ := e5
  cases e5
  obtain rfl := rx.int_inv
  obtain rfl := ry.int_inv
  exact ⟨i, j, rfl, done0 hw (.int _) q⟩
theorem cd_tuple {K : PySem.W.Frag} : CallD K (fun xs H Q => ∃ p ys, xs = [.ref p] ∧ ((SqL K H p ys ∧ ∀ l, H l = none → Q (.ref l) (upd H l (.tup ys))) ∨ (SqT K H p ys ∧ Q (.ref p) H))) kTuple := by
  intro r H W xs z W' vs Q hw e rs q
  replace e := k1_inv e
  obtain ⟨x, rfl, e⟩ := e
  obtain ⟨v, rfl, rx⟩ := rs.one
  split at e
  · cases e
    cases rx with
    | tup h t => exact ⟨_, _, rfl, .inr ⟨h.sq, done0 hw (.tup h t) q⟩⟩
  · rename_i nt
    obtain ⟨ys, e1, e2⟩ := Option.map_eq_some_iff.mp e
    cases e2
    obtain ⟨a, us, rfl, hs, rl⟩ := items_rel hw rx e1
    rcases hs with hs | hs
    · exact ⟨a, us, rfl, .inl ⟨hs, fun l hl => q r _ _ (Ext.laid hl) (hw.laid hl) (Rv.newTup hw rl hl)⟩⟩
    · cases rx with
      | @tup b vs zs h t => exact absurd rfl (nt zs)
      | lst z1 h1 t1 =>
        rcases hs with (h2 | ⟨o, h2⟩) | ⟨o, its, n, h2, h3, _⟩
        · rw [h1] at h2; cases h2
        · rw [h1] at h2; cases h2
        · exact ⟨_, _, rfl, .inl ⟨.of h1, fun l hl => q r _ _ (Ext.laid hl) (hw.laid hl) (Rv.newTup hw (by cases e1; exact t1) hl)⟩⟩
      | scr h1 => exact ⟨_, _, rfl, .inl ⟨h1.sq, fun l hl => q r _ _ (Ext.laid hl) (hw.laid hl) (Rv.newTup hw (by cases e1; exact map_ints _) hl)⟩⟩
      | @loc i a h =>
        have e1' := e1
        unfold itemsOf at e1'
        dsimp only at e1'
        cases q2 : W[i]? with
        | none => rw [q2] at e1'; cases e1'
        | some c =>
          rw [q2] at e1'
          cases c with
          | dead => cases e1'
          | lst ws =>
            cases e1'
            obtain ⟨vs2, h1, h2⟩ := hw.ok i a _ h q2
            exact ⟨a, vs2, rfl, .inl ⟨.of h1, fun l hl => q r _ _ (Ext.laid hl) (hw.laid hl) (Rv.newTup hw h2 hl)⟩⟩
      | _ => cases e1
theorem cd_list {K : PySem.W.Frag} : CallD K (fun xs H Q => ∃ p ys, xs = [.ref p] ∧ (SqL K H p ys ∨ SqT K H p ys) ∧ ∀ l, H l = none → Q (.ref l) (upd H l (.lst ys))) kList := by
  intro r H W xs z W' vs Q hw e rs q
  replace e := k1_inv e
  obtain ⟨x, rfl, e⟩ := e
  obtain ⟨v, rfl, rx⟩ := rs.one
  obtain ⟨ys, e1, e2⟩ := Option.map_eq_some_iff.mp e
  cases e2
  obtain ⟨a, us, rfl, hs, rl⟩ := items_rel hw rx e1
  exact ⟨a, us, rfl, hs, fun l hl => q r _ _ (Ext.laid hl) (hw.laid hl) (Rv.newLst hw rl hl)⟩
section
variable {X : Cx}
theorem b_int : BR X (.type "int") kInt := ⟨_, call_int1, cd_int⟩
theorem b_abs : BR X (.builtin "abs") kAbs := ⟨_, call_abs, cd_abs⟩
theorem b_min2 (hc : X.calm = true := by rfl) : BR X (.builtin "min") kMin2 := ⟨_, call_min2 hc, cd_ii⟩
theorem b_max2 (hc : X.calm = true := by rfl) : BR X (.builtin "max") kMax2 := ⟨_, call_max2 hc, cd_ii⟩
theorem b_tuple : BR X (.type "tuple") kTuple := ⟨_, call_tuple_of, cd_tuple⟩
theorem b_list : BR X (.type "list") kList := ⟨_, call_list_of, cd_list⟩
end
end DL
end L2

set_option maxRecDepth 100000
/-! DLh: repr, further iterators, lists changed in place, freezing, the end of a law. -/
namespace L2
namespace DL
open PySem PySem.Spec PyProof.Rows

/-! ### repr -/
def isDisp : PyData → Bool
  | .list _ => true
  | .tuple _ => true
  | _ => false
def rRepr (K : PySem.W.Frag) : List V → Hp → VK → Prop := fun xs H Q => ∃ x d, xs = [x] ∧ Dp K H x d ∧ d.showable = true ∧ d.hasDict = false ∧ d.depth ≤ 64 ∧ d.shown.length ≤ sizeLine ∧ Q (.str d.shown) H
theorem call_repr {X : Cx} (hg : X.A.guards = some []) (hu : X.A.units + 66 < cLine) : CallR X (.builtin "repr") (rRepr X.K) := by
  intro pins s sg H xs us Q I rl h
  obtain ⟨x, d, rfl, hd, sh, nd, dp, sz, q⟩ := h
  obtain ⟨u, rfl, ru⟩ := vals1 rl
  have ans : ∀ (h' : Heap) (t tk : Tok), (∀ b o, s.heap.get? b = some o → h'.get? b = some o) → EP X pins sg Q (.str d.shown t) { s with heap := h', toks := tk } := fun h' t tk k => ⟨.str d.shown, H, I.kept k, ⟨t, rfl⟩, q⟩
  have same : ∀ (t tk : Tok), EP X pins sg Q (.str d.shown t) { s with toks := tk } := fun t tk => ans s.heap t tk fun _ _ z => z
  have deep : ∀ a : Addr, u = .ref a → wpAny (model X.prog X.w) X.A (call (.builtin "repr") [u]) (EP X pins sg Q) X.xe s := fun a ea => by
    obtain ⟨as, r1⟩ := Dp.reads I d x u hd ru
    subst ea
    exact repr_of_reads' r1 sh (PyData.noDict_hsm nd) hg (by omega) (fun _ _ z => z) (fun h' t tk k => ans h' t tk k) sz
  cases hd with
  | non => obtain rfl : u = Value.none := ru; exact PySem.P.repr_of_none (same _ _)
  | bl b => obtain rfl : u = Value.bool b := ru; exact PySem.P.repr_of_bool (same _ _)
  | int i =>
    obtain ⟨t, rfl⟩ : ∃ t, u = Value.int i t := ru
    exact PySem.P.repr_of_int (of_decide_eq_true sh) (same _ _)
  | str z =>
    obtain ⟨t, rfl⟩ : ∃ t, u = Value.str z t := ru
    exact PySem.P.repr_of_str (same _ _) (hsz := sz)
  | lst _ _ => exact deep _ ru
  | tup _ _ => exact deep _ ru
def dRepr (x : DV) : Option Str := (toPy x).bind fun d => if (d.showable && !d.hasDict && decide (d.depth ≤ 64) && decide (d.shown.length ≤ sizeLine)) = true then some d.shown else none
def kRepr : List DV → M DV := k1 fun x => mo ((dRepr x).map .str)
theorem cd_repr {K : PySem.W.Frag} : CallD K (rRepr K) kRepr := by
  intro r H W xs z W' vs Q hw e rs q
  replace e := k1_inv e
  obtain ⟨x, rfl, e⟩ := e
  obtain ⟨v, rfl, rx⟩ := rs.one
  obtain ⟨e5, e6⟩ := mo_inv e
  subst e6
  clear e
  obtain ⟨t, e1, rfl⟩ := Option.map_eq_some_iff.mp e5
  obtain ⟨d, e2, e3⟩ := Option.bind_eq_some_iff.mp e1
  obtain ⟨c, rfl⟩ := if_inv e3
  simp only [Bool.and_eq_true, Bool.not_eq_true', decide_eq_true_eq] at c
  exact ⟨v, d, rfl, rx.dp e2, c.1.1.1, c.1.1.2, c.1.2, c.2, done0 hw (.str _) q⟩
theorem b_repr {X : Cx} {k : Nat} (hr : Rm k X.A) : BR X (.builtin "repr") kRepr := ⟨_, call_repr hr.2 (by have := hr.1.un; omega), cd_repr⟩

/-! ### further iterators -/
/-- the signs of a text -/
def signs (s : Str) : List DV := s.cps.toList.map fun c => DV.str ⟨#[c]⟩
theorem itd_text {K : PySem.W.Frag} {r : Rh} {H : Hp} {s : Str} : ItD K (signs s) r H (Its s) := fun r2 H2 W2 e w => by
  refine ⟨fun i x ex => ?_, fun i l => ?_⟩
  · unfold signs at ex
    rw [List.getElem?_map] at ex
    cases q : s.cps.toList[i]? with
    | none => rw [q] at ex; cases ex
    | some c =>
      rw [q] at ex
      obtain rfl := Option.some.inj ex
      have q' : s.cps[i]? = some c := by rw [← q]; exact (Array.getElem?_toList).symm
      obtain ⟨l, _⟩ := Array.getElem?_eq_some_iff.mp q'
      refine ⟨l, fun u H3 y => ?_⟩
      obtain ⟨rfl, d, qd, rfl⟩ := y
      rw [q'] at qd
      cases qd
      exact ⟨Same.refl _, .str _⟩
  · unfold signs at l
    rw [List.length_map, Array.length_toList] at l
    exact l
def iS (F : ES) : IS := fun env => mb (F env) fun x => match x with
  | .str s => mr (signs s)
  | _ => fun _ => none
/-- lo, lo + c, .. -/
def stepFrom (lo c : Int) (n : Nat) : List DV := (List.range n).map fun i => DV.int (lo + (i : Nat) * c)
theorem stepFrom_get {lo c : Int} {n i : Nat} {x : DV} (h : (stepFrom lo c n)[i]? = some x) : i < n ∧ x = .int (lo + (i : Nat) * c) := by
  unfold stepFrom at h
  rw [List.getElem?_map] at h
  cases q : (List.range n)[i]? with
  | none => rw [q] at h; cases h
  | some j =>
    rw [q] at h
    obtain ⟨l, e⟩ := List.getElem?_eq_some_iff.mp q
    rw [List.getElem_range] at e
    rw [List.length_range] at l
    subst e
    exact ⟨l, (Option.some.inj h).symm⟩
theorem itd_step {K : PySem.W.Frag} {r : Rh} {H : Hp} {lo c : Int} {n : Nat} : ItD K (stepFrom lo c n) r H (Itc lo c n) := fun r2 H2 W2 e w =>
  ⟨fun i x ex => by
    obtain ⟨l, rfl⟩ := stepFrom_get ex
    refine ⟨l, fun u H3 y => ?_⟩
    obtain ⟨rfl, rfl⟩ := y
    exact ⟨Same.refl _, .int _⟩,
  fun i l => by
    have z : (stepFrom lo c n).length = n := by unfold stepFrom; rw [List.length_map, List.length_range]
    rw [z] at l; exact l⟩
/-- range(i, j, -1) -/
def iDown (A : EA) : IS := fun env => mb (A env) fun xs => match xs with
  | [.int i, .int j, .int c] => if (rngOk i && rngOk j && decide (c = -1)) = true then mr (stepFrom i (-1) (i - j).toNat) else fun _ => none
  | _ => fun _ => none
def pairUp : List DV → List DV → List DV
  | x :: xs, y :: ys => .tup [x, y] :: pairUp xs ys
  | _, _ => []
theorem pairUp_get : ∀ {xs ys : List DV} {i : Nat} {z : DV}, (pairUp xs ys)[i]? = some z → ∃ x y, xs[i]? = some x ∧ ys[i]? = some y ∧ z = .tup [x, y]
  | [], ys, i, z, h => by cases ys <;> cases h
  | x :: xs, [], i, z, h => by cases h
  | x :: xs, y :: ys, 0, z, h => by cases h; exact ⟨x, y, rfl, rfl, rfl⟩
  | x :: xs, y :: ys, i + 1, z, h => by
    obtain ⟨a, b, h1, h2, h3⟩ := pairUp_get (xs := xs) (ys := ys) (i := i) (z := z) (by simpa [pairUp] using h)
    exact ⟨a, b, by simpa using h1, by simpa using h2, h3⟩
theorem pairUp_len : ∀ {xs ys : List DV} {i : Nat}, (pairUp xs ys).length ≤ i → xs.length ≤ i ∨ ys.length ≤ i
  | [], ys, i, h => .inl (Nat.zero_le _)
  | x :: xs, [], i, h => .inr (Nat.zero_le _)
  | x :: xs, y :: ys, 0, h => by simp [pairUp] at h
  | x :: xs, y :: ys, i + 1, h => by
    rcases pairUp_len (xs := xs) (ys := ys) (i := i) (by simpa [pairUp] using h) with q | q
    · exact .inl (by simpa using q)
    · exact .inr (by simpa using q)
/-- zip of two lists, or of two tuples -/
def iZ (A : EA) : IS := fun env => mb (A env) fun zs => match zs with
  | [.lst xs, .lst ys] => mr (pairUp xs ys)
  | [.tup xs, .tup ys] => mr (pairUp xs ys)
  | _ => fun _ => none
theorem itd_zipL {K : PySem.W.Frag} {r : Rh} {H : Hp} {a b : Addr} {xs ys : List DV} {vs us : List V} (h1 : ∀ r' H', Exw r H r' H' → SqL K H' a vs) (h2 : ∀ r' H', Exw r H r' H' → SqL K H' b us) (r1 : Rvs K r H xs vs) (r2 : Rvs K r H ys us) : ItD K (pairUp xs ys) r H (Itz K a b) := fun r3 H3 W3 e w =>
  ⟨fun i x ex => by
    obtain ⟨y, z, e1, e2, rfl⟩ := pairUp_get ex
    obtain ⟨v, ev, rv⟩ := r1.get e1
    obtain ⟨u, eu, ru⟩ := r2.get e2
    refine ⟨⟨vs, us, v, u, h1 _ _ e, h2 _ _ e, ev, eu⟩, fun t H4 y => ?_⟩
    obtain ⟨T, v', u', rfl, hT, rfl, k1, k2⟩ := y
    have k1 := k1 _ (h1 _ _ e)
    have k2 := k2 _ (h2 _ _ e)
    rw [ev] at k1; cases k1
    rw [eu] at k2; cases k2
    exact ⟨same_laid hT, Rv.newTup w (.cons (rv.extw e) (.cons (ru.extw e) .nil)) hT⟩,
  fun i l => ⟨vs, us, h1 _ _ e, h2 _ _ e, by
    rcases pairUp_len l with q | q
    · exact .inl (by rw [← r1.length]; exact q)
    · exact .inr (by rw [← r2.length]; exact q)⟩⟩
theorem itd_zipT {K : PySem.W.Frag} {r : Rh} {H : Hp} {a b : Addr} {xs ys : List DV} {vs us : List V} (h1 : ∀ r' H', Exw r H r' H' → SqT K H' a vs) (h2 : ∀ r' H', Exw r H r' H' → SqT K H' b us) (r1 : Rvs K r H xs vs) (r2 : Rvs K r H ys us) : ItD K (pairUp xs ys) r H (RZ.ItzT K a b) := fun r3 H3 W3 e w =>
  ⟨fun i x ex => by
    obtain ⟨y, z, e1, e2, rfl⟩ := pairUp_get ex
    obtain ⟨v, ev, rv⟩ := r1.get e1
    obtain ⟨u, eu, ru⟩ := r2.get e2
    refine ⟨⟨vs, us, v, u, h1 _ _ e, h2 _ _ e, ev, eu⟩, fun t H4 y => ?_⟩
    obtain ⟨T, v', u', rfl, hT, rfl, k1, k2⟩ := y
    have k1 := k1 _ (h1 _ _ e)
    have k2 := k2 _ (h2 _ _ e)
    rw [ev] at k1; cases k1
    rw [eu] at k2; cases k2
    exact ⟨same_laid hT, Rv.newTup w (.cons (rv.extw e) (.cons (ru.extw e) .nil)) hT⟩,
  fun i l => ⟨vs, us, h1 _ _ e, h2 _ _ e, by
    rcases pairUp_len l with q | q
    · exact .inl (by rw [← r1.length]; exact q)
    · exact .inr (by rw [← r2.length]; exact q)⟩⟩
/-- i, x in enumerate(xs) -/
def numbered (k : Nat) : List DV → List DV
  | [] => []
  | x :: xs => .tup [.int (k : Nat), x] :: numbered (k + 1) xs
theorem numbered_get : ∀ {xs : List DV} {k i : Nat} {z : DV}, (numbered k xs)[i]? = some z → ∃ x, xs[i]? = some x ∧ z = .tup [.int ((k + i : Nat) : Int), x]
  | [], k, i, z, h => by cases h
  | x :: xs, k, 0, z, h => by cases h; exact ⟨x, rfl, rfl⟩
  | x :: xs, k, i + 1, z, h => by
    obtain ⟨y, h1, h2⟩ := numbered_get (xs := xs) (k := k + 1) (i := i) (z := z) (by simpa [numbered] using h)
    exact ⟨y, by simpa using h1, by rw [h2]; congr 4; omega⟩
theorem numbered_len : ∀ {xs : List DV} {k : Nat}, (numbered k xs).length = xs.length
  | [], k => rfl
  | x :: xs, k => by show (numbered (k + 1) xs).length + 1 = xs.length + 1; rw [numbered_len]
def iE (A : EA) : IS := fun env => mb (A env) fun zs => match zs with
  | [.lst xs] => mr (numbered 0 xs)
  | _ => fun _ => none
theorem itd_enum {K : PySem.W.Frag} {r : Rh} {H : Hp} {a : Addr} {xs : List DV} {vs : List V} (h1 : ∀ r' H', Exw r H r' H' → SqL K H' a vs) (r1 : Rvs K r H xs vs) : ItD K (numbered 0 xs) r H (Ite K a) := fun r3 H3 W3 e w =>
  ⟨fun i x ex => by
    obtain ⟨y, e1, rfl⟩ := numbered_get ex
    obtain ⟨v, ev, rv⟩ := r1.get e1
    refine ⟨⟨vs, v, h1 _ _ e, ev⟩, fun t H4 y => ?_⟩
    obtain ⟨T, v', rfl, hT, rfl, k1⟩ := y
    have k1 := k1 _ (h1 _ _ e)
    rw [ev] at k1; cases k1
    rw [Nat.zero_add]
    exact ⟨same_laid hT, Rv.newTup w (.cons (.int _) (.cons (rv.extw e) .nil)) hT⟩,
  fun i l => ⟨vs, h1 _ _ e, by rw [numbered_len] at l; rw [← r1.length]; exact l⟩⟩
section
variable {X : Cx} {tg a b c : Expr} {F : ES} {A : EA} {p pos tpos : Pos} {elts : List Expr} {kk : Nat}
theorem di_str (h : DE X a F) : DI X tg a (iS F) := by
  refine pi_imp (pi_str h) ?_
  rintro sg H R ⟨r, env, W, hE, hw, xs, W', e, q⟩
  obtain ⟨x, W1, e1, e⟩ := mb_inv e
  refine ⟨r, env, W, hE, hw, x, W1, e1, fun r1 H1 v x1 w1 rv => ?_⟩
  cases rv with
  | str s =>
    obtain ⟨rfl, rfl⟩ := mr_inv (show mr (signs s) W1 = some (xs, W') from e)
    exact ⟨s, rfl, q r1 H1 _ x1 w1 itd_text⟩
  | _ => cases (show none = some (xs, W') from e)
theorem di_r1 (hg : Gl X "range") (hm : X.mg "range" = none) (ha : DA X [a] A) (hs : starEach [a] X.env = [(false, eval a X.env)] := by rfl) : DI X tg (.Call (.Name "range" p) [a] [] pos) (iR1 A) := di_range1 hg hm ha hs (pi_range1 hg hm ha hs)
theorem di_down (hg : Gl X "range") (hm : X.mg "range" = none) (ha : DA X [a, b, c] A) (hs : starEach [a, b, c] X.env = (false, eval a X.env) :: starEach [b, c] X.env := by rfl) (hpl : (backTo pos (starEach [b, c] X.env)).any (·.1) = false := by rfl) :
    DI X tg (.Call (.Name "range" p) [a, b, c] [] pos) (iDown A) := by
  refine pi_imp (pi_range3 hg hm ha hs hpl) ?_
  rintro sg H R ⟨r, env, W, hE, hw, ys, W', e, q⟩
  obtain ⟨xs, W1, e1, e⟩ := mb_inv e
  refine ⟨r, env, W, hE, hw, xs, W1, e1, fun r1 H1 vs x1 w1 rs => ?_⟩
  try dsimp only at e
  split at e
  · rename_i i j c
    cases rs with
    | cons q1 rs =>
      cases rs with
      | cons q2 rs =>
        cases rs with
        | cons q3 rs =>
          cases rs
          obtain rfl := q1.int_inv
          obtain rfl := q2.int_inv
          obtain rfl := q3.int_inv
          obtain ⟨c', e⟩ := if_some e
          obtain ⟨rfl, rfl⟩ := mr_inv e
          simp only [Bool.and_eq_true] at c'
          have a1 := of_decide_eq_true c'.1.1
          have a2 := of_decide_eq_true c'.1.2
          have a3 : c = -1 := of_decide_eq_true c'.2
          subst a3
          exact ⟨i, j, -1, _, rfl, RgC.neg a1.1 a1.2 a2.1 a2.2, q r1 H1 _ x1 w1 itd_step⟩
  · cases e
theorem di_zip (hg : Gl X "zip") (hm : X.mg "zip" = none) (ha : DA X [a, b] A)
    (hs : starEach [a, b] X.env = (false, eval a X.env) :: starEach [b] X.env := by rfl) (hpl : (backTo pos (starEach [b] X.env)).any (·.1) = false := by rfl) : DI X (.Tuple elts kk tpos) (.Call (.Name "zip" p) [a, b] [] pos) (iZ A) := by
  refine pi_imp (RZ.pi_zipA hg hm ha hs hpl) ?_
  rintro sg H R ⟨r, env, W, hE, hw, ys, W', e, q⟩
  obtain ⟨xs, W1, e1, e⟩ := mb_inv e
  refine ⟨r, env, W, hE, hw, xs, W1, e1, fun r1 H1 vs x1 w1 rs => ?_⟩
  try dsimp only at e
  split at e
  · cases rs with
    | cons q1 rs =>
      cases rs with
      | cons q2 rs =>
        cases rs
        obtain ⟨rfl, rfl⟩ := mr_inv e
        cases q1 with
        | lst z1 h1 t1 =>
          cases q2 with
          | lst z2 h2 t2 => exact ⟨_, _, _, _, rfl, .inl ⟨.of h1, .of h2, q r1 H1 _ x1 w1 (itd_zipL (fun r' H' e' => .of (e'.keep _ _ z1.1 h1)) (fun r' H' e' => .of (e'.keep _ _ z2.1 h2)) t1 t2)⟩⟩
  · cases rs with
    | cons q1 rs =>
      cases rs with
      | cons q2 rs =>
        cases rs
        obtain ⟨rfl, rfl⟩ := mr_inv e
        cases q1 with
        | tup h1 t1 =>
          cases q2 with
          | tup h2 t2 => exact ⟨_, _, _, _, rfl, .inr ⟨h1.sq, h2.sq, q r1 H1 _ x1 w1 (itd_zipT (fun r' H' e' => (h1.extw e').sq) (fun r' H' e' => (h2.extw e').sq) t1 t2)⟩⟩
  · cases e
theorem di_enum (hg : Gl X "enumerate") (hm : X.mg "enumerate" = none) (ha : DA X [a] A) (hs : starEach [a] X.env = [(false, eval a X.env)] := by rfl) : DI X (.Tuple elts kk tpos) (.Call (.Name "enumerate" p) [a] [] pos) (iE A) := by
  refine pi_imp (pi_enum hg hm ha hs) ?_
  rintro sg H R ⟨r, env, W, hE, hw, ys, W', e, q⟩
  obtain ⟨xs, W1, e1, e⟩ := mb_inv e
  refine ⟨r, env, W, hE, hw, xs, W1, e1, fun r1 H1 vs x1 w1 rs => ?_⟩
  try dsimp only at e
  split at e
  · obtain ⟨v, rfl, rx⟩ := rs.one
    obtain ⟨rfl, rfl⟩ := mr_inv e
    cases rx with
    | lst z1 h1 t1 => exact ⟨_, _, rfl, .of h1, q r1 H1 _ x1 w1 (itd_enum (fun r' H' e' => .of (e'.keep _ _ z1.1 h1)) t1)⟩
  · cases e
end
/-! ### lists changed in place -/
def dApp (x y : DV) : M DV := fun W => match x with
  | .loc i => match W[i]? with
    | some (.lst xs) => if xs.length < sizeLine then some (.non, W.set i (.lst (xs ++ [y]))) else none
    | _ => none
  | _ => none
theorem dApp_inv {x y : DV} {W : Wd} {p : DV × Wd} (h : dApp x y W = some p) : ∃ (i : Nat) (xs : List DV), x = .loc i ∧ W[i]? = some (.lst xs) ∧ xs.length < sizeLine ∧ p = (.non, W.set i (.lst (xs ++ [y]))) := by
  unfold dApp at h
  split at h
  · rename_i i
    split at h
    · rename_i xs ex
      by_cases c : xs.length < sizeLine
      · rw [if_pos c] at h; exact ⟨i, xs, rfl, ex, c, (Option.some.inj h).symm⟩
      · rw [if_neg c] at h; cases h
    · cases h
  · cases h
def eApp (F F' : ES) : ES := fun env => mb (F env) fun x => mb (F' env) fun y => dApp x y
theorem loc_inv {K : PySem.W.Frag} {r : Rh} {H : Hp} {i : Nat} {v : V} (h : Rv K r H (.loc i) v) : ∃ a, v = .ref a ∧ r.rho[i]? = some (some a) := by
  cases h with
  | loc h => exact ⟨_, rfl, h⟩
theorem put_list {K : PySem.W.Frag} {r : Rh} {H : Hp} {W : Wd} {i : Nat} {a : Addr} {xs : List DV} {vs : List V} (hw : Hw K r H W) (hi : r.rho[i]? = some (some a)) (rs : Rvs K r H xs vs) : Ext r H r (upd H a (.lst vs)) ∧ Hw K r (upd H a (.lst vs)) (W.set i (.lst xs)) := by
  have e : Ext r H r (upd H a (.lst vs)) := ⟨rfl, fun _ _ q => q, Nat.le_refl _, fun b mb n => absurd mb n, fun b u n q => by rw [upd_ne (fun z => n (by rw [z]; exact mem_of hi))]; exact q⟩
  exact hw.put hi ⟨vs, upd_same, rs.ext e⟩
section
variable {X : Cx} {o a i : Expr} {F F' F2 : ES} {apos cpos pos : Pos}
theorem de_append (ho : DE X o F) (ha : DE X a F') (hbase : attributeBase o "append" X.env (eval o X.env) = eval o X.env := by rfl)
    (hfew : ((backTo cpos (starEach [a] X.env)).all (fun x => !x.1) && (backToKw cpos (keywordEach [] X.env)).all (fun x => x.1.isSome) && decide ([a].length + ([] : List Keyword).length + (if ([] : List Keyword).isEmpty then 0 else 1) < 30)) = true := by rfl)
    (hline : (apos.endLine == cpos.line) = true := by rfl) (hs : starEach [a] X.env = (false, eval a X.env) :: starEach [] X.env := by rfl) (hplain : (backTo cpos (starEach [] X.env)).any (·.1) = false := by rfl) :
    DE X (.Call (.Attribute o "append" apos) [a] [] cpos) (eApp F F') := by
  refine pe_imp (pe_bm PySem.F.plainAttrs_list PySem.F.slot_list_append PySem.F.type_list_append mt_append ho (pa_cons ha pa_nil hs) hbase hfew hline hs hplain) ?_
  rintro sg H Q ⟨r, env, W, hE, hw, z, W', e, q⟩
  obtain ⟨x, W1, e1, e⟩ := mb_inv e
  obtain ⟨y, W2, e2, e⟩ := mb_inv e
  obtain ⟨i, xs, rfl, ex, c, e9⟩ := dApp_inv e
  cases e9
  refine ⟨r, env, W, hE, hw, .loc i, W1, e1, fun r1 H1 v x1 w1 rx => ?_⟩
  obtain ⟨l, rfl, hl⟩ := loc_inv rx
  obtain ⟨c1, hc1⟩ : ∃ c, W1[i]? = some c := by
    have : i < W1.length := by
      rw [← w1.len]
      exact (List.getElem?_eq_some_iff.mp hl).1
    exact ⟨_, List.getElem?_eq_getElem this⟩
  have ok1 := w1.ok i l c1 hl hc1
  refine ⟨?_, ?_⟩
  · cases c1 with
    | dead => exact ok1.elim
    | lst ys => obtain ⟨us, h1, _⟩ := ok1; exact .inl ⟨rfl, us, .of h1⟩
  · refine ⟨r1, env, W1, hE.ext x1, w1, y, W2, e2, fun r2 H2 w x2 w2 ry => ?_⟩
    have hl2 := x2.get _ _ hl
    obtain ⟨vs, h1, h2⟩ := w2.ok i l _ hl2 ex
    obtain ⟨k1, k2⟩ := put_list w2 hl2 (h2.append (.cons ry .nil))
    exact ⟨l, vs, w, rfl, rfl, h1, by rw [← h2.length]; exact c, q r2 _ _ ((x1.trans x2).trans k1) k2 .non⟩
/-- o[i] = v, o a cell -/
def dPut (v x y : DV) : M Unit := fun W => match x, y with
  | .loc i, .int k => match W[i]? with
    | some (.lst xs) => (ixN xs.length k).map fun j => ((), W.set i (.lst (xs.set j v)))
    | _ => none
  | _, _ => none
theorem dPut_inv {v x y : DV} {W : Wd} {p : Unit × Wd} (h : dPut v x y W = some p) : ∃ (i : Nat) (k : Int) (xs : List DV) (j : Nat), x = .loc i ∧ y = .int k ∧ W[i]? = some (.lst xs) ∧ ixN xs.length k = some j ∧ p = ((), W.set i (.lst (xs.set j v))) := by
  unfold dPut at h
  split at h
  · rename_i i k
    split at h
    · rename_i xs ex
      obtain ⟨j, e1, e2⟩ := Option.map_eq_some_iff.mp h
      exact ⟨i, k, xs, j, rfl, rfl, ex, e1, e2.symm⟩
    · cases h
  · cases h
def gSet (F F' : ES) : GS := fun v env => mb (F env) fun x => mb (F' env) fun y => mb (dPut v x y) fun _ => mr env
theorem dg_set {ss : List Nat} (ho : DE X o F) (hi : DE X i F') (ha : ∀ v, assign (.Subscript o i pos) X.env v = (do
      let ov ← holding [v] (eval o X.env)
      let iv ← holding [v, ov] (eval i X.env)
      standAt pos
      holding [v, ov, iv] (setItem ov iv v)
      release [v, ov, iv] []) := by intro _; rfl) : DG X ss (.Subscript o i pos) (gSet F F') := by
  refine pg_imp (pg_sub ho hi set_list ha) ?_
  rintro v sg H Q ⟨r, env, W, x, hE, hw, rx, env', W', e, q⟩
  obtain ⟨y, W1, e1, e⟩ := mb_inv e
  obtain ⟨z, W2, e2, e⟩ := mb_inv e
  obtain ⟨_, W3, e3, e⟩ := mb_inv e
  obtain ⟨rfl, rfl⟩ := mr_inv e
  obtain ⟨i, k, xs, j, rfl, rfl, ex, ej, e9⟩ := dPut_inv e3
  cases e9
  refine ⟨r, env', W, hE, hw, _, W1, e1, fun r1 H1 v1 x1 w1 ry => ?_⟩
  refine ⟨r1, env', W1, hE.ext x1, w1, _, W2, e2, fun r2 H2 v2 x2 w2 rz => ?_⟩
  obtain ⟨l, rfl, hl⟩ := loc_inv ry
  obtain rfl := rz.int_inv
  have hl2 := x2.get _ _ hl
  obtain ⟨vs, h1, h2⟩ := w2.ok i l _ hl2 ex
  obtain ⟨k1, k2⟩ := put_list w2 hl2 (h2.set (rx.ext (x1.trans x2)) j)
  exact ⟨l, vs, k, j, rfl, rfl, h1, by rw [← h2.length]; exact ej, q r2 _ sg ((x1.trans x2).trans k1) k2 ((hE.ext (x1.trans x2)).ext k1) rfl⟩
end
/-! ### freezing: the last cell, spoken of by one slot alone, becomes plain data -/
def optLo (n : Nat) : Option DV → Bool
  | some x => x.lo n
  | none => true
def frz (i n : Nat) (env : DEnv) (W : Wd) : Option (DEnv × Wd) := match env[i]?.join with
  | some (.loc j) => match W[j]? with
    | some (.lst xs) => if (decide (j + 1 = W.length) && decide (n ≤ j) && DV.loL j xs && (env.set i none).all (optLo j) && (W.take j).all (Cell.lo j)) = true then some (env.set i (some (.lst xs)), W.take j) else none
    | _ => none
  | _ => none
def sFrz (i : Nat) (T : SS) : SS := fun n env W => match frz i n env W with
  | some (env', W') => T n env' W'
  | none => none
theorem frz_inv {i n : Nat} {env : DEnv} {W : Wd} {p : DEnv × Wd} (h : frz i n env W = some p) : ∃ (j : Nat) (xs : List DV), env[i]? = some (some (.loc j)) ∧ W[j]? = some (.lst xs) ∧ j + 1 = W.length ∧ n ≤ j ∧ DV.loL j xs = true ∧ (env.set i none).all (optLo j) = true ∧ (W.take j).all (Cell.lo j) = true ∧ p = (env.set i (some (.lst xs)), W.take j) := by
  unfold frz at h
  split at h
  · rename_i j ej
    split at h
    · rename_i xs ex
      obtain ⟨c, e⟩ := if_inv h
      simp only [Bool.and_eq_true] at c
      refine ⟨j, xs, ?_, ex, of_decide_eq_true c.1.1.1.1, of_decide_eq_true c.1.1.1.2, c.1.1.2, c.1.2, c.2, e.symm⟩
      cases q : env[i]? with
      | none => rw [q] at ej; cases ej
      | some o => rw [q] at ej; exact congrArg some ej
    · cases h
  · cases h
theorem dss_frz {X : Cx} {i : Nat} {sts : List Stmt} {T : SS} (h : DSs X sts T) : DSs X sts (sFrz i T) := by
  refine pss_imp h ?_
  rintro D sg H ⟨r0, H0, r, env, W, x0, hE, hw, f, W', e, q⟩
  unfold sFrz at e
  split at e
  · rename_i env' W1 e1
    obtain ⟨j, xs, h1, h2, h3, h4, h5, h6, h7, e9⟩ := frz_inv e1
    cases e9
    obtain ⟨rho, hid⟩ := r
    obtain ⟨v, hv, rv⟩ := hE.2 i _ h1
    obtain ⟨a, rfl, ha⟩ := loc_inv rv
    obtain ⟨vs, hl, rs⟩ := hw.ok j a _ ha h2
    have outa : (⟨rho.take j, hid⟩ : Rh).out a := ⟨fun m => by
      obtain ⟨i', l', e'⟩ := List.mem_iff_getElem.mp m
      have q' : (rho.take j)[i']? = some (some a) := by rw [List.getElem?_eq_getElem l', e']
      obtain ⟨q1, q2⟩ := take_get q'
      have := hw.nd i' j a q1 ha
      omega, hw.sep a (mem_of ha)⟩
    refine ⟨r0, H0, ⟨rho.take j, hid⟩, _, _, ⟨x0.hid, fun k b qb => ?_, ?_, fun b m nb => x0.new b (List.mem_of_mem_take m) nb, x0.keep⟩, ⟨?_, fun k x qx => ?_⟩, hw.cut h7, f, W', e, q⟩
    · obtain ⟨l, _⟩ := List.getElem?_eq_some_iff.mp qb
      show (rho.take j)[k]? = _
      rw [List.getElem?_take, if_pos (Nat.lt_of_lt_of_le l h4)]
      exact x0.get k b qb
    · show _ ≤ (rho.take j).length
      rw [List.length_take]
      have := hw.len
      exact Nat.le_min.mpr ⟨h4, x0.len⟩
    · rw [List.length_set]; exact hE.1
    · by_cases hk : k = i
      · subst hk
        rw [List.getElem?_set] at qx
        split at qx
        · split at qx
          · obtain rfl := Option.some.inj (Option.some.inj qx)
            exact ⟨_, hv, .lst outa hl (Rvs.cut h5 rs)⟩
          · cases qx
        · rename_i z; exact absurd rfl z
      · rw [List.getElem?_set_ne (Ne.symm hk)] at qx
        obtain ⟨u, e1, ru⟩ := hE.2 k x qx
        refine ⟨u, e1, Rv.cut ?_ ru⟩
        have m : some x ∈ env.set i none := mem_of (i := k) (by rw [List.getElem?_set_ne (Ne.symm hk)]; exact qx)
        exact List.all_eq_true.mp h6 _ m
  · cases e
/-! ### the end of a law -/
theorem go_law {P : Program} {w : PySem.World} {K : PySem.W.Frag} {mg mb : Str → Option Value} {k : Nat} {fa a : Addr} {fd : FuncData} {x : Str} {fn : List DV → M DV} {s : Shared} {ns : List Int} {H : Hp}
    (KX : K.In s.heap) (gl : s.heap.Ns mainGlobals mg) (bl : s.heap.Ns builtinsNs mb) (bb : ∀ x : Str, x ≠ "__name__" → mb x = bootBuiltins x) (lim : s.heap.NoLimit) (gens : s.gens = #[]) (hr : Room k callerA)
    (hob : ∃ o its n, s.heap.get? a = some o ∧ o.data = Data.seq its n) (hok : HOk P w H s.heap) (only : ∀ b o, H b = some o → b = a ∧ K.lookup a = none ∧ ∃ ob xs, o = .frz ob (.lst xs)) (sq : SQ K ⟨[], []⟩ H a (ns.map V.int))
    (F : ∀ base : Heap, K.In base → base.Ns mainGlobals mg → FnG P w K mg base CX0 k fa fd [x] (spD K 1 fn)) (hb : ∀ (s : Shared) (u : Value), BindsTo s fd ⟨[u], []⟩ [(x, u)]) (hf : ∃ W', fn [.scr ns] [] = some (.bl true, W')) :
    codeAny (model P w) callerA (.call (.ref fa) ⟨[.ref a], []⟩) (fun r s' => r = .ok (.ret (.bool true)) ∧ OldK s.heap s'.heap ∧ s'.os = s.os ∧ AllBare s'.gens) s := by
  have noDict : ∀ {b : Addr} {o : Obj} {es : Array DictEntry} {ep : Nat}, s.heap.get? b = some o → o.data = .dict es ep → H b = none := fun {b o es ep} e d => by
    cases q : H b with
    | none => rfl
    | some u =>
      obtain ⟨rfl, _⟩ := only b u q
      obtain ⟨o', its, n, h1, h2⟩ := hob
      rw [e] at h1; cases h1
      rw [d] at h2; cases h2
  have ns' : ∀ {b : Addr} {m : Str → Option Value}, s.heap.Ns b m → (hidT s.heap H).Ns b m := fun {b m} ⟨o, es, ep, e, d, z⟩ => ⟨o, es, ep, hidT_get e (noDict e d), d, z⟩
  have KB : K.In (hidT s.heap H) := fun b o e => hidT_get (KX b o e) (by
    cases q : H b with
    | none => rfl
    | some u =>
      obtain ⟨rfl, h, _⟩ := only b u q
      rw [h] at e; cases e)
  obtain ⟨mc, l1, l2⟩ := lim
  have e0 : Env0 P w K mg (hidT s.heap H) callerA [] s H := ⟨rfl, ⟨KB, ns' gl, ⟨mb, ns' bl, bb⟩, ⟨mc, ns' l1, l2⟩⟩, fun b o e => of_hidT e, Nat.le_of_eq (hidT_size _ _), trivial, fun b hb => absurd (show b ∈ ([] : List Addr) from hb) (by simp), hok, .of_eq gens⟩
  obtain ⟨W', hf⟩ := hf
  refine codeAny_mono ((F _ KB (ns' gl)).go callerA [] s H ⟨[.ref a], []⟩ [.ref a] [.ref a] (fun v _ => v = .bl true) (fun _ _ _ => False) ⟨hr, rfl⟩ e0 (hb s (.ref a)) (.cons rfl .nil)
    ⟨⟨[], []⟩, [], [.scr ns], rfl, ⟨rfl, fun i j b q => by simp at q, fun i b c q => by simp at q, fun i c q => by simp at q, fun b m => absurd m (by simp), fun b m => absurd m (by simp)⟩, .cons (.scr sq) .nil, _, _, hf, fun r' H' v _ _ rv => rv.bl_inv⟩) fun r s' h => ?_
  match r, h with
  | .ok (.ret u), ⟨v, H', os, bare, un, hok', ru, (ev : v = .bl true)⟩ =>
    subst ev
    obtain rfl : u = Value.bool true := ru
    refine ⟨rfl, OldK.of_keep fun b o e => ?_, os, bare⟩
    cases q : H b with
    | none => exact un.keep b o e q (by intro z; exact absurd (show b ∈ ([] : List Addr) from z) (by simp)) (by simp)
    | some u =>
      obtain ⟨rfl, _, ob, xs, rfl⟩ := only b u q
      obtain ⟨e1, _⟩ := hok b _ q
      obtain ⟨e2, _⟩ := hok' b _ (un.frzs b ob _ q)
      rw [e] at e1; cases e1
      exact e2
/-- the goal that the head leaves -/
theorem end_law {l : PySem.W.OpenLaw} {n k : Nat} {q : Program} {loose : List Str} {XP : (Str → Option Value) → Heap → Prop} {YP : PySem.World → Heap → Prop} {d : DefRec} {K : Params → PySem.W.Frag} {fn : List DV → M DV} {x : Str}
    (hn : l.most = some n) (hn2 : n ≤ sizeLine) (hdf : d.params.defaults = []) (hr : Room k callerA) (hY : ∀ (w : PySem.World) (h : Heap), YP w h → (K w.params).In h)
    (F : ∀ (w : PySem.World) (mg : Str → Option Value) (fa : Addr) (h : Heap), (K w.params).In h → h.Ns mainGlobals mg → mg d.name = some (.ref fa) →
      ∃ fd : FuncData, (∀ (s : Shared) (u : Value), BindsTo s fd ⟨[u], []⟩ [(x, u)]) ∧ ∀ base : Heap, (K w.params).In base → base.Ns mainGlobals mg → FnG l.prog w (K w.params) mg base CX0 k fa fd [x] (spD (K w.params) 1 fn))
    (hf : ∀ ns : List Int, ns.length ≤ n → ∃ W', fn [.scr ns] [] = some (.bl true, W')) :
    PySem.W.WalkO q loose XP YP l.row.toRowW d [] (fun f vs => PySem.call f vs) := by
  refine Att.attach_call hn hdf fun w s0 s1 mg mb fa o pm cd doc a vs ns G Y ho hd hcd hmg hobj hints hlen hg => ?_
  have KX := hY w _ Y
  obtain ⟨fd, hb, hF⟩ := F w mg fa _ KX G.T.g hmg
  have rv := vals_ints hints
  have lenV := hints.length
  have small : ns.length ≤ sizeLine := Nat.le_trans hlen hn2
  cases hk : (K w.params).lookup a with
  | some ob =>
    have e := KX a ob hk
    rw [hobj] at e; cases e
    exact go_law (H := fun _ => none) KX G.T.g G.T.b G.T.builtins G.T.nolimit hg hr ⟨_, _, _, hobj, rfl⟩ (fun b u z => by cases (show (none : Option HO) = some u from z)) (fun b u z => by cases (show (none : Option HO) = some u from z))
      (.inr ⟨_, vs.toArray, _, hk, rfl, rfl, rfl, by rw [List.size_toArray, lenV]; exact small, by simpa using rv⟩) hF hb (hf ns hlen)
  | none =>
    have at_a : ∀ b u, (if b = a then some (HO.frz { cls := .type "list", data := .seq vs.toArray } (.lst (ns.map V.int))) else none) = some u → b = a ∧ u = .frz { cls := .type "list", data := .seq vs.toArray } (.lst (ns.map V.int)) := fun b u z => by
      by_cases hb : b = a
      · rw [if_pos hb] at z; exact ⟨hb, (Option.some.inj z).symm⟩
      · rw [if_neg hb] at z; cases z
    refine go_law (H := fun b => if b = a then some (.frz { cls := .type "list", data := .seq vs.toArray } (.lst (ns.map V.int))) else none) KX G.T.g G.T.b G.T.builtins G.T.nolimit hg hr ⟨_, _, _, hobj, rfl⟩ (fun b u z => ?_) (fun b u z => ?_)
      (.inl ⟨⟨by simp, by simp⟩, .inr ⟨_, if_pos rfl⟩⟩) hF hb (hf ns hlen)
    · obtain ⟨rfl, rfl⟩ := at_a b u z
      exact ⟨hobj, by rw [List.length_map]; exact small, vs, _, rv, hobj⟩
    · obtain ⟨rfl, rfl⟩ := at_a b u z
      exact ⟨rfl, hk, _, _, rfl⟩
end DL
end L2

set_option maxRecDepth 100000
/-! DLi: unpacking, -n, two targets. -/
namespace L2
namespace DL
open PySem PySem.Spec PyProof.Rows
section
variable {X : Cx} {ss : List Nat}
def gQ (n : Nat) (Gs : GSs) : GS := fun x env => match x with
  | .tup xs => if (xs.length == n) = true then Gs xs env else fun _ => none
  | .lst xs => if (xs.length == n) = true then Gs xs env else fun _ => none
  | _ => fun _ => none
theorem pg_or {e : Expr} {t t' : TG} (h : PG X e t) (h' : PG X e t') : PG X e (fun v sg H Q => t v sg H Q ∨ t' v sg H Q) := ⟨fun pins s sg H v u Q I rl w => by
  rcases w with w | w
  · exact h.run pins s sg H v u Q I rl w
  · exact h'.run pins s sg H v u Q I rl w⟩
theorem dg_seq {es : List Expr} {k : Nat} {Gs : GSs} {n : Nat} {pos : Pos} (hc : X.calm = true) (h : DGs X ss es Gs)
    (hn : (assignEach es X.env).length = n := by rfl) (hst : (assignEach es X.env).findIdx? (·.1) = none := by rfl) : DG X ss (.Tuple es k pos) (gQ n Gs) := by
  refine pg_imp (pg_or (pg_tup hc h hn hst) (pg_unl hc h hn hst)) ?_
  rintro v sg H Q ⟨r, env, W, x, hE, hw, rx, env', W', e, q⟩
  unfold gQ at e
  split at e
  · rename_i xs
    cases rx with
    | @tup a vs _ hq rs =>
      by_cases c : (xs.length == n) = true
      · rw [if_pos c] at e
        exact .inl ⟨a, vs, rfl, hq.sq, by rw [← rs.length]; simpa using c, r, env, W, xs, hE, hw, rs, env', W', e, q⟩
      · rw [if_neg c] at e; cases e
  · rename_i xs
    cases rx with
    | @lst a vs _ z hq rs =>
      by_cases c : (xs.length == n) = true
      · rw [if_pos c] at e
        exact .inr ⟨a, vs, rfl, .of hq, by rw [← rs.length]; simpa using c, r, env, W, xs, hE, hw, rs, env', W', e, q⟩
      · rw [if_neg c] at e; cases e
  · cases e
def eNeg (F : ES) : ES := fun env => mb (F env) fun x => mo (match x with
  | .int i => some (.int (-i))
  | _ => none)
theorem de_neg {a : Expr} {F : ES} {pos : Pos} (h : DE X a F) : DE X (.UnaryOp .USub a pos) (eNeg F) := by
  refine pe_imp (pe_un un_neg h) ?_
  rintro sg H Q ⟨r, env, W, hE, hw, z, W', e, q⟩
  obtain ⟨x, W1, e1, e⟩ := mb_inv e
  obtain ⟨e2, rfl⟩ := mo_inv e
  refine ⟨r, env, W, hE, hw, x, _, e1, fun r1 H1 v x1 w1 rx => ?_⟩
  cases rx with
  | int i => cases e2; exact ⟨i, rfl, q r1 H1 _ x1 w1 (.int _)⟩
  | _ => cases e2
theorem ds_two {i j : Nat} {x y : Str} {a b : Expr} {A : EA} {px py pt pos : Pos} {kt k2 pt2} (hc : X.calm = true) (hN : X.N.Nodup) (hi : X.N[i]? = some x) (hj : X.N[j]? = some y) (hij : i ≠ j)
    (hx : X.env.scope.names.lookup x = some .local) (hy : X.env.scope.names.lookup y = some .local) (ha : DA X [a, b] A)
    (hw : swappedStores [.Tuple [.Name x px, .Name y py] kt pt] (.Tuple [a, b] k2 pt2) X.env = pure (some [x, y]))
    (hs : swapsWithSole [.Tuple [.Name x px, .Name y py] kt pt] (.Tuple [a, b] k2 pt2) pos.line X.env = pure false := by rfl) :
    DS X (.Assign [.Tuple [.Name x px, .Name y py] kt pt] (.Tuple [a, b] k2 pt2) pos) (sPar i j A) := ds_par hc hN hi hj hij hx hy ha (ps_par hc hN hi hj hij hx hy ha hw hs)
theorem ds_mulset {i : Nat} {x : Str} {e : Expr} {F : ES} {pos pos' : Pos} (hN : X.N.Nodup) (hi : X.N[i]? = some x) (hx : Loc X.env.scope x) (he : DE X e F) (h : PS X (.AugAssign (.Name x pos') .Mult e pos) (tAug i (tX X.K F) (rI CMul fun i j => .int (i * j)))) : DS X (.AugAssign (.Name x pos') .Mult e pos) (sAug i F oMul) := ds_aug h od_mul
theorem ds_addset {i : Nat} {x : Str} {e : Expr} {F : ES} {pos pos' : Pos} (hN : X.N.Nodup) (hi : X.N[i]? = some x) (hx : Loc X.env.scope x) (he : DE X e F) (h : PS X (.AugAssign (.Name x pos') .Add e pos) (tAug i (tX X.K F) (rI0 fun i j => .int (i + j)))) : DS X (.AugAssign (.Name x pos') .Add e pos) (sAug i F (oI fun i j => some (.int (i + j)))) := ds_aug h od_i0
end
end DL
end L2

set_option maxRecDepth 100000
/-! DLs: how the combinators are reckoned (for simp). -/
namespace L2
namespace DL
open PySem PySem.Spec PyProof.Rows
theorem mb_apply {α β : Type} (m : M α) (k : α → M β) (W : Wd) : mb m k W = (m W).bind fun p => k p.1 p.2 := by
  unfold mb
  cases m W with
  | none => rfl
  | some p => rfl
@[simp] theorem mr_apply {α : Type} (a : α) (W : Wd) : mr a W = some (a, W) := rfl
@[simp] theorem mo_some {α : Type} (a : α) (W : Wd) : mo (some a) W = some (a, W) := rfl
@[simp] theorem mo_none {α : Type} (W : Wd) : mo (none : Option α) W = none := rfl
@[simp] theorem mB_bl (b : Bool) (W : Wd) : mB (.bl b) W = some (b, W) := rfl
theorem fin_same {n : Nat} {x : DV} {W : Wd} (h : W.length = n) : fin n x W = some (x, W) := by unfold fin; rw [if_pos h]
theorem runF_rt {nN : Nat} {S : SS} {xs : List DV} {W W' : Wd} {x : DV} (h : S W.length (xs.map some ++ List.replicate (nN - xs.length) none) W = some (.rt x, W')) (l : W'.length = W.length) : runF nN S xs W = some (x, W') := by
  unfold runF
  rw [h]
  exact fin_same l
theorem runF_nx {nN : Nat} {S : SS} {xs : List DV} {W W' : Wd} {e : DEnv} (h : S W.length (xs.map some ++ List.replicate (nN - xs.length) none) W = some (.nx e, W')) (l : W'.length = W.length) : runF nN S xs W = some (.non, W') := by
  unfold runF
  rw [h]
  exact fin_same l
/-- a def whose own cells are dropped -/
theorem runF_cut {nN : Nat} {S : SS} {xs : List DV} {W W' : Wd} {x : DV} (h : S W.length (xs.map some ++ List.replicate (nN - xs.length) none) W = some (.rt x, W')) (l : W.length < W'.length) (c : (x.lo W.length && (W'.take W.length).all (Cell.lo W.length)) = true) : runF nN S xs W = some (x, W'.take W.length) := by
  unfold runF
  rw [h]
  show fin W.length x W' = _
  unfold fin
  rw [if_neg (by omega), if_pos c]
theorem runF_keep {nN : Nat} {S : SS} {xs : List DV} {W W' : Wd} {x : DV} (h : S W.length (xs.map some ++ List.replicate (nN - xs.length) none) W = some (.rt x, W')) (l : W.length < W'.length) (c : x.lo W.length = false) : runF nN S xs W = some (x, W') := by
  unfold runF
  rw [h]
  show fin W.length x W' = _
  unfold fin
  rw [if_neg (by omega), c]
  rfl
@[simp] theorem k1_one (g : DV → M DV) (x : DV) : k1 g [x] = g x := rfl
@[simp] theorem k2_two (g : DV → DV → M DV) (x y : DV) : k2 g [x, y] = g x y := rfl
/-! expressions -/
section
variable (F F' F2 : ES) (A : EA) (B B' : EB) (G G' : DV → DV → M DV) (env : DEnv) (W : Wd) (n : Nat) (S T : SS)
@[simp] theorem r_eV (i : Nat) : eV i env W = mo (env[i]?.join) W := rfl
@[simp] theorem r_eC (d : DV) : eC d env W = some (d, W) := rfl
@[simp] theorem r_eO : eO G F F' env W = (F env W).bind fun p => (F' env p.2).bind fun q => G p.1 q.1 q.2 := by simp [eO, mb_apply]
@[simp] theorem r_bT : bT F env W = (F env W).bind fun p => mB p.1 p.2 := by simp [bT, mb_apply]
@[simp] theorem r_bNot : bNot B env W = (B env W).bind fun p => some (!p.1, p.2) := by simp [bNot, mb_apply]
@[simp] theorem r_bAnd : bAnd B B' env W = (B env W).bind fun p => if p.1 = true then B' env p.2 else some (false, p.2) := by
  simp only [bAnd, mb_apply]
  congr 1
  funext p
  split <;> rfl
@[simp] theorem r_bOr : bOr B B' env W = (B env W).bind fun p => if p.1 = true then some (true, p.2) else B' env p.2 := by
  simp only [bOr, mb_apply]
  congr 1
  funext p
  split <;> rfl
@[simp] theorem r_eAnd : eAnd F F' env W = (F env W).bind fun p => (mB p.1 p.2).bind fun q => if q.1 = true then F' env q.2 else some (.bl false, q.2) := by
  simp only [eAnd, mb_apply]
  congr 1
  funext p
  congr 1
  funext q
  split <;> rfl
@[simp] theorem r_eOr : eOr F F' env W = (F env W).bind fun p => (mB p.1 p.2).bind fun q => if q.1 = true then some (.bl true, q.2) else F' env q.2 := by
  simp only [eOr, mb_apply]
  congr 1
  funext p
  congr 1
  funext q
  split <;> rfl
@[simp] theorem r_eNot : eNot F env W = (F env W).bind fun p => (mB p.1 p.2).bind fun q => some (.bl (!q.1), q.2) := by simp [eNot, mb_apply]
@[simp] theorem r_eIf : eIf B F F' env W = (B env W).bind fun p => if p.1 = true then F env p.2 else F' env p.2 := by
  simp only [eIf, mb_apply]
  congr 1
  funext p
  split <;> rfl
@[simp] theorem r_eCh : eCh G G' F F' F2 env W = (F env W).bind fun p => (F' env p.2).bind fun q => (G p.1 q.1 q.2).bind fun c => (mB c.1 c.2).bind fun b => if b.1 = true then (F2 env b.2).bind fun z => G' q.1 z.1 z.2 else some (.bl false, b.2) := by
  simp only [eCh, mb_apply]
  congr 1
  funext p
  congr 1
  funext q
  congr 1
  funext c
  congr 1
  funext b
  split <;> simp [mb_apply]
@[simp] theorem r_aN : aN env W = some ([], W) := rfl
@[simp] theorem r_aC : aC F A env W = (F env W).bind fun p => (A env p.2).bind fun q => some (p.1 :: q.1, q.2) := by simp [aC, mb_apply]
@[simp] theorem r_eTup : eTup A env W = (A env W).bind fun p => mo (if lineOk p.1 = true then some (.tup p.1) else none) p.2 := by simp [eTup, mb_apply]
@[simp] theorem r_eLst : eLst A env W = (A env W).bind fun p => mo (if lineOk p.1 = true then some (.lst p.1) else none) p.2 := by simp [eLst, mb_apply]
@[simp] theorem r_eNew : eNew A env W = (A env W).bind fun p => if lineOk p.1 = true then some (.loc p.2.length, p.2 ++ [.lst p.1]) else none := by simp [eNew, mb_apply]
@[simp] theorem r_eK (g : List DV → M DV) : eK g A env W = (A env W).bind fun p => g p.1 p.2 := by simp [eK, mb_apply]
theorem app_ite {α : Type} {c : Prop} [Decidable c] (m : M α) (W : Wd) : (if c then m else fun _ => none) W = if c then m W else none := by split <;> rfl
@[simp] theorem r_eF (fn : List DV → M DV) : eF n fn A env W = (A env W).bind fun p => if (p.1.length == n) = true then fn p.1 p.2 else none := by simp only [eF, mb_apply, app_ite]
@[simp] theorem r_eFK (m : Nat) (ix : List Nat) (fn : List DV → M DV) : eFK n m ix fn A env W = (A env W).bind fun p => if (p.1.length == m) = true then (if ((perm ix p.1).length == n) = true then fn (perm ix p.1) p.2 else none) else none := by simp only [eFK, mb_apply, app_ite]
def negD : DV → Option DV
  | .int i => some (.int (-i))
  | _ => none
@[simp] theorem r_eNeg : eNeg F env W = (F env W).bind fun p => mo (negD p.1) p.2 := by
  simp only [eNeg, mb_apply]
  cases F env W with
  | none => rfl
  | some p =>
    obtain ⟨x, W1⟩ := p
    cases x <;> rfl
@[simp] theorem negD_int (i : Int) : negD (.int i) = some (.int (-i)) := rfl
@[simp] theorem r_eSl (L U : EO) : eSl F L U env W = (F env W).bind fun p => (L env p.2).bind fun l => (U env l.2).bind fun u => dSl p.1 l.1 u.1 u.2 := by simp only [eSl, mb_apply]
@[simp] theorem r_oNone : oNone env W = some (none, W) := rfl
def toI : DV → Option (Option Int)
  | .int i => some (some i)
  | _ => none
@[simp] theorem r_oSome : oSome F env W = (F env W).bind fun p => mo (toI p.1) p.2 := by
  simp only [oSome, mb_apply]
  congr 1
  funext p
  obtain ⟨x, W1⟩ := p
  cases x <;> rfl
@[simp] theorem r_eApp : eApp F F' env W = (F env W).bind fun p => (F' env p.2).bind fun q => dApp p.1 q.1 q.2 := by simp only [eApp, mb_apply]
@[simp] theorem r_eComp (ss : List Nat) (I : IS) (g : GS) : eComp ss I g B F env W = (I env W).bind fun p => (cLoop g B F (wipeD env ss) p.1 [] p.2).bind fun q => some (.lst q.1, q.2) := by simp only [eComp, mb_apply, mr_apply]
/-! operators -/
@[simp] theorem r_oI (g : Int → Int → Option DV) (i j : Int) : oI g (.int i) (.int j) W = mo (g i j) W := rfl
@[simp] theorem r_oSub (i j : Int) : oSub (.int i) (.int j) W = some (.int (i - j), W) := rfl
@[simp] theorem r_oMul (i j : Int) : oMul (.int i) (.int j) W = mo (if (bound64 i || bound64 j) = true then some (.int (i * j)) else none) W := rfl
@[simp] theorem r_oDiv (i j : Int) : oDiv (.int i) (.int j) W = mo (if (decide (0 < j ∧ j < 1073741824)) = true then some (.int (i / j)) else none) W := rfl
@[simp] theorem r_oMod (i j : Int) : oMod (.int i) (.int j) W = mo (if (decide (0 < j)) = true then some (.int (i % j)) else none) W := rfl
@[simp] theorem r_oLt (i j : Int) : oLt (.int i) (.int j) W = some (.bl (decide (i < j)), W) := rfl
@[simp] theorem r_oLe (i j : Int) : oLe (.int i) (.int j) W = some (.bl (decide (i ≤ j)), W) := rfl
@[simp] theorem r_oGt (i j : Int) : oGt (.int i) (.int j) W = some (.bl (decide (j < i)), W) := rfl
@[simp] theorem r_oGe (i j : Int) : oGe (.int i) (.int j) W = some (.bl (decide (j ≤ i)), W) := rfl
@[simp] theorem r_oAddI (i j : Int) : oAdd (.int i) (.int j) W = some (.int (i + j), W) := rfl
@[simp] theorem r_oEqI (i j : Int) : oEq (.int i) (.int j) W = some (.bl (decide (i = j)), W) := rfl
@[simp] theorem r_oEqB (i j : Bool) : oEq (.bl i) (.bl j) W = some (.bl (decide (i = j)), W) := rfl
@[simp] theorem r_oEqS (i j : Str) : oEq (.str i) (.str j) W = some (.bl (decide (i = j)), W) := rfl
@[simp] theorem r_oNeI (i j : Int) : oNe (.int i) (.int j) W = some (.bl (!decide (i = j)), W) := rfl
@[simp] theorem r_oNeB (i j : Bool) : oNe (.bl i) (.bl j) W = some (.bl (!decide (i = j)), W) := rfl
@[simp] theorem r_oNeS (i j : Str) : oNe (.str i) (.str j) W = some (.bl (!decide (i = j)), W) := rfl
/-! statements -/
def seqK (T : SS) (n : Nat) : Fl × Wd → Option (Fl × Wd)
  | (.nx e, W) => T n e W
  | p => some p
@[simp] theorem seqK_nx (e : DEnv) : seqK T n (.nx e, W) = T n e W := rfl
@[simp] theorem seqK_rt (x : DV) : seqK T n (.rt x, W) = some (.rt x, W) := rfl
@[simp] theorem seqK_bk (e : DEnv) : seqK T n (.bk e, W) = some (.bk e, W) := rfl
@[simp] theorem seqK_ct (e : DEnv) : seqK T n (.ct e, W) = some (.ct e, W) := rfl
@[simp] theorem r_sSeq : sSeq S T n env W = (S n env W).bind (seqK T n) := by
  simp only [sSeq, mb_apply]
  congr 1
  funext p
  obtain ⟨f, W1⟩ := p
  cases f <;> rfl
@[simp] theorem r_sNil : sNil n env W = some (.nx env, W) := rfl
@[simp] theorem r_sExpr : sExpr F n env W = (F env W).bind fun p => some (.nx env, p.2) := by simp only [sExpr, mb_apply, mr_apply]
@[simp] theorem r_sRet : sRet F n env W = (F env W).bind fun p => some (.rt p.1, p.2) := by simp only [sRet, mb_apply, mr_apply]
@[simp] theorem r_sIf : sIf B S T n env W = (B env W).bind fun p => if p.1 = true then S n env p.2 else T n env p.2 := by
  simp only [sIf, mb_apply]
  congr 1
  funext p
  split <;> rfl
@[simp] theorem r_sAsg (g : GS) : sAsg F g n env W = (F env W).bind fun p => (g p.1 env p.2).bind fun q => some (.nx q.1, q.2) := by simp only [sAsg, mb_apply, mr_apply]
@[simp] theorem r_gN (i : Nat) (x : DV) : gN i x env W = some (env.set i (some x), W) := rfl
@[simp] theorem r_sPar (i j : Nat) (F1 F2 : ES) : sPar i j (aC F1 (aC F2 aN)) n env W = (F1 env W).bind fun p => (F2 env p.2).bind fun q => some (.nx ((env.set i (some p.1)).set j (some q.1)), q.2) := by
  simp only [sPar, mb_apply, r_aC, r_aN]
  cases F1 env W with
  | none => rfl
  | some p =>
    obtain ⟨x, W1⟩ := p
    simp only [Option.bind_some]
    cases F2 env W1 with
    | none => rfl
    | some q => rfl
@[simp] theorem r_sAug (i : Nat) : sAug i F G n env W = (mo (env[i]?.join) W).bind fun p => (F env p.2).bind fun q => (G p.1 q.1 q.2).bind fun z => some (.nx (env.set i (some z.1)), z.2) := by simp only [sAug, mb_apply, mr_apply, r_eV]
@[simp] theorem r_gSet (v : DV) : gSet F F' v env W = (F env W).bind fun p => (F' env p.2).bind fun q => (dPut v p.1 q.1 q.2).bind fun z => some (env, z.2) := by simp only [gSet, mb_apply, mr_apply]
@[simp] theorem r_gsN : gsN [] env W = some (env, W) := rfl
@[simp] theorem r_gsC (g : GS) (gs : GSs) (x : DV) (xs : List DV) : gsC g gs (x :: xs) env W = (g x env W).bind fun p => gs xs p.1 p.2 := by simp only [gsC, mb_apply]
@[simp] theorem r_gQt (gs : GSs) (xs : List DV) : gQ n gs (.tup xs) env W = if (xs.length == n) = true then gs xs env W else none := by simp only [gQ, app_ite]
@[simp] theorem r_gQl (gs : GSs) (xs : List DV) : gQ n gs (.lst xs) env W = if (xs.length == n) = true then gs xs env W else none := by simp only [gQ, app_ite]
/-! loops -/
def loopK (g : GS) (S : SS) (n : Nat) (xs : List DV) : Fl × Wd → Option (Fl × Wd)
  | (.nx e, W) => sLoop g S n xs e W
  | (.ct e, W) => sLoop g S n xs e W
  | (.bk e, W) => some (.nx e, W)
  | (.rt v, W) => some (.rt v, W)
@[simp] theorem loopK_nx (g : GS) (xs : List DV) (e : DEnv) : loopK g S n xs (.nx e, W) = sLoop g S n xs e W := rfl
@[simp] theorem loopK_ct (g : GS) (xs : List DV) (e : DEnv) : loopK g S n xs (.ct e, W) = sLoop g S n xs e W := rfl
@[simp] theorem loopK_bk (g : GS) (xs : List DV) (e : DEnv) : loopK g S n xs (.bk e, W) = some (.nx e, W) := rfl
@[simp] theorem loopK_rt (g : GS) (xs : List DV) (v : DV) : loopK g S n xs (.rt v, W) = some (.rt v, W) := rfl
@[simp] theorem r_sLoop0 (g : GS) : sLoop g S n [] env W = some (.nx env, W) := rfl
@[simp] theorem r_sLoop (g : GS) (x : DV) (xs : List DV) : sLoop g S n (x :: xs) env W = (g x env W).bind fun p => (S n p.1 p.2).bind (loopK g S n xs) := by
  simp only [sLoop, mb_apply]
  congr 1
  funext p
  congr 1
  funext q
  obtain ⟨f, W1⟩ := q
  cases f <;> rfl
@[simp] theorem r_sFor (I : IS) (g : GS) : sFor I g S n env W = (I env W).bind fun p => sLoop g S p.2.length p.1 env p.2 := by simp only [sFor, mb_apply]
@[simp] theorem r_cLoop0 (g : GS) (acc : List DV) : cLoop g B F env [] acc W = some (acc, W) := rfl
@[simp] theorem r_cLoop (g : GS) (x : DV) (xs acc : List DV) : cLoop g B F env (x :: xs) acc W = (g x env W).bind fun p => (B p.1 p.2).bind fun b => if b.1 = true then (F p.1 b.2).bind fun y => if acc.length < sizeLine then cLoop g B F env xs (acc ++ [y.1]) y.2 else none else cLoop g B F env xs acc b.2 := by
  simp only [cLoop, mb_apply]
  congr 1
  funext p
  congr 1
  funext b
  split
  · rw [mb_apply]
    congr 1
    funext y
    split <;> rfl
  · rfl
@[simp] theorem r_bYes : bYes env W = some (true, W) := rfl
def itL : DV → Option (List DV)
  | .lst xs => some xs
  | .scr ns => some (ns.map DV.int)
  | _ => none
@[simp] theorem r_iD : iD F env W = (F env W).bind fun p => mo (itL p.1) p.2 := by
  simp only [iD, mb_apply]
  congr 1
  funext p
  obtain ⟨x, W1⟩ := p
  cases x <;> rfl
def itS : DV → Option (List DV)
  | .str s => some (signs s)
  | _ => none
@[simp] theorem r_iS : iS F env W = (F env W).bind fun p => mo (itS p.1) p.2 := by
  simp only [iS, mb_apply]
  congr 1
  funext p
  obtain ⟨x, W1⟩ := p
  cases x <;> rfl
def itT : DV → Option (List DV)
  | .tup xs => some xs
  | _ => none
@[simp] theorem r_iT : iT F env W = (F env W).bind fun p => mo (itT p.1) p.2 := by
  simp only [iT, mb_apply]
  congr 1
  funext p
  obtain ⟨x, W1⟩ := p
  cases x <;> rfl
def itR : List DV → Option (List DV)
  | [.int j] => if rngOk j = true then some (upFrom 0 j.toNat) else none
  | _ => none
@[simp] theorem r_iR1 : iR1 A env W = (A env W).bind fun p => mo (itR p.1) p.2 := by
  simp only [iR1, mb_apply]
  congr 1
  funext p
  obtain ⟨x, W1⟩ := p
  rcases x with _ | ⟨a, _ | ⟨b, t⟩⟩
  · rfl
  · cases a with
    | int j =>
      show (if rngOk j = true then mr (upFrom 0 j.toNat) else fun _ => none) W1 = mo (if rngOk j = true then some (upFrom 0 j.toNat) else none) W1
      split <;> rfl
    | _ => rfl
  · cases a <;> rfl
@[simp] theorem itR_int (j : Int) : itR [.int j] = if rngOk j = true then some (upFrom 0 j.toNat) else none := rfl
@[simp] theorem itL_lst (xs : List DV) : itL (.lst xs) = some xs := rfl
@[simp] theorem itT_tup (xs : List DV) : itT (.tup xs) = some xs := rfl
@[simp] theorem itS_str (t : Str) : itS (.str t) = some (signs t) := rfl
end
end DL
end L2

set_option maxRecDepth 100000
/-! k00: what the defs do, as functions of the deep layer (printed by gen.py). -/
namespace L2
namespace K00
open PySem PySem.Spec PyProof.Rows DL
def b_is_number : SS := (sRet (eAnd (eK kIsi (aC (eV 0) (aC (eC (.cst (.ty "int"))) aN))) (eNot (eK kIsi (aC (eV 0) (aC (eC (.cst (.ty "bool"))) aN))))))
def f_is_number : List DV → M DV := runF 1 b_is_number
def b_power_L1 : SS := (sAug 2 (eV 0) oMul)
def b_power : SS := (sSeq (sAsg (eC (.int 1)) (gN 2))
    (sSeq (sFor (iR1 (aC (eV 1) aN)) (gN 3) b_power_L1)
    (sRet (eV 2))))
def f_power : List DV → M DV := runF 4 b_power
def b_is_name : SS := (sSeq (sIf (bOr (bNot (bT (eK kIsi (aC (eV 0) (aC (eC (.cst (.ty "str"))) aN))))) (bNot (bT (eCh oLe oLe (eC (.int 1)) (eK kLen (aC (eV 0) aN)) (eC (.int 8)))))) (sRet (eC (.bl false))) sNil)
    (sRet (eK kAll (aC (eComp [1] (iS (eV 0)) (gN 1) bYes (eO oIn (eV 1) (eC (.str "abcdefghijklmnopqrstuvwxyz")))) aN))))
def f_is_name : List DV → M DV := runF 2 b_is_name
def b_is_shape : SS := (sSeq (sIf (bOr (bNot (bT (eK kIsi (aC (eV 0) (aC (eC (.cst (.ty "tuple"))) aN))))) (bOr (bT (eO oNe (eK kLen (aC (eV 0) aN)) (eC (.int 2)))) (bOr (bNot (bT (eF 1 f_is_number (aC (eO oIx (eV 0) (eC (.int 0))) aN)))) (bNot (bT (eF 1 f_is_number (aC (eO oIx (eV 0) (eC (.int 1))) aN))))))) (sRet (eC (.bl false))) sNil)
    (sRet (eAnd (eO oIn (eO oIx (eV 0) (eC (.int 0))) (eC (.tup [(.int 2), (.int 3), (.int 4)]))) (eO oIn (eO oIx (eV 0) (eC (.int 1))) (eC (.tup [(.int 1), (.int 2), (.int 3)]))))))
def f_is_shape : List DV → M DV := runF 1 b_is_shape
def b_is_spot : SS := (sSeq (sIf (bOr (bNot (bT (eK kIsi (aC (eV 1) (aC (eC (.cst (.ty "tuple"))) aN))))) (bOr (bT (eO oNe (eK kLen (aC (eV 1) aN)) (eC (.int 2)))) (bOr (bNot (bT (eF 1 f_is_number (aC (eO oIx (eV 1) (eC (.int 0))) aN)))) (bNot (bT (eF 1 f_is_number (aC (eO oIx (eV 1) (eC (.int 1))) aN))))))) (sRet (eC (.bl false))) sNil)
    (sRet (eAnd (eCh oLe oLe (eC (.int 0)) (eO oIx (eV 1) (eC (.int 0))) (eO oIx (eV 0) (eC (.int 1)))) (eCh oLe oLt (eC (.int 0)) (eO oIx (eV 1) (eC (.int 1))) (eF 2 f_power (aC (eO oIx (eV 0) (eC (.int 0))) (aC (eO oIx (eV 1) (eC (.int 0))) aN)))))))
def f_is_spot : List DV → M DV := runF 2 b_is_spot
def b_way : SS := (sSeq (sAsg (eV 0) (gQ 2 (gsC (gN 2) (gsC (gN 3) gsN))))
    (sRet (eK kTuple (aC (eComp [4] (iR1 (aC (eO oAdd (eV 3) (eC (.int 1))) aN)) (gN 4) bYes (eTup (aC (eV 4) (aC (eO oDiv (eV 1) (eF 2 f_power (aC (eV 2) (aC (eO oSub (eV 3) (eV 4)) aN)))) aN)))) aN))))
def f_way : List DV → M DV := runF 5 b_way
def b__law_power_L1 : SS := (sAsg (eO oMul (eV 2) (eV 0)) (gN 2))
def b__law_power : SS := (sSeq (sAsg (eC (.int 1)) (gN 2))
    (sSeq (sFor (iR1 (aC (eV 1) aN)) (gN 3) b__law_power_L1)
    (sRet (eV 2))))
def f__law_power : List DV → M DV := runF 4 b__law_power
def b__law_cell_at : SS := (sRet (eIf (bT (eO oLt (eV 1) (eK kLen (aC (eV 0) aN)))) (eO oIx (eV 0) (eV 1)) (eC (.int 0))))
def f__law_cell_at : List DV → M DV := runF 2 b__law_cell_at
def b__law_box : SS := (sSeq (sAsg (eF 2 f__law_cell_at (aC (eV 0) (aC (eV 1) aN))) (gN 2))
    (sSeq (sAsg (eO oAdd (eO oAdd (eO oMod (eK kInt (aC (eV 2) aN)) (eC (.int 2305843009213693951))) (eO oMul (eC (.int 39373)) (eV 1))) (eC (.int 61))) (gN 3))
    (sRet (eNew (aC (eO oMul (eK kAbs (aC (eV 2) aN)) (eK kInt (aC (eO oGe (eK kAbs (aC (eV 2) aN)) (eO oPow (eC (.int 10)) (eC (.int 18)))) aN))) (aC (eV 3) (aC (eC (.int 0)) aN)))))))
def f__law_box : List DV → M DV := runF 4 b__law_box
def b__law_take : SS := (sSeq (sIf (bT (eO oGt (eO oIx (eV 0) (eC (.int 0))) (eC (.int 0)))) (sSeq (sAsg (eO oMod (eK kInt (aC (eO oIx (eV 0) (eC (.int 0))) aN)) (eV 1)) (gN 2))
    (sSeq (sAsg (eO oDiv (eO oIx (eV 0) (eC (.int 0))) (eV 1)) (gSet (eV 0) (eC (.int 0))))
    (sRet (eV 2)))) sNil)
    (sSeq (sAsg (eO oAdd (eO oIx (eV 0) (eC (.int 2))) (eC (.int 1))) (gSet (eV 0) (eC (.int 2))))
    (sSeq (sAsg (eO oMod (eK kInt (aC (eO oMul (eO oAdd (eO oIx (eV 0) (eC (.int 1))) (eO oMul (eC (.int 48271)) (eO oIx (eV 0) (eC (.int 2))))) (eO oAdd (eC (.int 39373)) (eO oIx (eV 0) (eC (.int 2))))) aN)) (eC (.int 2147483647))) (gN 3))
    (sSeq (sAsg (eO oAdd (eO oMod (eK kInt (aC (eV 3) aN)) (eC (.int 40009))) (eC (.int 7))) (gN 4))
    (sSeq (sAsg (eO oMod (eK kInt (aC (eO oMul (eO oAdd (eO oAdd (eV 3) (eO oIx (eV 0) (eC (.int 2)))) (eO oDiv (eO oIx (eV 0) (eC (.int 1))) (eC (.int 1000003)))) (eV 4)) aN)) (eC (.int 2147483629))) (gN 5))
    (sRet (eO oMod (eK kInt (aC (eO oDiv (eO oMod (eK kInt (aC (eO oAdd (eO oMul (eV 5) (eC (.int 48271))) (eV 3)) aN)) (eC (.int 2147483587))) (eC (.int 64))) aN)) (eV 1))))))))
def f__law_take : List DV → M DV := runF 6 b__law_take
def b__law_of : SS := (sRet (eO oIx (eV 1) (eF 2 f__law_take (aC (eV 0) (aC (eK kLen (aC (eV 1) aN)) aN)))))
def f__law_of : List DV → M DV := runF 2 b__law_of
def b__law_same (rec : List DV → M DV) : SS := (sSeq (sIf (bT (eK kIsi (aC (eV 1) (aC (eTup (aC (eC (.cst (.ty "list"))) (aC (eC (.cst (.ty "tuple"))) aN))) aN)))) (sSeq (sIf (bOr (bT (eO oNe (eK kIsi (aC (eV 0) (aC (eC (.cst (.ty "list"))) aN))) (eK kIsi (aC (eV 1) (aC (eC (.cst (.ty "list"))) aN))))) (bT (eO oNe (eK kIsi (aC (eV 0) (aC (eC (.cst (.ty "tuple"))) aN))) (eK kIsi (aC (eV 1) (aC (eC (.cst (.ty "tuple"))) aN)))))) (sRet (eC (.bl false))) sNil)
    (sRet (eAnd (eO oEq (eK kLen (aC (eV 0) aN)) (eK kLen (aC (eV 1) aN))) (eK kAll (aC (eComp [2, 3] (iZ (aC (eV 0) (aC (eV 1) aN))) (gQ 2 (gsC (gN 2) (gsC (gN 3) gsN))) bYes (eF 2 rec (aC (eV 2) (aC (eV 3) aN)))) aN))))) sNil)
    (sSeq (sIf (bOr (bT (eO oIs (eV 1) (eC .non))) (bT (eK kIsi (aC (eV 1) (aC (eTup (aC (eC (.cst (.ty "str"))) (aC (eC (.cst (.ty "bool"))) aN))) aN))))) (sRet (eAnd (eO oEq (eV 0) (eV 1)) (eAnd (eO oEq (eK kIsi (aC (eV 0) (aC (eC (.cst (.ty "bool"))) aN))) (eK kIsi (aC (eV 1) (aC (eC (.cst (.ty "bool"))) aN)))) (eO oEq (eO oIs (eV 0) (eC .non)) (eO oIs (eV 1) (eC .non)))))) sNil)
    (sRet (eAnd (eK kIsi (aC (eV 0) (aC (eC (.cst (.ty "int"))) aN))) (eAnd (eNot (eK kIsi (aC (eV 0) (aC (eC (.cst (.ty "bool"))) aN)))) (eO oEq (eV 0) (eV 1)))))))
def f__law_same : Nat → List DV → M DV
  | 0 => fun _ _ => none
  | d + 1 => runF 4 (b__law_same (f__law_same d))
def b__law_path_L1 : SS := (sSeq (sAsg (eO oAdd (eLst (aC (eTup (aC (eV 4) (aC (eV 3) aN))) aN)) (eV 2)) (gN 2))
    (sAsg (eO oDiv (eV 3) (eO oIx (eV 0) (eC (.int 0)))) (gN 3)))
def b__law_path : SS := (sSeq (sPar 2 3 (aC (eLst aN) (aC (eV 1) aN)))
    (sSeq (sFor (iDown (aC (eO oIx (eV 0) (eC (.int 1))) (aC (eNeg (eC (.int 1))) (aC (eNeg (eC (.int 1))) aN)))) (gN 4) b__law_path_L1)
    (sRet (eV 2))))
def f__law_path : List DV → M DV := runF 5 b__law_path
def b__law_is_int : SS := (sRet (eAnd (eK kIsi (aC (eV 0) (aC (eC (.cst (.ty "int"))) aN))) (eNot (eK kIsi (aC (eV 0) (aC (eC (.cst (.ty "bool"))) aN))))))
def f__law_is_int : List DV → M DV := runF 1 b__law_is_int
def b__law_is_pair : SS := (sRet (eAnd (eK kIsi (aC (eV 0) (aC (eC (.cst (.ty "tuple"))) aN))) (eAnd (eO oEq (eK kLen (aC (eV 0) aN)) (eC (.int 2))) (eAnd (eF 1 f__law_is_int (aC (eO oIx (eV 0) (eC (.int 0))) aN)) (eF 1 f__law_is_int (aC (eO oIx (eV 0) (eC (.int 1))) aN))))))
def f__law_is_pair : List DV → M DV := runF 1 b__law_is_pair
def b__law_is_title : SS := (sSeq (sIf (bOr (bNot (bT (eK kIsi (aC (eV 0) (aC (eC (.cst (.ty "str"))) aN))))) (bNot (bT (eCh oLt oLt (eC (.int 0)) (eK kLen (aC (eV 0) aN)) (eC (.int 9)))))) (sRet (eC (.bl false))) sNil)
    (sRet (eO oEq (eComp [1] (iS (eV 0)) (gN 1) (bT (eO oNotIn (eV 1) (eC (.str "abcdefghijklmnopqrstuvwxyz")))) (eV 1)) (eLst aN))))
def f__law_is_title : List DV → M DV := runF 2 b__law_is_title
def b__law_matters : SS := (sSeq (sAsg (eLst (aC (eV 1) (aC (eK kList (aC (eV 1) aN)) (aC (eSl (eV 1) oNone (oSome (eC (.int 1)))) (aC (eO oAdd (eV 1) (eTup (aC (eC (.int 1)) aN))) (aC (eTup (aC (eO oIx (eV 1) (eC (.int 0))) (aC (eC (.bl true)) aN))) (aC (eTup (aC (eC (.bl false)) (aC (eO oIx (eV 1) (eC (.int 1))) aN))) (aC (eTup (aC (eO oIx (eV 1) (eC (.int 0))) (aC (eC (.str "1")) aN))) (aC (eC .non) (aC (eC (.int 3)) (aC (eC (.str "a")) aN))))))))))) (gN 2))
    (sSeq (sAsg (eO oAdd (eV 2) (eLst (aC (eTup (aC (eO oAdd (eO oIx (eV 1) (eC (.int 0))) (eC (.int 1))) (aC (eO oIx (eV 1) (eC (.int 1))) aN))) (aC (eTup (aC (eO oIx (eV 1) (eC (.int 0))) (aC (eO oAdd (eO oIx (eV 1) (eC (.int 1))) (eC (.int 1))) aN))) (aC (eTup (aC (eO oSub (eO oIx (eV 1) (eC (.int 0))) (eC (.int 1))) (aC (eO oIx (eV 1) (eC (.int 1))) aN))) (aC (eTup (aC (eO oIx (eV 1) (eC (.int 0))) (aC (eO oSub (eC (.int 0)) (eO oIx (eV 1) (eC (.int 1)))) aN))) aN)))))) (gN 2))
    (sSeq (sAsg (eO oAdd (eV 2) (eLst (aC (eC (.str "")) (aC (eC (.str "abcdefgh")) (aC (eC (.str "abcdefghi")) (aC (eC (.str "Ab")) (aC (eC (.str "a1")) (aC (eC (.str "a b")) (aC (eTup (aC (eC (.str "a")) aN)) (aC (eLst (aC (eC (.str "a")) aN)) (aC (eC (.bl true)) (aC (eTup aN) (aC (eLst aN) (aC (eTup (aC (eC (.int 2)) (aC (eO oPow (eC (.int 10)) (eC (.int 20))) aN))) (aC (eC (.str "z")) aN))))))))))))))) (gN 2))
    (sRet (eO oAdd (eV 2) (eLst (aC (eTup (aC (eF 2 f__law_take (aC (eV 0) (aC (eC (.int 6)) aN))) (aC (eF 2 f__law_take (aC (eV 0) (aC (eC (.int 5)) aN))) aN))) (aC (eTup (aC (eC (.int 4)) (aC (eC (.int 3)) aN))) (aC (eTup (aC (eC (.int 2)) (aC (eC (.int 0)) aN))) (aC (eTup (aC (eC (.int 5)) (aC (eC (.int 1)) aN))) (aC (eTup (aC (eC (.int 1)) (aC (eC (.int 1)) aN))) (aC (eTup (aC (eV 1) (aC (eV 1) aN))) (aC (eTup (aC (eTup (aC (eC (.int 2)) (aC (eC (.int 1)) aN))) aN)) aN)))))))))))))
def f__law_matters : List DV → M DV := runF 3 b__law_matters
def b__law_right_L1 : SS := (sSeq (sAsg (eK kTuple (aC (eF 2 f__law_path (aC (eV 1) (aC (eV 9) aN))) aN)) (gN 10))
    (sIf (bNot (bT (eF 2 (f__law_same 4) (aC (eLst (aC (eF 2 f_way (aC (eV 1) (aC (eV 9) aN))) (aC (eFK 2 2 [1, 0] f_way (aC (eV 9) (aC (eK kList (aC (eV 1) aN)) aN))) aN))) (aC (eLst (aC (eV 10) (aC (eV 10) aN))) aN))))) (sRet (eC (.bl false))) sNil))
def b__law_right_L2 : SS := (sSeq (sPar 4 5 (aC (eK kRepr (aC (eV 3) aN)) (aC (eF 1 f__law_is_pair (aC (eV 3) aN)) aN)))
    (sSeq (sAsg (eNew (aC (eAnd (eV 5) (eAnd (eO oIn (eO oIx (eV 3) (eC (.int 0))) (eTup (aC (eC (.int 2)) (aC (eC (.int 3)) (aC (eC (.int 4)) aN))))) (eO oIn (eO oIx (eV 3) (eC (.int 1))) (eTup (aC (eC (.int 1)) (aC (eC (.int 2)) (aC (eC (.int 3)) aN))))))) (aC (eF 1 f__law_is_title (aC (eV 3) aN)) aN))) (gN 6))
    (sSeq (sExpr (eApp (eV 6) (eAnd (eV 5) (eAnd (eCh oLe oLe (eC (.int 0)) (eO oIx (eV 3) (eC (.int 0))) (eO oIx (eV 1) (eC (.int 1)))) (eCh oLe oLt (eC (.int 0)) (eO oIx (eV 3) (eC (.int 1))) (eF 2 f__law_power (aC (eO oIx (eV 1) (eC (.int 0))) (aC (eO oIx (eV 3) (eC (.int 0))) aN))))))))
    (sFrz 6 (sSeq (sAsg (eLst (aC (eF 1 f_is_shape (aC (eV 3) aN)) (aC (eF 1 f_is_name (aC (eV 3) aN)) (aC (eF 2 f_is_spot (aC (eV 1) (aC (eV 3) aN))) aN)))) (gN 7))
    (sSeq (sAsg (eLst (aC (eFK 1 1 [0] f_is_shape (aC (eV 3) aN)) (aC (eFK 1 1 [0] f_is_name (aC (eV 3) aN)) (aC (eFK 2 2 [1, 0] f_is_spot (aC (eV 3) (aC (eK kList (aC (eV 1) aN)) aN))) aN)))) (gN 8))
    (sIf (bOr (bNot (bT (eF 2 (f__law_same 4) (aC (eLst (aC (eV 7) (aC (eV 8) aN))) (aC (eLst (aC (eV 6) (aC (eV 6) aN))) aN))))) (bT (eO oNe (eK kRepr (aC (eV 3) aN)) (eV 4)))) (sRet (eC (.bl false))) sNil)))))))
def b__law_right : SS := (sSeq (sAsg (eTup (aC (eF 2 f__law_of (aC (eV 0) (aC (eLst (aC (eC (.int 2)) (aC (eC (.int 3)) (aC (eC (.int 4)) aN)))) aN))) (aC (eF 2 f__law_of (aC (eV 0) (aC (eLst (aC (eC (.int 1)) (aC (eC (.int 2)) (aC (eC (.int 3)) aN)))) aN))) aN))) (gN 1))
    (sSeq (sAsg (eTup (aC (eF 2 f__law_take (aC (eV 0) (aC (eO oAdd (eO oIx (eV 1) (eC (.int 1))) (eC (.int 2))) aN))) (aC (eF 2 f__law_take (aC (eV 0) (aC (eO oAdd (eF 2 f__law_power (aC (eO oIx (eV 1) (eC (.int 0))) (aC (eO oIx (eV 1) (eC (.int 1))) aN))) (eC (.int 2))) aN))) aN))) (gN 2))
    (sSeq (sFor (iD (eO oAdd (eF 2 f__law_matters (aC (eV 0) (aC (eV 1) aN))) (eF 2 f__law_matters (aC (eV 0) (aC (eV 2) aN))))) (gN 3) b__law_right_L2)
    (sSeq (sFor (iR1 (aC (eF 2 f__law_power (aC (eO oIx (eV 1) (eC (.int 0))) (aC (eO oIx (eV 1) (eC (.int 1))) aN))) aN)) (gN 9) b__law_right_L1)
    (sRet (eC (.bl true)))))))
def f__law_right : List DV → M DV := runF 11 b__law_right
def b_law_L1 : SS := (sSeq (sAsg (eF 2 f__law_box (aC (eV 0) (aC (eV 1) aN))) (gN 2))
    (sIf (bNot (bT (eK kAll (aC (eComp [3] (iR1 (aC (eC (.int 3)) aN)) (gN 3) bYes (eF 1 f__law_right (aC (eV 2) aN))) aN)))) (sRet (eC (.bl false))) sNil))
def b_law : SS := (sSeq (sFor (iR1 (aC (eO oAdd (eC (.int 1)) (eK kMin2 (aC (eC (.int 2)) (aC (eK kLen (aC (eV 0) aN)) aN)))) aN)) (gN 1) b_law_L1)
    (sRet (eC (.bl true))))
def f_law : List DV → M DV := runF 4 b_law
end K00
end L2

set_option maxRecDepth 100000
namespace L2
namespace K00
open PySem PySem.Spec PyProof.Rows DL
/-! ### the box of draws -/
theorem at0 {α : Type} (a : α) (l : List α) : atI (a :: l) 0 = some a := atI_nat (j := 0) rfl
theorem at1 {α : Type} (a b : α) (l : List α) : atI (a :: b :: l) 1 = some b := atI_nat (j := 1) rfl
theorem at2 {α : Type} (a b c : α) (l : List α) : atI (a :: b :: c :: l) 2 = some c := atI_nat (j := 2) rfl
theorem ix0 (n : Nat) : ixN (n + 1) 0 = some 0 := by unfold ixN; rw [if_pos (by decide), if_pos (by omega)]; rfl
theorem ix3_2 : ixN 3 2 = some 2 := by decide
def Box (W : Wd) (b : Nat) (c : Int) : Prop := ∃ x0 x1 x2 : Int, W[b]? = some (.lst [.int x0, .int x1, .int x2]) ∧ 0 ≤ x0 ∧ 0 ≤ x1 ∧ x1 < 2 ^ 62 ∧ 0 ≤ x2 ∧ x2 ≤ c
structure Sm (W W' : Wd) (b : Nat) : Prop where
  len : W'.length = W.length
  rest : ∀ j, j ≠ b → W'[j]? = W[j]?
theorem Sm.refl (W : Wd) (b : Nat) : Sm W W b := ⟨rfl, fun _ _ => rfl⟩
theorem Sm.trans {W W1 W2 : Wd} {b : Nat} (h : Sm W W1 b) (k : Sm W1 W2 b) : Sm W W2 b := ⟨k.len.trans h.len, fun j hj => (k.rest j hj).trans (h.rest j hj)⟩
theorem Sm.set (W : Wd) (b : Nat) (c : Cell) : Sm W (W.set b c) b := ⟨List.length_set, fun j hj => List.getElem?_set_ne (Ne.symm hj)⟩
theorem get_set {W : Wd} {b : Nat} {c d : Cell} (h : W[b]? = some d) : (W.set b c)[b]? = some c := by
  obtain ⟨l, _⟩ := List.getElem?_eq_some_iff.mp h
  exact List.getElem?_set_self l
theorem oIx_loc {W : Wd} {b : Nat} {xs : List DV} (h : W[b]? = some (.lst xs)) (k : Int) : oIx (.loc b) (.int k) W = (atI xs k).map fun z => (z, W) := by
  simp [oIx, itemsOf, h]
theorem dPut_loc {W : Wd} {b : Nat} {xs : List DV} (h : W[b]? = some (.lst xs)) (v : DV) (k : Int) : dPut v (.loc b) (.int k) W = (ixN xs.length k).map fun j => ((), W.set b (.lst (xs.set j v))) := by
  simp [dPut, h]
theorem bound64_of {i : Int} (h : 0 ≤ i) (h2 : i < 2 ^ 62) : bound64 i = true := by
  unfold bound64
  have : (2 : Int) ^ 62 < 2 ^ 64 := by decide
  exact decide_eq_true ⟨by omega, by omega⟩
theorem take_spec {W : Wd} {b : Nat} {c n : Int} (hb : Box W b c) (hn : 0 < n) (hn2 : n < 1073741824) (hc : c < 1000000000) :
    ∃ v W', f__law_take [.loc b, .int n] W = some (.int v, W') ∧ 0 ≤ v ∧ v < n ∧ Box W' b (c + 1) ∧ Sm W W' b := by
  obtain ⟨x0, x1, x2, h, p0, p1, p2, p3, p4⟩ := hb
  by_cases hx : 0 < x0
  · refine ⟨x0 % n, W.set b (.lst [.int (x0 / n), .int x1, .int x2]), runF_rt ?_ List.length_set, Int.emod_nonneg _ (by omega), Int.emod_lt_of_pos _ hn, ⟨_, _, _, get_set h, Int.ediv_nonneg p0 (by omega), p1, p2, p3, by omega⟩, Sm.set _ _ _⟩
    simp [b__law_take, oIx_loc h, dPut_loc h, at0, hx, kInt, hn, hn2, ix0]
  · have hW : (W.set b (.lst [.int x0, .int x1, .int (x2 + 1)]))[b]? = some (.lst [.int x0, .int x1, .int (x2 + 1)]) := get_set h
    have b2 : bound64 (39373 + (x2 + 1)) = true := bound64_of (by omega) (by omega)
    have b3 : bound64 (48271 : Int) = true := by decide
    obtain ⟨on, hon⟩ : ∃ on, (x1 + 48271 * (x2 + 1)) * (39373 + (x2 + 1)) % 2147483647 = on := ⟨_, rfl⟩
    have b4 : bound64 (on % 40009 + 7) = true := by
      have a1 := Int.emod_nonneg on (show (40009 : Int) ≠ 0 by decide)
      have a2 := Int.emod_lt_of_pos on (show (0 : Int) < 40009 by decide)
      exact bound64_of (by omega) (by omega)
    obtain ⟨tw, htw⟩ : ∃ tw, (on + (x2 + 1) + x1 / 1000003) * (on % 40009 + 7) % 2147483629 = tw := ⟨_, rfl⟩
    refine ⟨(tw * 48271 + on) % 2147483587 / 64 % n, W.set b (.lst [.int x0, .int x1, .int (x2 + 1)]), runF_rt ?_ List.length_set, Int.emod_nonneg _ (by omega), Int.emod_lt_of_pos _ hn, ⟨_, _, _, hW, p0, p1, p2, by omega, by omega⟩, Sm.set _ _ _⟩
    simp [b__law_take, oIx_loc h, dPut_loc h, at0, at1, at2, hx, kInt, hn, hn2, ix3_2, oIx_loc hW, b2, b3, hon, b4, htw]
end K00
end L2

set_option maxRecDepth 100000
namespace L2
namespace K00
open PySem PySem.Spec PyProof.Rows DL
theorem ixN_lt {n : Nat} {v : Int} (h0 : 0 ≤ v) (h1 : v < n) : ixN n v = some v.toNat := by unfold ixN; rw [if_pos h0, if_pos h1]
theorem atI_lt {α : Type} {xs : List α} {v : Int} (h0 : 0 ≤ v) (h1 : v < xs.length) : ∃ x, atI xs v = some x ∧ x ∈ xs := by
  unfold atI
  rw [ixN_lt h0 h1]
  have l : v.toNat < xs.length := by omega
  exact ⟨xs[v.toNat], List.getElem?_eq_getElem l, List.getElem_mem l⟩
theorem of_spec {W : Wd} {b : Nat} {c : Int} {xs : List DV} (hb : Box W b c) (h0 : 0 < xs.length) (h1 : xs.length < 1000000) (hc : c < 1000000000) :
    ∃ x W', f__law_of [.loc b, .lst xs] W = some (x, W') ∧ x ∈ xs ∧ Box W' b (c + 1) ∧ Sm W W' b := by
  obtain ⟨v, W', e, v0, v1, hb', sm⟩ := take_spec (n := xs.length) hb (by omega) (by omega) hc
  obtain ⟨x, ex, mx⟩ := atI_lt v0 v1
  refine ⟨x, W', runF_rt ?_ sm.len, mx, hb', sm⟩
  simp [b__law_of, kLen, itemsOf, e, oIx, ex]
theorem cell_eq (ns : List Int) (k : Nat) (W : Wd) : f__law_cell_at [.scr ns, .int (k : Nat)] W = some (.int (ns.getD k 0), W) := by
  refine runF_rt ?_ rfl
  by_cases h : k < ns.length
  · have e : atI (ns.map DV.int) (k : Int) = some (.int ns[k]) := atI_nat (by rw [List.getElem?_map, List.getElem?_eq_getElem h]; rfl)
    simp [b__law_cell_at, kLen, itemsOf, oIx, e, h]
  · simp [b__law_cell_at, kLen, itemsOf, oIx, h]
theorem box_spec (ns : List Int) (k : Nat) (W : Wd) (hk : k ≤ 100) : ∃ x0 x1 : Int, f__law_box [.scr ns, .int (k : Nat)] W = some (.loc W.length, W ++ [.lst [.int x0, .int x1, .int 0]]) ∧ 0 ≤ x0 ∧ 0 ≤ x1 ∧ x1 < 2 ^ 62 := by
  obtain ⟨c, hc⟩ : ∃ c, ns.getD k 0 = c := ⟨_, rfl⟩
  have ec := cell_eq ns k W
  rw [hc] at ec
  obtain ⟨a, ha⟩ : ∃ a : Int, (if c < 0 then -c else c) = a := ⟨_, rfl⟩
  have a0 : 0 ≤ a := by rw [← ha]; split <;> omega
  have m0 := Int.emod_nonneg c (show (2305843009213693951 : Int) ≠ 0 by decide)
  have m1 := Int.emod_lt_of_pos c (show (0 : Int) < 2305843009213693951 by decide)
  have bk : bound64 (39373 : Int) = true := by decide
  obtain ⟨f, hf⟩ : ∃ f : Int, (if decide ((1000000000000000000 : Int) ≤ a) = true then (1 : Int) else 0) = f := ⟨_, rfl⟩
  have f01 : f = 1 ∨ f = 0 := by rw [← hf]; split <;> simp
  have bf : bound64 f = true := by rcases f01 with rfl | rfl <;> decide
  have big : (2 : Int) ^ 62 = 4611686018427387904 := by decide
  refine ⟨a * f, c % 2305843009213693951 + 39373 * (k : Int) + 61, runF_keep ?_ (by simp) (by simp [DV.lo]), ?_, by omega, by rw [big]; omega⟩
  · have l3 : lineOk [DV.int (a * f), DV.int (c % 2305843009213693951 + 39373 * (k : Int) + 61), DV.int 0] = true := by unfold lineOk; rw [sizeLine_eq]; rfl
    have pw : oPow (.int 10) (.int 18) W = some (.int 1000000000000000000, W) := by kernel_rfl
    simp [b__law_box, ec, kInt, kAbs, ha, bk, pw]
    simp only [decide_eq_true_eq] at hf
    simp [hf, bf, l3]
  · rcases f01 with rfl | rfl
    · omega
    · omega
/-! ### same -/
def okS : Nat → DV → Bool
  | 0, _ => false
  | k + 1, x => match x with
    | .non => true
    | .bl _ => true
    | .int _ => true
    | .str _ => true
    | .tup xs => decide (xs.length ≤ sizeLine) && xs.all (okS k)
    | .lst xs => decide (xs.length ≤ sizeLine) && xs.all (okS k)
    | _ => false
theorem same_all (g : List DV → M DV) (W : Wd) (e0 e1 : Option DV) : ∀ (xs acc : List DV), (∀ x ∈ xs, g [x, x] W = some (.bl true, W)) → acc.length + xs.length ≤ sizeLine →
    cLoop (gQ 2 (gsC (gN 2) (gsC (gN 3) gsN))) bYes (eF 2 g (aC (eV 2) (aC (eV 3) aN))) [e0, e1, none, none] (pairUp xs xs) acc W = some (acc ++ xs.map fun _ => .bl true, W)
  | [], acc, _, _ => by simp [pairUp]
  | x :: xs, acc, h, l => by
    have e := h x List.mem_cons_self
    have ih := same_all g W e0 e1 xs (acc ++ [.bl true]) (fun y hy => h y (List.mem_cons_of_mem _ hy)) (by rw [List.length_append]; simp at l ⊢; omega)
    have l' : acc.length < sizeLine := by simp at l; omega
    simp [pairUp, e, l', ih]
theorem bools_true : ∀ xs : List DV, bools (xs.map fun _ => DV.bl true) = some (xs.map fun _ => true)
  | [] => rfl
  | x :: xs => by
    show (bools (xs.map fun _ => DV.bl true)).map (fun bs => true :: bs) = _
    rw [bools_true xs]; rfl
theorem all_true : ∀ xs : List DV, (xs.map fun _ => true).all id = true
  | [] => rfl
  | x :: xs => by simpa using all_true xs
theorem line2 (a b : DV) : lineOk [a, b] = true := by unfold lineOk; rw [sizeLine_eq]; rfl
theorem same_refl : ∀ (k : Nat) (x : DV) (W : Wd), okS k x = true → f__law_same k [x, x] W = some (.bl true, W)
  | 0, _, _, h => by cases h
  | k + 1, x, W, h => by
    refine runF_rt ?_ rfl
    have z (xs : List DV) (h : (decide (xs.length ≤ sizeLine) && xs.all (okS k)) = true) := same_all (f__law_same k) W (some (.tup xs)) (some (.tup xs)) xs [] (fun y hy => same_refl k y W (by rw [Bool.and_eq_true] at h; exact List.all_eq_true.mp h.2 y hy)) (by rw [Bool.and_eq_true] at h; simpa using of_decide_eq_true h.1)
    have z2 (xs : List DV) (h : (decide (xs.length ≤ sizeLine) && xs.all (okS k)) = true) := same_all (f__law_same k) W (some (.lst xs)) (some (.lst xs)) xs [] (fun y hy => same_refl k y W (by rw [Bool.and_eq_true] at h; exact List.all_eq_true.mp h.2 y hy)) (by rw [Bool.and_eq_true] at h; simpa using of_decide_eq_true h.1)
    cases x with
    | non => simp [b__law_same, kIsi, tyD, clsOf, clsAll, known, isSub, line2, oIs, isN, oEq, dEq, dEqD, toPy, SeqAt.shaped, PyData.canLay0, PyData.depth, PyData.eqv]
    | bl b => simp [b__law_same, kIsi, tyD, clsOf, clsAll, known, isSub, line2, oIs, isN]
    | int i => simp [b__law_same, kIsi, tyD, clsOf, clsAll, known, isSub, line2, oIs, isN]
    | str i => simp [b__law_same, kIsi, tyD, clsOf, clsAll, known, isSub, line2, oIs, isN]
    | tup xs =>
      have zz := z xs h
      simp [b__law_same, kIsi, tyD, clsOf, clsAll, known, isSub, line2, kLen, itemsOf, iZ, mb_apply, wipeD, zz, kAll, bools_true, all_true]
    | lst xs =>
      have zz := z2 xs h
      simp [b__law_same, kIsi, tyD, clsOf, clsAll, known, isSub, line2, kLen, itemsOf, iZ, mb_apply, wipeD, zz, kAll, bools_true, all_true]
    | loc i => cases h
    | cst v => cases h
    | scr ns => cases h
end K00
end L2

set_option maxRecDepth 100000
namespace L2
namespace K00
open PySem PySem.Spec PyProof.Rows DL
def plain : DV → Bool
  | .loc _ => false
  | .cst _ => false
  | .scr _ => false
  | _ => true
def plain1 : DV → Bool
  | .tup xs => xs.all plain
  | x => plain x
theorem plain_of {x : DV} (h : plain1 x = true) : plain x = true := by cases x <;> first | rfl | exact h
def isI : DV → Bool
  | .int _ => true
  | _ => false
theorem isI_inv {x : DV} (h : isI x = true) : ∃ i, x = .int i := by cases x <;> first | exact ⟨_, rfl⟩ | cases h
theorem is_number_eq (x : DV) (W : Wd) (h : plain x = true) : f_is_number [x] W = some (.bl (isI x), W) := by
  refine runF_rt ?_ rfl
  cases x <;> first
    | (cases h; done)
    | (simp [b_is_number, kIsi, tyD, clsOf, known, isSub, isI])
theorem law_is_int_eq (x : DV) (W : Wd) (h : plain x = true) : f__law_is_int [x] W = some (.bl (isI x), W) := by
  refine runF_rt ?_ rfl
  cases x <;> first
    | (cases h; done)
    | (simp [b__law_is_int, kIsi, tyD, clsOf, known, isSub, isI])
theorem is_number_int (a : Int) (W : Wd) : f_is_number [.int a] W = some (.bl true, W) := is_number_eq (.int a) W rfl
theorem law_is_int_int (a : Int) (W : Wd) : f__law_is_int [.int a] W = some (.bl true, W) := law_is_int_eq (.int a) W rfl
/-- two whole numbers -/
def pairOf : DV → Option (Int × Int)
  | .tup [.int a, .int b] => some (a, b)
  | _ => none
theorem pair_cases (m : DV) (h : plain1 m = true) : (∃ a b, m = .tup [.int a, .int b]) ∨ (pairOf m = none ∧ ((∀ xs, m ≠ .tup xs) ∨ (∃ xs, m = .tup xs ∧ xs.length ≠ 2) ∨ ∃ x y, m = .tup [x, y] ∧ plain x = true ∧ plain y = true ∧ (isI x = false ∨ (isI x = true ∧ isI y = false)))) := by
  cases m with
  | tup xs =>
    rcases xs with _ | ⟨x, _ | ⟨y, _ | ⟨z, t⟩⟩⟩
    · exact .inr ⟨rfl, .inr (.inl ⟨_, rfl, by simp⟩)⟩
    · exact .inr ⟨by cases x <;> rfl, .inr (.inl ⟨_, rfl, by simp⟩)⟩
    · have hx : plain x = true ∧ plain y = true := by
        have h' : ([x, y].all plain) = true := h
        simpa using h'
      by_cases ix : isI x = true
      · by_cases iy : isI y = true
        · obtain ⟨a, rfl⟩ := isI_inv ix
          obtain ⟨b, rfl⟩ := isI_inv iy
          exact .inl ⟨a, b, rfl⟩
        · refine .inr ⟨?_, .inr (.inr ⟨x, y, rfl, hx.1, hx.2, .inr ⟨ix, by simpa using iy⟩⟩)⟩
          obtain ⟨a, rfl⟩ := isI_inv ix
          cases y <;> first | rfl | exact absurd rfl iy
      · refine .inr ⟨?_, .inr (.inr ⟨x, y, rfl, hx.1, hx.2, .inl (by simpa using ix)⟩)⟩
        cases x <;> first | rfl | exact absurd rfl ix
    · refine .inr ⟨?_, .inr (.inl ⟨_, rfl, by simp⟩)⟩
      cases x <;> first | rfl | (cases y <;> rfl)
  | _ => exact .inr ⟨rfl, .inl fun xs e => by cases e⟩
def inF (a : Int) : Bool := inV (.int a) [.int 2, .int 3, .int 4]
def inD (a : Int) : Bool := inV (.int a) [.int 1, .int 2, .int 3]
def shapeM (m : DV) : Bool := match pairOf m with
  | some (a, b) => inF a && inD b
  | none => false
theorem ne2 {n : Nat} (h : n ≠ 2) : ((n : Int) = 2) = False := by simp; omega
theorem is_shape_eq (m : DV) (W : Wd) (h : plain1 m = true) : f_is_shape [m] W = some (.bl (shapeM m), W) := by
  refine runF_rt ?_ rfl
  rcases pair_cases m h with ⟨a, b, rfl⟩ | ⟨pn, hn | ⟨xs, rfl, hl⟩ | ⟨x, y, rfl, px, py, hi⟩⟩
  · simp [b_is_shape, kIsi, tyD, clsOf, known, isSub, kLen, itemsOf, oIx, at0, at1, is_number_int, oIn, dIn, flatD, flatDs, shapeM, pairOf, inF, inD]
    cases inV (.int a) [.int 2, .int 3, .int 4] <;> simp
  · have sm : shapeM m = false := by unfold shapeM; rw [pn]
    rw [sm]
    have hp := plain_of h
    cases m <;> first
      | (cases hp; done)
      | (exact absurd rfl (hn _))
      | (simp [b_is_shape, kIsi, tyD, clsOf, known, isSub])
  · have sm : shapeM (.tup xs) = false := by unfold shapeM; rw [pn]
    rw [sm]
    simp [b_is_shape, kIsi, tyD, clsOf, known, isSub, kLen, itemsOf, ne2 hl]
  · have sm : shapeM (.tup [x, y]) = false := by unfold shapeM; rw [pn]
    rw [sm]
    rcases hi with hi | ⟨hi, hj⟩
    · simp [b_is_shape, kIsi, tyD, clsOf, known, isSub, kLen, itemsOf, oIx, at0, at1, is_number_eq, px, py, hi]
    · simp [b_is_shape, kIsi, tyD, clsOf, known, isSub, kLen, itemsOf, oIx, at0, at1, is_number_eq, px, py, hi, hj]
theorem is_pair_eq (m : DV) (W : Wd) (h : plain1 m = true) : f__law_is_pair [m] W = some (.bl (pairOf m).isSome, W) := by
  refine runF_rt ?_ rfl
  rcases pair_cases m h with ⟨a, b, rfl⟩ | ⟨pn, hn | ⟨xs, rfl, hl⟩ | ⟨x, y, rfl, px, py, hi⟩⟩
  · simp [b__law_is_pair, kIsi, tyD, clsOf, known, isSub, kLen, itemsOf, oIx, at0, at1, law_is_int_int, pairOf]
  · rw [pn]
    have hp := plain_of h
    cases m <;> first
      | (cases hp; done)
      | (exact absurd rfl (hn _))
      | (simp [b__law_is_pair, kIsi, tyD, clsOf, known, isSub])
  · rw [pn]
    simp [b__law_is_pair, kIsi, tyD, clsOf, known, isSub, kLen, itemsOf, ne2 hl]
  · rw [pn]
    rcases hi with hi | ⟨hi, hj⟩
    · simp [b__law_is_pair, kIsi, tyD, clsOf, known, isSub, kLen, itemsOf, oIx, at0, at1, law_is_int_eq, px, py, hi]
    · simp [b__law_is_pair, kIsi, tyD, clsOf, known, isSub, kLen, itemsOf, oIx, at0, at1, law_is_int_eq, px, py, hi, hj]
/-! ### names -/
def letters : Str := "abcdefghijklmnopqrstuvwxyz"
def isL (c : Nat) : Bool := decide (c ∈ letters.cps.toList)
def nameM : DV → Bool
  | .str s => decide (1 ≤ s.length ∧ s.length ≤ 8) && s.cps.toList.all isL
  | _ => false
theorem signOf_one (c : Nat) : signOf ⟨#[c]⟩ = some c := rfl
theorem in_sign (c : Nat) (W : Wd) : oIn (.str ⟨#[c]⟩) (.str "abcdefghijklmnopqrstuvwxyz") W = some (.bl (isL c), W) := rfl
theorem notIn_sign (c : Nat) (W : Wd) : oNotIn (.str ⟨#[c]⟩) (.str "abcdefghijklmnopqrstuvwxyz") W = some (.bl (!isL c), W) := rfl
theorem name_loop (W : Wd) (e0 : Option DV) : ∀ (cs : List Nat) (acc : List DV), acc.length + cs.length ≤ sizeLine →
    cLoop (gN 1) bYes (eO oIn (eV 1) (eC (.str "abcdefghijklmnopqrstuvwxyz"))) [e0, none] (cs.map fun c => DV.str ⟨#[c]⟩) acc W = some (acc ++ cs.map fun c => DV.bl (isL c), W)
  | [], acc, _ => by simp
  | c :: cs, acc, l => by
    have ih := name_loop W e0 cs (acc ++ [.bl (isL c)]) (by rw [List.length_append]; simp at l ⊢; omega)
    have l' : acc.length < sizeLine := by simp at l; omega
    simp [in_sign, l', ih]
theorem title_loop (W : Wd) (e0 : Option DV) : ∀ (cs : List Nat) (acc : List DV), acc.length + cs.length ≤ sizeLine →
    cLoop (gN 1) (bT (eO oNotIn (eV 1) (eC (.str "abcdefghijklmnopqrstuvwxyz")))) (eV 1) [e0, none] (cs.map fun c => DV.str ⟨#[c]⟩) acc W = some (acc ++ (cs.filter fun c => !isL c).map fun c => DV.str ⟨#[c]⟩, W)
  | [], acc, _ => by simp
  | c :: cs, acc, l => by
    have l' : acc.length < sizeLine := by simp at l; omega
    cases q : isL c with
    | true =>
      have ih := title_loop W e0 cs acc (by simp at l ⊢; omega)
      simp [notIn_sign, q, ih]
    | false =>
      have ih := title_loop W e0 cs (acc ++ [.str ⟨#[c]⟩]) (by rw [List.length_append]; simp at l ⊢; omega)
      simp [notIn_sign, q, l', ih]
theorem bools_map (f : Nat → Bool) : ∀ cs : List Nat, bools (cs.map fun c => DV.bl (f c)) = some (cs.map f)
  | [] => rfl
  | c :: cs => by
    show (bools (cs.map fun c => DV.bl (f c))).map (fun bs => f c :: bs) = _
    rw [bools_map f cs]; rfl
theorem small8 {n : Nat} (h : n ≤ 8) : n ≤ sizeLine := Nat.le_trans h (by rw [sizeLine_eq]; decide)
theorem is_name_eq (m : DV) (W : Wd) (h : plain m = true) (sz : ∀ s, m = .str s → s.length ≤ sizeLine) : f_is_name [m] W = some (.bl (nameM m), W) := by
  refine runF_rt ?_ rfl
  cases m with
  | str s =>
    have l := sz s rfl
    by_cases c : 1 ≤ s.length ∧ s.length ≤ 8
    · have nl := name_loop W (some (.str s)) s.cps.toList [] (by rw [List.length_nil, Nat.zero_add]; exact small8 (by simpa [Str.length] using c.2))
      have c1 : (1 : Int) ≤ (s.length : Int) := by omega
      have c2 : (s.length : Int) ≤ 8 := by omega
      simp [b_is_name, kIsi, tyD, clsOf, known, isSub, kLen, l, c1, c2, c.1, c.2, wipeD, DL.signs, nl, kAll, bools_map, nameM, List.all_map]
    · have c' : ¬ (1 ≤ s.length ∧ s.length ≤ 8) := c
      by_cases c1 : 1 ≤ s.length
      · have c2 : ¬ s.length ≤ 8 := fun z => c' ⟨c1, z⟩
        have c3 : ¬ (s.length : Int) ≤ 8 := by omega
        simp [b_is_name, kIsi, tyD, clsOf, known, isSub, kLen, l, c1, c2, c3, nameM]
      · have c3 : ¬ (1 : Int) ≤ (s.length : Int) := by omega
        simp [b_is_name, kIsi, tyD, clsOf, known, isSub, kLen, l, c1, c3, nameM]
  | loc i => cases h
  | cst i => cases h
  | scr i => cases h
  | _ => simp [b_is_name, kIsi, tyD, clsOf, known, isSub, nameM]
end K00
end L2

set_option maxRecDepth 100000
namespace L2
namespace K00
open PySem PySem.Spec PyProof.Rows DL
theorem toPys_str : ∀ cs : List Nat, toPys (cs.map fun c => DV.str ⟨#[c]⟩) = some (cs.map fun c => PyData.str ⟨#[c]⟩)
  | [] => rfl
  | c :: cs => by
    show (toPy (DV.str ⟨#[c]⟩)).bind (fun d => (toPys (cs.map fun c => DV.str ⟨#[c]⟩)).map fun ds => d :: ds) = _
    rw [toPys_str cs]; rfl
theorem lay_str : ∀ cs : List Nat, cs.all (fun c => decide (c < 0x110000)) = true → PyData.canLayAll0 (cs.map fun c => PyData.str ⟨#[c]⟩) = true ∧ PyData.depthAll (cs.map fun c => PyData.str ⟨#[c]⟩) = 0
  | [], _ => ⟨rfl, rfl⟩
  | c :: cs, h => by
    rw [List.all_cons, Bool.and_eq_true] at h
    obtain ⟨h1, h2⟩ := lay_str cs h.2
    refine ⟨?_, ?_⟩
    · show (PyData.strOk ⟨#[c]⟩ && PyData.canLayAll0 (cs.map fun c => PyData.str ⟨#[c]⟩)) = true
      rw [h1, Bool.and_true]
      simpa [PyData.strOk] using h.1
    · show max 0 (PyData.depthAll (cs.map fun c => PyData.str ⟨#[c]⟩)) = 0
      rw [h2]; rfl
def okStr (s : Str) : Bool := s.cps.toList.all (fun c => decide (c < 0x110000))
theorem eq_nil (cs : List Nat) (h : cs.all (fun c => decide (c < 0x110000)) = true) (W : Wd) : oEq (.lst (cs.map fun c => DV.str ⟨#[c]⟩)) (.lst []) W = some (.bl cs.isEmpty, W) := by
  obtain ⟨h1, h2⟩ := lay_str cs h
  have sh : SeqAt.shaped (.list (cs.map fun c => PyData.str ⟨#[c]⟩)) = true := by
    unfold SeqAt.shaped
    show (PyData.canLayAll0 _ && decide (PyData.depthAll _ + 1 ≤ 64)) = true
    rw [h1, h2]; rfl
  have sh0 : SeqAt.shaped (.list []) = true := rfl
  have e : dEqD (.lst (cs.map fun c => DV.str ⟨#[c]⟩)) (.lst []) = some cs.isEmpty := by
    unfold dEqD
    have t1 : toPy (.lst (cs.map fun c => DV.str ⟨#[c]⟩)) = some (.list (cs.map fun c => PyData.str ⟨#[c]⟩)) := by
      show (toPys _).map PyData.list = _
      rw [toPys_str]; rfl
    have t2 : toPy (.lst []) = some (.list []) := rfl
    rw [t1, t2, Option.bind_some, Option.bind_some, sh, sh0]
    cases cs with
    | nil => rfl
    | cons c cs => rfl
  show mo ((dEq (.lst (cs.map fun c => DV.str ⟨#[c]⟩)) (.lst [])).map DV.bl) W = _
  have e' : dEq (.lst (cs.map fun c => DV.str ⟨#[c]⟩)) (.lst []) = some cs.isEmpty := e
  rw [e']; rfl
theorem all_filter (p q : Nat → Bool) : ∀ cs : List Nat, cs.all p = true → (cs.filter q).all p = true := fun cs h => by
  rw [List.all_eq_true] at h ⊢
  exact fun x hx => h x (List.mem_filter.mp hx).1
theorem filter_empty (p : Nat → Bool) : ∀ cs : List Nat, (cs.filter fun c => !p c).isEmpty = cs.all p
  | [] => rfl
  | c :: cs => by
    cases q : p c with
    | true => simp [List.filter_cons, q]; simpa using filter_empty p cs
    | false => simp [List.filter_cons, q]
theorem is_title_eq (m : DV) (W : Wd) (h : plain m = true) (sz : ∀ s, m = .str s → s.length ≤ sizeLine ∧ okStr s = true) : f__law_is_title [m] W = some (.bl (nameM m), W) := by
  refine runF_rt ?_ rfl
  cases m with
  | str s =>
    obtain ⟨l, ok⟩ := sz s rfl
    by_cases c : 1 ≤ s.length ∧ s.length ≤ 8
    · have nl := title_loop W (some (.str s)) s.cps.toList [] (by rw [List.length_nil, Nat.zero_add]; exact small8 (by simpa [Str.length] using c.2))
      have c1 : (0 : Int) < (s.length : Int) := by omega
      have c2 : (s.length : Int) < 9 := by omega
      have en := eq_nil (s.cps.toList.filter fun c => !isL c) (all_filter _ _ _ ok) W
      rw [List.nil_append] at nl
      have l0 : lineOk [] = true := rfl
      have c0 : 0 < s.length := by omega
      simp [b__law_is_title, kIsi, tyD, clsOf, known, isSub, kLen, l, c1, c2, c0, c.1, c.2, wipeD, DL.signs, nl, l0, en, nameM]
      simpa using filter_empty isL s.cps.toList
    · by_cases c1 : 1 ≤ s.length
      · have c2 : ¬ s.length ≤ 8 := fun z => c ⟨c1, z⟩
        have c3 : ¬ (s.length : Int) < 9 := by omega
        have c4 : (0 : Int) < (s.length : Int) := by omega
        simp [b__law_is_title, kIsi, tyD, clsOf, known, isSub, kLen, l, c1, c2, c3, c4, nameM]
      · have c3 : ¬ (0 : Int) < (s.length : Int) := by omega
        have c0 : ¬ 0 < s.length := by omega
        simp [b__law_is_title, kIsi, tyD, clsOf, known, isSub, kLen, l, c1, c3, c0, nameM]
  | loc i => cases h
  | cst i => cases h
  | scr i => cases h
  | _ => simp [b__law_is_title, kIsi, tyD, clsOf, known, isSub, nameM]
/-! ### powers, spots -/
theorem power_eq {f l : Int} (hf : f = 2 ∨ f = 3 ∨ f = 4) (hl : l = 0 ∨ l = 1 ∨ l = 2 ∨ l = 3) (W : Wd) : f_power [.int f, .int l] W = some (.int (f ^ l.toNat), W) := by
  rcases hf with rfl | rfl | rfl <;> rcases hl with rfl | rfl | rfl | rfl <;> exact runF_rt (by kernel_rfl) rfl
theorem law_power_eq {f l : Int} (hf : f = 2 ∨ f = 3 ∨ f = 4) (hl : l = 0 ∨ l = 1 ∨ l = 2 ∨ l = 3) (W : Wd) : f__law_power [.int f, .int l] W = some (.int (f ^ l.toNat), W) := by
  rcases hf with rfl | rfl | rfl <;> rcases hl with rfl | rfl | rfl | rfl <;> exact runF_rt (by kernel_rfl) rfl
def spotM (f d : Int) (m : DV) : Bool := match pairOf m with
  | some (a, b) => (decide (0 ≤ a) && decide (a ≤ d)) && (decide (0 ≤ b) && decide (b < f ^ a.toNat))
  | none => false
theorem lev {a d : Int} (hd : d = 1 ∨ d = 2 ∨ d = 3) (h0 : 0 ≤ a) (h1 : a ≤ d) : a = 0 ∨ a = 1 ∨ a = 2 ∨ a = 3 := by omega
theorem is_spot_eq {f d : Int} (hf : f = 2 ∨ f = 3 ∨ f = 4) (hd : d = 1 ∨ d = 2 ∨ d = 3) (F : DV) (hF : F = .tup [.int f, .int d] ∨ F = .lst [.int f, .int d]) (m : DV) (W : Wd) (h : plain1 m = true) : f_is_spot [F, m] W = some (.bl (spotM f d m), W) := by
  refine runF_rt ?_ rfl
  have i0 : oIx F (.int 0) W = some (.int f, W) := by rcases hF with rfl | rfl <;> simp [oIx, itemsOf, at0]
  have i1 : oIx F (.int 1) W = some (.int d, W) := by rcases hF with rfl | rfl <;> simp [oIx, itemsOf, at1]
  rcases pair_cases m h with ⟨a, b, rfl⟩ | ⟨pn, hn | ⟨xs, rfl, hl⟩ | ⟨x, y, rfl, px, py, hi⟩⟩
  · have j0 : oIx (.tup [.int a, .int b]) (.int 0) W = some (.int a, W) := by simp [oIx, itemsOf, at0]
    have j1 : oIx (.tup [.int a, .int b]) (.int 1) W = some (.int b, W) := by simp [oIx, itemsOf, at1]
    by_cases c0 : 0 ≤ a
    · by_cases c1 : a ≤ d
      · have pw := power_eq hf (lev hd c0 c1) W
        by_cases c2 : 0 ≤ b
        · simp [b_is_spot, kIsi, tyD, clsOf, known, isSub, kLen, itemsOf, j0, j1, i0, i1, is_number_int, c0, c1, c2, pw, spotM, pairOf]
        · simp [b_is_spot, kIsi, tyD, clsOf, known, isSub, kLen, itemsOf, j0, j1, i0, i1, is_number_int, c0, c1, c2, spotM, pairOf]
      · simp [b_is_spot, kIsi, tyD, clsOf, known, isSub, kLen, itemsOf, j0, j1, i0, i1, is_number_int, c0, c1, spotM, pairOf]
    · simp [b_is_spot, kIsi, tyD, clsOf, known, isSub, kLen, itemsOf, j0, j1, i0, i1, is_number_int, c0, spotM, pairOf]
  · have sm : spotM f d m = false := by unfold spotM; rw [pn]
    rw [sm]
    have hp := plain_of h
    cases m <;> first
      | (cases hp; done)
      | (exact absurd rfl (hn _))
      | (simp [b_is_spot, kIsi, tyD, clsOf, known, isSub])
  · have sm : spotM f d (.tup xs) = false := by unfold spotM; rw [pn]
    rw [sm]
    simp [b_is_spot, kIsi, tyD, clsOf, known, isSub, kLen, itemsOf, ne2 hl]
  · have sm : spotM f d (.tup [x, y]) = false := by unfold spotM; rw [pn]
    rw [sm]
    rcases hi with hi | ⟨hi, hj⟩
    · simp [b_is_spot, kIsi, tyD, clsOf, known, isSub, kLen, itemsOf, oIx, at0, at1, is_number_eq, px, py, hi]
    · simp [b_is_spot, kIsi, tyD, clsOf, known, isSub, kLen, itemsOf, oIx, at0, at1, is_number_eq, px, py, hi, hj]
end K00
end L2

set_option maxRecDepth 100000
namespace L2
namespace K00
open PySem PySem.Spec PyProof.Rows DL
/-- a matter with which nothing goes wrong -/
structure Good (m : DV) : Prop where
  p : plain1 m = true
  s : ∀ s, m = .str s → s.length ≤ sizeLine ∧ okStr s = true
  lo : ∀ n, m.lo n = true
  r : ∃ t, dRepr m = some t
theorem last_get (W : Wd) (c : Cell) : (W ++ [c])[W.length]? = some c := by rw [List.getElem?_append_right (Nat.le_refl _)]; simp
theorem last_set (W : Wd) (c d : Cell) : (W ++ [c]).set W.length d = W ++ [d] := by
  simp
theorem app_last (W : Wd) (xs : List DV) (y : DV) (h : xs.length < 100) : dApp (.loc W.length) y (W ++ [.lst xs]) = some (.non, W ++ [.lst (xs ++ [y])]) := by
  have l : xs.length < sizeLine := Nat.lt_trans h (by rw [sizeLine_eq]; decide)
  simp only [dApp, last_get, l, if_true, last_set]
theorem frz_last {i n : Nat} {env : DEnv} {W : Wd} {xs : List DV} (h : env[i]?.join = some (.loc W.length)) (hn : n ≤ W.length) (h1 : DV.loL W.length xs = true) (h2 : (env.set i none).all (optLo W.length) = true) (h3 : W.all (Cell.lo W.length) = true) :
    frz i n env (W ++ [.lst xs]) = some (env.set i (some (.lst xs)), W) := by
  unfold frz
  rw [h]
  dsimp only
  rw [last_get]
  dsimp only
  have t : (W ++ [Cell.lst xs]).take W.length = W := by simp
  rw [t, h1, h2, h3, if_pos]
  simp [hn]
theorem optLo_s (n : Nat) (x : DV) : optLo n (some x) = x.lo n := rfl
theorem optLo_n (n : Nat) : optLo n none = true := rfl
def dueOf (f d : Int) (m : DV) : List DV := [.bl (shapeM m), .bl (nameM m), .bl (spotM f d m)]
theorem line3 (a b c : DV) : lineOk [a, b, c] = true := by unfold lineOk; rw [sizeLine_eq]; rfl
theorem ok_due (f d : Int) (m : DV) : okS 4 (.lst [.lst (dueOf f d m), .lst (dueOf f d m)]) = true := by
  have l : ∀ xs : List DV, xs.length ≤ 3 → decide (xs.length ≤ sizeLine) = true := fun xs h => decide_eq_true (Nat.le_trans h (by rw [sizeLine_eq]; decide))
  have l2 : 2 ≤ sizeLine := by rw [sizeLine_eq]; decide
  have l3 : 3 ≤ sizeLine := by rw [sizeLine_eq]; decide
  simp [okS, dueOf, l2, l3]
theorem kRepr_eq {m : DV} {t : Str} (h : dRepr m = some t) (W : Wd) : kRepr [m] W = some (.str t, W) := by simp [kRepr, h]
theorem kList_pair (a b : DV) (W : Wd) : kList [.tup [a, b]] W = some (.lst [a, b], W) := rfl
theorem perm10 (a b : DV) : perm [1, 0] [a, b] = [b, a] := rfl
theorem perm0 (a : DV) : perm [0] [a] = [a] := rfl
theorem due1 {m : DV} (h : plain1 m = true) (W : Wd) (e0 e1 e2 e4 e6 e7 e8 e9 e10 : Option DV) :
    (eAnd (eV 5) (eAnd (eO oIn (eO oIx (eV 3) (eC (.int 0))) (eTup (aC (eC (.int 2)) (aC (eC (.int 3)) (aC (eC (.int 4)) aN))))) (eO oIn (eO oIx (eV 3) (eC (.int 1))) (eTup (aC (eC (.int 1)) (aC (eC (.int 2)) (aC (eC (.int 3)) aN))))))) [e0, e1, e2, some m, e4, some (.bl (pairOf m).isSome), e6, e7, e8, e9, e10] W = some (.bl (shapeM m), W) := by
  rcases pair_cases m h with ⟨a, b, rfl⟩ | ⟨pn, _⟩
  · simp [oIx, itemsOf, at0, at1, oIn, dIn, flatD, flatDs, shapeM, pairOf, inF, inD, line3]
    cases inV (.int a) [.int 2, .int 3, .int 4] <;> simp
  · have sm : shapeM m = false := by unfold shapeM; rw [pn]
    simp [pn, sm]
theorem due3 {f d : Int} (hf : f = 2 ∨ f = 3 ∨ f = 4) (hd : d = 1 ∨ d = 2 ∨ d = 3) {m : DV} (h : plain1 m = true) (W : Wd) (e0 e2 e4 e6 e7 e8 e9 e10 : Option DV) :
    (eAnd (eV 5) (eAnd (eCh oLe oLe (eC (.int 0)) (eO oIx (eV 3) (eC (.int 0))) (eO oIx (eV 1) (eC (.int 1)))) (eCh oLe oLt (eC (.int 0)) (eO oIx (eV 3) (eC (.int 1))) (eF 2 f__law_power (aC (eO oIx (eV 1) (eC (.int 0))) (aC (eO oIx (eV 3) (eC (.int 0))) aN)))))) [e0, some (.tup [.int f, .int d]), e2, some m, e4, some (.bl (pairOf m).isSome), e6, e7, e8, e9, e10] W = some (.bl (spotM f d m), W) := by
  rcases pair_cases m h with ⟨a, b, rfl⟩ | ⟨pn, _⟩
  · by_cases c0 : 0 ≤ a
    · by_cases c1 : a ≤ d
      · have pw := law_power_eq hf (lev hd c0 c1) W
        by_cases c2 : 0 ≤ b
        · simp [oIx, itemsOf, at0, at1, c0, c1, c2, pw, spotM, pairOf]
        · simp [oIx, itemsOf, at0, at1, c0, c1, c2, spotM, pairOf]
      · simp [oIx, itemsOf, at0, at1, c0, c1, spotM, pairOf]
    · simp [oIx, itemsOf, at0, at1, c0, spotM, pairOf]
  · have sm : spotM f d m = false := by unfold spotM; rw [pn]
    simp [pn, sm]
theorem body_ok {f d : Int} (hf : f = 2 ∨ f = 3 ∨ f = 4) (hd : d = 1 ∨ d = 2 ∨ d = 3) {b : Nat} {sp m : DV} (g : Good m) {W : Wd} (hb : b < W.length) (hs : ∀ n, sp.lo n = true) (hW : W.all (Cell.lo W.length) = true) (e4 e5 e6 e7 e8 e9 e10 : Option DV)
    (h7 : optLo W.length e7 = true) (h8 : optLo W.length e8 = true) (h9 : optLo W.length e9 = true) (h10 : optLo W.length e10 = true) :
    ∃ t, b__law_right_L2 W.length [some (.loc b), some (.tup [.int f, .int d]), some sp, some m, e4, e5, e6, e7, e8, e9, e10] W =
      some (.nx [some (.loc b), some (.tup [.int f, .int d]), some sp, some m, some (.str t), some (.bl (pairOf m).isSome), some (.lst (dueOf f d m)), some (.lst (dueOf f d m)), some (.lst (dueOf f d m)), e9, e10], W) := by
  obtain ⟨t, ht⟩ := g.r
  refine ⟨t, ?_⟩
  have pm := plain_of g.p
  have ip := is_pair_eq m W g.p
  have s1 := is_shape_eq m W g.p
  have n1 := is_name_eq m W pm fun s e => (g.s s e).1
  have ti := is_title_eq m W pm g.s
  have p1 := is_spot_eq hf hd (.tup [.int f, .int d]) (.inl rfl) m W g.p
  have p2 := is_spot_eq hf hd (.lst [.int f, .int d]) (.inr rfl) m W g.p
  have sm := same_refl 4 _ W (ok_due f d m)
  have kr := kRepr_eq ht W
  have d1 := due1 g.p W (some (.loc b)) (some (.tup [.int f, .int d])) (some sp) (some (.str t)) e6 e7 e8 e9 e10
  have d3 := due3 hf hd g.p (W ++ [.lst [.bl (shapeM m), .bl (nameM m)]]) (some (.loc b)) (some sp) (some (.str t)) (some (.loc W.length)) e7 e8 e9 e10
  have ap := app_last W [.bl (shapeM m), .bl (nameM m)] (.bl (spotM f d m)) (by show 2 < 100; decide)
  have fz : frz 6 W.length [some (.loc b), some (.tup [.int f, .int d]), some sp, some m, some (.str t), some (.bl (pairOf m).isSome), some (.loc W.length), e7, e8, e9, e10] (W ++ [.lst [.bl (shapeM m), .bl (nameM m), .bl (spotM f d m)]]) = _ :=
    frz_last rfl (Nat.le_refl _) rfl (by simp only [List.set_cons_succ, List.set_cons_zero, List.all_cons, List.all_nil, optLo_s, optLo_n, DV.lo, DV.loL, hs, g.lo, h7, h8, h9, h10, decide_eq_true hb, Bool.and_self]) hW
  unfold b__law_right_L2
  rw [r_sSeq, r_sPar]
  simp only [r_eK, r_aC, r_eV, r_aN, r_eF, List.getElem?_cons_succ, List.getElem?_cons_zero, Option.join_some, mo_some, Option.bind_some, kr, List.length_cons, List.length_nil, beq_self_eq_true, if_true, ip, List.set_cons_succ, List.set_cons_zero, seqK_nx, Nat.zero_add]
  rw [r_sSeq, r_sAsg, r_eNew]
  simp only [r_aC, d1, Option.bind_some, r_eF, r_eV, r_aN, List.getElem?_cons_succ, List.getElem?_cons_zero, Option.join_some, mo_some, List.length_cons, List.length_nil, beq_self_eq_true, if_true, ti, line2, r_gN, List.set_cons_succ, List.set_cons_zero, seqK_nx, Nat.zero_add]
  rw [r_sSeq, r_sExpr, r_eApp]
  simp only [d3, Option.bind_some, r_eV, List.getElem?_cons_succ, List.getElem?_cons_zero, Option.join_some, mo_some, ap, seqK_nx, List.cons_append, List.nil_append]
  unfold sFrz
  rw [fz]
  simp only [List.set_cons_succ, List.set_cons_zero]
  rw [r_sSeq, r_sAsg, r_eLst]
  simp only [r_aC, Option.bind_some, r_eF, r_eV, r_aN, List.getElem?_cons_succ, List.getElem?_cons_zero, Option.join_some, mo_some, List.length_cons, List.length_nil, beq_self_eq_true, if_true, s1, n1, p1, line3, r_gN, List.set_cons_succ, List.set_cons_zero, seqK_nx, Nat.zero_add, Nat.reduceAdd]
  rw [r_sSeq, r_sAsg, r_eLst]
  simp only [r_aC, Option.bind_some, r_eFK, r_eK, kList_pair, perm10, perm0, r_eV, r_aN, List.getElem?_cons_succ, List.getElem?_cons_zero, Option.join_some, mo_some, List.length_cons, List.length_nil, beq_self_eq_true, if_true, s1, n1, p2, line3, r_gN, List.set_cons_succ, List.set_cons_zero, seqK_nx, Nat.zero_add, Nat.reduceAdd]
  rw [r_sIf, r_bOr]
  simp only [dueOf] at sm ⊢
  simp [sm, line2, kr]
end K00
end L2

set_option maxRecDepth 100000
namespace L2
namespace K00
open PySem PySem.Spec PyProof.Rows DL
/-! ### small data have a repr -/
def td : Nat → DV → Bool
  | 0, _ => false
  | k + 1, x => match x with
    | .non => true
    | .bl _ => true
    | .int i => decide (i.natAbs < 2 ^ 70)
    | .str s => s.cps.toList.all (fun c => decide (c < 0x110000)) && decide (s.length ≤ 60)
    | .tup xs => decide (xs.length ≤ 4) && xs.all (td k)
    | .lst xs => decide (xs.length ≤ 4) && xs.all (td k)
    | _ => false
structure Tdy (k : Nat) (d : PyData) : Prop where
  sh : d.showable = true
  nd : d.hasDict = false
  dp : d.depth ≤ k
  sho : d.leavesShort 80 = true
  wt : d.weight + 1 ≤ 72 * 5 ^ k
structure TdyL (k n : Nat) (ds : List PyData) : Prop where
  sh : PyData.showableAll ds = true
  nd : PyData.hasDictAll ds = false
  dp : PyData.depthAll ds ≤ k
  sho : PyData.leavesShortAll 80 ds = true
  wt : PyData.weightAll ds ≤ n * (72 * 5 ^ k)
theorem pow5 (k : Nat) : 1 ≤ 5 ^ k := Nat.one_le_pow _ _ (by decide)
theorem log2_lt {n : Nat} (h : n < 2 ^ 70) : n.log2 < 70 := by
  by_cases z : n = 0
  · subst z; decide
  · exact (Nat.log2_lt z).mpr h
theorem td_list (k : Nat) (ih : ∀ x, td k x = true → ∃ d, toPy x = some d ∧ Tdy k d) : ∀ xs : List DV, xs.all (td k) = true → ∃ ds, toPys xs = some ds ∧ TdyL k xs.length ds
  | [], _ => ⟨[], rfl, rfl, rfl, Nat.zero_le _, rfl, Nat.zero_le _⟩
  | x :: xs, h => by
    rw [List.all_cons, Bool.and_eq_true] at h
    obtain ⟨d, e, t⟩ := ih x h.1
    obtain ⟨ds, es, ts⟩ := td_list k ih xs h.2
    refine ⟨d :: ds, ?_, ?_, ?_, ?_, ?_, ?_⟩
    · show (toPy x).bind (fun d => (toPys xs).map fun ds => d :: ds) = _
      rw [e, es]; rfl
    · show (d.showable && PyData.showableAll ds) = true
      rw [t.sh, ts.sh]; rfl
    · show (d.hasDict || PyData.hasDictAll ds) = false
      rw [t.nd, ts.nd]; rfl
    · exact Nat.max_le.mpr ⟨t.dp, ts.dp⟩
    · show (d.leavesShort 80 && PyData.leavesShortAll 80 ds) = true
      rw [t.sho, ts.sho]; rfl
    · show d.weight + 1 + PyData.weightAll ds ≤ (xs.length + 1) * (72 * 5 ^ k)
      have := t.wt
      have := ts.wt
      rw [Nat.add_mul]
      omega
theorem td_ok : ∀ (k : Nat) (x : DV), td k x = true → ∃ d, toPy x = some d ∧ Tdy k d
  | 0, _, h => by cases h
  | k + 1, x, h => by
    have p := pow5 (k + 1)
    have p5 : 5 ^ (k + 1) = 5 * 5 ^ k := by rw [Nat.pow_succ]; omega
    have pk := pow5 k
    cases x with
    | non => exact ⟨_, rfl, rfl, rfl, Nat.zero_le _, rfl, by show 0 + 1 ≤ _; omega⟩
    | bl b => exact ⟨_, rfl, rfl, rfl, Nat.zero_le _, rfl, by show 0 + 1 ≤ _; omega⟩
    | int i =>
      have hi : i.natAbs < 2 ^ 70 := of_decide_eq_true h
      have lg := log2_lt hi
      refine ⟨_, rfl, decide_eq_true (by omega), rfl, Nat.zero_le _, ?_, ?_⟩
      · show decide ((PyData.shown (.int i)).length ≤ 80) = true
        refine decide_eq_true ?_
        have := int_text_length_le (a := i) (k := 70) (by decide) lg
        have e : (PyData.shown (.int i)).length = (toString i).length := by
          show (Str.ofString (toString i)).length = _
          exact PySem.ofString_length _
        omega
      · show (if i == 0 then 0 else i.natAbs.log2 + 1) + 1 ≤ _
        split <;> omega
    | str s =>
      have h' : (s.cps.toList.all (fun c => decide (c < 0x110000)) && decide (s.length ≤ 60)) = true := h
      rw [Bool.and_eq_true] at h'
      have l := of_decide_eq_true h'.2
      refine ⟨_, rfl, rfl, rfl, Nat.zero_le _, ?_, ?_⟩
      · show (s.cps.toList.all fun c => decide (c < 16 ^ 8)) = true
        rw [List.all_eq_true]
        intro c hc
        have := of_decide_eq_true (List.all_eq_true.mp h'.1 c hc)
        exact decide_eq_true (by omega)
      · show s.cps.size + 1 ≤ _
        have : s.cps.size = s.length := rfl
        omega
    | tup xs =>
      have h' : (decide (xs.length ≤ 4) && xs.all (td k)) = true := h
      rw [Bool.and_eq_true] at h'
      have l := of_decide_eq_true h'.1
      obtain ⟨ds, e, t⟩ := td_list k (td_ok k) xs h'.2
      refine ⟨.tuple ds, by show (toPys xs).map PyData.tuple = _; rw [e]; rfl, t.sh, t.nd, Nat.succ_le_succ t.dp, t.sho, ?_⟩
      show PyData.weightAll ds + 1 ≤ _
      have a1 := t.wt
      have a2 : xs.length * (72 * 5 ^ k) ≤ 4 * (72 * 5 ^ k) := Nat.mul_le_mul_right _ l
      omega
    | lst xs =>
      have h' : (decide (xs.length ≤ 4) && xs.all (td k)) = true := h
      rw [Bool.and_eq_true] at h'
      have l := of_decide_eq_true h'.1
      obtain ⟨ds, e, t⟩ := td_list k (td_ok k) xs h'.2
      refine ⟨.list ds, by show (toPys xs).map PyData.list = _; rw [e]; rfl, t.sh, t.nd, Nat.succ_le_succ t.dp, t.sho, ?_⟩
      show PyData.weightAll ds + 1 ≤ _
      have a1 := t.wt
      have a2 : xs.length * (72 * 5 ^ k) ≤ 4 * (72 * 5 ^ k) := Nat.mul_le_mul_right _ l
      omega
    | loc i => cases h
    | cst i => cases h
    | scr i => cases h
theorem td_repr {x : DV} (h : td 3 x = true) : ∃ t, dRepr x = some t := by
  obtain ⟨d, e, t⟩ := td_ok 3 x h
  refine ⟨d.shown, ?_⟩
  unfold dRepr
  have le := PyData.shown_le 80 (by decide) d t.sho
  have w := t.wt
  have l : d.shown.length ≤ sizeLine := by
    rw [sizeLine_eq]
    have : (80 + 2) * d.weight ≤ 82 * 9000 := Nat.mul_le_mul (Nat.le_refl _) (by have : 72 * 5 ^ 3 = 9000 := rfl; omega)
    omega
  have dp := t.dp
  rw [e, Option.bind_some, t.sh, t.nd, decide_eq_true (show d.depth ≤ 64 by omega), decide_eq_true l]
  rfl
mutual
theorem td_lo : ∀ (k : Nat) (x : DV), td k x = true → ∀ n, x.lo n = true
  | 0, _, h, _ => by cases h
  | k + 1, x, h, n => by
    cases x with
    | tup xs =>
      have h' : (decide (xs.length ≤ 4) && xs.all (td k)) = true := h
      rw [Bool.and_eq_true] at h'
      exact td_loL k xs h'.2 n
    | lst xs =>
      have h' : (decide (xs.length ≤ 4) && xs.all (td k)) = true := h
      rw [Bool.and_eq_true] at h'
      exact td_loL k xs h'.2 n
    | loc i => cases h
    | _ => rfl
theorem td_loL : ∀ (k : Nat) (xs : List DV), xs.all (td k) = true → ∀ n, DV.loL n xs = true
  | _, [], _, _ => rfl
  | k, x :: xs, h, n => by
    rw [List.all_cons, Bool.and_eq_true] at h
    show (x.lo n && DV.loL n xs) = true
    rw [td_lo k x h.1 n, td_loL k xs h.2 n]; rfl
end
theorem td_plain {k : Nat} {x : DV} (h : td k x = true) : plain x = true := by
  cases k with
  | zero => cases h
  | succ k => cases x <;> first | rfl | cases h
theorem td_good {x : DV} (h : td 3 x = true) : Good x where
  p := by
    cases x with
    | tup xs =>
      have h' : (decide (xs.length ≤ 4) && xs.all (td 2)) = true := h
      rw [Bool.and_eq_true] at h'
      show xs.all plain = true
      rw [List.all_eq_true]
      exact fun y hy => td_plain (List.all_eq_true.mp h'.2 y hy)
    | _ => exact td_plain h
  s := fun s e => by
    subst e
    have h' : (s.cps.toList.all (fun c => decide (c < 0x110000)) && decide (s.length ≤ 60)) = true := h
    rw [Bool.and_eq_true] at h'
    exact ⟨Nat.le_trans (of_decide_eq_true h'.2) (by rw [sizeLine_eq]; decide), h'.1⟩
  lo := td_lo 3 x h
  r := td_repr h
/-! ### the first loop -/
theorem loop_ok {f d : Int} (hf : f = 2 ∨ f = 3 ∨ f = 4) (hd : d = 1 ∨ d = 2 ∨ d = 3) {b : Nat} {sp : DV} {W : Wd} (hb : b < W.length) (hs : ∀ n, sp.lo n = true) (hW : W.all (Cell.lo W.length) = true) (e9 e10 : Option DV)
    (h9 : optLo W.length e9 = true) (h10 : optLo W.length e10 = true) : ∀ (ms : List DV), (∀ m ∈ ms, Good m) → ∀ (e3 e4 e5 e6 e7 e8 : Option DV), optLo W.length e7 = true → optLo W.length e8 = true →
    ∃ x3 x4 x5 x6 x7 x8, sLoop (gN 3) b__law_right_L2 W.length ms [some (.loc b), some (.tup [.int f, .int d]), some sp, e3, e4, e5, e6, e7, e8, e9, e10] W =
      some (.nx [some (.loc b), some (.tup [.int f, .int d]), some sp, x3, x4, x5, x6, x7, x8, e9, e10], W)
  | [], _, e3, e4, e5, e6, e7, e8, _, _ => ⟨e3, e4, e5, e6, e7, e8, rfl⟩
  | m :: ms, hm, e3, e4, e5, e6, e7, e8, h7, h8 => by
    obtain ⟨t, ht⟩ := body_ok hf hd (hm m List.mem_cons_self) hb hs hW e4 e5 e6 e7 e8 e9 e10 h7 h8 h9 h10
    have due : optLo W.length (some (.lst (dueOf f d m))) = true := rfl
    obtain ⟨x3, x4, x5, x6, x7, x8, e⟩ := loop_ok hf hd hb hs hW e9 e10 h9 h10 ms (fun y hy => hm y (List.mem_cons_of_mem _ hy)) (some m) (some (.str t)) (some (.bl (pairOf m).isSome)) (some (.lst (dueOf f d m))) (some (.lst (dueOf f d m))) (some (.lst (dueOf f d m))) due due
    refine ⟨x3, x4, x5, x6, x7, x8, ?_⟩
    rw [r_sLoop, r_gN, Option.bind_some]
    simp only [List.set_cons_succ, List.set_cons_zero]
    rw [ht, Option.bind_some, loopK_nx, e]
end K00
end L2

set_option maxRecDepth 100000
namespace L2
namespace K00
open PySem PySem.Spec PyProof.Rows DL
/-! ### matters -/
def mattersL (p q u v : Int) : List DV :=
  [.tup [.int p, .int q], .lst [.int p, .int q], .tup [.int p], .tup [.int p, .int q, .int 1], .tup [.int p, .bl true], .tup [.bl false, .int q], .tup [.int p, .str "1"], .non, .int 3, .str "a",
   .tup [.int (p + 1), .int q], .tup [.int p, .int (q + 1)], .tup [.int (p - 1), .int q], .tup [.int p, .int (0 - q)],
   .str "", .str "abcdefgh", .str "abcdefghi", .str "Ab", .str "a1", .str "a b", .tup [.str "a"], .lst [.str "a"], .bl true, .tup [], .lst [], .tup [.int 2, .int 100000000000000000000], .str "z",
   .tup [.int u, .int v], .tup [.int 4, .int 3], .tup [.int 2, .int 0], .tup [.int 5, .int 1], .tup [.int 1, .int 1], .tup [.tup [.int p, .int q], .tup [.int p, .int q]], .tup [.tup [.int 2, .int 1]]]
theorem smallI {i : Int} (h0 : -1000000 ≤ i) (h1 : i ≤ 1000000) : i.natAbs < 2 ^ 70 := by
  have : (2 : Nat) ^ 70 = 1180591620717411303424 := by decide
  omega
theorem matters_good {p q u v : Int} (p0 : -1000 ≤ p) (p1 : p ≤ 1000) (q0 : -1000 ≤ q) (q1 : q ≤ 1000) (u0 : 0 ≤ u) (u1 : u < 6) (v0 : 0 ≤ v) (v1 : v < 5) : ∀ m ∈ mattersL p q u v, Good m := by
  have hp : p.natAbs < 2 ^ 70 := smallI (by omega) (by omega)
  have hq : q.natAbs < 2 ^ 70 := smallI (by omega) (by omega)
  have hp1 : (p + 1).natAbs < 2 ^ 70 := smallI (by omega) (by omega)
  have hp2 : (p - 1).natAbs < 2 ^ 70 := smallI (by omega) (by omega)
  have hq1 : (q + 1).natAbs < 2 ^ 70 := smallI (by omega) (by omega)
  have hq2 : (0 - q).natAbs < 2 ^ 70 := smallI (by omega) (by omega)
  have hu : u.natAbs < 2 ^ 70 := smallI (by omega) (by omega)
  have hv : v.natAbs < 2 ^ 70 := smallI (by omega) (by omega)
  have all : (mattersL p q u v).all (td 3) = true := by
    have s1 : td 3 (.str "a") = true := by decide +kernel
    have s2 : td 3 (.str "") = true := by decide +kernel
    have s3 : td 3 (.str "abcdefgh") = true := by decide +kernel
    have s4 : td 3 (.str "abcdefghi") = true := by decide +kernel
    have s5 : td 3 (.str "Ab") = true := by decide +kernel
    have s6 : td 3 (.str "a1") = true := by decide +kernel
    have s7 : td 3 (.str "a b") = true := by decide +kernel
    have s8 : td 3 (.str "z") = true := by decide +kernel
    have t1 : td 2 (.str "1") = true := by decide +kernel
    have t2 : td 2 (.str "a") = true := by decide +kernel
    have i1 : ∀ i : Int, i.natAbs < 2 ^ 70 → td 2 (.int i) = true := fun i h => decide_eq_true h
    have i0 : ∀ i : Int, i.natAbs < 2 ^ 70 → td 1 (.int i) = true := fun i h => decide_eq_true h
    have l : ∀ (k : Nat) (xs : List DV), xs.length ≤ 4 → xs.all (td k) = true → td (k + 1) (.tup xs) = true := fun k xs h1 h2 => by
      show (decide (xs.length ≤ 4) && xs.all (td k)) = true
      rw [decide_eq_true h1, h2]; rfl
    have l' : ∀ (k : Nat) (xs : List DV), xs.length ≤ 4 → xs.all (td k) = true → td (k + 1) (.lst xs) = true := fun k xs h1 h2 => by
      show (decide (xs.length ≤ 4) && xs.all (td k)) = true
      rw [decide_eq_true h1, h2]; rfl
    have two : ∀ (k : Nat) (x y : DV), td k x = true → td k y = true → td (k + 1) (.tup [x, y]) = true := fun k x y h1 h2 => l k _ (by show 2 ≤ 4; decide) (by rw [List.all_cons, List.all_cons, h1, h2]; rfl)
    have b2 : ∀ b : Bool, td 2 (.bl b) = true := fun b => rfl
    unfold mattersL
    simp only [List.all_cons, List.all_nil, Bool.and_true, Bool.and_eq_true]
    refine ⟨two _ _ _ (i1 _ hp) (i1 _ hq), l' _ _ (by show 2 ≤ 4; decide) (by rw [List.all_cons, List.all_cons, i1 _ hp, i1 _ hq]; rfl), l _ _ (by show 1 ≤ 4; decide) (by rw [List.all_cons, i1 _ hp]; rfl),
      l _ _ (by show 3 ≤ 4; decide) (by rw [List.all_cons, List.all_cons, i1 _ hp, i1 _ hq]; decide +kernel), two _ _ _ (i1 _ hp) (b2 _), two _ _ _ (b2 _) (i1 _ hq), two _ _ _ (i1 _ hp) t1, rfl, by decide +kernel, s1,
      two _ _ _ (i1 _ hp1) (i1 _ hq), two _ _ _ (i1 _ hp) (i1 _ hq1), two _ _ _ (i1 _ hp2) (i1 _ hq), two _ _ _ (i1 _ hp) (i1 _ hq2), s2, s3, s4, s5, s6, s7, by decide +kernel, by decide +kernel, rfl, rfl, rfl, by decide +kernel, s8,
      two _ _ _ (i1 _ hu) (i1 _ hv), by decide +kernel, by decide +kernel, by decide +kernel, by decide +kernel, two _ _ _ (two _ _ _ (i0 _ hp) (i0 _ hq)) (two _ _ _ (i0 _ hp) (i0 _ hq)), by decide +kernel⟩
  exact fun m hm => td_good (List.all_eq_true.mp all m hm)
theorem line_of {xs : List DV} (h : xs.length ≤ 100) : lineOk xs = true := decide_eq_true (Nat.le_trans h (by rw [sizeLine_eq]; decide))
theorem add_lst (xs ys : List DV) (h : xs.length + ys.length ≤ 100) (W : Wd) : oAdd (.lst xs) (.lst ys) W = some (.lst (xs ++ ys), W) := by
  have : decide (xs.length + ys.length ≤ sizeLine) = true := decide_eq_true (Nat.le_trans h (by rw [sizeLine_eq]; decide))
  show mo (if decide (xs.length + ys.length ≤ sizeLine) = true then _ else none) W = _
  rw [if_pos this]; rfl
theorem matters_spec {W : Wd} {b : Nat} {c p q : Int} (hb : Box W b c) (hc : c < 100000) :
    ∃ u v W', f__law_matters [.loc b, .tup [.int p, .int q]] W = some (.lst (mattersL p q u v), W') ∧ 0 ≤ u ∧ u < 6 ∧ 0 ≤ v ∧ v < 5 ∧ Box W' b (c + 2) ∧ Sm W W' b := by
  obtain ⟨u, W1, e1, u0, u1, b1, m1⟩ := take_spec (n := 6) hb (by decide) (by decide) (by omega)
  obtain ⟨v, W2, e2, v0, v1, b2, m2⟩ := take_spec (n := 5) b1 (by decide) (by decide) (by omega)
  have c2 : c + 1 + 1 = c + 2 := by omega
  rw [c2] at b2
  refine ⟨u, v, W2, runF_rt ?_ (m1.trans m2).len, u0, u1, v0, v1, b2, m1.trans m2⟩
  have i0 : ∀ W, oIx (.tup [.int p, .int q]) (.int 0) W = some (.int p, W) := fun W => by simp [oIx, itemsOf, at0]
  have i1 : ∀ W, oIx (.tup [.int p, .int q]) (.int 1) W = some (.int q, W) := fun W => by simp [oIx, itemsOf, at1]
  have kl : ∀ W, kList [.tup [.int p, .int q]] W = some (.lst [.int p, .int q], W) := fun W => rfl
  have sl : ∀ W, dSl (.tup [.int p, .int q]) none (some 1) W = some (.tup [.int p], W) := fun W => by kernel_rfl
  have ad : ∀ W, oAdd (.tup [.int p, .int q]) (.tup [.int 1]) W = some (.tup [.int p, .int q, .int 1], W) := fun W => by kernel_rfl
  have pw : ∀ W, oPow (.int 10) (.int 20) W = some (.int 100000000000000000000, W) := fun W => by kernel_rfl
  have ti : toI (.int 1) = some (some 1) := rfl
  simp [b__law_matters, i0, i1, kl, sl, ad, pw, ti, e1, e2, line_of, add_lst, mattersL]
end K00
end L2

set_option maxRecDepth 100000
namespace L2
namespace K00
open PySem PySem.Spec PyProof.Rows DL
/-! ### ways -/
def wayL (f d b : Int) : List DV :=
  if d = 1 then [.tup [.int 0, .int (b / f)], .tup [.int 1, .int b]]
  else if d = 2 then [.tup [.int 0, .int (b / (f * f))], .tup [.int 1, .int (b / f)], .tup [.int 2, .int b]]
  else [.tup [.int 0, .int (b / (f * f * f))], .tup [.int 1, .int (b / (f * f))], .tup [.int 2, .int (b / f)], .tup [.int 3, .int b]]
theorem z0 : 0 < sizeLine := by rw [sizeLine_eq]; decide
theorem z1 : 1 < sizeLine := by rw [sizeLine_eq]; decide
theorem z2 : 2 < sizeLine := by rw [sizeLine_eq]; decide
theorem z3 : 3 < sizeLine := by rw [sizeLine_eq]; decide
theorem up2 : upFrom 0 2 = [.int 0, .int 1] := rfl
theorem up3 : upFrom 0 3 = [.int 0, .int 1, .int 2] := rfl
theorem up4 : upFrom 0 4 = [.int 0, .int 1, .int 2, .int 3] := rfl
theorem way_eq {f d : Int} (hf : f = 2 ∨ f = 3 ∨ f = 4) (hd : d = 1 ∨ d = 2 ∨ d = 3) (F : DV) (hF : F = .tup [.int f, .int d] ∨ F = .lst [.int f, .int d]) (b : Int) (W : Wd) : f_way [F, .int b] W = some (.tup (wayL f d b), W) := by
  refine runF_rt ?_ rfl
  have p0 := power_eq hf (l := 0) (.inl rfl) W
  have p1 := power_eq hf (l := 1) (.inr (.inl rfl)) W
  have p2 := power_eq hf (l := 2) (.inr (.inr (.inl rfl))) W
  have p3 := power_eq hf (l := 3) (.inr (.inr (.inr rfl))) W
  have r2 : rngOk 2 = true := by decide
  have r3 : rngOk 3 = true := by decide
  have r4 : rngOk 4 = true := by decide
  have kt : ∀ xs : List DV, kTuple [.lst xs] W = some (.tup xs, W) := fun xs => rfl
  rcases hF with rfl | rfl <;> rcases hd with rfl | rfl | rfl <;> rcases hf with rfl | rfl | rfl <;>
    simp [b_way, p0, p1, p2, p3, r2, r3, r4, up2, up3, up4, wipeD, line2, z0, z1, z2, z3, kt, wayL]
theorem st2 : stepFrom 1 (-1) 2 = [.int 1, .int 0] := rfl
theorem st3 : stepFrom 2 (-1) 3 = [.int 2, .int 1, .int 0] := rfl
theorem st4 : stepFrom 3 (-1) 4 = [.int 3, .int 2, .int 1, .int 0] := rfl
theorem div_div {b f : Int} (hf : f = 2 ∨ f = 3 ∨ f = 4) : b / f / f = b / (f * f) ∧ b / (f * f) / f = b / (f * f * f) := by
  rcases hf with rfl | rfl | rfl <;> omega
theorem path_eq {f d : Int} (hf : f = 2 ∨ f = 3 ∨ f = 4) (hd : d = 1 ∨ d = 2 ∨ d = 3) (b : Int) (W : Wd) : f__law_path [.tup [.int f, .int d], .int b] W = some (.lst (wayL f d b), W) := by
  refine runF_rt ?_ rfl
  have i0 : ∀ W, oIx (.tup [.int f, .int d]) (.int 0) W = some (.int f, W) := fun W => by simp [oIx, itemsOf, at0]
  have i1 : ∀ W, oIx (.tup [.int f, .int d]) (.int 1) W = some (.int d, W) := fun W => by simp [oIx, itemsOf, at1]
  have dd := div_div (b := b) hf
  have bf : (0 < f ∧ f < 1073741824) := by rcases hf with rfl | rfl | rfl <;> decide
  have c1 : rngOk 1 = true := by decide
  have c2 : rngOk 2 = true := by decide
  have c3 : rngOk 3 = true := by decide
  have c0 : rngOk (-1) = true := by decide
  have l1 : ∀ x : DV, lineOk [x] = true := fun x => by unfold lineOk; rw [sizeLine_eq]; rfl
  rcases hd with rfl | rfl | rfl
  · simp [b__law_path, b__law_path_L1, i0, i1, iDown, mb_apply, c1, c0, st2, line2, l1, line_of, add_lst, bf, wayL, dd]
  · simp [b__law_path, b__law_path_L1, i0, i1, iDown, mb_apply, c2, c0, st3, line2, l1, line_of, add_lst, bf, wayL, dd]
  · simp [b__law_path, b__law_path_L1, i0, i1, iDown, mb_apply, c3, c0, st4, line2, l1, line_of, add_lst, bf, wayL, dd]
end K00
end L2

set_option maxRecDepth 100000
namespace L2
namespace K00
open PySem PySem.Spec PyProof.Rows DL
theorem due_way (f d b : Int) : okS 4 (.lst [.tup (wayL f d b), .tup (wayL f d b)]) = true := by
  have l2 : 2 ≤ sizeLine := Nat.le_of_lt z2
  have l3 : 3 ≤ sizeLine := Nat.le_of_lt z3
  have l4 : 4 ≤ sizeLine := by rw [sizeLine_eq]; decide
  unfold wayL
  split
  · simp [okS, l2]
  · split
    · simp [okS, l2, l3]
    · simp [okS, l2, l4]
theorem block_ok {f d : Int} (hf : f = 2 ∨ f = 3 ∨ f = 4) (hd : d = 1 ∨ d = 2 ∨ d = 3) (b : Int) (n : Nat) (W : Wd) (e0 e2 e3 e4 e5 e6 e7 e8 e10 : Option DV) :
    b__law_right_L1 n [e0, some (.tup [.int f, .int d]), e2, e3, e4, e5, e6, e7, e8, some (.int b), e10] W = some (.nx [e0, some (.tup [.int f, .int d]), e2, e3, e4, e5, e6, e7, e8, some (.int b), some (.tup (wayL f d b))], W) := by
  have w1 := way_eq hf hd (.tup [.int f, .int d]) (.inl rfl) b W
  have w2 := way_eq hf hd (.lst [.int f, .int d]) (.inr rfl) b W
  have pt := path_eq hf hd b W
  have sm := same_refl 4 _ W (due_way f d b)
  have kt : ∀ xs : List DV, kTuple [.lst xs] W = some (.tup xs, W) := fun xs => rfl
  simp [b__law_right_L1, w1, w2, pt, kt, kList_pair, perm10, line2, sm]
theorem blocks_ok {f d : Int} (hf : f = 2 ∨ f = 3 ∨ f = 4) (hd : d = 1 ∨ d = 2 ∨ d = 3) (n : Nat) (W : Wd) (e0 e2 e3 e4 e5 e6 e7 e8 : Option DV) : ∀ (bs : List Int) (e9 e10 : Option DV),
    ∃ x9 x10, sLoop (gN 9) b__law_right_L1 n (bs.map DV.int) [e0, some (.tup [.int f, .int d]), e2, e3, e4, e5, e6, e7, e8, e9, e10] W = some (.nx [e0, some (.tup [.int f, .int d]), e2, e3, e4, e5, e6, e7, e8, x9, x10], W)
  | [], e9, e10 => ⟨e9, e10, rfl⟩
  | b :: bs, e9, e10 => by
    have h := block_ok hf hd b n W e0 e2 e3 e4 e5 e6 e7 e8 e10
    obtain ⟨x9, x10, e⟩ := blocks_ok hf hd n W e0 e2 e3 e4 e5 e6 e7 e8 bs (some (.int b)) (some (.tup (wayL f d b)))
    refine ⟨x9, x10, ?_⟩
    rw [List.map_cons, r_sLoop, r_gN, Option.bind_some]
    simp only [List.set_cons_succ, List.set_cons_zero]
    rw [h, Option.bind_some, loopK_nx, e]
theorem upFrom_map (n : Nat) : upFrom 0 n = ((List.range n).map fun i => (0 : Int) + (i : Nat)).map DV.int := by
  unfold upFrom
  rw [List.map_map]
  rfl
theorem box_lt {W : Wd} {b : Nat} {c : Int} (h : Box W b c) : b < W.length := by
  obtain ⟨_, _, _, e, _⟩ := h
  exact (List.getElem?_eq_some_iff.mp e).1
/-- every cell is a box of numbers -/
def Ints (W : Wd) : Prop := ∀ (j : Nat) (c : Cell), W[j]? = some c → ∃ x y z : Int, c = .lst [.int x, .int y, .int z]
theorem Ints.lo {W : Wd} (h : Ints W) (n : Nat) : W.all (Cell.lo n) = true := by
  rw [List.all_eq_true]
  intro c hc
  obtain ⟨j, l, e⟩ := List.mem_iff_getElem.mp hc
  obtain ⟨x, y, z, rfl⟩ := h j c (by rw [List.getElem?_eq_getElem l, e])
  rfl
theorem Ints.sm {W W' : Wd} {b : Nat} {c : Int} (h : Ints W) (m : Sm W W' b) (hb : Box W' b c) : Ints W' := fun j c e => by
  by_cases hj : j = b
  · subst hj
    obtain ⟨x, y, z, e', _⟩ := hb
    rw [e'] at e
    cases e
    exact ⟨x, y, z, rfl⟩
  · rw [m.rest j hj] at e
    exact h j c e
theorem mem_fans {x : DV} (h : x ∈ [DV.int 2, DV.int 3, DV.int 4]) : ∃ f : Int, x = .int f ∧ (f = 2 ∨ f = 3 ∨ f = 4) := by
  simp at h
  rcases h with rfl | rfl | rfl
  · exact ⟨2, rfl, .inl rfl⟩
  · exact ⟨3, rfl, .inr (.inl rfl)⟩
  · exact ⟨4, rfl, .inr (.inr rfl)⟩
theorem mem_deps {x : DV} (h : x ∈ [DV.int 1, DV.int 2, DV.int 3]) : ∃ f : Int, x = .int f ∧ (f = 1 ∨ f = 2 ∨ f = 3) := by
  simp at h
  rcases h with rfl | rfl | rfl
  · exact ⟨1, rfl, .inl rfl⟩
  · exact ⟨2, rfl, .inr (.inl rfl)⟩
  · exact ⟨3, rfl, .inr (.inr rfl)⟩
theorem pow_small {f d : Int} (hf : f = 2 ∨ f = 3 ∨ f = 4) (hd : d = 1 ∨ d = 2 ∨ d = 3) : 0 < f ^ d.toNat ∧ f ^ d.toNat ≤ 64 := by
  rcases hf with rfl | rfl | rfl <;> rcases hd with rfl | rfl | rfl <;> decide
theorem right_spec {W : Wd} {b : Nat} {c : Int} (hi : Ints W) (hb : Box W b c) (hc : c < 90000) : ∃ W', f__law_right [.loc b] W = some (.bl true, W') ∧ Box W' b (c + 8) ∧ Sm W W' b := by
  obtain ⟨x1, W1, e1, m1, b1, s1⟩ := of_spec (xs := [.int 2, .int 3, .int 4]) hb (by decide) (by decide) (by omega)
  obtain ⟨f, rfl, hf⟩ := mem_fans m1
  obtain ⟨x2, W2, e2, m2, b2, s2⟩ := of_spec (xs := [.int 1, .int 2, .int 3]) b1 (by decide) (by decide) (by omega)
  obtain ⟨d, rfl, hd⟩ := mem_deps m2
  obtain ⟨a, W3, e3, a0, a1, b3, s3⟩ := take_spec (n := d + 2) b2 (by omega) (by omega) (by omega)
  have ps := pow_small hf hd
  obtain ⟨z, W4, e4, z0', z1', b4, s4⟩ := take_spec (n := f ^ d.toNat + 2) b3 (by omega) (by omega) (by omega)
  obtain ⟨u, v, W5, e5, u0, u1, v0, v1, b5, s5⟩ := matters_spec (p := f) (q := d) b4 (by omega)
  obtain ⟨u', v', W6, e6, u0', u1', v0', v1', b6, s6⟩ := matters_spec (p := a) (q := z) b5 (by omega)
  have sm := ((((s1.trans s2).trans s3).trans s4).trans s5).trans s6
  have g1 := matters_good (p := f) (q := d) (u := u) (v := v) (by omega) (by omega) (by omega) (by omega) u0 u1 v0 v1
  have g2 := matters_good (p := a) (q := z) (u := u') (v := v') (by omega) (by omega) (by omega) (by omega) u0' u1' v0' v1'
  have i6 : Ints W6 := hi.sm sm b6
  obtain ⟨x3, x4, x5, x6, x7, x8, lo⟩ := loop_ok hf hd (sp := .tup [.int a, .int z]) (box_lt b6) (fun n => rfl) (i6.lo _) none none rfl rfl (mattersL f d u v ++ mattersL a z u' v') (fun m hm => by
    rcases List.mem_append.mp hm with h | h
    · exact g1 m h
    · exact g2 m h) none none none none none none rfl rfl
  obtain ⟨x9, x10, bl⟩ := blocks_ok hf hd W6.length W6 (some (.loc b)) (some (.tup [.int a, .int z])) x3 x4 x5 x6 x7 x8 ((List.range (f ^ d.toNat).toNat).map fun i => (0 : Int) + (i : Nat)) none none
  rw [← upFrom_map] at bl
  have c8 : c + 1 + 1 + 1 + 1 + 2 + 2 = c + 8 := by omega
  rw [c8] at b6
  have l3 : ∀ x y w : DV, lineOk [x, y, w] = true := line3
  have j0 : ∀ W, oIx (.tup [.int f, .int d]) (.int 0) W = some (.int f, W) := fun W => by simp [oIx, itemsOf, at0]
  have j1 : ∀ W, oIx (.tup [.int f, .int d]) (.int 1) W = some (.int d, W) := fun W => by simp [oIx, itemsOf, at1]
  have lp : ∀ W, f__law_power [.int f, .int d] W = some (.int (f ^ d.toNat), W) := fun W => law_power_eq hf (by omega) W
  have al : ∀ W, oAdd (.lst (mattersL f d u v)) (.lst (mattersL a z u' v')) W = some (.lst (mattersL f d u v ++ mattersL a z u' v'), W) := fun W => add_lst _ _ (by show 34 + 34 ≤ 100; decide) W
  have rg : rngOk (f ^ d.toNat) = true := by
    unfold rngOk
    have : (2 : Int) ^ 62 = 4611686018427387904 := by decide
    exact decide_eq_true ⟨by omega, by omega⟩
  refine ⟨W6, runF_rt ?_ sm.len, b6, sm⟩
  unfold b__law_right
  simp only [List.map_cons, List.map_nil, List.length_cons, List.length_nil, Nat.zero_add, Nat.reduceSub, List.replicate, List.cons_append, List.nil_append]
  rw [r_sSeq, r_sAsg, r_eTup]
  simp only [r_aC, r_eF, r_eV, r_eLst, r_eC, r_aN, Option.bind_some, List.getElem?_cons_succ, List.getElem?_cons_zero, Option.join_some, mo_some, l3, if_true, List.length_cons, List.length_nil, Nat.zero_add, Nat.reduceAdd, beq_self_eq_true, e1, e2, line2, r_gN, List.set_cons_succ, List.set_cons_zero, seqK_nx]
  rw [r_sSeq, r_sAsg, r_eTup]
  simp only [r_aC, r_eF, r_eV, r_eO, r_eC, r_aN, Option.bind_some, List.getElem?_cons_succ, List.getElem?_cons_zero, Option.join_some, mo_some, j0, j1, r_oAddI, if_true, List.length_cons, List.length_nil, Nat.zero_add, Nat.reduceAdd, beq_self_eq_true, e3, lp, e4, line2, r_gN, List.set_cons_succ, List.set_cons_zero, seqK_nx]
  rw [r_sSeq, r_sFor, r_iD, r_eO]
  simp only [r_aC, r_eF, r_eV, r_aN, Option.bind_some, List.getElem?_cons_succ, List.getElem?_cons_zero, Option.join_some, mo_some, if_true, List.length_cons, List.length_nil, Nat.zero_add, Nat.reduceAdd, beq_self_eq_true, e5, e6, al, itL_lst]
  rw [lo]
  simp only [Option.bind_some, seqK_nx]
  rw [r_sSeq, r_sFor, r_iR1]
  simp only [r_aC, r_eF, r_eV, r_eO, r_eC, r_aN, Option.bind_some, List.getElem?_cons_succ, List.getElem?_cons_zero, Option.join_some, mo_some, j0, j1, if_true, List.length_cons, List.length_nil, Nat.zero_add, Nat.reduceAdd, beq_self_eq_true, lp, itR_int, rg]
  rw [bl]
  simp
end K00
end L2

set_option maxRecDepth 100000
namespace L2
namespace K00
open PySem PySem.Spec PyProof.Rows DL
theorem runF_any {nN : Nat} {S : SS} {xs : List DV} {W W' : Wd} {x : DV} (h : S W.length (xs.map some ++ List.replicate (nN - xs.length) none) W = some (.rt x, W')) : ∃ W'', runF nN S xs W = some (x, W'') := by
  unfold runF
  rw [h]
  show ∃ W'', fin W.length x W' = some (x, W'')
  unfold fin
  split
  · exact ⟨_, rfl⟩
  · split
    · exact ⟨_, rfl⟩
    · exact ⟨_, rfl⟩
theorem Ints.push {W : Wd} (h : Ints W) (x y z : Int) : Ints (W ++ [.lst [.int x, .int y, .int z]]) := fun j c e => by
  by_cases hj : j < W.length
  · rw [List.getElem?_append_left hj] at e
    exact h j c e
  · obtain ⟨l, _⟩ := List.getElem?_eq_some_iff.mp e
    have : j = W.length := by rw [List.length_append] at l; simp at l; omega
    subst this
    rw [last_get] at e
    cases e
    exact ⟨x, y, z, rfl⟩
theorem turn_ok (ns : List Int) (k : Nat) (hk : k ≤ 100) (n : Nat) {W : Wd} (hi : Ints W) (e2 e3 : Option DV) :
    ∃ W', b_law_L1 n [some (.scr ns), some (.int (k : Nat)), e2, e3] W = some (.nx [some (.scr ns), some (.int (k : Nat)), some (.loc W.length), e3], W') ∧ Ints W' := by
  obtain ⟨x0, x1, eb, p0, p1, p2⟩ := box_spec ns k W hk
  have i0 := hi.push x0 x1 0
  have b0 : Box (W ++ [.lst [.int x0, .int x1, .int 0]]) W.length 0 := ⟨x0, x1, 0, last_get _ _, p0, p1, p2, by decide, by decide⟩
  obtain ⟨W1, e1, b1, s1⟩ := right_spec i0 b0 (by decide)
  have i1 := i0.sm s1 b1
  obtain ⟨W2, e2', b2, s2⟩ := right_spec i1 b1 (by decide)
  have i2 := i1.sm s2 b2
  obtain ⟨W3, e3', b3, s3⟩ := right_spec i2 b2 (by decide)
  have i3 := i2.sm s3 b3
  refine ⟨W3, ?_, i3⟩
  have r3 : rngOk 3 = true := by decide
  have ka : ∀ W, kAll [.lst [.bl true, .bl true, .bl true]] W = some (.bl true, W) := fun W => rfl
  simp [b_law_L1, eb, r3, up3, wipeD, e1, e2', e3', z0, z1, z2, ka]
theorem turns_ok (ns : List Int) (n : Nat) : ∀ (ks : List Nat), (∀ k ∈ ks, k ≤ 100) → ∀ (W : Wd), Ints W → ∀ (e1 e2 e3 : Option DV),
    ∃ x1 x2 x3 W', sLoop (gN 1) b_law_L1 n (ks.map fun k => DV.int (k : Nat)) [some (.scr ns), e1, e2, e3] W = some (.nx [some (.scr ns), x1, x2, x3], W')
  | [], _, W, _, e1, e2, e3 => ⟨e1, e2, e3, W, rfl⟩
  | k :: ks, hk, W, hi, e1, e2, e3 => by
    obtain ⟨W1, h1, i1⟩ := turn_ok ns k (hk k List.mem_cons_self) n hi e2 e3
    obtain ⟨x1, x2, x3, W', e⟩ := turns_ok ns n ks (fun j hj => hk j (List.mem_cons_of_mem _ hj)) W1 i1 (some (.int (k : Nat))) (some (.loc W.length)) e3
    refine ⟨x1, x2, x3, W', ?_⟩
    rw [List.map_cons, r_sLoop, r_gN, Option.bind_some]
    simp only [List.set_cons_succ, List.set_cons_zero]
    rw [h1, Option.bind_some, loopK_nx, e]
theorem law_true (ns : List Int) (hn : ns.length ≤ 63) : ∃ W', f_law [.scr ns] [] = some (.bl true, W') := by
  obtain ⟨m, hm⟩ : ∃ m : Int, (if (ns.length : Int) < 2 then (ns.length : Int) else 2) = m := ⟨_, rfl⟩
  have m0 : 0 ≤ m ∧ m ≤ 2 := by rw [← hm]; split <;> omega
  have rg : rngOk (1 + m) = true := by
    unfold rngOk
    have : (2 : Int) ^ 62 = 4611686018427387904 := by decide
    exact decide_eq_true ⟨by omega, by omega⟩
  obtain ⟨x1, x2, x3, W', e⟩ := turns_ok ns 0 (List.range (1 + m).toNat) (fun k hk => by
    have := List.mem_range.mp hk
    omega) [] (fun j c e => by simp at e) none none none
  have up : upFrom 0 (1 + m).toNat = (List.range (1 + m).toNat).map fun k => DV.int (k : Nat) := by
    unfold upFrom
    simp
  rw [← up] at e
  refine runF_any (W' := W') ?_
  have km : ∀ W, kMin2 [.int 2, .int (ns.length : Int)] W = some (.int m, W) := fun W => by
    simp [kMin2, hm]
  have kl : ∀ W, kLen [.scr ns] W = some (.int (ns.length : Int), W) := fun W => by simp [kLen, itemsOf]
  simp [b_law, kl, km, rg, e]
end K00
end L2

set_option maxRecDepth 100000
/-! k00: the walk (printed by gen.py). -/
namespace L2
namespace K00
open PySem PySem.Spec PyProof.Rows DL
def top (i : Nat) : Stmt := PySem.Challenge.pw_neverfull_k00_shapes_spots_and_ways.main.body.getD i (.Pass ⟨0, 0, 0, 0⟩)
abbrev s_is_number : Stmt := top 5
abbrev s_power : Stmt := top 6
abbrev s_is_name : Stmt := top 7
abbrev s_is_shape : Stmt := top 8
abbrev s_is_spot : Stmt := top 9
abbrev s_way : Stmt := top 10
abbrev s__law_power : Stmt := top 12
abbrev s__law_cell_at : Stmt := top 13
abbrev s__law_box : Stmt := top 14
abbrev s__law_take : Stmt := top 15
abbrev s__law_of : Stmt := top 16
abbrev s__law_same : Stmt := top 17
abbrev s__law_path : Stmt := top 18
abbrev s__law_is_int : Stmt := top 19
abbrev s__law_is_pair : Stmt := top 20
abbrev s__law_is_title : Stmt := top 21
abbrev s__law_matters : Stmt := top 22
abbrev s__law_right : Stmt := top 23
abbrev s_law : Stmt := top 24
/-- what the top has written -/
structure Txt (K : PySem.W.Frag) (mg : Str → Option Value) (ad : Nat → Addr) (fd : Nat → FuncData) (tk : Nat → Tok) : Prop where
  g_is_number : mg "is_number" = some (.ref (ad 5))
  F_is_number : Fun K "is_number" "is_number" s_is_number (ad 5) (fd 5)
  g_power : mg "power" = some (.ref (ad 6))
  F_power : Fun K "power" "power" s_power (ad 6) (fd 6)
  g_is_name : mg "is_name" = some (.ref (ad 7))
  F_is_name : Fun K "is_name" "is_name" s_is_name (ad 7) (fd 7)
  g_is_shape : mg "is_shape" = some (.ref (ad 8))
  F_is_shape : Fun K "is_shape" "is_shape" s_is_shape (ad 8) (fd 8)
  g_is_spot : mg "is_spot" = some (.ref (ad 9))
  F_is_spot : Fun K "is_spot" "is_spot" s_is_spot (ad 9) (fd 9)
  g_way : mg "way" = some (.ref (ad 10))
  F_way : Fun K "way" "way" s_way (ad 10) (fd 10)
  g__law_power : mg "_law_power" = some (.ref (ad 12))
  F__law_power : Fun K "_law_power" "_law_power" s__law_power (ad 12) (fd 12)
  g__law_cell_at : mg "_law_cell_at" = some (.ref (ad 13))
  F__law_cell_at : Fun K "_law_cell_at" "_law_cell_at" s__law_cell_at (ad 13) (fd 13)
  g__law_box : mg "_law_box" = some (.ref (ad 14))
  F__law_box : Fun K "_law_box" "_law_box" s__law_box (ad 14) (fd 14)
  g__law_take : mg "_law_take" = some (.ref (ad 15))
  F__law_take : Fun K "_law_take" "_law_take" s__law_take (ad 15) (fd 15)
  g__law_of : mg "_law_of" = some (.ref (ad 16))
  F__law_of : Fun K "_law_of" "_law_of" s__law_of (ad 16) (fd 16)
  g__law_same : mg "_law_same" = some (.ref (ad 17))
  F__law_same : Fun K "_law_same" "_law_same" s__law_same (ad 17) (fd 17)
  g__law_path : mg "_law_path" = some (.ref (ad 18))
  F__law_path : Fun K "_law_path" "_law_path" s__law_path (ad 18) (fd 18)
  g__law_is_int : mg "_law_is_int" = some (.ref (ad 19))
  F__law_is_int : Fun K "_law_is_int" "_law_is_int" s__law_is_int (ad 19) (fd 19)
  g__law_is_pair : mg "_law_is_pair" = some (.ref (ad 20))
  F__law_is_pair : Fun K "_law_is_pair" "_law_is_pair" s__law_is_pair (ad 20) (fd 20)
  g__law_is_title : mg "_law_is_title" = some (.ref (ad 21))
  F__law_is_title : Fun K "_law_is_title" "_law_is_title" s__law_is_title (ad 21) (fd 21)
  g__law_matters : mg "_law_matters" = some (.ref (ad 22))
  F__law_matters : Fun K "_law_matters" "_law_matters" s__law_matters (ad 22) (fd 22)
  g__law_right : mg "_law_right" = some (.ref (ad 23))
  F__law_right : Fun K "_law_right" "_law_right" s__law_right (ad 23) (fd 23)
  g_law : mg "law" = some (.ref (ad 24))
  F_law : Fun K "law" "law" s_law (ad 24) (fd 24)
  g_LETTERS : mg "LETTERS" = some (.str "abcdefghijklmnopqrstuvwxyz" (tk 1))
  r_LETTERS : RelV (.str "abcdefghijklmnopqrstuvwxyz") (.str "abcdefghijklmnopqrstuvwxyz" (tk 1))
  c_LETTERS : ∀ r H, Rv K r H (.str "abcdefghijklmnopqrstuvwxyz") (.str "abcdefghijklmnopqrstuvwxyz")
  g_MOST_LETTERS : mg "MOST_LETTERS" = some (.int 8 (tk 2))
  r_MOST_LETTERS : RelV (.int 8) (.int 8 (tk 2))
  c_MOST_LETTERS : ∀ r H, Rv K r H (.int 8) (.int 8)
  g_FANS : mg "FANS" = some (.ref (ad 3))
  r_FANS : RelV (.ref (ad 3)) (.ref (ad 3))
  c_FANS : ∀ r H, Rv K r H (.tup [(.int 2), (.int 3), (.int 4)]) (.ref (ad 3))
  g_DEPTHS : mg "DEPTHS" = some (.ref (ad 4))
  r_DEPTHS : RelV (.ref (ad 4)) (.ref (ad 4))
  c_DEPTHS : ∀ r H, Rv K r H (.tup [(.int 1), (.int 2), (.int 3)]) (.ref (ad 4))
  n_abs : mg "abs" = none
  n_all : mg "all" = none
  n_bool : mg "bool" = none
  n_int : mg "int" = none
  n_isinstance : mg "isinstance" = none
  n_len : mg "len" = none
  n_list : mg "list" = none
  n_min : mg "min" = none
  n_range : mg "range" = none
  n_repr : mg "repr" = none
  n_str : mg "str" = none
  n_tuple : mg "tuple" = none
  n_zip : mg "zip" = none
section
variable {P : Program} {w : PySem.World} {K : PySem.W.Frag} {mg : Str → Option Value} {base : Heap} {ad : Nat → Addr} {fd : Nat → FuncData} {tk : Nat → Tok}
abbrev N_is_number : List Str := ["thing"]
theorem sc_is_number : FnScope N_is_number ["thing"] (defScope s_is_number) := ⟨rfl, rfl, rfl, by decide +kernel, rfl, by decide +kernel, by decide +kernel⟩
theorem bi_is_number (T : Txt K mg ad fd tk) : Binds K (fd 5) ["thing"] [] := T.F_is_number.binds (ps := ["thing"]) fun _ _ _ _ _ _ us hl => match us, hl with | [_], _ => rfl
set_option maxHeartbeats 4000000 in
theorem ok_is_number (T : Txt K mg ad fd tk) : FnG P w K mg base CX0 1 (ad 5) (fd 5) ["thing"] (spD K 1 f_is_number) := by
  refine fnD (k := 0) T.F_is_number sc_is_number fun cdv A out s H E hr => ?_
  exact (dss_one (ds_ret (de_and (de_b b_isi (by rfl) T.n_isinstance (da_cons (dv 0) (da_cons (de_ty (by rfl) T.n_int (by decide +kernel)) da_nil))) (de_one (de_not (de_b b_isi (by rfl) T.n_isinstance (da_cons (dv 0) (da_cons (de_ty (by rfl) T.n_bool (by decide +kernel)) da_nil))))))))
abbrev N_power : List Str := ["fan", "level", "found", "turn"]
theorem sc_power : FnScope N_power ["fan", "level"] (defScope s_power) := ⟨rfl, rfl, rfl, by decide +kernel, rfl, by decide +kernel, by decide +kernel⟩
theorem bi_power (T : Txt K mg ad fd tk) : Binds K (fd 6) ["fan", "level"] [] := T.F_power.binds (ps := ["fan", "level"]) fun _ _ _ _ _ _ us hl => match us, hl with | [_, _], _ => rfl
set_option maxHeartbeats 4000000 in
theorem ok_power (T : Txt K mg ad fd tk) : FnG P w K mg base CX0 1 (ad 6) (fd 6) ["fan", "level"] (spD K 2 f_power) := by
  refine fnD (k := 0) T.F_power sc_power fun cdv A out s H E hr => ?_
  exact (dss_cons (ds_set (i := 2) sc_power.nd rfl (by first | exact Or.inl rfl | exact Or.inr rfl) de_int) (dss_cons (ds_for (ss := [3]) PassesOwn.never rfl (di_r1 (by rfl) T.n_range (da_cons (dv 1) da_nil)) (dg_name (i := 3) sc_power.nd rfl (by first | exact Or.inl rfl | exact Or.inr rfl)) (dss_one (ds_mulset sc_power.nd rfl (by first | exact Or.inl rfl | exact Or.inr rfl) (dv 0) (ps_aug sc_power.nd rfl (by first | exact Or.inl rfl | exact Or.inr rfl) (dv 0) iop_mul)))) (dss_one (ds_ret (dv 2)))))
abbrev N_is_name : List Str := ["thing", "letter"]
theorem sc_is_name : FnScope N_is_name ["thing"] (defScope s_is_name) := ⟨rfl, rfl, rfl, by decide +kernel, rfl, by decide +kernel, by decide +kernel⟩
theorem bi_is_name (T : Txt K mg ad fd tk) : Binds K (fd 7) ["thing"] [] := T.F_is_name.binds (ps := ["thing"]) fun _ _ _ _ _ _ us hl => match us, hl with | [_], _ => rfl
theorem kw_is_name_thing (T : Txt K mg ad fd tk) : KwOk K (fd 7) ["thing"] ["thing"] [0] := Fun.kw T.F_is_name fun _ _ _ _ _ _ ws hl => match ws, hl with | [_], _ => rfl
set_option maxHeartbeats 4000000 in
theorem ok_is_name (T : Txt K mg ad fd tk) : FnG P w K mg base CX0 1 (ad 7) (fd 7) ["thing"] (spD K 1 f_is_name) := by
  refine fnD (k := 0) T.F_is_name sc_is_name fun cdv A out s H E hr => ?_
  exact (dss_cons (ds_if (PW.pt (dw_or (dt_not (dt_val (de_b b_isi (by rfl) T.n_isinstance (da_cons (dv 0) (da_cons (de_ty (by rfl) T.n_str (by decide +kernel)) da_nil))))) (dw_or1 (dt_not (dt_ch c_le c_le de_int (de_b b_len (by rfl) T.n_len (da_cons (dv 0) da_nil)) (de_glob (by rfl) T.g_MOST_LETTERS T.r_MOST_LETTERS T.c_MOST_LETTERS)))))) (dss_one (ds_ret de_bl)) dss_nil) (dss_one (ds_ret (de_b b_all (by rfl) T.n_all (da_cons (de_comp (own := [("letter", 1)]) rfl sc_is_name.nd  (di_str (dv 0)) (blkOk_by (own := [("letter", 1)]) (N := N_is_name) (sc := defScope s_is_name) (by decide +kernel)) (fun _ _ _ _ _ => (dg_name (i := 1) sc_is_name.nd rfl (by first | exact Or.inl rfl | exact Or.inr rfl))) (fun _ _ _ _ _ => dts_nil) (fun _ _ _ _ _ => (de_c c_in (dv 1) (de_glob (by rfl) T.g_LETTERS T.r_LETTERS T.c_LETTERS)))) da_nil)))))
abbrev N_is_shape : List Str := ["thing"]
theorem sc_is_shape : FnScope N_is_shape ["thing"] (defScope s_is_shape) := ⟨rfl, rfl, rfl, by decide +kernel, rfl, by decide +kernel, by decide +kernel⟩
theorem bi_is_shape (T : Txt K mg ad fd tk) : Binds K (fd 8) ["thing"] [] := T.F_is_shape.binds (ps := ["thing"]) fun _ _ _ _ _ _ us hl => match us, hl with | [_], _ => rfl
theorem kw_is_shape_thing (T : Txt K mg ad fd tk) : KwOk K (fd 8) ["thing"] ["thing"] [0] := Fun.kw T.F_is_shape fun _ _ _ _ _ _ ws hl => match ws, hl with | [_], _ => rfl
set_option maxHeartbeats 4000000 in
theorem ok_is_shape (T : Txt K mg ad fd tk) : FnG P w K mg base CX0 2 (ad 8) (fd 8) ["thing"] (spD K 1 f_is_shape) := by
  refine fnD (k := 1) T.F_is_shape sc_is_shape fun cdv A out s H E hr => ?_
  exact (dss_cons (ds_if (PW.pt (dw_or (dt_not (dt_val (de_b b_isi (by rfl) T.n_isinstance (da_cons (dv 0) (da_cons (de_ty (by rfl) T.n_tuple (by decide +kernel)) da_nil))))) (dw_or (dt_c (c_ne hr) (de_b b_len (by rfl) T.n_len (da_cons (dv 0) da_nil)) de_int) (dw_or (dt_not (dt_val (de_call (ok_is_number T) (hr.le (by decide)) (by rfl) T.g_is_number T.F_is_number.kp (bi_is_number T) (da_cons (de_at (dv 0) de_int) da_nil)))) (dw_or1 (dt_not (dt_val (de_call (ok_is_number T) (hr.le (by decide)) (by rfl) T.g_is_number T.F_is_number.kp (bi_is_number T) (da_cons (de_at (dv 0) de_int) da_nil))))))))) (dss_one (ds_ret de_bl)) dss_nil) (dss_one (ds_ret (de_and (de_c c_in (de_at (dv 0) de_int) (de_glob (by rfl) T.g_FANS T.r_FANS T.c_FANS)) (de_one (de_c c_in (de_at (dv 0) de_int) (de_glob (by rfl) T.g_DEPTHS T.r_DEPTHS T.c_DEPTHS)))))))
abbrev N_is_spot : List Str := ["shape", "thing"]
theorem sc_is_spot : FnScope N_is_spot ["shape", "thing"] (defScope s_is_spot) := ⟨rfl, rfl, rfl, by decide +kernel, rfl, by decide +kernel, by decide +kernel⟩
theorem bi_is_spot (T : Txt K mg ad fd tk) : Binds K (fd 9) ["shape", "thing"] [] := T.F_is_spot.binds (ps := ["shape", "thing"]) fun _ _ _ _ _ _ us hl => match us, hl with | [_, _], _ => rfl
theorem kw_is_spot_thing_shape (T : Txt K mg ad fd tk) : KwOk K (fd 9) ["shape", "thing"] ["thing", "shape"] [1, 0] := Fun.kw T.F_is_spot fun _ _ _ _ _ _ ws hl => match ws, hl with | [_, _], _ => rfl
set_option maxHeartbeats 4000000 in
theorem ok_is_spot (T : Txt K mg ad fd tk) : FnG P w K mg base CX0 2 (ad 9) (fd 9) ["shape", "thing"] (spD K 2 f_is_spot) := by
  refine fnD (k := 1) T.F_is_spot sc_is_spot fun cdv A out s H E hr => ?_
  exact (dss_cons (ds_if (PW.pt (dw_or (dt_not (dt_val (de_b b_isi (by rfl) T.n_isinstance (da_cons (dv 1) (da_cons (de_ty (by rfl) T.n_tuple (by decide +kernel)) da_nil))))) (dw_or (dt_c (c_ne hr) (de_b b_len (by rfl) T.n_len (da_cons (dv 1) da_nil)) de_int) (dw_or (dt_not (dt_val (de_call (ok_is_number T) (hr.le (by decide)) (by rfl) T.g_is_number T.F_is_number.kp (bi_is_number T) (da_cons (de_at (dv 1) de_int) da_nil)))) (dw_or1 (dt_not (dt_val (de_call (ok_is_number T) (hr.le (by decide)) (by rfl) T.g_is_number T.F_is_number.kp (bi_is_number T) (da_cons (de_at (dv 1) de_int) da_nil))))))))) (dss_one (ds_ret de_bl)) dss_nil) (dss_one (ds_ret (de_and (de_ch c_le c_le de_int (de_at (dv 1) de_int) (de_at (dv 0) de_int)) (de_one (de_ch c_le c_lt de_int (de_at (dv 1) de_int) (de_call (ok_power T) (hr.le (by decide)) (by rfl) T.g_power T.F_power.kp (bi_power T) (da_cons (de_at (dv 0) de_int) (da_cons (de_at (dv 1) de_int) da_nil)))))))))
abbrev N_way : List Str := ["shape", "block", "fan", "depth", "level"]
theorem sc_way : FnScope N_way ["shape", "block"] (defScope s_way) := ⟨rfl, rfl, rfl, by decide +kernel, rfl, by decide +kernel, by decide +kernel⟩
theorem bi_way (T : Txt K mg ad fd tk) : Binds K (fd 10) ["shape", "block"] [] := T.F_way.binds (ps := ["shape", "block"]) fun _ _ _ _ _ _ us hl => match us, hl with | [_, _], _ => rfl
theorem kw_way_block_shape (T : Txt K mg ad fd tk) : KwOk K (fd 10) ["shape", "block"] ["block", "shape"] [1, 0] := Fun.kw T.F_way fun _ _ _ _ _ _ ws hl => match ws, hl with | [_, _], _ => rfl
set_option maxHeartbeats 4000000 in
theorem ok_way (T : Txt K mg ad fd tk) : FnG P w K mg base CX0 2 (ad 10) (fd 10) ["shape", "block"] (spD K 2 f_way) := by
  refine fnD (k := 1) T.F_way sc_way fun cdv A out s H E hr => ?_
  exact (dss_cons (ds_asg (ss := [2, 3]) (dv 0) (dg_seq rfl (dgs_cons (dg_name (i := 2) sc_way.nd rfl (by first | exact Or.inl rfl | exact Or.inr rfl)) (dgs_cons (dg_name (i := 3) sc_way.nd rfl (by first | exact Or.inl rfl | exact Or.inr rfl)) dgs_nil)))) (dss_one (ds_ret (de_t b_tuple (by rfl) T.n_tuple (da_cons (de_comp (own := [("level", 4)]) rfl sc_way.nd  (di_r1 (by rfl) T.n_range (da_cons (de_add (dv 3) de_int) da_nil)) (blkOk_by (own := [("level", 4)]) (N := N_way) (sc := defScope s_way) (by decide +kernel)) (fun _ _ _ _ _ => (dg_name (i := 4) sc_way.nd rfl (by first | exact Or.inl rfl | exact Or.inr rfl))) (fun _ _ _ _ _ => dts_nil) (fun _ _ _ _ _ => (de_tup (da_cons (dv 4) (da_cons (de_div (dv 1) (de_call (ok_power T) (hr.le (by decide)) (by rfl) T.g_power T.F_power.kp (bi_power T) (da_cons (dv 2) (da_cons (de_sub (dv 3) (dv 4)) da_nil)))) da_nil))))) da_nil)))))
abbrev N__law_power : List Str := ["_law_wide", "_law_level", "_law_found", "_law_turn"]
theorem sc__law_power : FnScope N__law_power ["_law_wide", "_law_level"] (defScope s__law_power) := ⟨rfl, rfl, rfl, by decide +kernel, rfl, by decide +kernel, by decide +kernel⟩
theorem bi__law_power (T : Txt K mg ad fd tk) : Binds K (fd 12) ["_law_wide", "_law_level"] [] := T.F__law_power.binds (ps := ["_law_wide", "_law_level"]) fun _ _ _ _ _ _ us hl => match us, hl with | [_, _], _ => rfl
set_option maxHeartbeats 4000000 in
theorem ok__law_power (T : Txt K mg ad fd tk) : FnG P w K mg base CX0 1 (ad 12) (fd 12) ["_law_wide", "_law_level"] (spD K 2 f__law_power) := by
  refine fnD (k := 0) T.F__law_power sc__law_power fun cdv A out s H E hr => ?_
  exact (dss_cons (ds_set (i := 2) sc__law_power.nd rfl (by first | exact Or.inl rfl | exact Or.inr rfl) de_int) (dss_cons (ds_for (ss := [3]) PassesOwn.never rfl (di_r1 (by rfl) T.n_range (da_cons (dv 1) da_nil)) (dg_name (i := 3) sc__law_power.nd rfl (by first | exact Or.inl rfl | exact Or.inr rfl)) (dss_one (ds_set (i := 2) sc__law_power.nd rfl (by first | exact Or.inl rfl | exact Or.inr rfl) (de_mul (dv 2) (dv 0))))) (dss_one (ds_ret (dv 2)))))
abbrev N__law_cell_at : List Str := ["_law_script", "_law_k"]
theorem sc__law_cell_at : FnScope N__law_cell_at ["_law_script", "_law_k"] (defScope s__law_cell_at) := ⟨rfl, rfl, rfl, by decide +kernel, rfl, by decide +kernel, by decide +kernel⟩
theorem bi__law_cell_at (T : Txt K mg ad fd tk) : Binds K (fd 13) ["_law_script", "_law_k"] [] := T.F__law_cell_at.binds (ps := ["_law_script", "_law_k"]) fun _ _ _ _ _ _ us hl => match us, hl with | [_, _], _ => rfl
set_option maxHeartbeats 4000000 in
theorem ok__law_cell_at (T : Txt K mg ad fd tk) : FnG P w K mg base CX0 1 (ad 13) (fd 13) ["_law_script", "_law_k"] (spD K 2 f__law_cell_at) := by
  refine fnD (k := 0) T.F__law_cell_at sc__law_cell_at fun cdv A out s H E hr => ?_
  exact (dss_one (ds_ret (de_if (dt_c c_lt (dv 1) (de_b b_len (by rfl) T.n_len (da_cons (dv 0) da_nil))) (de_at (dv 0) (dv 1)) de_int)))
abbrev N__law_box : List Str := ["_law_script", "_law_k", "_law_cell", "_law_rest"]
theorem sc__law_box : FnScope N__law_box ["_law_script", "_law_k"] (defScope s__law_box) := ⟨rfl, rfl, rfl, by decide +kernel, rfl, by decide +kernel, by decide +kernel⟩
theorem bi__law_box (T : Txt K mg ad fd tk) : Binds K (fd 14) ["_law_script", "_law_k"] [] := T.F__law_box.binds (ps := ["_law_script", "_law_k"]) fun _ _ _ _ _ _ us hl => match us, hl with | [_, _], _ => rfl
set_option maxHeartbeats 4000000 in
theorem ok__law_box (T : Txt K mg ad fd tk) : FnG P w K mg base CX0 2 (ad 14) (fd 14) ["_law_script", "_law_k"] (spD K 2 f__law_box) := by
  refine fnD (k := 1) T.F__law_box sc__law_box fun cdv A out s H E hr => ?_
  exact (dss_cons (ds_set (i := 2) sc__law_box.nd rfl (by first | exact Or.inl rfl | exact Or.inr rfl) (de_call (ok__law_cell_at T) (hr.le (by decide)) (by rfl) T.g__law_cell_at T.F__law_cell_at.kp (bi__law_cell_at T) (da_cons (dv 0) (da_cons (dv 1) da_nil)))) (dss_cons (ds_set (i := 3) sc__law_box.nd rfl (by first | exact Or.inl rfl | exact Or.inr rfl) (de_add (de_add (de_mod (de_t b_int (by rfl) T.n_int (da_cons (dv 2) da_nil)) de_int) (de_mul de_int (dv 1))) de_int)) (dss_one (ds_ret (de_new (da_cons (de_mul (de_b b_abs (by rfl) T.n_abs (da_cons (dv 2) da_nil)) (de_t b_int (by rfl) T.n_int (da_cons (de_c c_ge (de_b b_abs (by rfl) T.n_abs (da_cons (dv 2) da_nil)) (de_pow de_int de_int)) da_nil))) (da_cons (dv 3) (da_cons de_int da_nil))))))))
abbrev N__law_take : List Str := ["_law_box_here", "_law_below_so", "_law_drawn", "_law_once", "_law_far_so", "_law_twice"]
theorem sc__law_take : FnScope N__law_take ["_law_box_here", "_law_below_so"] (defScope s__law_take) := ⟨rfl, rfl, rfl, by decide +kernel, rfl, by decide +kernel, by decide +kernel⟩
theorem bi__law_take (T : Txt K mg ad fd tk) : Binds K (fd 15) ["_law_box_here", "_law_below_so"] [] := T.F__law_take.binds (ps := ["_law_box_here", "_law_below_so"]) fun _ _ _ _ _ _ us hl => match us, hl with | [_, _], _ => rfl
set_option maxHeartbeats 4000000 in
theorem ok__law_take (T : Txt K mg ad fd tk) : FnG P w K mg base CX0 1 (ad 15) (fd 15) ["_law_box_here", "_law_below_so"] (spD K 2 f__law_take) := by
  refine fnD (k := 0) T.F__law_take sc__law_take fun cdv A out s H E hr => ?_
  exact (dss_cons (ds_if (dt_c c_gt (de_at (dv 0) de_int) de_int) (dss_cons (ds_set (i := 2) sc__law_take.nd rfl (by first | exact Or.inl rfl | exact Or.inr rfl) (de_mod (de_t b_int (by rfl) T.n_int (da_cons (de_at (dv 0) de_int) da_nil)) (dv 1))) (dss_cons (ds_asg (ss := [0]) (de_div (de_at (dv 0) de_int) (dv 1)) (dg_set (dv 0) de_int)) (dss_one (ds_ret (dv 2))))) dss_nil) (dss_cons (ds_asg (ss := [0]) (de_add (de_at (dv 0) de_int) de_int) (dg_set (dv 0) de_int)) (dss_cons (ds_set (i := 3) sc__law_take.nd rfl (by first | exact Or.inl rfl | exact Or.inr rfl) (de_mod (de_t b_int (by rfl) T.n_int (da_cons (de_mul (de_add (de_at (dv 0) de_int) (de_mul de_int (de_at (dv 0) de_int))) (de_add de_int (de_at (dv 0) de_int))) da_nil)) de_int)) (dss_cons (ds_set (i := 4) sc__law_take.nd rfl (by first | exact Or.inl rfl | exact Or.inr rfl) (de_add (de_mod (de_t b_int (by rfl) T.n_int (da_cons (dv 3) da_nil)) de_int) de_int)) (dss_cons (ds_set (i := 5) sc__law_take.nd rfl (by first | exact Or.inl rfl | exact Or.inr rfl) (de_mod (de_t b_int (by rfl) T.n_int (da_cons (de_mul (de_add (de_add (dv 3) (de_at (dv 0) de_int)) (de_div (de_at (dv 0) de_int) de_int)) (dv 4)) da_nil)) de_int)) (dss_one (ds_ret (de_mod (de_t b_int (by rfl) T.n_int (da_cons (de_div (de_mod (de_t b_int (by rfl) T.n_int (da_cons (de_add (de_mul (dv 5) de_int) (dv 3)) da_nil)) de_int) de_int) da_nil)) (dv 1)))))))))
abbrev N__law_of : List Str := ["_law_box_here", "_law_some"]
theorem sc__law_of : FnScope N__law_of ["_law_box_here", "_law_some"] (defScope s__law_of) := ⟨rfl, rfl, rfl, by decide +kernel, rfl, by decide +kernel, by decide +kernel⟩
theorem bi__law_of (T : Txt K mg ad fd tk) : Binds K (fd 16) ["_law_box_here", "_law_some"] [] := T.F__law_of.binds (ps := ["_law_box_here", "_law_some"]) fun _ _ _ _ _ _ us hl => match us, hl with | [_, _], _ => rfl
set_option maxHeartbeats 4000000 in
theorem ok__law_of (T : Txt K mg ad fd tk) : FnG P w K mg base CX0 2 (ad 16) (fd 16) ["_law_box_here", "_law_some"] (spD K 2 f__law_of) := by
  refine fnD (k := 1) T.F__law_of sc__law_of fun cdv A out s H E hr => ?_
  exact (dss_one (ds_ret (de_at (dv 1) (de_call (ok__law_take T) (hr.le (by decide)) (by rfl) T.g__law_take T.F__law_take.kp (bi__law_take T) (da_cons (dv 0) (da_cons (de_b b_len (by rfl) T.n_len (da_cons (dv 1) da_nil)) da_nil))))))
abbrev N__law_same : List Str := ["_law_found", "_law_due", "_law_mine", "_law_its"]
theorem sc__law_same : FnScope N__law_same ["_law_found", "_law_due"] (defScope s__law_same) := ⟨rfl, rfl, rfl, by decide +kernel, rfl, by decide +kernel, by decide +kernel⟩
theorem bi__law_same (T : Txt K mg ad fd tk) : Binds K (fd 17) ["_law_found", "_law_due"] [] := T.F__law_same.binds (ps := ["_law_found", "_law_due"]) fun _ _ _ _ _ _ us hl => match us, hl with | [_, _], _ => rfl
set_option maxHeartbeats 4000000 in
theorem body__law_same (T : Txt K mg ad fd tk) {k : Nat} {fn : List DV → M DV} (R : FnG P w K mg base CX0 k (ad 17) (fd 17) ["_law_found", "_law_due"] (spD K 2 fn)) (hk : 0 ≤ k) (cdv : Value) (A : Around) (out : List Env) (s : Shared) (H : Hp) (E : XK) (hr : Rm k (A.deeper (envOfC "_law_same" (defScope s__law_same) s.heap.objs.size (ad 17) cdv))) :
    DSs (cxOf CX0 P w K mg base N__law_same "_law_same" (defScope s__law_same) (ad 17) cdv A out s H E).nox (defBody s__law_same) (b__law_same fn) := by
  exact (dss_cons (ds_if (dt_val (de_b b_isi (by rfl) T.n_isinstance (da_cons (dv 1) (da_cons (de_tup (da_cons (de_ty (by rfl) T.n_list (by decide +kernel)) (da_cons (de_ty (by rfl) T.n_tuple (by decide +kernel)) da_nil))) da_nil)))) (dss_cons (ds_if (PW.pt (dw_or (dt_c (c_ne hr) (de_b b_isi (by rfl) T.n_isinstance (da_cons (dv 0) (da_cons (de_ty (by rfl) T.n_list (by decide +kernel)) da_nil))) (de_b b_isi (by rfl) T.n_isinstance (da_cons (dv 1) (da_cons (de_ty (by rfl) T.n_list (by decide +kernel)) da_nil)))) (dw_or1 (dt_c (c_ne hr) (de_b b_isi (by rfl) T.n_isinstance (da_cons (dv 0) (da_cons (de_ty (by rfl) T.n_tuple (by decide +kernel)) da_nil))) (de_b b_isi (by rfl) T.n_isinstance (da_cons (dv 1) (da_cons (de_ty (by rfl) T.n_tuple (by decide +kernel)) da_nil))))))) (dss_one (ds_ret de_bl)) dss_nil) (dss_one (ds_ret (de_and (de_c (c_eq hr) (de_b b_len (by rfl) T.n_len (da_cons (dv 0) da_nil)) (de_b b_len (by rfl) T.n_len (da_cons (dv 1) da_nil))) (de_one (de_b b_all (by rfl) T.n_all (da_cons (de_comp (own := [("_law_mine", 2), ("_law_its", 3)]) rfl sc__law_same.nd  (di_zip (by rfl) T.n_zip (da_cons (dv 0) (da_cons (dv 1) da_nil))) (blkOk_by (own := [("_law_mine", 2), ("_law_its", 3)]) (N := N__law_same) (sc := defScope s__law_same) (by decide +kernel)) (fun _ _ _ _ _ => (dg_seq rfl (dgs_cons (dg_name (i := 2) sc__law_same.nd rfl (by first | exact Or.inl rfl | exact Or.inr rfl)) (dgs_cons (dg_name (i := 3) sc__law_same.nd rfl (by first | exact Or.inl rfl | exact Or.inr rfl)) dgs_nil)))) (fun _ _ _ _ _ => dts_nil) (fun _ _ _ _ _ => (de_call R (hr.le (by omega)) (by rfl) T.g__law_same T.F__law_same.kp (bi__law_same T) (da_cons (dv 2) (da_cons (dv 3) da_nil))))) da_nil))))))) dss_nil) (dss_cons (ds_if (PW.pt (dw_or (dt_c c_is (dv 1) de_non) (dw_or1 (dt_val (de_b b_isi (by rfl) T.n_isinstance (da_cons (dv 1) (da_cons (de_tup (da_cons (de_ty (by rfl) T.n_str (by decide +kernel)) (da_cons (de_ty (by rfl) T.n_bool (by decide +kernel)) da_nil))) da_nil))))))) (dss_one (ds_ret (de_and (de_c (c_eq hr) (dv 0) (dv 1)) (de_and (de_c (c_eq hr) (de_b b_isi (by rfl) T.n_isinstance (da_cons (dv 0) (da_cons (de_ty (by rfl) T.n_bool (by decide +kernel)) da_nil))) (de_b b_isi (by rfl) T.n_isinstance (da_cons (dv 1) (da_cons (de_ty (by rfl) T.n_bool (by decide +kernel)) da_nil)))) (de_one (de_c (c_eq hr) (de_c c_is (dv 0) de_non) (de_c c_is (dv 1) de_non))))))) dss_nil) (dss_one (ds_ret (de_and (de_b b_isi (by rfl) T.n_isinstance (da_cons (dv 0) (da_cons (de_ty (by rfl) T.n_int (by decide +kernel)) da_nil))) (de_and (de_not (de_b b_isi (by rfl) T.n_isinstance (da_cons (dv 0) (da_cons (de_ty (by rfl) T.n_bool (by decide +kernel)) da_nil)))) (de_one (de_c (c_eq hr) (dv 0) (dv 1)))))))))
theorem ok__law_same (T : Txt K mg ad fd tk) : ∀ d : Nat, FnG P w K mg base CX0 (1 + d) (ad 17) (fd 17) ["_law_found", "_law_due"] (spD K 2 (f__law_same d))
  | 0 => ⟨fun vs H Q E h => by obtain ⟨_, _, xs, l, _, rs, _⟩ := h; rw [← rs.length]; exact l, fun _ _ _ _ _ _ _ _ _ _ _ _ _ h => by obtain ⟨_, _, _, _, _, _, _, _, e, _⟩ := h; cases e⟩
  | d + 1 => fnD (k := 1 + d) T.F__law_same sc__law_same fun cdv A out s H E hr => body__law_same T (ok__law_same T d) (by omega) cdv A out s H E hr
abbrev N__law_path : List Str := ["_law_form", "_law_b", "_law_found", "_law_at", "_law_level"]
theorem sc__law_path : FnScope N__law_path ["_law_form", "_law_b"] (defScope s__law_path) := ⟨rfl, rfl, rfl, by decide +kernel, rfl, by decide +kernel, by decide +kernel⟩
theorem bi__law_path (T : Txt K mg ad fd tk) : Binds K (fd 18) ["_law_form", "_law_b"] [] := T.F__law_path.binds (ps := ["_law_form", "_law_b"]) fun _ _ _ _ _ _ us hl => match us, hl with | [_, _], _ => rfl
set_option maxHeartbeats 4000000 in
theorem ok__law_path (T : Txt K mg ad fd tk) : FnG P w K mg base CX0 1 (ad 18) (fd 18) ["_law_form", "_law_b"] (spD K 2 f__law_path) := by
  refine fnD (k := 0) T.F__law_path sc__law_path fun cdv A out s H E hr => ?_
  exact (dss_cons (ds_two (i := 2) (j := 3) rfl sc__law_path.nd rfl rfl (by decide) rfl rfl (da_cons (de_lst da_nil) (da_cons (dv 1) da_nil)) rfl) (dss_cons (ds_for (ss := [4]) PassesOwn.never rfl (di_down (by rfl) T.n_range (da_cons (de_at (dv 0) de_int) (da_cons (de_neg de_int) (da_cons (de_neg de_int) da_nil)))) (dg_name (i := 4) sc__law_path.nd rfl (by first | exact Or.inl rfl | exact Or.inr rfl)) (dss_cons (ds_set (i := 2) sc__law_path.nd rfl (by first | exact Or.inl rfl | exact Or.inr rfl) (de_add (de_lst (da_cons (de_tup (da_cons (dv 4) (da_cons (dv 3) da_nil))) da_nil)) (dv 2))) (dss_one (ds_set (i := 3) sc__law_path.nd rfl (by first | exact Or.inl rfl | exact Or.inr rfl) (de_div (dv 3) (de_at (dv 0) de_int)))))) (dss_one (ds_ret (dv 2)))))
abbrev N__law_is_int : List Str := ["_law_matter"]
theorem sc__law_is_int : FnScope N__law_is_int ["_law_matter"] (defScope s__law_is_int) := ⟨rfl, rfl, rfl, by decide +kernel, rfl, by decide +kernel, by decide +kernel⟩
theorem bi__law_is_int (T : Txt K mg ad fd tk) : Binds K (fd 19) ["_law_matter"] [] := T.F__law_is_int.binds (ps := ["_law_matter"]) fun _ _ _ _ _ _ us hl => match us, hl with | [_], _ => rfl
set_option maxHeartbeats 4000000 in
theorem ok__law_is_int (T : Txt K mg ad fd tk) : FnG P w K mg base CX0 1 (ad 19) (fd 19) ["_law_matter"] (spD K 1 f__law_is_int) := by
  refine fnD (k := 0) T.F__law_is_int sc__law_is_int fun cdv A out s H E hr => ?_
  exact (dss_one (ds_ret (de_and (de_b b_isi (by rfl) T.n_isinstance (da_cons (dv 0) (da_cons (de_ty (by rfl) T.n_int (by decide +kernel)) da_nil))) (de_one (de_not (de_b b_isi (by rfl) T.n_isinstance (da_cons (dv 0) (da_cons (de_ty (by rfl) T.n_bool (by decide +kernel)) da_nil))))))))
abbrev N__law_is_pair : List Str := ["_law_matter"]
theorem sc__law_is_pair : FnScope N__law_is_pair ["_law_matter"] (defScope s__law_is_pair) := ⟨rfl, rfl, rfl, by decide +kernel, rfl, by decide +kernel, by decide +kernel⟩
theorem bi__law_is_pair (T : Txt K mg ad fd tk) : Binds K (fd 20) ["_law_matter"] [] := T.F__law_is_pair.binds (ps := ["_law_matter"]) fun _ _ _ _ _ _ us hl => match us, hl with | [_], _ => rfl
set_option maxHeartbeats 4000000 in
theorem ok__law_is_pair (T : Txt K mg ad fd tk) : FnG P w K mg base CX0 2 (ad 20) (fd 20) ["_law_matter"] (spD K 1 f__law_is_pair) := by
  refine fnD (k := 1) T.F__law_is_pair sc__law_is_pair fun cdv A out s H E hr => ?_
  exact (dss_one (ds_ret (de_and (de_b b_isi (by rfl) T.n_isinstance (da_cons (dv 0) (da_cons (de_ty (by rfl) T.n_tuple (by decide +kernel)) da_nil))) (de_and (de_c (c_eq hr) (de_b b_len (by rfl) T.n_len (da_cons (dv 0) da_nil)) de_int) (de_and (de_call (ok__law_is_int T) (hr.le (by decide)) (by rfl) T.g__law_is_int T.F__law_is_int.kp (bi__law_is_int T) (da_cons (de_at (dv 0) de_int) da_nil)) (de_one (de_call (ok__law_is_int T) (hr.le (by decide)) (by rfl) T.g__law_is_int T.F__law_is_int.kp (bi__law_is_int T) (da_cons (de_at (dv 0) de_int) da_nil))))))))
abbrev N__law_is_title : List Str := ["_law_matter", "_law_sign"]
theorem sc__law_is_title : FnScope N__law_is_title ["_law_matter"] (defScope s__law_is_title) := ⟨rfl, rfl, rfl, by decide +kernel, rfl, by decide +kernel, by decide +kernel⟩
theorem bi__law_is_title (T : Txt K mg ad fd tk) : Binds K (fd 21) ["_law_matter"] [] := T.F__law_is_title.binds (ps := ["_law_matter"]) fun _ _ _ _ _ _ us hl => match us, hl with | [_], _ => rfl
set_option maxHeartbeats 4000000 in
theorem ok__law_is_title (T : Txt K mg ad fd tk) : FnG P w K mg base CX0 1 (ad 21) (fd 21) ["_law_matter"] (spD K 1 f__law_is_title) := by
  refine fnD (k := 0) T.F__law_is_title sc__law_is_title fun cdv A out s H E hr => ?_
  exact (dss_cons (ds_if (PW.pt (dw_or (dt_not (dt_val (de_b b_isi (by rfl) T.n_isinstance (da_cons (dv 0) (da_cons (de_ty (by rfl) T.n_str (by decide +kernel)) da_nil))))) (dw_or1 (dt_not (dt_ch c_lt c_lt de_int (de_b b_len (by rfl) T.n_len (da_cons (dv 0) da_nil)) de_int))))) (dss_one (ds_ret de_bl)) dss_nil) (dss_one (ds_ret (de_c (c_eq hr) (de_comp (own := [("_law_sign", 1)]) rfl sc__law_is_title.nd  (di_str (dv 0)) (blkOk_by (own := [("_law_sign", 1)]) (N := N__law_is_title) (sc := defScope s__law_is_title) (by decide +kernel)) (fun _ _ _ _ _ => (dg_name (i := 1) sc__law_is_title.nd rfl (by first | exact Or.inl rfl | exact Or.inr rfl))) (fun _ _ _ _ _ => (dts_one (dt_c c_notIn (dv 1) de_str))) (fun _ _ _ _ _ => (dv 1))) (de_lst da_nil)))))
abbrev N__law_matters : List Str := ["_law_box_here", "_law_pair", "_law_some"]
theorem sc__law_matters : FnScope N__law_matters ["_law_box_here", "_law_pair"] (defScope s__law_matters) := ⟨rfl, rfl, rfl, by decide +kernel, rfl, by decide +kernel, by decide +kernel⟩
theorem bi__law_matters (T : Txt K mg ad fd tk) : Binds K (fd 22) ["_law_box_here", "_law_pair"] [] := T.F__law_matters.binds (ps := ["_law_box_here", "_law_pair"]) fun _ _ _ _ _ _ us hl => match us, hl with | [_, _], _ => rfl
set_option maxHeartbeats 4000000 in
theorem ok__law_matters (T : Txt K mg ad fd tk) : FnG P w K mg base CX0 2 (ad 22) (fd 22) ["_law_box_here", "_law_pair"] (spD K 2 f__law_matters) := by
  refine fnD (k := 1) T.F__law_matters sc__law_matters fun cdv A out s H E hr => ?_
  exact (dss_cons (ds_set (i := 2) sc__law_matters.nd rfl (by first | exact Or.inl rfl | exact Or.inr rfl) (de_lst (da_cons (dv 1) (da_cons (de_t b_list (by rfl) T.n_list (da_cons (dv 1) da_nil)) (da_cons (de_slice (dv 1) do_none (do_some de_int)) (da_cons (de_add (dv 1) (de_tup (da_cons de_int da_nil))) (da_cons (de_tup (da_cons (de_at (dv 1) de_int) (da_cons de_bl da_nil))) (da_cons (de_tup (da_cons de_bl (da_cons (de_at (dv 1) de_int) da_nil))) (da_cons (de_tup (da_cons (de_at (dv 1) de_int) (da_cons de_str da_nil))) (da_cons de_non (da_cons de_int (da_cons de_str da_nil)))))))))))) (dss_cons (ds_set (i := 2) sc__law_matters.nd rfl (by first | exact Or.inl rfl | exact Or.inr rfl) (de_add (dv 2) (de_lst (da_cons (de_tup (da_cons (de_add (de_at (dv 1) de_int) de_int) (da_cons (de_at (dv 1) de_int) da_nil))) (da_cons (de_tup (da_cons (de_at (dv 1) de_int) (da_cons (de_add (de_at (dv 1) de_int) de_int) da_nil))) (da_cons (de_tup (da_cons (de_sub (de_at (dv 1) de_int) de_int) (da_cons (de_at (dv 1) de_int) da_nil))) (da_cons (de_tup (da_cons (de_at (dv 1) de_int) (da_cons (de_sub de_int (de_at (dv 1) de_int)) da_nil))) da_nil))))))) (dss_cons (ds_set (i := 2) sc__law_matters.nd rfl (by first | exact Or.inl rfl | exact Or.inr rfl) (de_add (dv 2) (de_lst (da_cons de_str (da_cons de_str (da_cons de_str (da_cons de_str (da_cons de_str (da_cons de_str (da_cons (de_tup (da_cons de_str da_nil)) (da_cons (de_lst (da_cons de_str da_nil)) (da_cons de_bl (da_cons (de_tup da_nil) (da_cons (de_lst da_nil) (da_cons (de_tup (da_cons de_int (da_cons (de_pow de_int de_int) da_nil))) (da_cons de_str da_nil)))))))))))))))) (dss_one (ds_ret (de_add (dv 2) (de_lst (da_cons (de_tup (da_cons (de_call (ok__law_take T) (hr.le (by decide)) (by rfl) T.g__law_take T.F__law_take.kp (bi__law_take T) (da_cons (dv 0) (da_cons de_int da_nil))) (da_cons (de_call (ok__law_take T) (hr.le (by decide)) (by rfl) T.g__law_take T.F__law_take.kp (bi__law_take T) (da_cons (dv 0) (da_cons de_int da_nil))) da_nil))) (da_cons (de_tup (da_cons de_int (da_cons de_int da_nil))) (da_cons (de_tup (da_cons de_int (da_cons de_int da_nil))) (da_cons (de_tup (da_cons de_int (da_cons de_int da_nil))) (da_cons (de_tup (da_cons de_int (da_cons de_int da_nil))) (da_cons (de_tup (da_cons (dv 1) (da_cons (dv 1) da_nil))) (da_cons (de_tup (da_cons (de_tup (da_cons de_int (da_cons de_int da_nil))) da_nil)) da_nil))))))))))))))
abbrev N__law_right : List Str := ["_law_box_here", "_law_form", "_law_spot", "_law_matter", "_law_was", "_law_pair", "_law_due", "_law_found", "_law_found_so", "_law_b", "_law_path_here"]
theorem sc__law_right : FnScope N__law_right ["_law_box_here"] (defScope s__law_right) := ⟨rfl, rfl, rfl, by decide +kernel, rfl, by decide +kernel, by decide +kernel⟩
theorem bi__law_right (T : Txt K mg ad fd tk) : Binds K (fd 23) ["_law_box_here"] [] := T.F__law_right.binds (ps := ["_law_box_here"]) fun _ _ _ _ _ _ us hl => match us, hl with | [_], _ => rfl
set_option maxHeartbeats 4000000 in
theorem ok__law_right (T : Txt K mg ad fd tk) : FnG P w K mg base CX0 6 (ad 23) (fd 23) ["_law_box_here"] (spD K 1 f__law_right) := by
  refine fnD (k := 5) T.F__law_right sc__law_right fun cdv A out s H E hr => ?_
  exact (dss_cons (ds_set (i := 1) sc__law_right.nd rfl (by first | exact Or.inl rfl | exact Or.inr rfl) (de_tup (da_cons (de_call (ok__law_of T) (hr.le (by decide)) (by rfl) T.g__law_of T.F__law_of.kp (bi__law_of T) (da_cons (dv 0) (da_cons (de_lst (da_cons de_int (da_cons de_int (da_cons de_int da_nil)))) da_nil))) (da_cons (de_call (ok__law_of T) (hr.le (by decide)) (by rfl) T.g__law_of T.F__law_of.kp (bi__law_of T) (da_cons (dv 0) (da_cons (de_lst (da_cons de_int (da_cons de_int (da_cons de_int da_nil)))) da_nil))) da_nil)))) (dss_cons (ds_set (i := 2) sc__law_right.nd rfl (by first | exact Or.inl rfl | exact Or.inr rfl) (de_tup (da_cons (de_call (ok__law_take T) (hr.le (by decide)) (by rfl) T.g__law_take T.F__law_take.kp (bi__law_take T) (da_cons (dv 0) (da_cons (de_add (de_at (dv 1) de_int) de_int) da_nil))) (da_cons (de_call (ok__law_take T) (hr.le (by decide)) (by rfl) T.g__law_take T.F__law_take.kp (bi__law_take T) (da_cons (dv 0) (da_cons (de_add (de_call (ok__law_power T) (hr.le (by decide)) (by rfl) T.g__law_power T.F__law_power.kp (bi__law_power T) (da_cons (de_at (dv 1) de_int) (da_cons (de_at (dv 1) de_int) da_nil))) de_int) da_nil))) da_nil)))) (dss_cons (ds_for (ss := [3]) PassesOwn.never rfl (di_list (de_add (de_call (ok__law_matters T) (hr.le (by decide)) (by rfl) T.g__law_matters T.F__law_matters.kp (bi__law_matters T) (da_cons (dv 0) (da_cons (dv 1) da_nil))) (de_call (ok__law_matters T) (hr.le (by decide)) (by rfl) T.g__law_matters T.F__law_matters.kp (bi__law_matters T) (da_cons (dv 0) (da_cons (dv 2) da_nil))))) (dg_name (i := 3) sc__law_right.nd rfl (by first | exact Or.inl rfl | exact Or.inr rfl)) (dss_cons (ds_two (i := 4) (j := 5) rfl sc__law_right.nd rfl rfl (by decide) rfl rfl (da_cons (de_b (b_repr hr) (by rfl) T.n_repr (da_cons (dv 3) da_nil)) (da_cons (de_call (ok__law_is_pair T) (hr.le (by decide)) (by rfl) T.g__law_is_pair T.F__law_is_pair.kp (bi__law_is_pair T) (da_cons (dv 3) da_nil)) da_nil)) rfl) (dss_cons (ds_set (i := 6) sc__law_right.nd rfl (by first | exact Or.inl rfl | exact Or.inr rfl) (de_new (da_cons (de_and (dv 5) (de_and (de_c c_in (de_at (dv 3) de_int) (de_tup (da_cons de_int (da_cons de_int (da_cons de_int da_nil))))) (de_one (de_c c_in (de_at (dv 3) de_int) (de_tup (da_cons de_int (da_cons de_int (da_cons de_int da_nil)))))))) (da_cons (de_call (ok__law_is_title T) (hr.le (by decide)) (by rfl) T.g__law_is_title T.F__law_is_title.kp (bi__law_is_title T) (da_cons (dv 3) da_nil)) da_nil)))) (dss_cons (ds_expr (de_append (dv 6) (de_and (dv 5) (de_and (de_ch c_le c_le de_int (de_at (dv 3) de_int) (de_at (dv 1) de_int)) (de_one (de_ch c_le c_lt de_int (de_at (dv 3) de_int) (de_call (ok__law_power T) (hr.le (by decide)) (by rfl) T.g__law_power T.F__law_power.kp (bi__law_power T) (da_cons (de_at (dv 1) de_int) (da_cons (de_at (dv 3) de_int) da_nil))))))))) (dss_frz (i := 6) (dss_cons (ds_set (i := 7) sc__law_right.nd rfl (by first | exact Or.inl rfl | exact Or.inr rfl) (de_lst (da_cons (de_call (ok_is_shape T) (hr.le (by decide)) (by rfl) T.g_is_shape T.F_is_shape.kp (bi_is_shape T) (da_cons (dv 3) da_nil)) (da_cons (de_call (ok_is_name T) (hr.le (by decide)) (by rfl) T.g_is_name T.F_is_name.kp (bi_is_name T) (da_cons (dv 3) da_nil)) (da_cons (de_call (ok_is_spot T) (hr.le (by decide)) (by rfl) T.g_is_spot T.F_is_spot.kp (bi_is_spot T) (da_cons (dv 1) (da_cons (dv 3) da_nil))) da_nil))))) (dss_cons (ds_set (i := 8) sc__law_right.nd rfl (by first | exact Or.inl rfl | exact Or.inr rfl) (de_lst (da_cons (de_callK0 (ok_is_shape T) (hr.le (by decide)) (by rfl) T.g_is_shape T.F_is_shape.kp (kw_is_shape_thing T) (dk_cons (dv 3) dk_nil)) (da_cons (de_callK0 (ok_is_name T) (hr.le (by decide)) (by rfl) T.g_is_name T.F_is_name.kp (kw_is_name_thing T) (dk_cons (dv 3) dk_nil)) (da_cons (de_callK0 (ok_is_spot T) (hr.le (by decide)) (by rfl) T.g_is_spot T.F_is_spot.kp (kw_is_spot_thing_shape T) (dk_cons (dv 3) (dk_cons (de_t b_list (by rfl) T.n_list (da_cons (dv 1) da_nil)) dk_nil))) da_nil))))) (dss_one (ds_if (PW.pt (dw_or (dt_not (dt_val (de_call (ok__law_same T 4) (hr.le (by decide)) (by rfl) T.g__law_same T.F__law_same.kp (bi__law_same T) (da_cons (de_lst (da_cons (dv 7) (da_cons (dv 8) da_nil))) (da_cons (de_lst (da_cons (dv 6) (da_cons (dv 6) da_nil))) da_nil))))) (dw_or1 (dt_c (c_ne hr) (de_b (b_repr hr) (by rfl) T.n_repr (da_cons (dv 3) da_nil)) (dv 4))))) (dss_one (ds_ret de_bl)) dss_nil))))))))) (dss_cons (ds_for (ss := [9]) PassesOwn.never rfl (di_r1 (by rfl) T.n_range (da_cons (de_call (ok__law_power T) (hr.le (by decide)) (by rfl) T.g__law_power T.F__law_power.kp (bi__law_power T) (da_cons (de_at (dv 1) de_int) (da_cons (de_at (dv 1) de_int) da_nil))) da_nil)) (dg_name (i := 9) sc__law_right.nd rfl (by first | exact Or.inl rfl | exact Or.inr rfl)) (dss_cons (ds_set (i := 10) sc__law_right.nd rfl (by first | exact Or.inl rfl | exact Or.inr rfl) (de_t b_tuple (by rfl) T.n_tuple (da_cons (de_call (ok__law_path T) (hr.le (by decide)) (by rfl) T.g__law_path T.F__law_path.kp (bi__law_path T) (da_cons (dv 1) (da_cons (dv 9) da_nil))) da_nil))) (dss_one (ds_if (dt_not (dt_val (de_call (ok__law_same T 4) (hr.le (by decide)) (by rfl) T.g__law_same T.F__law_same.kp (bi__law_same T) (da_cons (de_lst (da_cons (de_call (ok_way T) (hr.le (by decide)) (by rfl) T.g_way T.F_way.kp (bi_way T) (da_cons (dv 1) (da_cons (dv 9) da_nil))) (da_cons (de_callK0 (ok_way T) (hr.le (by decide)) (by rfl) T.g_way T.F_way.kp (kw_way_block_shape T) (dk_cons (dv 9) (dk_cons (de_t b_list (by rfl) T.n_list (da_cons (dv 1) da_nil)) dk_nil))) da_nil))) (da_cons (de_lst (da_cons (dv 10) (da_cons (dv 10) da_nil))) da_nil))))) (dss_one (ds_ret de_bl)) dss_nil)))) (dss_one (ds_ret de_bl))))))
abbrev N_law : List Str := ["_law_script", "_law_k", "_law_box_here", "_law_turn"]
theorem sc_law : FnScope N_law ["_law_script"] (defScope s_law) := ⟨rfl, rfl, rfl, by decide +kernel, rfl, by decide +kernel, by decide +kernel⟩
theorem bi_law (T : Txt K mg ad fd tk) : Binds K (fd 24) ["_law_script"] [] := T.F_law.binds (ps := ["_law_script"]) fun _ _ _ _ _ _ us hl => match us, hl with | [_], _ => rfl
set_option maxHeartbeats 4000000 in
theorem ok_law (T : Txt K mg ad fd tk) : FnG P w K mg base CX0 7 (ad 24) (fd 24) ["_law_script"] (spD K 1 f_law) := by
  refine fnD (k := 6) T.F_law sc_law fun cdv A out s H E hr => ?_
  exact (dss_cons (ds_for (ss := [1]) PassesOwn.never rfl (di_r1 (by rfl) T.n_range (da_cons (de_add de_int (de_b b_min2 (by rfl) T.n_min (da_cons de_int (da_cons (de_b b_len (by rfl) T.n_len (da_cons (dv 0) da_nil)) da_nil)))) da_nil)) (dg_name (i := 1) sc_law.nd rfl (by first | exact Or.inl rfl | exact Or.inr rfl)) (dss_cons (ds_set (i := 2) sc_law.nd rfl (by first | exact Or.inl rfl | exact Or.inr rfl) (de_call (ok__law_box T) (hr.le (by decide)) (by rfl) T.g__law_box T.F__law_box.kp (bi__law_box T) (da_cons (dv 0) (da_cons (dv 1) da_nil)))) (dss_one (ds_if (dt_not (dt_val (de_b b_all (by rfl) T.n_all (da_cons (de_comp (own := [("_law_turn", 3)]) rfl sc_law.nd  (di_r1 (by rfl) T.n_range (da_cons de_int da_nil)) (blkOk_by (own := [("_law_turn", 3)]) (N := N_law) (sc := defScope s_law) (by decide +kernel)) (fun _ _ _ _ _ => (dg_name (i := 3) sc_law.nd rfl (by first | exact Or.inl rfl | exact Or.inr rfl))) (fun _ _ _ _ _ => dts_nil) (fun _ _ _ _ _ => (de_call (ok__law_right T) (hr.le (by decide)) (by rfl) T.g__law_right T.F__law_right.kp (bi__law_right T) (da_cons (dv 2) da_nil)))) da_nil)))) (dss_one (ds_ret de_bl)) dss_nil)))) (dss_one (ds_ret de_bl)))
end
end K00
end L2

set_option maxRecDepth 100000
namespace L2
namespace K00
open PySem PySem.Spec PyProof.Rows DL
theorem all_mk {P : Program} {w : PySem.World} {K : PySem.W.Frag} {h : Heap} {mg : Str → Option Value} {fa : Addr} (X : K.In h) (G : h.Ns mainGlobals mg) (hfa : mg "law" = some (.ref fa))
    {f5 : Addr} {od5 an5 : Option Addr} {sl5 : Array (Option Value)} {oc5 kV5 dc5 pm5 cd5 ct5 : Value}
    {f6 : Addr} {od6 an6 : Option Addr} {sl6 : Array (Option Value)} {oc6 kV6 dc6 pm6 cd6 ct6 : Value}
    {f7 : Addr} {od7 an7 : Option Addr} {sl7 : Array (Option Value)} {oc7 kV7 dc7 pm7 cd7 ct7 : Value}
    {f8 : Addr} {od8 an8 : Option Addr} {sl8 : Array (Option Value)} {oc8 kV8 dc8 pm8 cd8 ct8 : Value}
    {f9 : Addr} {od9 an9 : Option Addr} {sl9 : Array (Option Value)} {oc9 kV9 dc9 pm9 cd9 ct9 : Value}
    {f10 : Addr} {od10 an10 : Option Addr} {sl10 : Array (Option Value)} {oc10 kV10 dc10 pm10 cd10 ct10 : Value}
    {f12 : Addr} {od12 an12 : Option Addr} {sl12 : Array (Option Value)} {oc12 kV12 dc12 pm12 cd12 ct12 : Value}
    {f13 : Addr} {od13 an13 : Option Addr} {sl13 : Array (Option Value)} {oc13 kV13 dc13 pm13 cd13 ct13 : Value}
    {f14 : Addr} {od14 an14 : Option Addr} {sl14 : Array (Option Value)} {oc14 kV14 dc14 pm14 cd14 ct14 : Value}
    {f15 : Addr} {od15 an15 : Option Addr} {sl15 : Array (Option Value)} {oc15 kV15 dc15 pm15 cd15 ct15 : Value}
    {f16 : Addr} {od16 an16 : Option Addr} {sl16 : Array (Option Value)} {oc16 kV16 dc16 pm16 cd16 ct16 : Value}
    {f17 : Addr} {od17 an17 : Option Addr} {sl17 : Array (Option Value)} {oc17 kV17 dc17 pm17 cd17 ct17 : Value}
    {f18 : Addr} {od18 an18 : Option Addr} {sl18 : Array (Option Value)} {oc18 kV18 dc18 pm18 cd18 ct18 : Value}
    {f19 : Addr} {od19 an19 : Option Addr} {sl19 : Array (Option Value)} {oc19 kV19 dc19 pm19 cd19 ct19 : Value}
    {f20 : Addr} {od20 an20 : Option Addr} {sl20 : Array (Option Value)} {oc20 kV20 dc20 pm20 cd20 ct20 : Value}
    {f21 : Addr} {od21 an21 : Option Addr} {sl21 : Array (Option Value)} {oc21 kV21 dc21 pm21 cd21 ct21 : Value}
    {f22 : Addr} {od22 an22 : Option Addr} {sl22 : Array (Option Value)} {oc22 kV22 dc22 pm22 cd22 ct22 : Value}
    {f23 : Addr} {od23 an23 : Option Addr} {sl23 : Array (Option Value)} {oc23 kV23 dc23 pm23 cd23 ct23 : Value}
    {f24 : Addr} {od24 an24 : Option Addr} {sl24 : Array (Option Value)} {oc24 kV24 dc24 pm24 cd24 ct24 : Value}
    {t1 : Tok}
    {t2 : Tok}
    {f3 : Addr} {ob3 : Obj} {nn3 : Nat} {u3_0 u3_1 u3_2 : Tok}
    {f4 : Addr} {ob4 : Obj} {nn4 : Nat} {u4_0 u4_1 u4_2 : Tok}
    (a5 : PySem.W.nsIn K mainGlobals "is_number" = some (some (.ref f5))) (l5 : K.lookup f5 = some ⟨oc5, od5, .func (PySem.W.fnOf "is_number" "is_number" (defArgs s_is_number) (defBody s_is_number) (defScope s_is_number) .none kV5 dc5 pm5 an5 cd5 ct5), sl5⟩) (c5 : PySem.W.codeIn K cd5 "is_number" = true) (k5 : PySem.W.keepIn K (.ref f5) = true)
    (a6 : PySem.W.nsIn K mainGlobals "power" = some (some (.ref f6))) (l6 : K.lookup f6 = some ⟨oc6, od6, .func (PySem.W.fnOf "power" "power" (defArgs s_power) (defBody s_power) (defScope s_power) .none kV6 dc6 pm6 an6 cd6 ct6), sl6⟩) (c6 : PySem.W.codeIn K cd6 "power" = true) (k6 : PySem.W.keepIn K (.ref f6) = true)
    (a7 : PySem.W.nsIn K mainGlobals "is_name" = some (some (.ref f7))) (l7 : K.lookup f7 = some ⟨oc7, od7, .func (PySem.W.fnOf "is_name" "is_name" (defArgs s_is_name) (defBody s_is_name) (defScope s_is_name) .none kV7 dc7 pm7 an7 cd7 ct7), sl7⟩) (c7 : PySem.W.codeIn K cd7 "is_name" = true) (k7 : PySem.W.keepIn K (.ref f7) = true)
    (a8 : PySem.W.nsIn K mainGlobals "is_shape" = some (some (.ref f8))) (l8 : K.lookup f8 = some ⟨oc8, od8, .func (PySem.W.fnOf "is_shape" "is_shape" (defArgs s_is_shape) (defBody s_is_shape) (defScope s_is_shape) .none kV8 dc8 pm8 an8 cd8 ct8), sl8⟩) (c8 : PySem.W.codeIn K cd8 "is_shape" = true) (k8 : PySem.W.keepIn K (.ref f8) = true)
    (a9 : PySem.W.nsIn K mainGlobals "is_spot" = some (some (.ref f9))) (l9 : K.lookup f9 = some ⟨oc9, od9, .func (PySem.W.fnOf "is_spot" "is_spot" (defArgs s_is_spot) (defBody s_is_spot) (defScope s_is_spot) .none kV9 dc9 pm9 an9 cd9 ct9), sl9⟩) (c9 : PySem.W.codeIn K cd9 "is_spot" = true) (k9 : PySem.W.keepIn K (.ref f9) = true)
    (a10 : PySem.W.nsIn K mainGlobals "way" = some (some (.ref f10))) (l10 : K.lookup f10 = some ⟨oc10, od10, .func (PySem.W.fnOf "way" "way" (defArgs s_way) (defBody s_way) (defScope s_way) .none kV10 dc10 pm10 an10 cd10 ct10), sl10⟩) (c10 : PySem.W.codeIn K cd10 "way" = true) (k10 : PySem.W.keepIn K (.ref f10) = true)
    (a12 : PySem.W.nsIn K mainGlobals "_law_power" = some (some (.ref f12))) (l12 : K.lookup f12 = some ⟨oc12, od12, .func (PySem.W.fnOf "_law_power" "_law_power" (defArgs s__law_power) (defBody s__law_power) (defScope s__law_power) .none kV12 dc12 pm12 an12 cd12 ct12), sl12⟩) (c12 : PySem.W.codeIn K cd12 "_law_power" = true) (k12 : PySem.W.keepIn K (.ref f12) = true)
    (a13 : PySem.W.nsIn K mainGlobals "_law_cell_at" = some (some (.ref f13))) (l13 : K.lookup f13 = some ⟨oc13, od13, .func (PySem.W.fnOf "_law_cell_at" "_law_cell_at" (defArgs s__law_cell_at) (defBody s__law_cell_at) (defScope s__law_cell_at) .none kV13 dc13 pm13 an13 cd13 ct13), sl13⟩) (c13 : PySem.W.codeIn K cd13 "_law_cell_at" = true) (k13 : PySem.W.keepIn K (.ref f13) = true)
    (a14 : PySem.W.nsIn K mainGlobals "_law_box" = some (some (.ref f14))) (l14 : K.lookup f14 = some ⟨oc14, od14, .func (PySem.W.fnOf "_law_box" "_law_box" (defArgs s__law_box) (defBody s__law_box) (defScope s__law_box) .none kV14 dc14 pm14 an14 cd14 ct14), sl14⟩) (c14 : PySem.W.codeIn K cd14 "_law_box" = true) (k14 : PySem.W.keepIn K (.ref f14) = true)
    (a15 : PySem.W.nsIn K mainGlobals "_law_take" = some (some (.ref f15))) (l15 : K.lookup f15 = some ⟨oc15, od15, .func (PySem.W.fnOf "_law_take" "_law_take" (defArgs s__law_take) (defBody s__law_take) (defScope s__law_take) .none kV15 dc15 pm15 an15 cd15 ct15), sl15⟩) (c15 : PySem.W.codeIn K cd15 "_law_take" = true) (k15 : PySem.W.keepIn K (.ref f15) = true)
    (a16 : PySem.W.nsIn K mainGlobals "_law_of" = some (some (.ref f16))) (l16 : K.lookup f16 = some ⟨oc16, od16, .func (PySem.W.fnOf "_law_of" "_law_of" (defArgs s__law_of) (defBody s__law_of) (defScope s__law_of) .none kV16 dc16 pm16 an16 cd16 ct16), sl16⟩) (c16 : PySem.W.codeIn K cd16 "_law_of" = true) (k16 : PySem.W.keepIn K (.ref f16) = true)
    (a17 : PySem.W.nsIn K mainGlobals "_law_same" = some (some (.ref f17))) (l17 : K.lookup f17 = some ⟨oc17, od17, .func (PySem.W.fnOf "_law_same" "_law_same" (defArgs s__law_same) (defBody s__law_same) (defScope s__law_same) .none kV17 dc17 pm17 an17 cd17 ct17), sl17⟩) (c17 : PySem.W.codeIn K cd17 "_law_same" = true) (k17 : PySem.W.keepIn K (.ref f17) = true)
    (a18 : PySem.W.nsIn K mainGlobals "_law_path" = some (some (.ref f18))) (l18 : K.lookup f18 = some ⟨oc18, od18, .func (PySem.W.fnOf "_law_path" "_law_path" (defArgs s__law_path) (defBody s__law_path) (defScope s__law_path) .none kV18 dc18 pm18 an18 cd18 ct18), sl18⟩) (c18 : PySem.W.codeIn K cd18 "_law_path" = true) (k18 : PySem.W.keepIn K (.ref f18) = true)
    (a19 : PySem.W.nsIn K mainGlobals "_law_is_int" = some (some (.ref f19))) (l19 : K.lookup f19 = some ⟨oc19, od19, .func (PySem.W.fnOf "_law_is_int" "_law_is_int" (defArgs s__law_is_int) (defBody s__law_is_int) (defScope s__law_is_int) .none kV19 dc19 pm19 an19 cd19 ct19), sl19⟩) (c19 : PySem.W.codeIn K cd19 "_law_is_int" = true) (k19 : PySem.W.keepIn K (.ref f19) = true)
    (a20 : PySem.W.nsIn K mainGlobals "_law_is_pair" = some (some (.ref f20))) (l20 : K.lookup f20 = some ⟨oc20, od20, .func (PySem.W.fnOf "_law_is_pair" "_law_is_pair" (defArgs s__law_is_pair) (defBody s__law_is_pair) (defScope s__law_is_pair) .none kV20 dc20 pm20 an20 cd20 ct20), sl20⟩) (c20 : PySem.W.codeIn K cd20 "_law_is_pair" = true) (k20 : PySem.W.keepIn K (.ref f20) = true)
    (a21 : PySem.W.nsIn K mainGlobals "_law_is_title" = some (some (.ref f21))) (l21 : K.lookup f21 = some ⟨oc21, od21, .func (PySem.W.fnOf "_law_is_title" "_law_is_title" (defArgs s__law_is_title) (defBody s__law_is_title) (defScope s__law_is_title) .none kV21 dc21 pm21 an21 cd21 ct21), sl21⟩) (c21 : PySem.W.codeIn K cd21 "_law_is_title" = true) (k21 : PySem.W.keepIn K (.ref f21) = true)
    (a22 : PySem.W.nsIn K mainGlobals "_law_matters" = some (some (.ref f22))) (l22 : K.lookup f22 = some ⟨oc22, od22, .func (PySem.W.fnOf "_law_matters" "_law_matters" (defArgs s__law_matters) (defBody s__law_matters) (defScope s__law_matters) .none kV22 dc22 pm22 an22 cd22 ct22), sl22⟩) (c22 : PySem.W.codeIn K cd22 "_law_matters" = true) (k22 : PySem.W.keepIn K (.ref f22) = true)
    (a23 : PySem.W.nsIn K mainGlobals "_law_right" = some (some (.ref f23))) (l23 : K.lookup f23 = some ⟨oc23, od23, .func (PySem.W.fnOf "_law_right" "_law_right" (defArgs s__law_right) (defBody s__law_right) (defScope s__law_right) .none kV23 dc23 pm23 an23 cd23 ct23), sl23⟩) (c23 : PySem.W.codeIn K cd23 "_law_right" = true) (k23 : PySem.W.keepIn K (.ref f23) = true)
    (a24 : PySem.W.nsIn K mainGlobals "law" = some (some (.ref f24))) (l24 : K.lookup f24 = some ⟨oc24, od24, .func (PySem.W.fnOf "law" "law" (defArgs s_law) (defBody s_law) (defScope s_law) .none kV24 dc24 pm24 an24 cd24 ct24), sl24⟩) (c24 : PySem.W.codeIn K cd24 "law" = true) (k24 : PySem.W.keepIn K (.ref f24) = true)
    (a1 : PySem.W.nsIn K mainGlobals "LETTERS" = some (some (.str "abcdefghijklmnopqrstuvwxyz" t1)))
    (a2 : PySem.W.nsIn K mainGlobals "MOST_LETTERS" = some (some (.int 8 t2)))
    (a3 : PySem.W.nsIn K mainGlobals "FANS" = some (some (.ref f3))) (l3 : K.lookup f3 = some ob3) (c3 : ob3.cls = .type "tuple") (k3 : ob3.data = .seq #[.int 2 u3_0, .int 3 u3_1, .int 4 u3_2] nn3)
    (a4 : PySem.W.nsIn K mainGlobals "DEPTHS" = some (some (.ref f4))) (l4 : K.lookup f4 = some ob4) (c4 : ob4.cls = .type "tuple") (k4 : ob4.data = .seq #[.int 1 u4_0, .int 2 u4_1, .int 3 u4_2] nn4)
    (z_abs : PySem.W.nsIn K mainGlobals "abs" = some none)
    (z_all : PySem.W.nsIn K mainGlobals "all" = some none)
    (z_bool : PySem.W.nsIn K mainGlobals "bool" = some none)
    (z_int : PySem.W.nsIn K mainGlobals "int" = some none)
    (z_isinstance : PySem.W.nsIn K mainGlobals "isinstance" = some none)
    (z_len : PySem.W.nsIn K mainGlobals "len" = some none)
    (z_list : PySem.W.nsIn K mainGlobals "list" = some none)
    (z_min : PySem.W.nsIn K mainGlobals "min" = some none)
    (z_range : PySem.W.nsIn K mainGlobals "range" = some none)
    (z_repr : PySem.W.nsIn K mainGlobals "repr" = some none)
    (z_str : PySem.W.nsIn K mainGlobals "str" = some none)
    (z_tuple : PySem.W.nsIn K mainGlobals "tuple" = some none)
    (z_zip : PySem.W.nsIn K mainGlobals "zip" = some none) :
    ∃ fd : FuncData, (∀ (s : Shared) (u : Value), BindsTo s fd ⟨[u], []⟩ [("_law_script", u)]) ∧ ∀ base : Heap, K.In base → base.Ns mainGlobals mg → FnG P w K mg base CX0 7 fa fd ["_law_script"] (spD K 1 f_law) := by
  have e := hfa.symm.trans (PySem.W.mg_of X G a24)
  cases e
  have T : Txt K mg (fun i => match i with | 5 => f5 | 6 => f6 | 7 => f7 | 8 => f8 | 9 => f9 | 10 => f10 | 12 => f12 | 13 => f13 | 14 => f14 | 15 => f15 | 16 => f16 | 17 => f17 | 18 => f18 | 19 => f19 | 20 => f20 | 21 => f21 | 22 => f22 | 23 => f23 | 24 => fa | 3 => f3 | 4 => f4 | _ => 0)
      (fun i => match i with | 5 => (PySem.W.fnOf "is_number" "is_number" (defArgs s_is_number) (defBody s_is_number) (defScope s_is_number) .none kV5 dc5 pm5 an5 cd5 ct5) | 6 => (PySem.W.fnOf "power" "power" (defArgs s_power) (defBody s_power) (defScope s_power) .none kV6 dc6 pm6 an6 cd6 ct6) | 7 => (PySem.W.fnOf "is_name" "is_name" (defArgs s_is_name) (defBody s_is_name) (defScope s_is_name) .none kV7 dc7 pm7 an7 cd7 ct7) | 8 => (PySem.W.fnOf "is_shape" "is_shape" (defArgs s_is_shape) (defBody s_is_shape) (defScope s_is_shape) .none kV8 dc8 pm8 an8 cd8 ct8) | 9 => (PySem.W.fnOf "is_spot" "is_spot" (defArgs s_is_spot) (defBody s_is_spot) (defScope s_is_spot) .none kV9 dc9 pm9 an9 cd9 ct9) | 10 => (PySem.W.fnOf "way" "way" (defArgs s_way) (defBody s_way) (defScope s_way) .none kV10 dc10 pm10 an10 cd10 ct10) | 12 => (PySem.W.fnOf "_law_power" "_law_power" (defArgs s__law_power) (defBody s__law_power) (defScope s__law_power) .none kV12 dc12 pm12 an12 cd12 ct12) | 13 => (PySem.W.fnOf "_law_cell_at" "_law_cell_at" (defArgs s__law_cell_at) (defBody s__law_cell_at) (defScope s__law_cell_at) .none kV13 dc13 pm13 an13 cd13 ct13) | 14 => (PySem.W.fnOf "_law_box" "_law_box" (defArgs s__law_box) (defBody s__law_box) (defScope s__law_box) .none kV14 dc14 pm14 an14 cd14 ct14) | 15 => (PySem.W.fnOf "_law_take" "_law_take" (defArgs s__law_take) (defBody s__law_take) (defScope s__law_take) .none kV15 dc15 pm15 an15 cd15 ct15) | 16 => (PySem.W.fnOf "_law_of" "_law_of" (defArgs s__law_of) (defBody s__law_of) (defScope s__law_of) .none kV16 dc16 pm16 an16 cd16 ct16) | 17 => (PySem.W.fnOf "_law_same" "_law_same" (defArgs s__law_same) (defBody s__law_same) (defScope s__law_same) .none kV17 dc17 pm17 an17 cd17 ct17) | 18 => (PySem.W.fnOf "_law_path" "_law_path" (defArgs s__law_path) (defBody s__law_path) (defScope s__law_path) .none kV18 dc18 pm18 an18 cd18 ct18) | 19 => (PySem.W.fnOf "_law_is_int" "_law_is_int" (defArgs s__law_is_int) (defBody s__law_is_int) (defScope s__law_is_int) .none kV19 dc19 pm19 an19 cd19 ct19) | 20 => (PySem.W.fnOf "_law_is_pair" "_law_is_pair" (defArgs s__law_is_pair) (defBody s__law_is_pair) (defScope s__law_is_pair) .none kV20 dc20 pm20 an20 cd20 ct20) | 21 => (PySem.W.fnOf "_law_is_title" "_law_is_title" (defArgs s__law_is_title) (defBody s__law_is_title) (defScope s__law_is_title) .none kV21 dc21 pm21 an21 cd21 ct21) | 22 => (PySem.W.fnOf "_law_matters" "_law_matters" (defArgs s__law_matters) (defBody s__law_matters) (defScope s__law_matters) .none kV22 dc22 pm22 an22 cd22 ct22) | 23 => (PySem.W.fnOf "_law_right" "_law_right" (defArgs s__law_right) (defBody s__law_right) (defScope s__law_right) .none kV23 dc23 pm23 an23 cd23 ct23) | 24 => (PySem.W.fnOf "law" "law" (defArgs s_law) (defBody s_law) (defScope s_law) .none kV24 dc24 pm24 an24 cd24 ct24) | _ => (PySem.W.fnOf "is_number" "is_number" (defArgs s_is_number) (defBody s_is_number) (defScope s_is_number) .none kV5 dc5 pm5 an5 cd5 ct5))
      (fun i => match i with | 1 => t1 | 2 => t2 | _ => 0) :=
    { g_is_number := PySem.W.mg_of X G a5,
      F_is_number := fun_mk (st := s_is_number) l5 c5 k5,
      g_power := PySem.W.mg_of X G a6,
      F_power := fun_mk (st := s_power) l6 c6 k6,
      g_is_name := PySem.W.mg_of X G a7,
      F_is_name := fun_mk (st := s_is_name) l7 c7 k7,
      g_is_shape := PySem.W.mg_of X G a8,
      F_is_shape := fun_mk (st := s_is_shape) l8 c8 k8,
      g_is_spot := PySem.W.mg_of X G a9,
      F_is_spot := fun_mk (st := s_is_spot) l9 c9 k9,
      g_way := PySem.W.mg_of X G a10,
      F_way := fun_mk (st := s_way) l10 c10 k10,
      g__law_power := PySem.W.mg_of X G a12,
      F__law_power := fun_mk (st := s__law_power) l12 c12 k12,
      g__law_cell_at := PySem.W.mg_of X G a13,
      F__law_cell_at := fun_mk (st := s__law_cell_at) l13 c13 k13,
      g__law_box := PySem.W.mg_of X G a14,
      F__law_box := fun_mk (st := s__law_box) l14 c14 k14,
      g__law_take := PySem.W.mg_of X G a15,
      F__law_take := fun_mk (st := s__law_take) l15 c15 k15,
      g__law_of := PySem.W.mg_of X G a16,
      F__law_of := fun_mk (st := s__law_of) l16 c16 k16,
      g__law_same := PySem.W.mg_of X G a17,
      F__law_same := fun_mk (st := s__law_same) l17 c17 k17,
      g__law_path := PySem.W.mg_of X G a18,
      F__law_path := fun_mk (st := s__law_path) l18 c18 k18,
      g__law_is_int := PySem.W.mg_of X G a19,
      F__law_is_int := fun_mk (st := s__law_is_int) l19 c19 k19,
      g__law_is_pair := PySem.W.mg_of X G a20,
      F__law_is_pair := fun_mk (st := s__law_is_pair) l20 c20 k20,
      g__law_is_title := PySem.W.mg_of X G a21,
      F__law_is_title := fun_mk (st := s__law_is_title) l21 c21 k21,
      g__law_matters := PySem.W.mg_of X G a22,
      F__law_matters := fun_mk (st := s__law_matters) l22 c22 k22,
      g__law_right := PySem.W.mg_of X G a23,
      F__law_right := fun_mk (st := s__law_right) l23 c23 k23,
      g_law := PySem.W.mg_of X G a24,
      F_law := fun_mk (st := s_law) l24 c24 k24,
      g_LETTERS := PySem.W.mg_of X G a1,
      r_LETTERS := ⟨_, rfl⟩,
      c_LETTERS := fun r H => .str _,
      g_MOST_LETTERS := PySem.W.mg_of X G a2,
      r_MOST_LETTERS := ⟨_, rfl⟩,
      c_MOST_LETTERS := fun r H => .int _,
      g_FANS := PySem.W.mg_of X G a3,
      r_FANS := rfl,
      c_FANS := fun r H => .tup (vs := [.int 2, .int 3, .int 4]) (.inr ⟨ob3, _, nn3, l3, c3, k3, by show 3 ≤ sizeLine; rw [sizeLine_eq]; decide, .cons ⟨_, rfl⟩ (.cons ⟨_, rfl⟩ (.cons ⟨_, rfl⟩ (.nil)))⟩) (.cons (.int 2) (.cons (.int 3) (.cons (.int 4) (.nil)))),
      g_DEPTHS := PySem.W.mg_of X G a4,
      r_DEPTHS := rfl,
      c_DEPTHS := fun r H => .tup (vs := [.int 1, .int 2, .int 3]) (.inr ⟨ob4, _, nn4, l4, c4, k4, by show 3 ≤ sizeLine; rw [sizeLine_eq]; decide, .cons ⟨_, rfl⟩ (.cons ⟨_, rfl⟩ (.cons ⟨_, rfl⟩ (.nil)))⟩) (.cons (.int 1) (.cons (.int 2) (.cons (.int 3) (.nil)))),
      n_abs := PySem.W.mg_none_of X G z_abs,
      n_all := PySem.W.mg_none_of X G z_all,
      n_bool := PySem.W.mg_none_of X G z_bool,
      n_int := PySem.W.mg_none_of X G z_int,
      n_isinstance := PySem.W.mg_none_of X G z_isinstance,
      n_len := PySem.W.mg_none_of X G z_len,
      n_list := PySem.W.mg_none_of X G z_list,
      n_min := PySem.W.mg_none_of X G z_min,
      n_range := PySem.W.mg_none_of X G z_range,
      n_repr := PySem.W.mg_none_of X G z_repr,
      n_str := PySem.W.mg_none_of X G z_str,
      n_tuple := PySem.W.mg_none_of X G z_tuple,
      n_zip := PySem.W.mg_none_of X G z_zip }
  exact ⟨_, fun s u => .of_eq rfl, fun base _ _ => ok_law T⟩
end K00
end L2
open PySem PySem.W PyProof.Rows
set_option maxHeartbeats 0 in
theorem PySem.Challenge.cw_neverfull_k00_shapes_spots_and_ways_holds : PySem.Challenge.rw_neverfull_k00_shapes_spots_and_ways.Holds := by
  w_on; o_law; k_head; (case hw => w_witness2)
  k_fill
  refine L2.DL.end_law (l := PySem.Challenge.rw_neverfull_k00_shapes_spots_and_ways) (n := 63) (k := 7) (x := "_law_script") (fn := L2.K00.f_law) rfl (by decide) rfl ⟨rfl, by decide, by decide⟩ (fun w h Y => PySem.W.kIn_of Y) ?F L2.K00.law_true
  case F =>
    intro w mg fa h KX G hmg
    refine' L2.K00.all_mk KX G hmg ?a5 ?l5 ?c5 ?k5 ?a6 ?l6 ?c6 ?k6 ?a7 ?l7 ?c7 ?k7 ?a8 ?l8 ?c8 ?k8 ?a9 ?l9 ?c9 ?k9 ?a10 ?l10 ?c10 ?k10 ?a12 ?l12 ?c12 ?k12 ?a13 ?l13 ?c13 ?k13 ?a14 ?l14 ?c14 ?k14 ?a15 ?l15 ?c15 ?k15 ?a16 ?l16 ?c16 ?k16 ?a17 ?l17 ?c17 ?k17 ?a18 ?l18 ?c18 ?k18 ?a19 ?l19 ?c19 ?k19 ?a20 ?l20 ?c20 ?k20 ?a21 ?l21 ?c21 ?k21 ?a22 ?l22 ?c22 ?k22 ?a23 ?l23 ?c23 ?k23 ?a24 ?l24 ?c24 ?k24 ?a1 ?a2 ?a3 ?l3 ?c3 ?k3 ?a4 ?l4 ?c4 ?k4 ?z_abs ?z_all ?z_bool ?z_int ?z_isinstance ?z_len ?z_list ?z_min ?z_range ?z_repr ?z_str ?z_tuple ?z_zip
    (case a5 => first | k_is | rfl)
    (case l5 => first | k_is | rfl)
    (case c5 => first | k_is | rfl)
    (case k5 => first | k_is | rfl)
    (case a6 => first | k_is | rfl)
    (case l6 => first | k_is | rfl)
    (case c6 => first | k_is | rfl)
    (case k6 => first | k_is | rfl)
    (case a7 => first | k_is | rfl)
    (case l7 => first | k_is | rfl)
    (case c7 => first | k_is | rfl)
    (case k7 => first | k_is | rfl)
    (case a8 => first | k_is | rfl)
    (case l8 => first | k_is | rfl)
    (case c8 => first | k_is | rfl)
    (case k8 => first | k_is | rfl)
    (case a9 => first | k_is | rfl)
    (case l9 => first | k_is | rfl)
    (case c9 => first | k_is | rfl)
    (case k9 => first | k_is | rfl)
    (case a10 => first | k_is | rfl)
    (case l10 => first | k_is | rfl)
    (case c10 => first | k_is | rfl)
    (case k10 => first | k_is | rfl)
    (case a12 => first | k_is | rfl)
    (case l12 => first | k_is | rfl)
    (case c12 => first | k_is | rfl)
    (case k12 => first | k_is | rfl)
    (case a13 => first | k_is | rfl)
    (case l13 => first | k_is | rfl)
    (case c13 => first | k_is | rfl)
    (case k13 => first | k_is | rfl)
    (case a14 => first | k_is | rfl)
    (case l14 => first | k_is | rfl)
    (case c14 => first | k_is | rfl)
    (case k14 => first | k_is | rfl)
    (case a15 => first | k_is | rfl)
    (case l15 => first | k_is | rfl)
    (case c15 => first | k_is | rfl)
    (case k15 => first | k_is | rfl)
    (case a16 => first | k_is | rfl)
    (case l16 => first | k_is | rfl)
    (case c16 => first | k_is | rfl)
    (case k16 => first | k_is | rfl)
    (case a17 => first | k_is | rfl)
    (case l17 => first | k_is | rfl)
    (case c17 => first | k_is | rfl)
    (case k17 => first | k_is | rfl)
    (case a18 => first | k_is | rfl)
    (case l18 => first | k_is | rfl)
    (case c18 => first | k_is | rfl)
    (case k18 => first | k_is | rfl)
    (case a19 => first | k_is | rfl)
    (case l19 => first | k_is | rfl)
    (case c19 => first | k_is | rfl)
    (case k19 => first | k_is | rfl)
    (case a20 => first | k_is | rfl)
    (case l20 => first | k_is | rfl)
    (case c20 => first | k_is | rfl)
    (case k20 => first | k_is | rfl)
    (case a21 => first | k_is | rfl)
    (case l21 => first | k_is | rfl)
    (case c21 => first | k_is | rfl)
    (case k21 => first | k_is | rfl)
    (case a22 => first | k_is | rfl)
    (case l22 => first | k_is | rfl)
    (case c22 => first | k_is | rfl)
    (case k22 => first | k_is | rfl)
    (case a23 => first | k_is | rfl)
    (case l23 => first | k_is | rfl)
    (case c23 => first | k_is | rfl)
    (case k23 => first | k_is | rfl)
    (case a24 => first | k_is | rfl)
    (case l24 => first | k_is | rfl)
    (case c24 => first | k_is | rfl)
    (case k24 => first | k_is | rfl)
    (case a1 => first | k_is | rfl)
    (case a2 => first | k_is | rfl)
    (case a3 => first | k_is | rfl)
    (case l3 => first | k_is | rfl)
    (case c3 => first | k_is | rfl)
    (case k3 => first | k_is | rfl)
    (case a4 => first | k_is | rfl)
    (case l4 => first | k_is | rfl)
    (case c4 => first | k_is | rfl)
    (case k4 => first | k_is | rfl)
    (case z_abs => first | k_is | rfl)
    (case z_all => first | k_is | rfl)
    (case z_bool => first | k_is | rfl)
    (case z_int => first | k_is | rfl)
    (case z_isinstance => first | k_is | rfl)
    (case z_len => first | k_is | rfl)
    (case z_list => first | k_is | rfl)
    (case z_min => first | k_is | rfl)
    (case z_range => first | k_is | rfl)
    (case z_repr => first | k_is | rfl)
    (case z_str => first | k_is | rfl)
    (case z_tuple => first | k_is | rfl)
    (case z_zip => first | k_is | rfl)
