import PyProof.Rows.All
import Wide.All
import OpenK.AllK
import Wide.FinOn
import HandS.ForMost
import HandS.ExcInit
import HandS.Defaults
import HandS.IsInst
import HandS.Zip
import HandS.NoneIn
import KE.KExcSuper
import KE.KExcInit
import KE.KExcIs
import HandS.Nested
import HandS.ExcIs
import HandS.ExcField
import PySem.Challenge.RW_neverfull_k01_errors
set_option Elab.async false
set_option linter.all false
set_option maxRecDepth 100000
/-! DLa: deep values over the hand layer. A value of Python is a tree DV; what is changed in place stands in a world W (cells by number), everything else is a plain tree. -/
namespace L2
namespace DL
open PySem PySem.Spec PyProof.Rows

inductive DV where
  | non | bl (b : Bool) | int (i : Int) | str (s : Str) | tup (xs : List DV) | lst (xs : List DV) | loc (i : Nat) | cst (v : V) | scr (ns : List Int) | gl (nm : Str) | exc (nm : Str) (fs : List Str) (xs : List DV)

/-- where the cells stand (none: a cell that is no more), and objects that no datum speaks of -/
structure Rh where
  rho : List (Option Addr)
  hid : List Addr
def Rh.out (r : Rh) (a : Addr) : Prop := some a ∉ r.rho ∧ a ∉ r.hid

/-- a tuple -/
def TQ (K : PySem.W.Frag) (r : Rh) (H : Hp) (a : Addr) (vs : List V) : Prop :=
  (r.out a ∧ H a = some (.tup vs)) ∨ ∃ (o : Obj) (its : Array Value) (n : Nat), K.lookup a = some o ∧ o.cls = .type "tuple" ∧ o.data = .seq its n ∧ its.size ≤ sizeLine ∧ Vals vs its.toList
theorem TQ.sq {K : PySem.W.Frag} {r : Rh} {H : Hp} {a : Addr} {vs : List V} (h : TQ K r H a vs) : SqT K H a vs := by
  rcases h with h | h
  · exact .of h.2
  · exact .inr h
/-- the script: never changed -/
def SQ (K : PySem.W.Frag) (r : Rh) (H : Hp) (a : Addr) (vs : List V) : Prop :=
  (r.out a ∧ Rd H a (.lst vs)) ∨ ∃ (o : Obj) (its : Array Value) (n : Nat), K.lookup a = some o ∧ o.cls = .type "list" ∧ o.dict = none ∧ o.data = .seq its n ∧ its.size ≤ sizeLine ∧ Vals vs its.toList
theorem SQ.sq {K : PySem.W.Frag} {r : Rh} {H : Hp} {a : Addr} {vs : List V} (h : SQ K r H a vs) : SqL K H a vs := by
  rcases h with h | h
  · exact .inl h.2
  · exact .inr h

/-- at a: an exception of the class at C, its dict (none | at d); what it says, where it came from is not told -/
def exv (a C : Addr) (d : Option Addr) : HO := .ext fun h => ∃ (o : Obj) (vs : Array Value), h.get? a = some o ∧ o.cls = .ref C ∧ o.dict = d ∧ o.data = .fields vs
mutual
inductive Rv (K : PySem.W.Frag) (r : Rh) (H : Hp) : DV → V → Prop
  | non : Rv K r H .non .non
  | bl (b : Bool) : Rv K r H (.bl b) (.bl b)
  | int (i : Int) : Rv K r H (.int i) (.int i)
  | str (s : Str) : Rv K r H (.str s) (.str s)
  | cst (v : V) : Rv K r H (.cst v) v
  | loc {i : Nat} {a : Addr} : r.rho[i]? = some (some a) → Rv K r H (.loc i) (.ref a)
  | scr {ns : List Int} {a : Addr} : SQ K r H a (ns.map V.int) → Rv K r H (.scr ns) (.ref a)
  | tup {a : Addr} {vs : List V} {xs : List DV} : TQ K r H a vs → Rvs K r H xs vs → Rv K r H (.tup xs) (.ref a)
  | lst {a : Addr} {vs : List V} {xs : List DV} : r.out a → H a = some (.lst vs) → Rvs K r H xs vs → Rv K r H (.lst xs) (.ref a)
  | gl {nm : Str} {C : Addr} : PySem.W.nsIn K mainGlobals nm = some (some (.ref C)) → Rv K r H (.gl nm) (.ref C)
  | exc0 {nm : Str} {a C : Addr} : PySem.W.nsIn K mainGlobals nm = some (some (.ref C)) → r.out a → H a = some (exv a C none) → Rv K r H (.exc nm [] []) (.ref a)
  | excD {nm : Str} {a C d : Addr} {fs : List Str} {vs : List V} {xs : List DV} : PySem.W.nsIn K mainGlobals nm = some (some (.ref C)) → r.out a → H a = some (exv a C (some d)) → r.out d → H d = some (exd d (fs.zip vs)) → fs.length = vs.length → Rvs K r H xs vs → Rv K r H (.exc nm fs xs) (.ref a)
inductive Rvs (K : PySem.W.Frag) (r : Rh) (H : Hp) : List DV → List V → Prop
  | nil : Rvs K r H [] []
  | cons {x : DV} {v : V} {xs : List DV} {vs : List V} : Rv K r H x v → Rvs K r H xs vs → Rvs K r H (x :: xs) (v :: vs)
end

/-- from one moment to a later one: the cells that are there keep their places, new ones are new, all else that was there stays -/
structure Ext (r : Rh) (H : Hp) (r' : Rh) (H' : Hp) : Prop where
  hid : r'.hid = r.hid
  get : ∀ (i : Nat) (a : Addr), r.rho[i]? = some (some a) → r'.rho[i]? = some (some a)
  len : r.rho.length ≤ r'.rho.length
  new : ∀ a, some a ∈ r'.rho → some a ∉ r.rho → H a = none
  keep : ∀ a o, some a ∉ r.rho → H a = some o → H' a = some o
theorem Ext.refl (r : Rh) (H : Hp) : Ext r H r H := ⟨rfl, fun _ _ h => h, Nat.le_refl _, fun a h n => absurd h n, fun a o _ h => h⟩
theorem Ext.notin {r r' : Rh} {H H' : Hp} (e : Ext r H r' H') {a : Addr} {o : HO} (h : H a = some o) (n : some a ∉ r.rho) : some a ∉ r'.rho := fun m => by
  have z := e.new a m n
  rw [h] at z; cases z
theorem Ext.out {r r' : Rh} {H H' : Hp} (e : Ext r H r' H') {a : Addr} {o : HO} (h : H a = some o) (n : r.out a) : r'.out a := ⟨e.notin h n.1, by rw [e.hid]; exact n.2⟩
theorem Ext.trans {r0 r1 r2 : Rh} {H0 H1 H2 : Hp} (a : Ext r0 H0 r1 H1) (b : Ext r1 H1 r2 H2) : Ext r0 H0 r2 H2 where
  hid := b.hid.trans a.hid
  get := fun i c h => b.get i c (a.get i c h)
  len := Nat.le_trans a.len b.len
  new := fun c h n => by
    by_cases m : some c ∈ r1.rho
    · exact a.new c m n
    · cases q : H0 c with
      | none => rfl
      | some o =>
        have z := b.new c h m
        rw [a.keep c o n q] at z; cases z
  keep := fun c o n h => b.keep c o (a.notin h n) (a.keep c o n h)
/-- nothing but a new object outside the cells -/
theorem Ext.laid {r : Rh} {H : Hp} {p : Addr} {o : HO} (hp : H p = none) : Ext r H r (upd H p o) :=
  ⟨rfl, fun _ _ h => h, Nat.le_refl _, fun a h n => absurd h n, fun a u _ h => by rw [upd_ne (ne_of_none h hp)]; exact h⟩
theorem Ext.of_same {r : Rh} {H H' : Hp} (h : Same H H') : Ext r H r H' := ⟨rfl, fun _ _ h => h, Nat.le_refl _, fun a h n => absurd h n, fun a o _ q => h a o q⟩

/-- the same where more may be hidden -/
structure Exw (r : Rh) (H : Hp) (r' : Rh) (H' : Hp) : Prop where
  get : ∀ (i : Nat) (a : Addr), r.rho[i]? = some (some a) → r'.rho[i]? = some (some a)
  new : ∀ a, some a ∈ r'.rho → some a ∉ r.rho → H a = none
  newh : ∀ a, a ∈ r'.hid → a ∉ r.hid → H a = none
  keep : ∀ a o, some a ∉ r.rho → H a = some o → H' a = some o
theorem Ext.w {r r' : Rh} {H H' : Hp} (e : Ext r H r' H') : Exw r H r' H' := ⟨e.get, e.new, fun a m n => absurd (by rw [← e.hid]; exact m) n, e.keep⟩
theorem Exw.notin {r r' : Rh} {H H' : Hp} (e : Exw r H r' H') {a : Addr} {o : HO} (h : H a = some o) (n : some a ∉ r.rho) : some a ∉ r'.rho := fun m => by
  have z := e.new a m n
  rw [h] at z; cases z
theorem Exw.out {r r' : Rh} {H H' : Hp} (e : Exw r H r' H') {a : Addr} {o : HO} (h : H a = some o) (n : r.out a) : r'.out a := ⟨e.notin h n.1, fun m => by
  have z := e.newh a m n.2
  rw [h] at z; cases z⟩
theorem Exw.trans {r0 r1 r2 : Rh} {H0 H1 H2 : Hp} (a : Exw r0 H0 r1 H1) (b : Exw r1 H1 r2 H2) (dj : ∀ c, c ∈ r2.hid → c ∉ r1.hid → c ∉ r0.hid → some c ∉ r0.rho) : Exw r0 H0 r2 H2 where
  get := fun i c h => b.get i c (a.get i c h)
  new := fun c h n => by
    by_cases m : some c ∈ r1.rho
    · exact a.new c m n
    · cases q : H0 c with
      | none => rfl
      | some o =>
        have z := b.new c h m
        rw [a.keep c o n q] at z; cases z
  newh := fun c h n => by
    by_cases m : c ∈ r1.hid
    · exact a.newh c m n
    · cases q : H0 c with
      | none => rfl
      | some o =>
        have z := b.newh c h m
        rw [a.keep c o (dj c h m n) q] at z; cases z
  keep := fun c o n h => b.keep c o (a.notin h n) (a.keep c o n h)

section
variable {K : PySem.W.Frag} {r r' : Rh} {H H' : Hp}
theorem Rd.extw {a : Addr} {u : HO} (e : Exw r H r' H') (n : r.out a) (h : Rd H a u) : r'.out a ∧ Rd H' a u := by
  rcases h with h | ⟨o, h⟩
  · exact ⟨e.out h n, .inl (e.keep _ _ n.1 h)⟩
  · exact ⟨e.out h n, .inr ⟨o, e.keep _ _ n.1 h⟩⟩
theorem TQ.extw {a : Addr} {vs : List V} (e : Exw r H r' H') (h : TQ K r H a vs) : TQ K r' H' a vs := by
  rcases h with ⟨n, h⟩ | h
  · exact .inl ⟨e.out h n, e.keep _ _ n.1 h⟩
  · exact .inr h
theorem SQ.extw {a : Addr} {vs : List V} (e : Exw r H r' H') (h : SQ K r H a vs) : SQ K r' H' a vs := by
  rcases h with ⟨n, h⟩ | h
  · exact .inl (Rd.extw e n h)
  · exact .inr h
mutual
theorem Rv.extw (e : Exw r H r' H') : ∀ {x : DV} {v : V}, Rv K r H x v → Rv K r' H' x v
  | _, _, .non => .non
  | _, _, .bl b => .bl b
  | _, _, .int i => .int i
  | _, _, .str s => .str s
  | _, _, .cst v => .cst v
  | _, _, .loc h => .loc (e.get _ _ h)
  | _, _, .scr h => .scr (h.extw e)
  | _, _, .tup h q => .tup (h.extw e) (Rvs.extw e q)
  | _, _, .lst n h q => .lst (e.out h n) (e.keep _ _ n.1 h) (Rvs.extw e q)
  | _, _, .gl c => .gl c
  | _, _, .exc0 c n h => .exc0 c (e.out h n) (e.keep _ _ n.1 h)
  | _, _, .excD c n h m g l q => .excD c (e.out h n) (e.keep _ _ n.1 h) (e.out g m) (e.keep _ _ m.1 g) l (Rvs.extw e q)
theorem Rvs.extw (e : Exw r H r' H') : ∀ {xs : List DV} {vs : List V}, Rvs K r H xs vs → Rvs K r' H' xs vs
  | _, _, .nil => .nil
  | _, _, .cons h q => .cons (Rv.extw e h) (Rvs.extw e q)
end
theorem Rd.ext {a : Addr} {u : HO} (e : Ext r H r' H') (n : r.out a) (h : Rd H a u) : r'.out a ∧ Rd H' a u := by
  rcases h with h | ⟨o, h⟩
  · exact ⟨e.out h n, .inl (e.keep _ _ n.1 h)⟩
  · exact ⟨e.out h n, .inr ⟨o, e.keep _ _ n.1 h⟩⟩
theorem TQ.ext {a : Addr} {vs : List V} (e : Ext r H r' H') (h : TQ K r H a vs) : TQ K r' H' a vs := by
  rcases h with ⟨n, h⟩ | h
  · exact .inl ⟨e.out h n, e.keep _ _ n.1 h⟩
  · exact .inr h
theorem SQ.ext {a : Addr} {vs : List V} (e : Ext r H r' H') (h : SQ K r H a vs) : SQ K r' H' a vs := by
  rcases h with ⟨n, h⟩ | h
  · exact .inl (Rd.ext e n h)
  · exact .inr h
mutual
theorem Rv.ext (e : Ext r H r' H') : ∀ {x : DV} {v : V}, Rv K r H x v → Rv K r' H' x v
  | _, _, .non => .non
  | _, _, .bl b => .bl b
  | _, _, .int i => .int i
  | _, _, .str s => .str s
  | _, _, .cst v => .cst v
  | _, _, .loc h => .loc (e.get _ _ h)
  | _, _, .scr h => .scr (h.ext e)
  | _, _, .tup h q => .tup (h.ext e) (Rvs.ext e q)
  | _, _, .lst n h q => .lst (e.out h n) (e.keep _ _ n.1 h) (Rvs.ext e q)
  | _, _, .gl c => .gl c
  | _, _, .exc0 c n h => .exc0 c (e.out h n) (e.keep _ _ n.1 h)
  | _, _, .excD c n h m g l q => .excD c (e.out h n) (e.keep _ _ n.1 h) (e.out g m) (e.keep _ _ m.1 g) l (Rvs.ext e q)
theorem Rvs.ext (e : Ext r H r' H') : ∀ {xs : List DV} {vs : List V}, Rvs K r H xs vs → Rvs K r' H' xs vs
  | _, _, .nil => .nil
  | _, _, .cons h q => .cons (Rv.ext e h) (Rvs.ext e q)
end
theorem Rvs.length : ∀ {xs : List DV} {vs : List V}, Rvs K r H xs vs → xs.length = vs.length
  | _, _, .nil => rfl
  | _, _, .cons _ q => by rw [List.length_cons, List.length_cons, Rvs.length q]
theorem Rvs.get : ∀ {xs : List DV} {vs : List V} {i : Nat} {x : DV}, Rvs K r H xs vs → xs[i]? = some x → ∃ v, vs[i]? = some v ∧ Rv K r H x v
  | _, _, _, _, .nil, e => by simp at e
  | _, _, 0, _, .cons q _, e => by simp at e; subst e; exact ⟨_, rfl, q⟩
  | _, _, i + 1, x, .cons _ t, e => by
    obtain ⟨v, h1, h2⟩ := Rvs.get (i := i) (x := x) t (by simpa using e)
    exact ⟨v, by simpa using h1, h2⟩
theorem Rvs.append : ∀ {xs ys : List DV} {vs us : List V}, Rvs K r H xs vs → Rvs K r H ys us → Rvs K r H (xs ++ ys) (vs ++ us)
  | _, _, _, _, .nil, s => s
  | _, _, _, _, .cons q t, s => .cons q (Rvs.append t s)
theorem Rvs.take : ∀ {xs : List DV} {vs : List V} (n : Nat), Rvs K r H xs vs → Rvs K r H (xs.take n) (vs.take n)
  | _, _, 0, _ => .nil
  | _, _, _ + 1, .nil => .nil
  | _, _, n + 1, .cons q t => .cons q (Rvs.take n t)
theorem Rvs.drop : ∀ {xs : List DV} {vs : List V} (n : Nat), Rvs K r H xs vs → Rvs K r H (xs.drop n) (vs.drop n)
  | _, _, 0, q => q
  | _, _, _ + 1, .nil => .nil
  | _, _, n + 1, .cons _ t => Rvs.drop n t
theorem Rvs.set {x : DV} {v : V} (q : Rv K r H x v) : ∀ {xs : List DV} {vs : List V} (n : Nat), Rvs K r H xs vs → Rvs K r H (xs.set n x) (vs.set n v)
  | _, _, _, .nil => .nil
  | _, _, 0, .cons _ t => .cons q t
  | _, _, n + 1, .cons z t => .cons z (Rvs.set q n t)
theorem Rvs.getD {xs : List DV} {vs : List V} (h : Rvs K r H xs vs) {i : Nat} {v : V} (e : vs[i]? = some v) : ∃ x, xs[i]? = some x ∧ Rv K r H x v := by
  obtain ⟨l, _⟩ := List.getElem?_eq_some_iff.mp e
  have l' : i < xs.length := by rw [h.length]; exact l
  obtain ⟨v', e', q⟩ := h.get (List.getElem?_eq_getElem l')
  rw [e] at e'; cases e'
  exact ⟨_, List.getElem?_eq_getElem l', q⟩
end

/-! ### the world -/
inductive Cell where
  | dead
  | lst (xs : List DV)
abbrev Wd := List Cell
def CellOk (K : PySem.W.Frag) (r : Rh) (H : Hp) (a : Addr) : Cell → Prop
  | .dead => False
  | .lst xs => ∃ vs, H a = some (.lst vs) ∧ Rvs K r H xs vs
structure Hw (K : PySem.W.Frag) (r : Rh) (H : Hp) (W : Wd) : Prop where
  len : r.rho.length = W.length
  nd : ∀ (i j : Nat) (a : Addr), r.rho[i]? = some (some a) → r.rho[j]? = some (some a) → i = j
  ok : ∀ (i : Nat) (a : Addr) (c : Cell), r.rho[i]? = some (some a) → W[i]? = some c → CellOk K r H a c
  live : ∀ (i : Nat) (c : Cell), W[i]? = some c → c ≠ .dead → ∃ a, r.rho[i]? = some (some a)
  hd : ∀ a ∈ r.hid, ∃ o, H a = some o
  sep : ∀ a, some a ∈ r.rho → a ∉ r.hid
section
variable {K : PySem.W.Frag} {r r' : Rh} {H H' : Hp} {W : Wd}
theorem CellOk.there {a : Addr} {c : Cell} (h : CellOk K r H a c) : ∃ o, H a = some o := by
  cases c with
  | dead => exact h.elim
  | lst xs => obtain ⟨vs, e, _⟩ := h; exact ⟨_, e⟩
theorem mem_of {α : Type} {l : List α} {i : Nat} {a : α} (h : l[i]? = some a) : a ∈ l := by
  obtain ⟨k, q⟩ := List.getElem?_eq_some_iff.mp h
  exact q ▸ List.getElem_mem k
theorem Hw.there (h : Hw K r H W) {a : Addr} (m : some a ∈ r.rho) : ∃ o, H a = some o := by
  obtain ⟨i, l, e⟩ := List.mem_iff_getElem.mp m
  have l' : i < W.length := by rw [← h.len]; exact l
  exact (h.ok i a W[i] (by rw [List.getElem?_eq_getElem l, e]) (List.getElem?_eq_getElem l')).there
theorem Hw.notin (h : Hw K r H W) {p : Addr} (hp : H p = none) : some p ∉ r.rho := fun m => by
  obtain ⟨o, e⟩ := h.there m
  rw [hp] at e; cases e
theorem Hw.fresh (h : Hw K r H W) {p : Addr} (hp : H p = none) : r.out p := ⟨h.notin hp, fun m => by
  obtain ⟨o, e⟩ := h.hd p m
  rw [hp] at e; cases e⟩
theorem CellOk.move {a : Addr} {c : Cell} (h : CellOk K r H a c) (e : Ext r H r' H') (k : H' a = H a) : CellOk K r' H' a c := by
  cases c with
  | dead => exact h
  | lst xs => obtain ⟨vs, q, z⟩ := h; exact ⟨vs, k.trans q, z.ext e⟩
/-- nothing is changed, new objects come outside the cells -/
theorem Hw.same (h : Hw K r H W) (s : Same H H') : Hw K r H' W where
  len := h.len
  nd := h.nd
  live := h.live
  sep := h.sep
  hd := fun a m => by
    obtain ⟨o, q⟩ := h.hd a m
    exact ⟨o, s a o q⟩
  ok := fun i a c e1 e2 => (h.ok i a c e1 e2).move (Ext.of_same s) (by
    obtain ⟨o, q⟩ := (h.ok i a c e1 e2).there
    rw [s a o q, q])
theorem same_laid {p : Addr} {o : HO} (hp : H p = none) : Same H (upd H p o) := fun b u q => by rw [upd_ne (ne_of_none q hp)]; exact q
theorem Hw.laid (h : Hw K r H W) {p : Addr} {o : HO} (hp : H p = none) : Hw K r (upd H p o) W := h.same (same_laid hp)
/-- a new cell -/
theorem Hw.cell (h : Hw K r H W) {p : Addr} {o : HO} {c : Cell} (hp : H p = none) (nc : c ≠ .dead) (hc : CellOk K ⟨r.rho ++ [some p], r.hid⟩ (upd H p o) p c) :
    Ext r H ⟨r.rho ++ [some p], r.hid⟩ (upd H p o) ∧ Hw K ⟨r.rho ++ [some p], r.hid⟩ (upd H p o) (W ++ [c]) := by
  have np := h.notin hp
  have get : ∀ (i : Nat) (a : Addr), r.rho[i]? = some (some a) → (r.rho ++ [some p])[i]? = some (some a) := fun i a q => by
    obtain ⟨l, _⟩ := List.getElem?_eq_some_iff.mp q
    rw [List.getElem?_append_left l]; exact q
  have e : Ext r H ⟨r.rho ++ [some p], r.hid⟩ (upd H p o) := ⟨rfl, get, by simp, fun a m n => by
      rcases List.mem_append.mp m with m | m
      · exact absurd m n
      · have z := List.mem_singleton.mp m
        cases z; exact hp, fun a u _ q => by rw [upd_ne (ne_of_none q hp)]; exact q⟩
  have last : ∀ (i : Nat) (x : Option Addr), ¬ i < r.rho.length → (r.rho ++ [some p])[i]? = some x → i = r.rho.length ∧ x = some p := fun i x hi q => by
    obtain ⟨l, _⟩ := List.getElem?_eq_some_iff.mp q
    have i0 : i = r.rho.length := by rw [List.length_append] at l; simp at l; omega
    subst i0
    rw [List.getElem?_append_right (Nat.le_refl _)] at q
    simp at q
    exact ⟨rfl, q.symm⟩
  refine ⟨e, ?_, ?_, ?_, ?_, ?_, ?_⟩
  · show (r.rho ++ [some p]).length = _
    rw [List.length_append, List.length_append, h.len]; rfl
  · intro i j a e1 e2
    by_cases hi : i < r.rho.length
    · have e1' : r.rho[i]? = some (some a) := by rw [← List.getElem?_append_left hi (l₂ := [some p])]; exact e1
      by_cases hj : j < r.rho.length
      · have e2' : r.rho[j]? = some (some a) := by rw [← List.getElem?_append_left hj (l₂ := [some p])]; exact e2
        exact h.nd i j a e1' e2'
      · obtain ⟨_, z⟩ := last j _ hj e2
        cases z
        exact absurd (mem_of e1') np
    · obtain ⟨i0, z⟩ := last i _ hi e1
      cases z
      by_cases hj : j < r.rho.length
      · have e2' : r.rho[j]? = some (some p) := by rw [← List.getElem?_append_left hj (l₂ := [some p])]; exact e2
        exact absurd (mem_of e2') np
      · obtain ⟨j0, _⟩ := last j _ hj e2
        rw [i0, j0]
  · intro i a d e1 e2
    by_cases hi : i < r.rho.length
    · have e1' : r.rho[i]? = some (some a) := by rw [← List.getElem?_append_left hi (l₂ := [some p])]; exact e1
      rw [List.getElem?_append_left (by rw [← h.len]; exact hi)] at e2
      refine (h.ok i a d e1' e2).move e ?_
      obtain ⟨o', q⟩ := (h.ok i a d e1' e2).there
      rw [upd_ne (ne_of_none q hp)]
    · obtain ⟨i0, z⟩ := last i _ hi e1
      cases z
      subst i0
      rw [h.len, List.getElem?_append_right (Nat.le_refl _)] at e2
      simp at e2
      subst e2
      exact hc
  · intro i d e2 nd
    by_cases hi : i < W.length
    · rw [List.getElem?_append_left hi] at e2
      obtain ⟨a, q⟩ := h.live i d e2 nd
      exact ⟨a, get i a q⟩
    · obtain ⟨l, _⟩ := List.getElem?_eq_some_iff.mp e2
      have i0 : i = W.length := by rw [List.length_append] at l; simp at l; omega
      subst i0
      exact ⟨p, by show (r.rho ++ [some p])[W.length]? = _; rw [← h.len, List.getElem?_append_right (Nat.le_refl _)]; simp⟩
  · intro a m
    obtain ⟨u, q⟩ := h.hd a m
    exact ⟨u, by rw [upd_ne (ne_of_none q hp)]; exact q⟩
  · intro a m
    rcases List.mem_append.mp m with m | m
    · exact h.sep a m
    · have z := List.mem_singleton.mp m
      cases z
      exact (h.fresh hp).2
/-- a cell is changed -/
theorem Hw.put (h : Hw K r H W) {i : Nat} {a : Addr} {o : HO} {c : Cell} (hi : r.rho[i]? = some (some a)) (hc : CellOk K r (upd H a o) a c) : Ext r H r (upd H a o) ∧ Hw K r (upd H a o) (W.set i c) := by
  have m : some a ∈ r.rho := mem_of hi
  have e : Ext r H r (upd H a o) := ⟨rfl, fun _ _ q => q, Nat.le_refl _, fun b mb n => absurd mb n, fun b u n q => by rw [upd_ne (fun z => n (by rw [z]; exact m))]; exact q⟩
  have hh : a ∉ r.hid := h.sep a m
  refine ⟨e, ?_, h.nd, ?_, ?_, ?_, h.sep⟩
  · rw [List.length_set]; exact h.len
  · intro j b d e1 e2
    by_cases hj : j = i
    · subst hj
      rw [hi] at e1; cases e1
      rw [List.getElem?_set] at e2
      split at e2
      · split at e2
        · cases e2; exact hc
        · cases e2
      · rename_i z; exact absurd rfl z
    · rw [List.getElem?_set_ne (Ne.symm hj)] at e2
      refine (h.ok j b d e1 e2).move e ?_
      have nb : b ≠ a := fun z => by
        subst z
        exact hj (h.nd j i b e1 hi)
      rw [upd_ne nb]
  · intro j d e2 nd
    by_cases hj : j = i
    · subst hj; exact ⟨a, hi⟩
    · rw [List.getElem?_set_ne (Ne.symm hj)] at e2
      exact h.live j d e2 nd
  · intro b mb
    obtain ⟨u, q⟩ := h.hd b mb
    exact ⟨u, by rw [upd_ne (fun z => hh (by rw [← z]; exact mb))]; exact q⟩
end

/-! ### slots -/
abbrev DEnv := List (Option DV)
def RelE (K : PySem.W.Frag) (r : Rh) (H : Hp) (env : DEnv) (sg : St) : Prop := env.length = sg.length ∧ ∀ (i : Nat) (x : DV), env[i]? = some (some x) → ∃ v, sg[i]? = some (some v) ∧ Rv K r H x v
section
variable {K : PySem.W.Frag} {r r' : Rh} {H H' : Hp} {W : Wd} {env : DEnv} {sg : St}
theorem RelE.ext (e : Ext r H r' H') (h : RelE K r H env sg) : RelE K r' H' env sg := ⟨h.1, fun i x q => by
  obtain ⟨v, a, z⟩ := h.2 i x q
  exact ⟨v, a, z.ext e⟩⟩
theorem RelE.set (h : RelE K r H env sg) {i : Nat} {x : DV} {v : V} (z : Rv K r H x v) : RelE K r H (env.set i (some x)) (sg.set i (some v)) := ⟨by rw [List.length_set, List.length_set]; exact h.1, fun j y q => by
  by_cases hj : j = i
  · subst hj
    rw [List.getElem?_set] at q
    split at q
    · split at q
      · rename_i l
        have q' := Option.some.inj (Option.some.inj q)
        subst q'
        refine ⟨v, ?_, z⟩
        rw [List.getElem?_set, if_pos rfl, if_pos (by rw [← h.1]; exact l)]
      · cases q
    · rename_i z; exact absurd rfl z
  · rw [List.getElem?_set_ne (Ne.symm hj)] at q
    obtain ⟨u, a, ru⟩ := h.2 j y q
    exact ⟨u, by rw [List.getElem?_set_ne (Ne.symm hj)]; exact a, ru⟩⟩
end
end DL
end L2

set_option maxRecDepth 100000
/-! DLb: the judgements and the general rules. -/
namespace L2
namespace DL
open PySem PySem.Spec PyProof.Rows

abbrev M (α : Type) := Wd → Option (α × Wd)
def mb {α β : Type} (m : M α) (k : α → M β) : M β := fun W => match m W with
  | some (a, W') => k a W'
  | none => none
def mr {α : Type} (a : α) : M α := fun W => some (a, W)
def mo {α : Type} (o : Option α) : M α := fun W => match o with
  | some a => some (a, W)
  | none => none
abbrev ES := DEnv → M DV
abbrev EB := DEnv → M Bool
abbrev EA := DEnv → M (List DV)
theorem mb_inv {α β : Type} {m : M α} {k : α → M β} {W : Wd} {b : β} {W' : Wd} (h : mb m k W = some (b, W')) : ∃ a W1, m W = some (a, W1) ∧ k a W1 = some (b, W') := by
  unfold mb at h
  split at h
  · rename_i a W1 e; exact ⟨a, W1, e, h⟩
  · cases h
theorem mo_inv {α : Type} {o : Option α} {W : Wd} {b : α} {W' : Wd} (h : mo o W = some (b, W')) : o = some b ∧ W' = W := by
  unfold mo at h
  split at h
  · cases h; exact ⟨rfl, rfl⟩
  · cases h
theorem mr_inv {α : Type} {a : α} {W : Wd} {b : α} {W' : Wd} (h : mr a W = some (b, W')) : b = a ∧ W' = W := by
  cases h; exact ⟨rfl, rfl⟩

/-- what an expression does, as a reading of the hand layer -/
def tX (K : PySem.W.Frag) (F : ES) : TE := fun sg H Q => ∃ r env W, RelE K r H env sg ∧ Hw K r H W ∧ ∃ x W', F env W = some (x, W') ∧
  ∀ r' H' v, Ext r H r' H' → Hw K r' H' W' → Rv K r' H' x v → Q v H'
def tXB (K : PySem.W.Frag) (F : EB) : TT := fun sg H Q => ∃ r env W, RelE K r H env sg ∧ Hw K r H W ∧ ∃ x W', F env W = some (x, W') ∧
  ∀ r' H', Ext r H r' H' → Hw K r' H' W' → Q x H'
def tXA (K : PySem.W.Frag) (F : EA) : TA := fun sg H Q => ∃ r env W, RelE K r H env sg ∧ Hw K r H W ∧ ∃ xs W', F env W = some (xs, W') ∧
  ∀ r' H' vs, Ext r H r' H' → Hw K r' H' W' → Rvs K r' H' xs vs → Q vs H'
abbrev DE (X : Cx) (e : Expr) (F : ES) : Prop := PE X e (tX X.K F)
abbrev DT (X : Cx) (e : Expr) (F : EB) : Prop := PT X e (tXB X.K F)
abbrev DW (X : Cx) (e : Expr) (F : EB) : Prop := PW X e (tXB X.K F)
abbrev DA (X : Cx) (es : List Expr) (F : EA) : Prop := PA X es (tXA X.K F)
theorem pe_imp {X : Cx} {e : Expr} {t t' : TE} (h : PE X e t) (i : ∀ sg H Q, t' sg H Q → t sg H Q) : PE X e t' := ⟨fun pins s sg H Q I w => h.run pins s sg H Q I (i sg H Q w)⟩
theorem pt_imp {X : Cx} {e : Expr} {t t' : TT} (h : PT X e t) (i : ∀ sg H Q, t' sg H Q → t sg H Q) : PT X e t' := ⟨fun pins s sg H Q I w => h.run pins s sg H Q I (i sg H Q w)⟩
theorem pw_imp {X : Cx} {e : Expr} {t t' : TT} (h : PW X e t) (i : ∀ sg H Q, t' sg H Q → t sg H Q) : PW X e t' := ⟨fun wh pins s sg H Q I w => h.run wh pins s sg H Q I (i sg H Q w)⟩
theorem pa_imp {X : Cx} {e : List Expr} {t t' : TA} (h : PA X e t) (i : ∀ sg H Q, t' sg H Q → t sg H Q) : PA X e t' := ⟨fun pos pins s sg H Q I w => h.run pos pins s sg H Q I (i sg H Q w)⟩
theorem ps_imp {X : Cx} {e : Stmt} {t t' : TS} (h : PS X e t) (i : ∀ D sg H, t' D sg H → t D sg H) : PS X e t' := ⟨fun pins s sg H D I w => h.run pins s sg H D I (i D sg H w)⟩
theorem pss_imp {X : Cx} {e : List Stmt} {t t' : TS} (h : PSs X e t) (i : ∀ D sg H, t' D sg H → t D sg H) : PSs X e t' := ⟨fun pins s sg H D I w => h.run pins s sg H D I (i D sg H w)⟩

section
variable {X : Cx}

/-! ### names and constants -/
def eV (i : Nat) : ES := fun env => mo (env[i]?.join)
theorem of_var {K : PySem.W.Frag} {i : Nat} : ∀ sg H Q, tX K (eV i) sg H Q → tVar i sg H Q := by
  rintro sg H Q ⟨r, env, W, he, hw, x, W', e, q⟩
  obtain ⟨e1, rfl⟩ := mo_inv e
  have e2 : env[i]? = some (some x) := by
    cases h : env[i]? with
    | none => rw [h] at e1; cases e1
    | some o => rw [h] at e1; exact congrArg some e1
  obtain ⟨v, h1, h2⟩ := he.2 i x e2
  exact ⟨v, h1, q r H v (Ext.refl r H) hw h2⟩
theorem dv (i : Nat) {x : Str} {pos : Pos} (hN : X.N[i]? = some x := by rfl) (hv : Vis X.env.scope x := by first | exact Or.inl rfl | exact Or.inr (Or.inl rfl) | exact Or.inr (Or.inr rfl)) (hd : (x == ("__debug__" : Str)) = false := by decide)
    (hcd : (x == ("__classdict__" : Str)) = false := by decide) : DE X (.Name x pos) (eV i) := pe_imp (pv i hN hv hd hcd) of_var
/-- a constant -/
def eC (d : DV) : ES := fun _ => mr d
theorem of_con {K : PySem.W.Frag} {d : DV} {v : V} (c : ∀ r H, Rv K r H d v) : ∀ sg H Q, tX K (eC d) sg H Q → tC v sg H Q := by
  rintro sg H Q ⟨r, env, W, he, hw, x, W', e, q⟩
  obtain ⟨rfl, rfl⟩ := mr_inv e
  exact q r H v (Ext.refl r H) hw (c r H)
theorem de_int {i j pos} : DE X (.Constant (.int i) j pos) (eC (.int i)) := pe_imp pe_int (of_con fun _ _ => .int i)
theorem de_bl {i j pos} : DE X (.Constant (.bool i) j pos) (eC (.bl i)) := pe_imp pe_bl (of_con fun _ _ => .bl i)
theorem de_non {j pos} : DE X (.Constant .none j pos) (eC .non) := pe_imp pe_non (of_con fun _ _ => .non)
theorem de_str {i j pos} : DE X (.Constant (.str i) j pos) (eC (.str i)) := pe_imp pe_str (of_con fun _ _ => .str i)
theorem de_glob {x : Str} {d : DV} {v : V} {u : Value} {pos : Pos} (hg : Gl X x) (hm : X.mg x = some u) (rl : RelV v u) (c : ∀ r H, Rv X.K r H d v) (hd : (x == ("__debug__" : Str)) = false := by decide) : DE X (.Name x pos) (eC d) :=
  pe_imp (pe_glob hg hm rl hd) (of_con c)
theorem de_ty {x : Str} {n : String} {pos : Pos} (hg : Gl X x) (hm : X.mg x = none) (hv : bootBuiltins x = some (.type n)) (hn : x ≠ "__name__" := by decide) (hd : (x == ("__debug__" : Str)) = false := by decide) : DE X (.Name x pos) (eC (.cst (.ty n))) :=
  pe_imp (pe_bltn hg hm hv (v := .ty n) rfl hn hd) (of_con fun _ _ => .cst _)

/-! ### operators -/
/-- a rule of the hand layer for two values serves a function of two data -/
def OpD (K : PySem.W.Frag) (r2 : R2) (G : DV → DV → M DV) : Prop := ∀ r H W x y z W' v w Q, Hw K r H W → G x y W = some (z, W') → Rv K r H x v → Rv K r H y w →
  (∀ r' H' u, Ext r H r' H' → Hw K r' H' W' → Rv K r' H' z u → Q u H') → r2 v w H Q
def eO (G : DV → DV → M DV) (F F' : ES) : ES := fun env => mb (F env) fun x => mb (F' env) fun y => G x y
theorem of_op {K : PySem.W.Frag} {r2 : R2} {G : DV → DV → M DV} {F F' : ES} (g : OpD K r2 G) : ∀ sg H Q, tX K (eO G F F') sg H Q → tOp r2 (tX K F) (tX K F') sg H Q := by
  rintro sg H Q ⟨r, env, W, he, hw, z, W', e, q⟩
  obtain ⟨x, W1, e1, e⟩ := mb_inv e
  obtain ⟨y, W2, e2, e⟩ := mb_inv e
  refine ⟨r, env, W, he, hw, x, W1, e1, fun r1 H1 v x1 w1 rx => ?_⟩
  refine ⟨r1, env, W1, he.ext x1, w1, y, W2, e2, fun r2 H2 w x2 w2 ry => ?_⟩
  exact g r2 H2 W2 x y z W' v w Q w2 e (rx.ext x2) ry fun r3 H3 u x3 w3 rz => q r3 H3 u ((x1.trans x2).trans x3) w3 rz
theorem de_op {op : Operator} {r2 : R2} {G : DV → DV → M DV} {a b : Expr} {F F' : ES} {pos : Pos} (ho : OpR X (binaryOp op) r2) (g : OpD X.K r2 G) (ha : DE X a F) (hb : DE X b F') : DE X (.BinOp a op b pos) (eO G F F') :=
  pe_imp (pe_op ho ha hb) (of_op g)
theorem de_cmp {op : CmpOp} {r2 : R2} {G : DV → DV → M DV} {a b : Expr} {F F' : ES} {pos : Pos} (ho : OpR X (compareOp op) r2) (g : OpD X.K r2 G) (ha : DE X a F) (hb : DE X b F') (hm : behindInMarks op b = false) : DE X (.Compare a [op] [b] pos) (eO G F F') :=
  pe_imp (pe_cmpR ho ha hb hm) (of_op g)
theorem de_ix {r2 : R2} {G : DV → DV → M DV} {a b : Expr} {F F' : ES} {pos : Pos} (ho : IxR X r2) (g : OpD X.K r2 G) (ha : DE X a F) (hb : DE X b F') (hs : PlainIx b := by exact fun _ _ => rfl) : DE X (.Subscript a b pos) (eO G F F') :=
  pe_imp (pe_ix ho ha hb hs) (of_op g)
theorem OpD.or {K : PySem.W.Frag} {r2 r2' : R2} {G G' : DV → DV → M DV} (h : OpD K r2 G) (h' : OpD K r2' G') : OpD K (fun x y H Q => r2 x y H Q ∨ r2' x y H Q) (fun x y W => match G x y W with | some z => some z | none => G' x y W) := by
  intro r H W x y z W' v w Q hw e rx ry q
  dsimp only at e
  cases h1 : G x y W with
  | some p =>
    rw [h1] at e
    dsimp only at e
    exact .inl (h r H W x y z W' v w Q hw (h1.trans e) rx ry q)
  | none =>
    rw [h1] at e
    exact .inr (h' r H W x y z W' v w Q hw e rx ry q)
/-- only the result is a bool -/
def mB (d : DV) : M Bool := fun W => match d with
  | .bl b => some (b, W)
  | _ => none
theorem mB_inv {d : DV} {W : Wd} {b : Bool} {W' : Wd} (h : mB d W = some (b, W')) : d = .bl b ∧ W' = W := by
  unfold mB at h
  split at h
  · cases h; exact ⟨rfl, rfl⟩
  · cases h
theorem Rv.bl_inv {K : PySem.W.Frag} {r : Rh} {H : Hp} {b : Bool} {v : V} (h : Rv K r H (.bl b) v) : v = .bl b := by cases h; rfl
theorem Rv.int_inv {K : PySem.W.Frag} {r : Rh} {H : Hp} {b : Int} {v : V} (h : Rv K r H (.int b) v) : v = .int b := by cases h; rfl
theorem Rv.str_inv {K : PySem.W.Frag} {r : Rh} {H : Hp} {b : Str} {v : V} (h : Rv K r H (.str b) v) : v = .str b := by cases h; rfl
theorem Rv.non_inv {K : PySem.W.Frag} {r : Rh} {H : Hp} {v : V} (h : Rv K r H .non v) : v = .non := by cases h; rfl
theorem Rv.cst_inv {K : PySem.W.Frag} {r : Rh} {H : Hp} {v w : V} (h : Rv K r H (.cst w) v) : v = w := by cases h; rfl
/-- a test by its value -/
def bT (F : ES) : EB := fun env => mb (F env) mB
theorem of_test {K : PySem.W.Frag} {t : TE} {F : ES} (i : ∀ sg H Q, tX K F sg H Q → t sg H Q) : ∀ sg H Q, tXB K (bT F) sg H Q → tTest t sg H Q := by
  rintro sg H Q ⟨r, env, W, he, hw, b, W', e, q⟩
  obtain ⟨d, W1, e1, e⟩ := mb_inv e
  obtain ⟨rfl, rfl⟩ := mB_inv e
  refine i sg H _ ⟨r, env, W, he, hw, .bl b, W', e1, fun r' H' v x w rz => ?_⟩
  exact ⟨b, rz.bl_inv, q r' H' x w⟩
theorem dt_cmp {op : CmpOp} {r2 : R2} {G : DV → DV → M DV} {a b : Expr} {F F' : ES} {pos : Pos} (ho : OpR X (compareOp op) r2) (g : OpD X.K r2 G) (ha : DE X a F) (hb : DE X b F') (hm : behindInMarks op b = false) : DT X (.Compare a [op] [b] pos) (bT (eO G F F')) :=
  pt_imp (pt_cmpR ho ha hb hm) (of_test (of_op g))
theorem dt_val {e : Expr} {F : ES} (h : DE X e F) (he : ∀ whole, isTrue e X.env whole = (do let v ← whole; standAt e.pos; holding [v] (truthy v)) := by intro _; rfl) : DT X e (bT F) := by
  refine pt_imp (pt_val h he) ?_
  rintro sg H Q ⟨r, env, W, hE, hw, b, W', e, q⟩
  obtain ⟨d, W1, e1, e⟩ := mb_inv e
  obtain ⟨rfl, rfl⟩ := mB_inv e
  exact ⟨r, env, W, hE, hw, .bl b, W', e1, fun r' H' v x w rz => ⟨b, rz.bl_inv, q r' H' x w⟩⟩
/-- a chain of two comparisons -/
def eCh (G G' : DV → DV → M DV) (F F1 F2 : ES) : ES := fun env => mb (F env) fun x => mb (F1 env) fun y => mb (G x y) fun c => mb (mB c) fun b => if b = true then mb (F2 env) fun z => G' y z else mr (.bl false)
def bNot (F : EB) : EB := fun env => mb (F env) fun b => mr (!b)
def bAnd (F F' : EB) : EB := fun env => mb (F env) fun b => if b = true then F' env else mr false
def bOr (F F' : EB) : EB := fun env => mb (F env) fun b => if b = true then mr true else F' env
theorem dt_not {a : Expr} {F : EB} {pos : Pos} (h : DT X a F) : DT X (.UnaryOp .Not a pos) (bNot F) := by
  refine pt_imp (pt_not h) ?_
  rintro sg H Q ⟨r, env, W, hE, hw, b, W', e, q⟩
  obtain ⟨c, W1, e1, e⟩ := mb_inv e
  obtain ⟨rfl, rfl⟩ := mr_inv e
  exact ⟨r, env, W, hE, hw, c, _, e1, fun r' H' x w => q r' H' x w⟩
theorem of_and {K : PySem.W.Frag} {F F' : EB} : ∀ sg H Q, tXB K (bAnd F F') sg H Q → tAnd (tXB K F) (tXB K F') sg H Q := by
  rintro sg H Q ⟨r, env, W, hE, hw, b, W', e, q⟩
  obtain ⟨c, W1, e1, e⟩ := mb_inv e
  refine ⟨r, env, W, hE, hw, c, _, e1, fun r' H' x w => ?_⟩
  cases c with
  | true => exact iteT ⟨r', env, W1, hE.ext x, w, b, W', e, fun r2 H2 x2 w2 => q r2 H2 (x.trans x2) w2⟩
  | false =>
    obtain ⟨rfl, rfl⟩ := mr_inv (show mr false W1 = some (b, W') from e)
    exact iteF (q r' H' x w)
theorem of_or {K : PySem.W.Frag} {F F' : EB} : ∀ sg H Q, tXB K (bOr F F') sg H Q → tOr (tXB K F) (tXB K F') sg H Q := by
  rintro sg H Q ⟨r, env, W, hE, hw, b, W', e, q⟩
  obtain ⟨c, W1, e1, e⟩ := mb_inv e
  refine ⟨r, env, W, hE, hw, c, _, e1, fun r' H' x w => ?_⟩
  cases c with
  | false => exact iteF ⟨r', env, W1, hE.ext x, w, b, W', e, fun r2 H2 x2 w2 => q r2 H2 (x.trans x2) w2⟩
  | true =>
    obtain ⟨rfl, rfl⟩ := mr_inv (show mr true W1 = some (b, W') from e)
    exact iteT (q r' H' x w)
theorem dw_and1 {a : Expr} {F : EB} {pos : Pos} (h : DT X a F) : DW X (.BoolOp .And [a] pos) F := pw_and1 h
theorem dw_or1 {a : Expr} {F : EB} {pos : Pos} (h : DT X a F) : DW X (.BoolOp .Or [a] pos) F := pw_or1 h
theorem dw_and {a b : Expr} {rest : List Expr} {F F' : EB} {pos : Pos} (h : DT X a F) (h' : DW X (.BoolOp .And (b :: rest) pos) F') : DW X (.BoolOp .And (a :: b :: rest) pos) (bAnd F F') := pw_imp (pw_and h h') of_and
theorem dw_or {a b : Expr} {rest : List Expr} {F F' : EB} {pos : Pos} (h : DT X a F) (h' : DW X (.BoolOp .Or (b :: rest) pos) F') : DW X (.BoolOp .Or (a :: b :: rest) pos) (bOr F F') := pw_imp (pw_or h h') of_or
/-- and, or, not as values: all but the last are bools -/
def eAnd (F F' : ES) : ES := fun env => mb (F env) fun c => mb (mB c) fun b => if b = true then F' env else mr (.bl false)
def eOr (F F' : ES) : ES := fun env => mb (F env) fun c => mb (mB c) fun b => if b = true then mr (.bl true) else F' env
def eNot (F : ES) : ES := fun env => mb (F env) fun c => mb (mB c) fun b => mr (.bl (!b))
theorem de_one {op} {a : Expr} {F : ES} {pos : Pos} (h : DE X a F) : DE X (.BoolOp op [a] pos) F := pe_one h
theorem de_and {a b : Expr} {rest : List Expr} {F F' : ES} {pos : Pos} (h : DE X a F) (h' : DE X (.BoolOp .And (b :: rest) pos) F') : DE X (.BoolOp .And (a :: b :: rest) pos) (eAnd F F') := by
  refine pe_imp (pe_and h h') ?_
  rintro sg H Q ⟨r, env, W, hE, hw, z, W', e, q⟩
  obtain ⟨c, W1, e1, e⟩ := mb_inv e
  obtain ⟨b, W2, e2, e⟩ := mb_inv e
  obtain ⟨rfl, rfl⟩ := mB_inv e2
  refine ⟨r, env, W, hE, hw, _, _, e1, fun r' H' v x w rv => ⟨b, rv.bl_inv, ?_⟩⟩
  cases b with
  | true => exact iteT ⟨r', env, W2, hE.ext x, w, z, W', e, fun r2 H2 v x2 w2 => q r2 H2 v (x.trans x2) w2⟩
  | false =>
    obtain ⟨rfl, rfl⟩ := mr_inv (show mr (DV.bl false) W2 = some (z, W') from e)
    exact iteF (q r' H' _ x w (.bl _))
theorem de_or {a b : Expr} {rest : List Expr} {F F' : ES} {pos : Pos} (h : DE X a F) (h' : DE X (.BoolOp .Or (b :: rest) pos) F') : DE X (.BoolOp .Or (a :: b :: rest) pos) (eOr F F') := by
  refine pe_imp (pe_or h h') ?_
  rintro sg H Q ⟨r, env, W, hE, hw, z, W', e, q⟩
  obtain ⟨c, W1, e1, e⟩ := mb_inv e
  obtain ⟨b, W2, e2, e⟩ := mb_inv e
  obtain ⟨rfl, rfl⟩ := mB_inv e2
  refine ⟨r, env, W, hE, hw, _, _, e1, fun r' H' v x w rv => ⟨b, rv.bl_inv, ?_⟩⟩
  cases b with
  | false => exact iteF ⟨r', env, W2, hE.ext x, w, z, W', e, fun r2 H2 v x2 w2 => q r2 H2 v (x.trans x2) w2⟩
  | true =>
    obtain ⟨rfl, rfl⟩ := mr_inv (show mr (DV.bl true) W2 = some (z, W') from e)
    exact iteT (q r' H' _ x w (.bl _))
theorem de_not {a : Expr} {F : ES} {pos : Pos} (h : DE X a F) : DE X (.UnaryOp .Not a pos) (eNot F) := by
  refine pe_imp (pe_not h) ?_
  rintro sg H Q ⟨r, env, W, hE, hw, z, W', e, q⟩
  obtain ⟨c, W1, e1, e⟩ := mb_inv e
  obtain ⟨b, W2, e2, e⟩ := mb_inv e
  obtain ⟨rfl, rfl⟩ := mB_inv e2
  obtain ⟨rfl, rfl⟩ := mr_inv e
  exact ⟨r, env, W, hE, hw, _, _, e1, fun r' H' v x w rv => ⟨b, rv.bl_inv, q r' H' _ x w (.bl _)⟩⟩
def eIf (B : EB) (F F' : ES) : ES := fun env => mb (B env) fun b => if b = true then F env else F' env
theorem de_if {c a b : Expr} {B : EB} {F F' : ES} {pos : Pos} (hc : DT X c B) (ha : DE X a F) (hb : DE X b F') : DE X (.IfExp c a b pos) (eIf B F F') := by
  refine pe_imp (pe_ifExp hc ha hb) ?_
  rintro sg H Q ⟨r, env, W, hE, hw, z, W', e, q⟩
  obtain ⟨c, W1, e1, e⟩ := mb_inv e
  refine ⟨r, env, W, hE, hw, _, _, e1, fun r' H' x w => ?_⟩
  cases c with
  | true => exact iteT ⟨r', env, W1, hE.ext x, w, z, W', e, fun r2 H2 v x2 w2 => q r2 H2 v (x.trans x2) w2⟩
  | false => exact iteF ⟨r', env, W1, hE.ext x, w, z, W', e, fun r2 H2 v x2 w2 => q r2 H2 v (x.trans x2) w2⟩

/-! ### arguments -/
def aN : EA := fun _ => mr []
def aC (F : ES) (A : EA) : EA := fun env => mb (F env) fun x => mb (A env) fun xs => mr (x :: xs)
theorem da_nil : DA X [] aN := by
  refine pa_imp pa_nil ?_
  rintro sg H Q ⟨r, env, W, hE, hw, z, W', e, q⟩
  obtain ⟨rfl, rfl⟩ := mr_inv e
  exact q r H [] (Ext.refl _ _) hw .nil
theorem of_cons {K : PySem.W.Frag} {F : ES} {A : EA} : ∀ sg H Q, tXA K (aC F A) sg H Q → tCons (tX K F) (tXA K A) sg H Q := by
  rintro sg H Q ⟨r, env, W, hE, hw, z, W', e, q⟩
  obtain ⟨x, W1, e1, e⟩ := mb_inv e
  obtain ⟨xs, W2, e2, e⟩ := mb_inv e
  obtain ⟨rfl, rfl⟩ := mr_inv e
  refine ⟨r, env, W, hE, hw, _, _, e1, fun r1 H1 v x1 w1 rx => ?_⟩
  exact ⟨r1, env, W1, hE.ext x1, w1, _, _, e2, fun r2 H2 vs x2 w2 rs => q r2 H2 _ (x1.trans x2) w2 (.cons (rx.ext x2) rs)⟩
theorem da_cons {a : Expr} {es : List Expr} {F : ES} {A : EA} (ha : DE X a F) (hr : DA X es A) (hs : starEach (a :: es) X.env = (false, eval a X.env) :: starEach es X.env := by rfl) : DA X (a :: es) (aC F A) :=
  pa_imp (pa_cons ha hr hs) of_cons
/-- a tuple, a list -/
def lineOk (xs : List DV) : Bool := decide (xs.length ≤ sizeLine)
def eTup (A : EA) : ES := fun env => mb (A env) fun xs => mo (if lineOk xs = true then some (.tup xs) else none)
def eLst (A : EA) : ES := fun env => mb (A env) fun xs => mo (if lineOk xs = true then some (.lst xs) else none)
theorem if_inv {α : Type} {c : Bool} {a b : α} (h : (if c = true then some a else none) = some b) : c = true ∧ a = b := by
  cases c with
  | true => exact ⟨rfl, Option.some.inj h⟩
  | false => cases h
theorem Rv.newTup {K : PySem.W.Frag} {r : Rh} {H : Hp} {W : Wd} {xs : List DV} {vs : List V} {p : Addr} (hw : Hw K r H W) (q : Rvs K r H xs vs) (hp : H p = none) : Rv K r (upd H p (.tup vs)) (.tup xs) (.ref p) :=
  .tup (.inl ⟨hw.fresh hp, upd_same⟩) (q.ext (Ext.laid hp))
theorem Rv.newLst {K : PySem.W.Frag} {r : Rh} {H : Hp} {W : Wd} {xs : List DV} {vs : List V} {p : Addr} (hw : Hw K r H W) (q : Rvs K r H xs vs) (hp : H p = none) : Rv K r (upd H p (.lst vs)) (.lst xs) (.ref p) :=
  .lst (hw.fresh hp) upd_same (q.ext (Ext.laid hp))
theorem de_tup {es : List Expr} {A : EA} {x1 pos} (h : DA X es A) : DE X (.Tuple es x1 pos) (eTup A) := by
  refine pe_imp (pe_tup h) ?_
  rintro sg H Q ⟨r, env, W, hE, hw, z, W', e, q⟩
  obtain ⟨xs, W1, e1, e⟩ := mb_inv e
  obtain ⟨e2, rfl⟩ := mo_inv e
  obtain ⟨l, rfl⟩ := if_inv e2
  refine ⟨r, env, W, hE, hw, _, _, e1, fun r1 H1 vs x1 w1 rs => ⟨by rw [← rs.length]; exact of_decide_eq_true l, fun p hp => ?_⟩⟩
  exact q r1 _ _ (x1.trans (Ext.laid hp)) (w1.laid hp) (Rv.newTup w1 rs hp)
theorem de_lst {es : List Expr} {A : EA} {pos} (h : DA X es A) : DE X (.List es pos) (eLst A) := by
  refine pe_imp (pe_lst h) ?_
  rintro sg H Q ⟨r, env, W, hE, hw, z, W', e, q⟩
  obtain ⟨xs, W1, e1, e⟩ := mb_inv e
  obtain ⟨e2, rfl⟩ := mo_inv e
  obtain ⟨l, rfl⟩ := if_inv e2
  refine ⟨r, env, W, hE, hw, _, _, e1, fun r1 H1 vs x1 w1 rs => ⟨by rw [← rs.length]; exact of_decide_eq_true l, fun p hp => ?_⟩⟩
  exact q r1 _ _ (x1.trans (Ext.laid hp)) (w1.laid hp) (Rv.newLst w1 rs hp)
/-- a list that will be changed: a cell -/
def eNew (A : EA) : ES := fun env => mb (A env) fun xs W => if lineOk xs = true then some (.loc W.length, W ++ [.lst xs]) else none
theorem de_new {es : List Expr} {A : EA} {pos} (h : DA X es A) : DE X (.List es pos) (eNew A) := by
  refine pe_imp (pe_lst h) ?_
  rintro sg H Q ⟨r, env, W, hE, hw, z, W', e, q⟩
  obtain ⟨xs, W1, e1, e⟩ := mb_inv e
  obtain ⟨l, e2⟩ := if_inv e
  cases e2
  refine ⟨r, env, W, hE, hw, _, _, e1, fun r1 H1 vs x1 w1 rs => ⟨by rw [← rs.length]; exact of_decide_eq_true l, fun p hp => ?_⟩⟩
  obtain ⟨y, z⟩ := w1.cell (c := .lst xs) (o := .lst vs) hp (fun z => nomatch z) ⟨vs, upd_same, rs.ext (by
    exact ⟨rfl, fun i a q => by
      obtain ⟨l, _⟩ := List.getElem?_eq_some_iff.mp q
      show (r1.rho ++ [some p])[i]? = _
      rw [List.getElem?_append_left l]; exact q, by simp, fun a m n => by
      rcases List.mem_append.mp m with m | m
      · exact absurd m n
      · have z := List.mem_singleton.mp m
        cases z; exact hp, fun a u _ q => by rw [upd_ne (ne_of_none q hp)]; exact q⟩)⟩
  exact q _ _ _ (x1.trans y) z (.loc (by show (r1.rho ++ [some p])[W1.length]? = _; rw [← w1.len, List.getElem?_append_right (Nat.le_refl _)]; simp))

/-! ### built-ins -/
def CallD (K : PySem.W.Frag) (rc : List V → Hp → VK → Prop) (G : List DV → M DV) : Prop := ∀ r H W xs z W' vs Q, Hw K r H W → G xs W = some (z, W') → Rvs K r H xs vs →
  (∀ r' H' u, Ext r H r' H' → Hw K r' H' W' → Rv K r' H' z u → Q u H') → rc vs H Q
def eK (G : List DV → M DV) (A : EA) : ES := fun env => mb (A env) G
theorem of_cb {K : PySem.W.Frag} {rc : List V → Hp → VK → Prop} {G : List DV → M DV} {A : EA} (g : CallD K rc G) : ∀ sg H Q, tX K (eK G A) sg H Q → tCB rc (tXA K A) sg H Q := by
  rintro sg H Q ⟨r, env, W, hE, hw, z, W', e, q⟩
  obtain ⟨xs, W1, e1, e⟩ := mb_inv e
  exact ⟨r, env, W, hE, hw, _, _, e1, fun r1 H1 vs x1 w1 rs => g r1 H1 W1 xs z W' vs Q w1 e rs fun r2 H2 u x2 w2 ru => q r2 H2 u (x1.trans x2) w2 ru⟩
end
end DL
end L2

set_option maxRecDepth 100000
/-! DLg: promises of defs that are called while no repr is under way (guards = some []): what repr of lists and tuples asks. -/
namespace L2
namespace DL
open PySem PySem.Spec PyProof.Rows

/-- the def at f keeps the promise sp when it is called with nothing under way -/
structure FnG (P : Program) (w : PySem.World) (K : PySem.W.Frag) (mg : Str → Option Value) (base : Heap) (CX : CXT) (k : Nat) (f : Addr) (fd : FuncData) (ps : List Str) (sp : Sp) : Prop where
  many : ∀ vs H Q E, sp vs H Q E → vs.length = ps.length
  go : ∀ (A : Around) (out : List Env) (s : Shared) (H : Hp) (ar : Args) (us : List Value) (vs : List V) (Q : VK) (E : XK), Room k A ∧ A.guards = some [] → Env0 P w K mg base A out s H → BindsTo s fd ar (ps.zip us) → Vals vs us → sp vs H Q E →
    codeAny (model P w) A (.call (.ref f) ar) (CR CX out P w H s Q E) s
section
variable {P : Program} {w : PySem.World} {K : PySem.W.Frag} {mg : Str → Option Value} {base : Heap} {CX : CXT} {j k : Nat} {f : Addr} {fd : FuncData} {ps : List Str} {sp sp' : Sp}
theorem FnG.up (F : FnG P w K mg base CX j f fd ps sp) (h : j ≤ k) : FnG P w K mg base CX k f fd ps sp := ⟨F.many, fun A out s H ar us vs Q E hr => F.go A out s H ar us vs Q E ⟨hr.1.mono h, hr.2⟩⟩
theorem FnG.weak (F : FnG P w K mg base CX k f fd ps sp) (h : ∀ vs H Q E, sp' vs H Q E → sp vs H Q E) : FnG P w K mg base CX k f fd ps sp' :=
  ⟨fun vs H Q E q => F.many vs H Q E (h _ _ _ _ q), fun A out s H ar us vs Q E hr he hb hv hs => F.go A out s H ar us vs Q E hr he hb hv (h _ _ _ _ hs)⟩
end
/-- a call comes back to the caller -/
theorem back_call {X : Cx} {CX : CXT} {pins : List (Addr × Obj)} {sg : St} {H : Hp} {s : Shared} {Q : VK} {E : XK} (I : Inv X pins sg H s) (hx : ∀ e s', CX X.stack H s E e s' → X.xe e s') {c : Code} (h : codeAny (model X.prog X.w) X.A c (CR CX X.stack X.prog X.w H s Q E) s) :
    codeAny (model X.prog X.w) X.A c (fun r s' => match r with
      | .ok (.ret u) => EP X pins sg Q u s'
      | .ok _ => False
      | .error e => X.xe e s') s := by
  refine codeAny_mono h fun r s' hq => ?_
  match r, hq with
  | .error e, hq => exact hx e s' hq
  | .ok (.ret u), hq => exact I.after hq
theorem call_back {X : Cx} {pins : List (Addr × Obj)} {sg : St} {Q : VK} {s : Shared} {g : Value} {us : List Value} {kw : List (Str × Value)}
    (h : codeAny (model X.prog X.w) X.A (.call g ⟨us, kw⟩) (fun r s' => match r with
      | .ok (.ret u) => EP X pins sg Q u s'
      | .ok _ => False
      | .error e => X.xe e s') s) : wpAny (model X.prog X.w) X.A (call g us kw) (EP X pins sg Q) X.xe s := by
  refine wpAny_call (codeAny_mono h fun r s' hq => ?_)
  match r, hq with
  | .error e, hq => exact hq
  | .ok (.ret u), hq => exact hq
section
variable {X : Cx} {CX : CXT} {k : Nat} {f : Addr} {fd : FuncData} {ps : List Str} {sp : Sp} {ds : List Value} {dvs : List V} {E : XK} {x : Str} {p pos : Pos} {e : Expr} {es : List Expr} {t : TA}
/-- room for calls, and nothing under way -/
def Rm (k : Nat) (A : Around) : Prop := Room k A ∧ A.guards = some []
theorem Rm.le {j k : Nat} {A : Around} (h : Rm k A) (l : j ≤ k) : Rm j A := ⟨h.1.mono l, h.2⟩
theorem FnG.at {pins : List (Addr × Obj)} {sg : St} {H : Hp} {s : Shared} {Q : VK} {us : List Value} {vs : List V} (F : FnG X.prog X.w X.K X.mg X.base CX k f fd ps sp) (hr : Rm k X.A) (hb : Binds X.K fd ps ds) (hd : Vals dvs ds) (hx : Passes CX X E)
    (I : Inv X pins sg H s) (rl : Vals vs us) (h : sp (vs ++ dvs) H Q E) : wpAny (model X.prog X.w) X.A (call (.ref f) us) (EP X pins sg Q) X.xe s := by
  have both : Vals (vs ++ dvs) (us ++ ds) := rl.append hd
  exact call_back (back_call I (fun e s' => hx pins sg H s e s' I) (F.go X.A X.stack s H ⟨us, []⟩ (us ++ ds) (vs ++ dvs) Q E hr I.env0 (hb s us I.kIn (by rw [← both.length]; exact F.many _ _ _ _ h)) both h))
theorem pe_callG (F : FnG X.prog X.w X.K X.mg X.base CX k f fd ps sp) (hr : Rm k X.A) (gl : Gl X x) (gm : X.mg x = some (.ref f)) (kp : PySem.W.keepIn X.K (.ref f) = true) (hb : Binds X.K fd ps ds) (hd : Vals dvs ds) (hx : Passes CX X E)
    (ha : PA X (e :: es) t) (nodb : (x == ("__debug__" : Str)) = false) (st : starEach (e :: es) X.env = (false, eval e X.env) :: starEach es X.env) (pl : (backTo pos (starEach es X.env)).any (·.1) = false) :
    PE X (.Call (.Name x p) (e :: es) [] pos) (tCall sp dvs E t) :=
  ⟨fun pins s sg H Q I h => wpAny_Call_Name_kw (ld_glob I gl gm (PySem.W.callWith_K (h₀ := X.base) I.ok.mod.kin kp (thn (ha.run pos pins s sg H _ I h) fun us s1 ⟨vs, H1, I1, rl, q⟩ => ⟨I1.kIn, F.at hr hb hd hx I1 rl q⟩) st pl) nodb)⟩
theorem pe_callG0 (F : FnG X.prog X.w X.K X.mg X.base CX k f fd ps sp) (hr : Rm k X.A) (gl : Gl X x) (gm : X.mg x = some (.ref f)) (kp : PySem.W.keepIn X.K (.ref f) = true) (hb : Binds X.K fd ps ds) (hd : Vals dvs ds) (hx : Passes CX X E)
    (nodb : (x == ("__debug__" : Str)) = false) : PE X (.Call (.Name x p) [] [] pos) (tCall sp dvs E tNil) :=
  ⟨fun pins s sg H Q I h => wpAny_Call_Name_kw (ld_glob I gl gm (PySem.W.callWith_K0 I.kIn kp (F.at (us := []) hr hb hd hx I .nil h)) nodb)⟩
end
/-- a def's body keeps its promise -/
theorem fnG_of {CX : CXT} {P : Program} {w : PySem.World} {K : PySem.W.Frag} {mg : Str → Option Value} {base : Heap} {k : Nat} {x qual : Str} {st : Stmt} {f : Addr} {fd : FuncData} {N ps : List Str} {sp : Sp} (F : Fun K x qual st f fd) (Sc : FnScope N ps (defScope st))
    (many : ∀ vs H Q E, sp vs H Q E → vs.length = ps.length)
    (body : ∀ (cdv : Value) (A : Around) (out : List Env) (s : Shared) (H : Hp) (vs : List V) (Q : VK) (E : XK), Rm k (A.deeper (envOfC qual (defScope st) s.heap.objs.size f cdv)) → sp vs H Q E →
      ∃ t, PSs (cxOf CX P w K mg base N qual (defScope st) f cdv A out s H E) (defBody st) t ∧ t { nx := fun _ H' => Q .non H', rt := Q } (start N vs) H) :
    FnG P w K mg base CX (k + 1) f fd ps sp := by
  obtain ⟨oc, od, kV, doc, pm, an, cdv, ct, osl, rfl, lk, hcd⟩ := F.ex
  refine ⟨many, fun A out s H ar us vs Q E hr e0 hb rl hsp => ?_⟩
  have old : ∀ b o, base.get? b = some o → s.heap.get? b = some o := fun b o q => (e0.bs b o q).1
  have KX : K.In s.heap := e0.mod.kin.keeps old
  refine codeAny_call_function hr.1.depth (KX _ _ lk) rfl Sc.co Sc.gen rfl (PySem.W.codeRec_of KX hcd) (hb _ _ _ _ (wpAny_newFunctionEnv_cells Sc.kind (fun y hy => ?_) fun env he s1 z => ?_))
  · rcases Sc.par y.1 (List.of_mem_zip (a := y.1) (b := y.2) hy).1 with q | q
    · exact .inl q
    · exact .inr ⟨q, PySem.W.cellsFrom_some _ _ _ (.inl q)⟩
  · subst he
    obtain ⟨t, ht, hq⟩ := body cdv A out s H vs Q E ⟨hr.1.deeper _, hr.2⟩ hsp
    refine ⟨(e0.mod.nolimit.keeps old).keeps z.toInCall.keep, codeAny_func (wpAny_mono (ht.run [] s1 (start N vs) H _ (inv_start Sc hr.1.hd e0 (many _ _ _ _ hsp) rl z) hq) (fun fl s' hs => ?_) fun _ _ q => q)⟩
    match fl, hs with
    | .ret u, ⟨v, _, H', J, rv, q⟩ => exact ⟨v, H', J.os, J.bare, J.base, J.hok, rv, q⟩
    | .next, ⟨_, H', J, q⟩ => exact ⟨.non, H', J.os, J.bare, J.base, J.hok, rfl, q⟩
    | .brk, ⟨_, _, _, q⟩ => exact q.elim
    | .cont, ⟨_, _, _, q⟩ => exact q.elim
end DL
end L2

set_option maxRecDepth 100000
/-! DLc: calls, targets, statements, loops, comprehensions, a def. -/
namespace L2
namespace DL
open PySem PySem.Spec PyProof.Rows

/-! ### what a def does -/
def spD (K : PySem.W.Frag) (n : Nat) (fn : List DV → M DV) : Sp := fun vs H Q _ => ∃ r W xs, xs.length = n ∧ Hw K r H W ∧ Rvs K r H xs vs ∧ ∃ x W', fn xs W = some (x, W') ∧
  ∀ r' H' v, Ext r H r' H' → Hw K r' H' W' → Rv K r' H' x v → Q v H'
def eF (n : Nat) (fn : List DV → M DV) (A : EA) : ES := fun env => mb (A env) fun xs => if (xs.length == n) = true then fn xs else fun _ => none
theorem len_inv {n : Nat} {xs : List DV} {fn : List DV → M DV} {W : Wd} {z : DV × Wd} (e : (if (xs.length == n) = true then fn xs else fun _ => none) W = some z) : xs.length = n ∧ fn xs W = some z := by
  by_cases c : (xs.length == n) = true
  · rw [if_pos c] at e
    exact ⟨by simpa using c, e⟩
  · rw [if_neg c] at e; cases e
section
variable {X : Cx} {k : Nat} {f : Addr} {fd : FuncData} {ps : List Str} {fn : List DV → M DV} {x : Str} {p pos : Pos} {e : Expr} {es : List Expr} {A : EA} {n : Nat}
theorem de_callB {id : String} {rc : List V → Hp → VK → Prop} {G : List DV → M DV} (hc : CallR X (.builtin id) rc) (g : CallD X.K rc G) (hg : Gl X x) (hm : X.mg x = none) (hv : bootBuiltins x = some (.builtin id)) (ha : DA X (e :: es) A) (hn : x ≠ "__name__" := by decide) (hdb : (x == ("__debug__" : Str)) = false := by decide)
    (he : starEach (e :: es) X.env = (false, eval e X.env) :: starEach es X.env := by rfl) (hpl : (backTo pos (starEach es X.env)).any (·.1) = false := by rfl) : DE X (.Call (.Name x p) (e :: es) [] pos) (eK G A) := pe_imp (pe_callB hc hg hm hv ha hn hdb he hpl) (of_cb g)
theorem de_callTy {T : String} {rc : List V → Hp → VK → Prop} {G : List DV → M DV} (hc : CallR X (.type T) rc) (g : CallD X.K rc G) (hg : Gl X x) (hm : X.mg x = none) (hv : bootBuiltins x = some (.type T)) (ha : DA X (e :: es) A) (hn : x ≠ "__name__" := by decide) (hdb : (x == ("__debug__" : Str)) = false := by decide)
    (he : starEach (e :: es) X.env = (false, eval e X.env) :: starEach es X.env := by rfl) (hpl : (backTo pos (starEach es X.env)).any (·.1) = false := by rfl) : DE X (.Call (.Name x p) (e :: es) [] pos) (eK G A) := pe_imp (pe_callTy hc hg hm hv ha hn hdb he hpl) (of_cb g)
theorem de_call (F : FnG X.prog X.w X.K X.mg X.base CX0 k f fd ps (spD X.K n fn)) (hr : Rm k X.A) (hg : Gl X x) (hm : X.mg x = some (.ref f)) (hk : PySem.W.keepIn X.K (.ref f) = true) (hb : Binds X.K fd ps [])
    (ha : DA X (e :: es) A) (hdb : (x == ("__debug__" : Str)) = false := by decide) (he : starEach (e :: es) X.env = (false, eval e X.env) :: starEach es X.env := by rfl) (hpl : (backTo pos (starEach es X.env)).any (·.1) = false := by rfl) :
    DE X (.Call (.Name x p) (e :: es) [] pos) (eF n fn A) := by
  refine pe_imp (pe_callG F hr hg hm hk hb .nil pass0 ha hdb he hpl) ?_
  rintro sg H Q ⟨r, env, W, hE, hw, z, W', e, q⟩
  obtain ⟨xs, W1, e1, e⟩ := mb_inv e
  obtain ⟨l, e⟩ := len_inv e
  refine ⟨r, env, W, hE, hw, _, _, e1, fun r1 H1 vs x1 w1 rs => ?_⟩
  refine ⟨r1, W1, xs, l, w1, by rw [List.append_nil]; exact rs, z, W', e, fun r2 H2 u x2 w2 ru => q r2 H2 u (x1.trans x2) w2 ru⟩
theorem de_call0 (F : FnG X.prog X.w X.K X.mg X.base CX0 k f fd ps (spD X.K 0 fn)) (hr : Rm k X.A) (hg : Gl X x) (hm : X.mg x = some (.ref f)) (hk : PySem.W.keepIn X.K (.ref f) = true) (hb : Binds X.K fd ps [])
    (hdb : (x == ("__debug__" : Str)) = false := by decide) : DE X (.Call (.Name x p) [] [] pos) (fun _ => fn []) := by
  refine pe_imp (pe_callG0 F hr hg hm hk hb .nil pass0 hdb) ?_
  rintro sg H Q ⟨r, env, W, hE, hw, z, W', e, q⟩
  exact ⟨r, W, [], rfl, hw, .nil, z, W', e, q⟩
end

/-! ### keywords -/
abbrev DK (X : Cx) (kws : List Keyword) (F : EA) : Prop := PK X kws (tXA X.K F)
theorem pk_imp {X : Cx} {e : List Keyword} {t t' : TA} (h : PK X e t) (i : ∀ sg H Q, t' sg H Q → t sg H Q) : PK X e t' := ⟨fun pos pins s sg H Q I w => h.run pos pins s sg H Q I (i sg H Q w)⟩
def perm {α : Type} (ix : List Nat) (l : List α) : List α := ix.filterMap (l[·]?)
theorem Vals.perm {vs : List V} {us : List Value} (h : Vals vs us) : ∀ ix : List Nat, Vals (perm ix vs) (perm ix us)
  | [] => .nil
  | i :: ix => by
    have t := Vals.perm h ix
    cases q : vs[i]? with
    | none =>
      have q' := h.none_of q
      show Vals ((i :: ix).filterMap (vs[·]?)) ((i :: ix).filterMap (us[·]?))
      rw [List.filterMap_cons, List.filterMap_cons, q, q']
      exact t
    | some v =>
      obtain ⟨u, q', rl⟩ := h.get q
      show Vals ((i :: ix).filterMap (vs[·]?)) ((i :: ix).filterMap (us[·]?))
      rw [List.filterMap_cons, List.filterMap_cons, q, q']
      exact .cons rl t
theorem Rvs.none_of {K : PySem.W.Frag} {r : Rh} {H : Hp} {xs : List DV} {vs : List V} {i : Nat} (h : Rvs K r H xs vs) (e : xs[i]? = none) : vs[i]? = none := by
  have h2 := List.getElem?_eq_none_iff.mp e
  exact List.getElem?_eq_none_iff.mpr (by rw [← h.length]; exact h2)
theorem Rvs.perm {K : PySem.W.Frag} {r : Rh} {H : Hp} {xs : List DV} {vs : List V} (h : Rvs K r H xs vs) : ∀ ix : List Nat, Rvs K r H (perm ix xs) (perm ix vs)
  | [] => .nil
  | i :: ix => by
    have t := Rvs.perm h ix
    cases q : xs[i]? with
    | none =>
      have q' := h.none_of q
      show Rvs K r H ((i :: ix).filterMap (xs[·]?)) ((i :: ix).filterMap (vs[·]?))
      rw [List.filterMap_cons, List.filterMap_cons, q, q']
      exact t
    | some v =>
      obtain ⟨u, q', rl⟩ := h.get q
      show Rvs K r H ((i :: ix).filterMap (xs[·]?)) ((i :: ix).filterMap (vs[·]?))
      rw [List.filterMap_cons, List.filterMap_cons, q, q']
      exact .cons rl t
/-- m keywords ks, no positional values: they come to the parameters in the order ix -/
def KwOk (K : PySem.W.Frag) (fd : FuncData) (ps ks : List Str) (ix : List Nat) : Prop := ∀ (s : Shared) (ws : List Value), K.In s.heap → ws.length = ks.length → BindsTo s fd ⟨[], ks.zip ws⟩ (ps.zip (perm ix ws))
theorem Fun.kw {K : PySem.W.Frag} {x qual : Str} {st : Stmt} {f : Addr} {fd : FuncData} {ps ks : List Str} {ix : List Nat} (F : Fun K x qual st f fd)
    (h : ∀ (kV doc pm : Value) (an : Option Addr) (cdv ct : Value) (ws : List Value), ws.length = ks.length → bindArgs (PySem.W.fnOf x qual (defArgs st) (defBody st) (defScope st) .none kV doc pm an cdv ct) ⟨[], ks.zip ws⟩ = pure (ps.zip (perm ix ws))) : KwOk K fd ps ks ix := by
  obtain ⟨oc, od, kV, doc, pm, an, cdv, ct, osl, rfl, lk, hcd⟩ := F.ex
  exact fun s ws _ hl => .of_eq (h kV doc pm an cdv ct ws hl)
def eFK (n m : Nat) (ix : List Nat) (fn : List DV → M DV) (A : EA) : ES := fun env => mb (A env) fun xs => if (xs.length == m) = true then (if ((perm ix xs).length == n) = true then fn (perm ix xs) else fun _ => none) else fun _ => none
section
variable {X : Cx} {k : Nat} {f : Addr} {fd : FuncData} {ps ks : List Str} {ix : List Nat} {fn : List DV → M DV} {x : Str} {p pos : Pos} {e : Expr} {nm : Str} {kpos : Pos} {kws : List Keyword} {F : ES} {A : EA} {n : Nat}
theorem dk_nil : DK X [] aN := by
  refine pk_imp pk_nil ?_
  rintro sg H Q ⟨r, env, W, hE, hw, z, W', e, q⟩
  obtain ⟨rfl, rfl⟩ := mr_inv e
  exact q r H [] (Ext.refl _ _) hw .nil
theorem dk_cons (ha : DE X e F) (hr : DK X kws A) : DK X (⟨nm, e, kpos⟩ :: kws) (aC F A) := pk_imp (pk_cons ha hr) of_cons
theorem de_callK0 (F : FnG X.prog X.w X.K X.mg X.base CX0 k f fd ps (spD X.K n fn)) (hr : Rm k X.A) (hg : Gl X x) (hm : X.mg x = some (.ref f)) (hk : PySem.W.keepIn X.K (.ref f) = true) (hb : KwOk X.K fd ps ks ix)
    (hkw : DK X kws A) (hall : (backToKw pos (keywordEach kws X.env)).all (·.1.isSome) = true := by rfl) (hks : (backToKw pos (keywordEach kws X.env)).filterMap (·.1) = ks := by rfl)
    (hdb : (x == ("__debug__" : Str)) = false := by decide) (hpl : ((backTo pos (starEach [] X.env)).any (·.1) || (backToKw pos (keywordEach kws X.env)).any (·.1.isNone)) = false := by rfl) :
    DE X (.Call (.Name x p) [] kws pos) (eFK n ks.length ix fn A) := by
  refine ⟨fun pins s sg H Q I h => ?_⟩
  refine wpAny_Call_Name_kw (ld_glob I hg hm ?_ hdb)
  refine PySem.W.callWith_KW0 (h₀ := X.base) I.ok.mod.kin hk hall (thn (hkw.run pos pins s sg H (fun vs H1 => vs.length = ks.length ∧ spD X.K n fn (perm ix vs) H1 Q (fun _ _ _ => False)) I ?_) fun ws s2 ⟨zs, H2, I2, rz, l2, q2⟩ => ⟨I2.kIn, ?_⟩) hpl
  · obtain ⟨r, env, W, hE, hw, z, W', e, q⟩ := h
    obtain ⟨xs, W1, e1, e⟩ := mb_inv e
    obtain ⟨lm, e⟩ := len_inv (fn := fun xs => if ((perm ix xs).length == n) = true then fn (perm ix xs) else fun _ => none) e
    obtain ⟨l, e⟩ := len_inv (xs := perm ix xs) e
    refine ⟨r, env, W, hE, hw, _, _, e1, fun r1 H1 vs x1 w1 rs => ⟨by rw [← rs.length]; exact lm, ?_⟩⟩
    exact ⟨r1, W1, perm ix xs, l, w1, rs.perm ix, z, W', e, fun r2 H2 u x2 w2 ru => q r2 H2 u (x1.trans x2) w2 ru⟩
  · rw [hks]
    exact call_back (back_call I2 (fun e s' q => False.elim q) (F.go X.A X.stack s2 H2 ⟨[], ks.zip ws⟩ (perm ix ws) (perm ix zs) Q (fun _ _ _ => False) hr I2.env0 (hb s2 ws I2.kIn (rz.length.symm.trans l2)) (Vals.perm rz ix) q2))
end

/-! ### targets -/
abbrev GS := DV → DEnv → M DEnv
def tXG (K : PySem.W.Frag) (ss : List Nat) (G : GS) : TG := fun v sg H Q => ∃ r env W x, RelE K r H env sg ∧ Hw K r H W ∧ Rv K r H x v ∧ ∃ env' W', G x env W = some (env', W') ∧
  ∀ r' H' sg', Ext r H r' H' → Hw K r' H' W' → RelE K r' H' env' sg' → wipe sg' ss = wipe sg ss → Q sg' H'
abbrev GSs := List DV → DEnv → M DEnv
def tXGs (K : PySem.W.Frag) (ss : List Nat) (G : GSs) : TGs := fun vs sg H Q => ∃ r env W xs, RelE K r H env sg ∧ Hw K r H W ∧ Rvs K r H xs vs ∧ ∃ env' W', G xs env W = some (env', W') ∧
  ∀ r' H' sg', Ext r H r' H' → Hw K r' H' W' → RelE K r' H' env' sg' → wipe sg' ss = wipe sg ss → Q sg' H'
abbrev DG (X : Cx) (ss : List Nat) (tg : Expr) (G : GS) : Prop := PG X tg (tXG X.K ss G)
abbrev DGs (X : Cx) (ss : List Nat) (tg : List Expr) (G : GSs) : Prop := PGs X tg (tXGs X.K ss G)
theorem pg_imp {X : Cx} {e : Expr} {t t' : TG} (h : PG X e t) (i : ∀ v sg H Q, t' v sg H Q → t v sg H Q) : PG X e t' := ⟨fun pins s sg H v u Q I rl w => h.run pins s sg H v u Q I rl (i v sg H Q w)⟩
theorem pgs_imp {X : Cx} {e : List Expr} {t t' : TGs} (h : PGs X e t) (i : ∀ v sg H Q, t' v sg H Q → t v sg H Q) : PGs X e t' := ⟨fun pins s sg H v u Q I rl w => h.run pins s sg H v u Q I rl (i v sg H Q w)⟩
theorem set_set_ne {α : Type} (l : List α) {i j : Nat} (a b : α) (h : i ≠ j) : (l.set i a).set j b = (l.set j b).set i a := List.set_comm a b h
theorem wipe_set {sg : St} {i : Nat} {x : Option V} : ∀ {ss : List Nat}, i ∈ ss → wipe (sg.set i x) ss = wipe sg ss
  | [], h => by cases h
  | v :: ss, h => by
    show (wipe (sg.set i x) ss).set v none = (wipe sg ss).set v none
    by_cases m : i ∈ ss
    · rw [wipe_set m]
    · have e : i = v := by
        rcases List.mem_cons.mp h with z | z
        · exact z
        · exact absurd z m
      subst e
      have w : ∀ (ss : List Nat), i ∉ ss → wipe (sg.set i x) ss = (wipe sg ss).set i x := by
        intro ss
        induction ss with
        | nil => intro _; rfl
        | cons u us ih =>
          intro n
          show (wipe (sg.set i x) us).set u none = ((wipe sg us).set u none).set i x
          rw [ih (fun z => n (List.mem_cons_of_mem _ z))]
          exact List.set_comm _ _ (fun z => n (by rw [z]; exact List.mem_cons_self))
      rw [w ss m, List.set_set]
def gN (i : Nat) : GS := fun x env => mr (env.set i (some x))
section
variable {X : Cx} {ss : List Nat}
theorem of_gname {K : PySem.W.Frag} {i : Nat} (hs : i ∈ ss) : ∀ v sg H Q, tXG K ss (gN i) v sg H Q → gName i v sg H Q := by
  rintro v sg H Q ⟨r, env, W, x, hE, hw, rx, env', W', e, q⟩
  obtain ⟨rfl, rfl⟩ := mr_inv e
  exact q r H _ (Ext.refl _ _) hw (hE.set rx) (wipe_set hs)
theorem dg_name {i : Nat} {x : Str} {pos : Pos} (hN : X.N.Nodup) (hi : X.N[i]? = some x) (hx : Loc X.env.scope x) (hs : i ∈ ss := by decide) (hf : X.fn x = true ∨ X.env.scope.names.lookup x = some .local := by first | exact .inl rfl | exact .inr rfl | assumption) : DG X ss (.Name x pos) (gN i) :=
  pg_imp (pg_name hN hi hx hf) (of_gname hs)
def gsN : GSs := fun xs env => match xs with
  | [] => mr env
  | _ => fun _ => none
def gsC (G : GS) (Gs : GSs) : GSs := fun xs env => match xs with
  | x :: r => mb (G x env) fun env' => Gs r env'
  | [] => fun _ => none
theorem dgs_nil : DGs X ss [] gsN := by
  refine pgs_imp pgs_nil ?_
  rintro vs sg H Q ⟨r, env, W, xs, hE, hw, rx, env', W', e, q⟩
  cases rx with
  | nil =>
    obtain ⟨rfl, rfl⟩ := mr_inv (show mr env W = some (env', W') from e)
    exact ⟨rfl, q r H sg (Ext.refl _ _) hw hE rfl⟩
  | cons _ _ => cases (show none = some (env', W') from e)
theorem dgs_cons {e : Expr} {es : List Expr} {G : GS} {Gs : GSs} (h1 : DG X ss e G) (h2 : DGs X ss es Gs)
    (hs : (assignEach (e :: es) X.env).map (·.2) = assign e X.env :: (assignEach es X.env).map (·.2) := by rfl) : DGs X ss (e :: es) (gsC G Gs) := by
  refine pgs_imp (pgs_cons h1 h2 hs) ?_
  rintro vs sg H Q ⟨r, env, W, xs, hE, hw, rx, env', W', e, q⟩
  cases rx with
  | nil => cases (show none = some (env', W') from e)
  | @cons x v xs vs rx rs =>
    obtain ⟨env1, W1, e1, e⟩ := mb_inv (show mb (G x env) (fun env' => Gs xs env') W = some (env', W') from e)
    refine ⟨v, vs, rfl, r, env, W, x, hE, hw, rx, env1, W1, e1, fun r1 H1 sg1 x1 w1 hE1 hq1 => ?_⟩
    exact ⟨r1, env1, W1, xs, hE1, w1, rs.ext x1, env', W', e, fun r2 H2 sg2 x2 w2 hE2 hq2 => q r2 H2 sg2 (x1.trans x2) w2 hE2 (hq2.trans hq1)⟩
def gT (n : Nat) (Gs : GSs) : GS := fun x env => match x with
  | .tup xs => if (xs.length == n) = true then Gs xs env else fun _ => none
  | _ => fun _ => none
theorem dg_tup {es : List Expr} {k : Nat} {Gs : GSs} {n : Nat} {pos : Pos} (hc : X.calm = true) (h : DGs X ss es Gs)
    (hn : (assignEach es X.env).length = n := by rfl) (hst : (assignEach es X.env).findIdx? (·.1) = none := by rfl) : DG X ss (.Tuple es k pos) (gT n Gs) := by
  refine pg_imp (pg_tup hc h hn hst) ?_
  rintro v sg H Q ⟨r, env, W, x, hE, hw, rx, env', W', e, q⟩
  unfold gT at e
  split at e
  · rename_i xs
    cases rx with
    | @tup a vs _ hq rs =>
      by_cases c : (xs.length == n) = true
      · rw [if_pos c] at e
        exact ⟨a, vs, rfl, hq.sq, by rw [← rs.length]; simpa using c, r, env, W, xs, hE, hw, rs, env', W', e, q⟩
      · rw [if_neg c] at e; cases e
  · cases e
end

/-! ### statements -/
inductive Fl where
  | nx (env : DEnv) | rt (x : DV) | bk (env : DEnv) | ct (env : DEnv)
/-- n: how many cells there were when the def (or the loop) began -/
abbrev SS := Nat → DEnv → M Fl
def FlOk (K : PySem.W.Frag) (r : Rh) (H : Hp) (D : Ends) : Fl → Prop
  | .nx env => ∀ sg, RelE K r H env sg → D.nx sg H
  | .rt x => ∀ v, Rv K r H x v → D.rt v H
  | .bk env => ∀ sg, RelE K r H env sg → D.bk sg H
  | .ct env => ∀ sg, RelE K r H env sg → D.ct sg H
def tSS (K : PySem.W.Frag) (S : SS) : TS := fun D sg H => ∃ r0 H0 r env W, Ext r0 H0 r H ∧ RelE K r H env sg ∧ Hw K r H W ∧ ∃ f W', S r0.rho.length env W = some (f, W') ∧
  ∀ r' H', Ext r0 H0 r' H' → Hw K r' H' W' → FlOk K r' H' D f
abbrev DS (X : Cx) (st : Stmt) (S : SS) : Prop := PS X st (tSS X.K S)
abbrev DSs (X : Cx) (st : List Stmt) (S : SS) : Prop := PSs X st (tSS X.K S)
def sSeq (S T : SS) : SS := fun n env => mb (S n env) fun f => match f with
  | .nx env' => T n env'
  | .rt x => mr (.rt x)
  | .bk env' => mr (.bk env')
  | .ct env' => mr (.ct env')
def sNil : SS := fun _ env => mr (.nx env)
section
variable {X : Cx} {st : Stmt} {rest : List Stmt} {S T : SS} {pos : Pos}
theorem dss_nil : DSs X [] sNil := by
  refine pss_imp pss_nil ?_
  rintro D sg H ⟨r0, H0, r, env, W, x0, hE, hw, f, W', e, q⟩
  obtain ⟨rfl, rfl⟩ := mr_inv e
  exact q r H x0 hw sg hE
theorem dss_one (h : DS X st S) : DSs X [st] S := pss_one h
theorem dss_cons (h1 : DS X st S) (h2 : DSs X rest T) : DSs X (st :: rest) (sSeq S T) := by
  refine pss_imp (pss_cons h1 h2) ?_
  rintro D sg H ⟨r0, H0, r, env, W, x0, hE, hw, f, W', e, q⟩
  obtain ⟨g, W1, e1, e⟩ := mb_inv e
  refine ⟨r0, H0, r, env, W, x0, hE, hw, g, W1, e1, fun r1 H1 x1 w1 => ?_⟩
  cases g with
  | nx env1 => exact fun sg1 hE1 => ⟨r0, H0, r1, env1, W1, x1, hE1, w1, f, W', e, q⟩
  | rt x => obtain ⟨rfl, rfl⟩ := mr_inv e; exact q r1 H1 x1 w1
  | bk x => obtain ⟨rfl, rfl⟩ := mr_inv e; exact q r1 H1 x1 w1
  | ct x => obtain ⟨rfl, rfl⟩ := mr_inv e; exact q r1 H1 x1 w1
theorem ds_pass : DS X (.Pass pos) sNil := by
  refine ps_imp ps_pass ?_
  rintro D sg H ⟨r0, H0, r, env, W, x0, hE, hw, f, W', e, q⟩
  obtain ⟨rfl, rfl⟩ := mr_inv e
  exact q r H x0 hw sg hE
theorem ds_break : DS X (.Break pos) (fun _ env => mr (.bk env)) := by
  refine ps_imp ps_break ?_
  rintro D sg H ⟨r0, H0, r, env, W, x0, hE, hw, f, W', e, q⟩
  obtain ⟨rfl, rfl⟩ := mr_inv e
  exact q r H x0 hw sg hE
theorem ds_continue : DS X (.Continue pos) (fun _ env => mr (.ct env)) := by
  refine ps_imp ps_continue ?_
  rintro D sg H ⟨r0, H0, r, env, W, x0, hE, hw, f, W', e, q⟩
  obtain ⟨rfl, rfl⟩ := mr_inv e
  exact q r H x0 hw sg hE
def sExpr (F : ES) : SS := fun _ env => mb (F env) fun _ => mr (.nx env)
theorem ds_expr {e : Expr} {F : ES} (he : DE X e F) (hs : swapsWith e none pos.line X.env = pure false := by rfl) : DS X (.Expr e pos) (sExpr F) := by
  refine ps_imp (ps_expr he hs) ?_
  rintro D sg H ⟨r0, H0, r, env, W, x0, hE, hw, f, W', e, q⟩
  obtain ⟨x, W1, e1, e⟩ := mb_inv e
  obtain ⟨rfl, rfl⟩ := mr_inv e
  exact ⟨r, env, W, hE, hw, x, _, e1, fun r1 H1 v x1 w1 rv => q r1 H1 (x0.trans x1) w1 sg (hE.ext x1)⟩
def sRet (F : ES) : SS := fun _ env => mb (F env) fun x => mr (.rt x)
theorem ds_ret {e : Expr} {F : ES} (he : DE X e F) : DS X (.Return (some e) pos) (sRet F) := by
  refine ps_imp (ps_ret he) ?_
  rintro D sg H ⟨r0, H0, r, env, W, x0, hE, hw, f, W', e, q⟩
  obtain ⟨x, W1, e1, e⟩ := mb_inv e
  obtain ⟨rfl, rfl⟩ := mr_inv e
  exact ⟨r, env, W, hE, hw, x, _, e1, fun r1 H1 v x1 w1 rv => q r1 H1 (x0.trans x1) w1 v rv⟩
def sIf (B : EB) (S T : SS) : SS := fun n env => mb (B env) fun b => if b = true then S n env else T n env
theorem ds_if {c : Expr} {a b : List Stmt} {B : EB} (hc : DT X c B) (ha : DSs X a S) (hb : DSs X b T) : DS X (.If c a b pos) (sIf B S T) := by
  refine ps_imp (ps_if hc ha hb) ?_
  rintro D sg H ⟨r0, H0, r, env, W, x0, hE, hw, f, W', e, q⟩
  obtain ⟨c, W1, e1, e⟩ := mb_inv e
  refine ⟨r, env, W, hE, hw, c, W1, e1, fun r1 H1 x1 w1 => ?_⟩
  cases c with
  | true => exact iteT ⟨r0, H0, r1, env, W1, x0.trans x1, hE.ext x1, w1, f, W', e, q⟩
  | false => exact iteF ⟨r0, H0, r1, env, W1, x0.trans x1, hE.ext x1, w1, f, W', e, q⟩
def sAsg (F : ES) (G : GS) : SS := fun _ env => mb (F env) fun x => mb (G x env) fun env' => mr (.nx env')
theorem of_asg {K : PySem.W.Frag} {F : ES} {G : GS} {ss : List Nat} : ∀ D sg H, tSS K (sAsg F G) D sg H → tAsg (tX K F) (tXG K ss G) D sg H := by
  rintro D sg H ⟨r0, H0, r, env, W, x0, hE, hw, f, W', e, q⟩
  obtain ⟨x, W1, e1, e⟩ := mb_inv e
  obtain ⟨env', W2, e2, e⟩ := mb_inv e
  obtain ⟨rfl, rfl⟩ := mr_inv e
  refine ⟨r, env, W, hE, hw, x, _, e1, fun r1 H1 v x1 w1 rv => ?_⟩
  exact ⟨r1, env, W1, x, hE.ext x1, w1, rv, env', _, e2, fun r2 H2 sg2 x2 w2 hE2 _ => q r2 H2 ((x0.trans x1).trans x2) w2 sg2 hE2⟩
theorem ds_asg {tg e : Expr} {F : ES} {G : GS} {ss : List Nat} (he : DE X e F) (hg : DG X ss tg G) (hs : swapsWithSole [tg] e pos.line X.env = pure false := by rfl) (hw : swappedStores [tg] e X.env = pure none := by rfl)
    (h1 : (assignEach [tg] X.env).map (·.2) = [assign tg X.env] := by rfl) : DS X (.Assign [tg] e pos) (sAsg F G) := ps_imp (ps_asg he hg hs hw h1) of_asg
theorem ds_set {i : Nat} {x : Str} {e : Expr} {F : ES} {pos' : Pos} (hN : X.N.Nodup) (hi : X.N[i]? = some x) (hx : Loc X.env.scope x) (he : DE X e F) (hs : swapsWith e (some (.Name x pos')) pos.line X.env = pure false := by rfl) (hf : X.fn x = true ∨ X.env.scope.names.lookup x = some .local := by first | exact .inl rfl | exact .inr rfl | assumption) :
    DS X (.Assign [.Name x pos'] e pos) (sAsg F (gN i)) := by
  refine ps_imp (ps_set hN hi hx he hs hf) fun D sg H h => ?_
  have h2 := of_asg (ss := [i]) D sg H h
  obtain ⟨r, env, W, hE, hw, x, W', e, q⟩ := h2
  exact ⟨r, env, W, hE, hw, x, W', e, fun r' H' v x' w' rv => of_gname (ss := [i]) (List.mem_singleton.mpr rfl) _ _ _ _ (q r' H' v x' w' rv)⟩
/-- a, b = x, y -/
def sPar (i j : Nat) (A : EA) : SS := fun _ env => mb (A env) fun xs => match xs with
  | [x, y] => mr (.nx ((env.set i (some x)).set j (some y)))
  | _ => fun _ => none
theorem ds_par {i j : Nat} {x y : Str} {a b : Expr} {A : EA} {px py pt : Pos} {kt k2 pt2} (hc : X.calm = true) (hN : X.N.Nodup) (hi : X.N[i]? = some x) (hj : X.N[j]? = some y) (hij : i ≠ j)
    (hx : X.env.scope.names.lookup x = some .local) (hy : X.env.scope.names.lookup y = some .local) (ha : DA X [a, b] A) (h : PS X (.Assign [.Tuple [.Name x px, .Name y py] kt pt] (.Tuple [a, b] k2 pt2) pos) (tPar i j (tXA X.K A))) :
    DS X (.Assign [.Tuple [.Name x px, .Name y py] kt pt] (.Tuple [a, b] k2 pt2) pos) (sPar i j A) := by
  refine ps_imp h ?_
  rintro D sg H ⟨r0, H0, r, env, W, x0, hE, hw, f, W', e, q⟩
  obtain ⟨xs, W1, e1, e⟩ := mb_inv e
  refine ⟨r, env, W, hE, hw, xs, W1, e1, fun r1 H1 vs x1 w1 rs => ?_⟩
  cases rs with
  | nil => cases (show none = some (f, W') from e)
  | cons r1' rs =>
    cases rs with
    | nil => cases (show none = some (f, W') from e)
    | cons r2' rs =>
      cases rs with
      | cons _ _ => cases (show none = some (f, W') from e)
      | nil =>
        obtain ⟨rfl, rfl⟩ := mr_inv (show mr _ W1 = some (f, W') from e)
        exact ⟨_, _, rfl, q r1 H1 (x0.trans x1) w1 _ (((hE.ext x1).set r1').set r2')⟩
/-- x op= e -/
def sAug (i : Nat) (F : ES) (G : DV → DV → M DV) : SS := fun _ env => mb (eV i env) fun x => mb (F env) fun y => mb (G x y) fun z => mr (.nx (env.set i (some z)))
theorem ds_aug {i : Nat} {x : Str} {e : Expr} {F : ES} {op : Operator} {ti : TIp} {G : DV → DV → M DV} {pos' : Pos} (h : PS X (.AugAssign (.Name x pos') op e pos) (tAug i (tX X.K F) ti)) (g : OpD X.K ti G) : DS X (.AugAssign (.Name x pos') op e pos) (sAug i F G) := by
  refine ps_imp h ?_
  rintro D sg H ⟨r0, H0, r, env, W, x0, hE, hw, f, W', e, q⟩
  obtain ⟨x, W1, e1, e⟩ := mb_inv e
  obtain ⟨y, W2, e2, e⟩ := mb_inv e
  obtain ⟨z, W3, e3, e⟩ := mb_inv e
  obtain ⟨rfl, rfl⟩ := mr_inv e
  obtain ⟨v, hv, r1, env1, W1', hE1, hw1, hrest⟩ : ∃ v, sg[i]? = some (some v) ∧ ∃ r1 env1 W1', RelE X.K r1 H env1 sg ∧ Hw X.K r1 H W1' ∧ (r1 = r ∧ env1 = env ∧ W1' = W1 ∧ Rv X.K r H x v) := by
    obtain ⟨h1, rfl⟩ := mo_inv e1
    have e2 : env[i]? = some (some x) := by
      cases h : env[i]? with
      | none => rw [h] at h1; cases h1
      | some o => rw [h] at h1; exact congrArg some h1
    obtain ⟨v, a1, a2⟩ := hE.2 i x e2
    exact ⟨v, a1, r, env, _, hE, hw, rfl, rfl, rfl, a2⟩
  obtain ⟨rfl, rfl, rfl, rv⟩ := hrest
  refine ⟨v, hv, r1, env1, W1', hE, hw1, y, W2, e2, fun r2 H2 w x2 w2 rw' => ?_⟩
  refine g r2 H2 W2 x y z _ v w _ w2 e3 (rv.ext x2) rw' fun r3 H3 u x3 w3 ru => ?_
  exact q r3 H3 ((x0.trans x2).trans x3) w3 _ ((hE.ext (x2.trans x3)).set ru)
end

/-! ### what is walked -/
abbrev IS := DEnv → M (List DV)
def ItD (K : PySem.W.Frag) (xs : List DV) (r : Rh) (H : Hp) (J : It) : Prop := ∀ r2 H2 W2, Exw r H r2 H2 → Hw K r2 H2 W2 →
  (∀ (i : Nat) (x : DV), xs[i]? = some x → J.go i H2 ∧ ∀ v H3, J.yld i H2 v H3 → Same H2 H3 ∧ Rv K r2 H3 x v) ∧ (∀ i : Nat, xs.length ≤ i → J.stop i H2)
def tXI (K : PySem.W.Frag) (I : IS) : TI := fun sg H R => ∃ r env W, RelE K r H env sg ∧ Hw K r H W ∧ ∃ xs W', I env W = some (xs, W') ∧
  ∀ r' H' J, Ext r H r' H' → Hw K r' H' W' → ItD K xs r' H' J → R J H'
abbrev DI (X : Cx) (tg iter : Expr) (I : IS) : Prop := PI X tg iter (tXI X.K I)
theorem pi_imp {X : Cx} {tg e : Expr} {t t' : TI} (h : PI X tg e t) (i : ∀ sg H Q, t' sg H Q → t sg H Q) : PI X tg e t' := ⟨fun pins s sg H Q I w => h.run pins s sg H Q I (i sg H Q w)⟩
def iD (F : ES) : IS := fun env => mb (F env) fun x => match x with
  | .lst xs => mr xs
  | .scr ns => mr (ns.map DV.int)
  | _ => fun _ => none
def iT (F : ES) : IS := fun env => mb (F env) fun x => match x with
  | .tup xs => mr xs
  | _ => fun _ => none
theorem map_ints {K : PySem.W.Frag} {r : Rh} {H : Hp} : ∀ ns : List Int, Rvs K r H (ns.map DV.int) (ns.map V.int)
  | [] => .nil
  | n :: ns => .cons (.int n) (map_ints ns)
/-- a list that stands still -/
theorem itd_list {K : PySem.W.Frag} {r : Rh} {H : Hp} {a : Addr} {xs : List DV} {vs : List V} (hq : ∀ r' H', Exw r H r' H' → SqL K H' a vs) (rs : Rvs K r H xs vs) : ItD K xs r H (Itl K a) := fun r2 H2 W2 e w =>
  ⟨fun i x ex => by
    obtain ⟨v, ev, rv⟩ := rs.get ex
    refine ⟨⟨vs, v, hq r2 H2 e, ev⟩, fun u H3 y => ?_⟩
    obtain ⟨rfl, y⟩ := y
    have := y vs (hq r2 _ e)
    rw [ev] at this; cases this
    exact ⟨Same.refl _, rv.extw e⟩,
  fun i l => ⟨vs, hq r2 H2 e, by rw [← rs.length]; exact l⟩⟩
theorem itd_tup {K : PySem.W.Frag} {r : Rh} {H : Hp} {a : Addr} {xs : List DV} {vs : List V} (hq : ∀ r' H', Exw r H r' H' → SqT K H' a vs) (rs : Rvs K r H xs vs) : ItD K xs r H (Itt K a) := fun r2 H2 W2 e w =>
  ⟨fun i x ex => by
    obtain ⟨v, ev, rv⟩ := rs.get ex
    refine ⟨⟨vs, v, hq r2 H2 e, ev⟩, fun u H3 y => ?_⟩
    obtain ⟨rfl, y⟩ := y
    have := y vs (hq r2 _ e)
    rw [ev] at this; cases this
    exact ⟨Same.refl _, rv.extw e⟩,
  fun i l => ⟨vs, hq r2 H2 e, by rw [← rs.length]; exact l⟩⟩
section
variable {X : Cx} {tg l : Expr} {F : ES}
theorem di_list (h : DE X l F) : DI X tg l (iD F) := by
  refine pi_imp (pi_list h) ?_
  rintro sg H R ⟨r, env, W, hE, hw, xs, W', e, q⟩
  obtain ⟨x, W1, e1, e⟩ := mb_inv e
  refine ⟨r, env, W, hE, hw, x, W1, e1, fun r1 H1 v x1 w1 rv => ?_⟩
  cases rv with
  | @lst a vs ys ho hl rs =>
    obtain ⟨rfl, rfl⟩ := mr_inv (show mr ys W1 = some (xs, W') from e)
    refine ⟨a, rfl, ⟨vs, .of hl⟩, q r1 H1 _ x1 w1 (itd_list (fun r' H' e' => .of (e'.keep _ _ ho.1 hl)) rs)⟩
  | @scr ns a hs =>
    obtain ⟨rfl, rfl⟩ := mr_inv (show mr (ns.map DV.int) W1 = some (xs, W') from e)
    exact ⟨a, rfl, ⟨_, hs.sq⟩, q r1 H1 _ x1 w1 (itd_list (fun r' H' e' => (hs.extw e').sq) (map_ints ns))⟩
  | _ => cases (show none = some (xs, W') from e)
theorem di_tup (h : DE X l F) : DI X tg l (iT F) := by
  refine pi_imp (pi_tup h) ?_
  rintro sg H R ⟨r, env, W, hE, hw, xs, W', e, q⟩
  obtain ⟨x, W1, e1, e⟩ := mb_inv e
  refine ⟨r, env, W, hE, hw, x, W1, e1, fun r1 H1 v x1 w1 rv => ?_⟩
  cases rv with
  | @tup a vs ys hq rs =>
    obtain ⟨rfl, rfl⟩ := mr_inv (show mr ys W1 = some (xs, W') from e)
    exact ⟨a, rfl, ⟨vs, hq.sq⟩, q r1 H1 _ x1 w1 (itd_tup (fun r' H' e' => (hq.extw e').sq) rs)⟩
  | _ => cases (show none = some (xs, W') from e)
end
/-- lo, lo + 1, .. -/
def upFrom (lo : Int) (n : Nat) : List DV := (List.range n).map fun i => DV.int (lo + (i : Nat))
theorem upFrom_get {lo : Int} {n i : Nat} {x : DV} (h : (upFrom lo n)[i]? = some x) : i < n ∧ x = .int (lo + (i : Nat)) := by
  unfold upFrom at h
  rw [List.getElem?_map] at h
  cases q : (List.range n)[i]? with
  | none => rw [q] at h; cases h
  | some j =>
    rw [q] at h
    obtain ⟨l, e⟩ := List.getElem?_eq_some_iff.mp q
    rw [List.getElem_range] at e
    rw [List.length_range] at l
    subst e
    exact ⟨l, (Option.some.inj h).symm⟩
theorem itd_range {K : PySem.W.Frag} {r : Rh} {H : Hp} {lo : Int} {n : Nat} : ItD K (upFrom lo n) r H (Itr lo n) := fun r2 H2 W2 e w =>
  ⟨fun i x ex => by
    obtain ⟨l, rfl⟩ := upFrom_get ex
    refine ⟨l, fun u H3 y => ?_⟩
    obtain ⟨rfl, rfl⟩ := y
    exact ⟨Same.refl _, .int _⟩,
  fun i l => by
    have z : (upFrom lo n).length = n := by unfold upFrom; rw [List.length_map, List.length_range]
    rw [z] at l; exact l⟩
def rngOk (i : Int) : Bool := decide (-(2 ^ 62) ≤ i ∧ i < 2 ^ 62)
def iR1 (A : EA) : IS := fun env => mb (A env) fun xs => match xs with
  | [.int j] => if rngOk j = true then mr (upFrom 0 j.toNat) else fun _ => none
  | _ => fun _ => none
def iR2 (A : EA) : IS := fun env => mb (A env) fun xs => match xs with
  | [.int i, .int j] => if (rngOk i && rngOk j) = true then mr (upFrom i (j - i).toNat) else fun _ => none
  | _ => fun _ => none
section
variable {X : Cx} {tg a b : Expr} {A : EA} {p pos : Pos}
theorem if_some {α : Type} {c : Bool} {m : M α} {W : Wd} {z : α × Wd} (h : (if c = true then m else fun _ => none) W = some z) : c = true ∧ m W = some z := by
  cases c with
  | true => exact ⟨rfl, h⟩
  | false => cases h
theorem di_range1 (hg : Gl X "range") (hm : X.mg "range" = none) (ha : DA X [a] A) (hs : starEach [a] X.env = [(false, eval a X.env)] := by rfl) (h : PI X tg (.Call (.Name "range" p) [a] [] pos) (iRng1 (tXA X.K A))) : DI X tg (.Call (.Name "range" p) [a] [] pos) (iR1 A) := by
  refine pi_imp h ?_
  rintro sg H R ⟨r, env, W, hE, hw, ys, W', e, q⟩
  obtain ⟨xs, W1, e1, e⟩ := mb_inv e
  refine ⟨r, env, W, hE, hw, xs, W1, e1, fun r1 H1 vs x1 w1 rs => ?_⟩
  try dsimp only at e
  split at e
  · rename_i j
    cases rs with
    | cons r1' rs =>
      cases rs
      obtain rfl := r1'.int_inv
      obtain ⟨c, e⟩ := if_some e
      obtain ⟨rfl, rfl⟩ := mr_inv e
      have c' := of_decide_eq_true c
      exact ⟨j, rfl, c'.1, c'.2, q r1 H1 _ x1 w1 itd_range⟩
  · cases e
theorem di_range2 (h : PI X tg (.Call (.Name "range" p) [a, b] [] pos) (iRng2 (tXA X.K A))) : DI X tg (.Call (.Name "range" p) [a, b] [] pos) (iR2 A) := by
  refine pi_imp h ?_
  rintro sg H R ⟨r, env, W, hE, hw, ys, W', e, q⟩
  obtain ⟨xs, W1, e1, e⟩ := mb_inv e
  refine ⟨r, env, W, hE, hw, xs, W1, e1, fun r1 H1 vs x1 w1 rs => ?_⟩
  try dsimp only at e
  split at e
  · rename_i i j
    cases rs with
    | cons r1' rs =>
      cases rs with
      | cons r2' rs =>
        cases rs
        obtain rfl := r1'.int_inv
        obtain rfl := r2'.int_inv
        obtain ⟨c, e⟩ := if_some e
        obtain ⟨rfl, rfl⟩ := mr_inv e
        rw [Bool.and_eq_true] at c
        have c1 := of_decide_eq_true c.1
        have c2 := of_decide_eq_true c.2
        exact ⟨i, j, rfl, ⟨c1.1, c1.2, c2.1, c2.2⟩, q r1 H1 _ x1 w1 itd_range⟩
  · cases e
end

/-! ### for -/
def sLoop (G : GS) (B : SS) (n : Nat) : List DV → DEnv → M Fl
  | [], env => mr (.nx env)
  | x :: xs, env => mb (G x env) fun env1 => mb (B n env1) fun f => match f with
    | .nx e => sLoop G B n xs e
    | .ct e => sLoop G B n xs e
    | .bk e => mr (.nx e)
    | .rt v => mr (.rt v)
def sFor (I : IS) (G : GS) (B : SS) : SS := fun _ env => mb (I env) fun xs W => sLoop G B W.length xs env W
theorem of_for {K : PySem.W.Frag} {I : IS} {G : GS} {B : SS} {ss : List Nat} : ∀ D sg H, tSS K (sFor I G B) D sg H → tFor (tXI K I) (tXG K ss G) (tSS K B) D sg H := by
  rintro D sg H ⟨r0, H0, r, env, W, x0, hE, hw, f, W', e, q⟩
  obtain ⟨xs, W1, e1, e⟩ := mb_inv e
  refine ⟨r, env, W, hE, hw, xs, W1, e1, fun r1 H1 J x1 w1 it => ?_⟩
  rw [← w1.len] at e
  refine ⟨fun i m sg2 H2 => m = xs.length - i ∧ i ≤ xs.length ∧ ∃ r2 env2 W2, Ext r1 H1 r2 H2 ∧ RelE K r2 H2 env2 sg2 ∧ Hw K r2 H2 W2 ∧ sLoop G B r1.rho.length (xs.drop i) env2 W2 = some (f, W'), ⟨xs.length, by simp, Nat.zero_le _, r1, env, W1, Ext.refl _ _, hE.ext x1, w1, e⟩, ?_⟩
  rintro i m sg2 H2 ⟨rfl, hi, r2, env2, W2, x2, hE2, w2, e2⟩
  obtain ⟨it1, it2⟩ := it r2 H2 W2 x2.w w2
  by_cases hlt : i < xs.length
  · refine .inr ⟨(it1 i xs[i] (List.getElem?_eq_getElem hlt)).1, fun sg3 H3 => i + 1 ≤ xs.length ∧ ∃ r3 env3 W3, Ext r1 H1 r3 H3 ∧ RelE K r3 H3 env3 sg3 ∧ Hw K r3 H3 W3 ∧ sLoop G B r1.rho.length (xs.drop (i + 1)) env3 W3 = some (f, W'), fun sg3 H3 z => ⟨xs.length - (i + 1), by omega, rfl, z.1, z.2⟩, fun v H3 y => ?_⟩
    obtain ⟨sm, rv⟩ := (it1 i xs[i] (List.getElem?_eq_getElem hlt)).2 v H3 y
    rw [List.drop_eq_getElem_cons hlt] at e2
    obtain ⟨env3, W3, e3, e2⟩ := mb_inv e2
    obtain ⟨g, W4, e4, e2⟩ := mb_inv e2
    refine ⟨r2, env2, W2, xs[i], hE2.ext (Ext.of_same sm), w2.same sm, rv, env3, W3, e3, fun r4 H4 sg4 x4 w4 hE4 _ => ?_⟩
    have x4' : Ext r1 H1 r4 H4 := (x2.trans (Ext.of_same sm)).trans x4
    refine ⟨r1, H1, r4, env3, W3, x4', hE4, w4, g, W4, e4, fun r5 H5 x5 w5 => ?_⟩
    cases g with
    | nx en => exact fun sg5 hE5 => ⟨hlt, r5, en, W4, x5, hE5, w5, e2⟩
    | ct en => exact fun sg5 hE5 => ⟨hlt, r5, en, W4, x5, hE5, w5, e2⟩
    | bk en =>
      obtain ⟨rfl, rfl⟩ := mr_inv e2
      exact q r5 H5 ((x0.trans x1).trans x5) w5
    | rt v =>
      obtain ⟨rfl, rfl⟩ := mr_inv e2
      exact q r5 H5 ((x0.trans x1).trans x5) w5
  · have ei : i = xs.length := by omega
    subst ei
    rw [List.drop_length] at e2
    obtain ⟨rfl, rfl⟩ := mr_inv e2
    exact .inl ⟨it2 _ (Nat.le_refl _), q r2 H2 ((x0.trans x1).trans x2) w2 sg2 hE2⟩
section
variable {X : Cx} {tg iter : Expr} {body : List Stmt} {I : IS} {G : GS} {B : SS} {pos : Pos} {ss : List Nat}
theorem ds_for (hp : PassesOwn (model X.prog X.w) X.A X.env X.xe) (hc : X.calm = true) (hi : DI X tg iter I) (hg : DG X ss tg G) (hb : DSs X body B) (hs : ∀ x, foldedSetIterable iter X.env x = pure x := by intro _; rfl) : DS X (.For tg iter body [] pos) (sFor I G B) :=
  ps_imp (ps_for hp hc hi hg hb hs) of_for
end

/-! ### list comprehensions -/
def wipeD (env : DEnv) : List Nat → DEnv
  | [] => env
  | v :: vs => (wipeD env vs).set v none
theorem RelE.wipe {K : PySem.W.Frag} {r : Rh} {H : Hp} {env : DEnv} {sg : St} (h : RelE K r H env sg) : ∀ ss : List Nat, RelE K r H (wipeD env ss) (wipe sg ss)
  | [] => h
  | v :: ss => by
    have t := RelE.wipe h ss
    refine ⟨by show ((wipeD env ss).set v none).length = ((L2.wipe sg ss).set v none).length; rw [List.length_set, List.length_set]; exact t.1, fun i x e => ?_⟩
    have e' : ((wipeD env ss).set v none)[i]? = some (some x) := e
    show ∃ u, ((L2.wipe sg ss).set v none)[i]? = some (some u) ∧ _
    by_cases hi : v = i
    · subst hi
      by_cases hv : v < (wipeD env ss).length
      · rw [List.getElem?_set_self hv] at e'; cases e'
      · rw [List.getElem?_eq_none (by simpa using hv)] at e'; cases e'
    · rw [List.getElem?_set_ne hi] at e' ⊢
      exact t.2 i x e'
/-- the items made so far are acc -/
def cLoop (G : GS) (B : EB) (F : ES) (env : DEnv) : List DV → List DV → M (List DV)
  | [], acc => mr acc
  | x :: xs, acc => mb (G x env) fun env1 => mb (B env1) fun b => if b = true then mb (F env1) fun y => if (acc.length < sizeLine) then cLoop G B F env xs (acc ++ [y]) else fun _ => none else cLoop G B F env xs acc
def eComp (ss : List Nat) (I : IS) (G : GS) (B : EB) (F : ES) : ES := fun env => mb (I env) fun xs => mb (cLoop G B F (wipeD env ss) xs []) fun ys => mr (.lst ys)
theorem wipe_wipe (sg : St) : ∀ ss : List Nat, wipe (wipe sg ss) ss = wipe sg ss := fun ss => by
  have : ∀ (us : List Nat), (∀ u ∈ us, u ∈ ss) → wipe (wipe sg us) ss = wipe sg ss := by
    intro us
    induction us with
    | nil => intro _; rfl
    | cons u us ih =>
      intro h
      show wipe ((wipe sg us).set u none) ss = wipe sg ss
      rw [wipe_set (h u List.mem_cons_self)]
      exact ih fun v hv => h v (List.mem_cons_of_mem _ hv)
  exact this ss fun u hu => hu
section
variable {K : PySem.W.Frag} {r : Rh} {H : Hp} {D a : Addr} {o u : HO} {vs : List V}
theorem Rd.unhid (z : (⟨r.rho, D :: r.hid⟩ : Rh).out a) (h : Rd H a u) : Rd (upd H D o) a u := by
  have ne : a ≠ D := fun e => z.2 (by rw [e]; exact List.mem_cons_self)
  rcases h with h | ⟨w, h⟩
  · exact .inl (by rw [upd_ne ne]; exact h)
  · exact .inr ⟨w, by rw [upd_ne ne]; exact h⟩
theorem SQ.unhid (h : SQ K ⟨r.rho, D :: r.hid⟩ H a vs) : SQ K ⟨r.rho, D :: r.hid⟩ (upd H D o) a vs := by
  rcases h with ⟨z, h⟩ | h
  · exact .inl ⟨z, Rd.unhid z h⟩
  · exact .inr h
theorem TQ.unhid (h : TQ K ⟨r.rho, D :: r.hid⟩ H a vs) : TQ K ⟨r.rho, D :: r.hid⟩ (upd H D o) a vs := by
  rcases h with ⟨z, h⟩ | h
  · exact .inl ⟨z, by rw [upd_ne (fun e => z.2 (by rw [e]; exact List.mem_cons_self))]; exact h⟩
  · exact .inr h
theorem Rd.hide (hD : H D = none) (z : r.out a) (h : Rd H a u) : (⟨r.rho, D :: r.hid⟩ : Rh).out a ∧ Rd (upd H D o) a u := by
  have ne : a ≠ D := by
    rcases h with h | ⟨w, h⟩
    · exact ne_of_none h hD
    · exact ne_of_none h hD
  refine ⟨⟨z.1, fun m => ?_⟩, ?_⟩
  · rcases List.mem_cons.mp m with e | e
    · exact ne e
    · exact z.2 e
  · rcases h with h | ⟨w, h⟩
    · exact .inl (by rw [upd_ne ne]; exact h)
    · exact .inr ⟨w, by rw [upd_ne ne]; exact h⟩
theorem SQ.hide (hD : H D = none) (h : SQ K r H a vs) : SQ K ⟨r.rho, D :: r.hid⟩ (upd H D o) a vs := by
  rcases h with ⟨z, h⟩ | h
  · exact .inl (Rd.hide hD z h)
  · exact .inr h
theorem TQ.hide (hD : H D = none) (h : TQ K r H a vs) : TQ K ⟨r.rho, D :: r.hid⟩ (upd H D o) a vs := by
  rcases h with ⟨z, h⟩ | h
  · exact .inl ⟨(Rd.hide (o := o) hD z (.inl h)).1, by rw [upd_ne (ne_of_none h hD)]; exact h⟩
  · exact .inr h
end
theorem out_hide {r : Rh} {H : Hp} {D a : Addr} {o : HO} (hD : H D = none) (z : r.out a) (h : H a = some o) : (⟨r.rho, D :: r.hid⟩ : Rh).out a := ⟨z.1, fun m => by
  rcases List.mem_cons.mp m with e | e
  · exact ne_of_none h hD e
  · exact z.2 e⟩
mutual
/-- data do not speak of a hidden object: it may be changed -/
theorem Rv.unhid {K : PySem.W.Frag} {r : Rh} {H : Hp} {D : Addr} {o : HO} (n : some D ∉ r.rho) : ∀ {x : DV} {v : V}, Rv K ⟨r.rho, D :: r.hid⟩ H x v → Rv K ⟨r.rho, D :: r.hid⟩ (upd H D o) x v
  | _, _, .non => .non
  | _, _, .bl b => .bl b
  | _, _, .int i => .int i
  | _, _, .str s => .str s
  | _, _, .cst v => .cst v
  | _, _, .loc h => .loc h
  | _, _, .scr h => .scr (SQ.unhid h)
  | _, _, .tup h q => .tup (TQ.unhid h) (Rvs.unhid n q)
  | _, _, .lst z h q => .lst z (by rw [upd_ne (fun e => z.2 (by rw [e]; exact List.mem_cons_self))]; exact h) (Rvs.unhid n q)
  | _, _, .gl c => .gl c
  | _, _, .exc0 c z h => .exc0 c z (by rw [upd_ne (fun e => z.2 (by rw [e]; exact List.mem_cons_self))]; exact h)
  | _, _, .excD c z h y g l q => .excD c z (by rw [upd_ne (fun e => z.2 (by rw [e]; exact List.mem_cons_self))]; exact h) y (by rw [upd_ne (fun e => y.2 (by rw [e]; exact List.mem_cons_self))]; exact g) l (Rvs.unhid n q)
theorem Rvs.unhid {K : PySem.W.Frag} {r : Rh} {H : Hp} {D : Addr} {o : HO} (n : some D ∉ r.rho) : ∀ {xs : List DV} {vs : List V}, Rvs K ⟨r.rho, D :: r.hid⟩ H xs vs → Rvs K ⟨r.rho, D :: r.hid⟩ (upd H D o) xs vs
  | _, _, .nil => .nil
  | _, _, .cons h q => .cons (Rv.unhid n h) (Rvs.unhid n q)
end
mutual
theorem Rv.hide {K : PySem.W.Frag} {r : Rh} {H : Hp} {D : Addr} {o : HO} (hD : H D = none) : ∀ {x : DV} {v : V}, Rv K r H x v → Rv K ⟨r.rho, D :: r.hid⟩ (upd H D o) x v
  | _, _, .non => .non
  | _, _, .bl b => .bl b
  | _, _, .int i => .int i
  | _, _, .str s => .str s
  | _, _, .cst v => .cst v
  | _, _, .loc h => .loc h
  | _, _, .scr h => .scr (SQ.hide hD h)
  | _, _, .tup h q => .tup (TQ.hide hD h) (Rvs.hide hD q)
  | _, _, .lst z h q => .lst ⟨z.1, fun m => by
        rcases List.mem_cons.mp m with e | e
        · exact ne_of_none h hD e
        · exact z.2 e⟩ (by rw [upd_ne (ne_of_none h hD)]; exact h) (Rvs.hide hD q)
  | _, _, .gl c => .gl c
  | _, _, .exc0 c z h => .exc0 c (out_hide hD z h) (by rw [upd_ne (ne_of_none h hD)]; exact h)
  | _, _, .excD c z h y g l q => .excD c (out_hide hD z h) (by rw [upd_ne (ne_of_none h hD)]; exact h) (out_hide hD y g) (by rw [upd_ne (ne_of_none g hD)]; exact g) l (Rvs.hide hD q)
theorem Rvs.hide {K : PySem.W.Frag} {r : Rh} {H : Hp} {D : Addr} {o : HO} (hD : H D = none) : ∀ {xs : List DV} {vs : List V}, Rvs K r H xs vs → Rvs K ⟨r.rho, D :: r.hid⟩ (upd H D o) xs vs
  | _, _, .nil => .nil
  | _, _, .cons h q => .cons (Rv.hide hD h) (Rvs.hide hD q)
end
mutual
theorem Rv.show {K : PySem.W.Frag} {r : Rh} {H : Hp} {D : Addr} : ∀ {x : DV} {v : V}, Rv K ⟨r.rho, D :: r.hid⟩ H x v → Rv K r H x v
  | _, _, .non => .non
  | _, _, .bl b => .bl b
  | _, _, .int i => .int i
  | _, _, .str s => .str s
  | _, _, .cst v => .cst v
  | _, _, .loc h => .loc h
  | _, _, .scr h => .scr (by
      rcases h with ⟨z, h⟩ | h
      · exact .inl ⟨⟨z.1, fun m => z.2 (List.mem_cons_of_mem _ m)⟩, h⟩
      · exact .inr h)
  | _, _, .tup h q => .tup (by
      rcases h with ⟨z, h⟩ | h
      · exact .inl ⟨⟨z.1, fun m => z.2 (List.mem_cons_of_mem _ m)⟩, h⟩
      · exact .inr h) (Rvs.show q)
  | _, _, .lst z h q => .lst ⟨z.1, fun m => z.2 (List.mem_cons_of_mem _ m)⟩ h (Rvs.show q)
  | _, _, .gl c => .gl c
  | _, _, .exc0 c z h => .exc0 c ⟨z.1, fun m => z.2 (List.mem_cons_of_mem _ m)⟩ h
  | _, _, .excD c z h y g l q => .excD c ⟨z.1, fun m => z.2 (List.mem_cons_of_mem _ m)⟩ h ⟨y.1, fun m => y.2 (List.mem_cons_of_mem _ m)⟩ g l (Rvs.show q)
theorem Rvs.show {K : PySem.W.Frag} {r : Rh} {H : Hp} {D : Addr} : ∀ {xs : List DV} {vs : List V}, Rvs K ⟨r.rho, D :: r.hid⟩ H xs vs → Rvs K r H xs vs
  | _, _, .nil => .nil
  | _, _, .cons h q => .cons (Rv.show h) (Rvs.show q)
end
end DL
end L2

set_option maxRecDepth 100000
/-! DLd: list comprehensions, a def's end, freezing. -/
namespace L2
namespace DL
open PySem PySem.Spec PyProof.Rows

section
variable {K : PySem.W.Frag} {rho : List (Option Addr)} {hid : List Addr} {H : Hp} {D : Addr} {o : HO} {W : Wd}
theorem CellOk.unhid {a : Addr} {c : Cell} (n : some D ∉ rho) (ne : a ≠ D) (h : CellOk K ⟨rho, D :: hid⟩ H a c) : CellOk K ⟨rho, D :: hid⟩ (upd H D o) a c := by
  cases c with
  | dead => exact h
  | lst xs => obtain ⟨vs, q, z⟩ := h; exact ⟨vs, by rw [upd_ne ne]; exact q, Rvs.unhid (r := ⟨rho, hid⟩) n z⟩
theorem Hw.hidnot (h : Hw K ⟨rho, D :: hid⟩ H W) : some D ∉ rho := fun m => h.sep D m List.mem_cons_self
theorem Hw.unhid (h : Hw K ⟨rho, D :: hid⟩ H W) : Hw K ⟨rho, D :: hid⟩ (upd H D o) W where
  len := h.len
  nd := h.nd
  live := h.live
  sep := h.sep
  hd := fun a m => by
    by_cases e : a = D
    · subst e; exact ⟨o, upd_same⟩
    · obtain ⟨u, q⟩ := h.hd a m
      exact ⟨u, by rw [upd_ne e]; exact q⟩
  ok := fun i a c e1 e2 => CellOk.unhid h.hidnot (fun e => h.hidnot (by rw [← e]; exact mem_of e1)) (h.ok i a c e1 e2)
theorem CellOk.hide {a : Addr} {c : Cell} (hD : H D = none) (h : CellOk K ⟨rho, hid⟩ H a c) : CellOk K ⟨rho, D :: hid⟩ (upd H D o) a c := by
  cases c with
  | dead => exact h
  | lst xs => obtain ⟨vs, q, z⟩ := h; exact ⟨vs, by rw [upd_ne (ne_of_none q hD)]; exact q, Rvs.hide (r := ⟨rho, hid⟩) hD z⟩
theorem Hw.hide (h : Hw K ⟨rho, hid⟩ H W) (hD : H D = none) : Hw K ⟨rho, D :: hid⟩ (upd H D o) W where
  len := h.len
  nd := h.nd
  live := h.live
  sep := fun a m => by
    intro z
    rcases List.mem_cons.mp z with e | e
    · exact h.notin hD (by rw [← e]; exact m)
    · exact h.sep a m e
  hd := fun a m => by
    rcases List.mem_cons.mp m with e | e
    · rw [e]; exact ⟨o, upd_same⟩
    · obtain ⟨u, q⟩ := h.hd a e
      exact ⟨u, by rw [upd_ne (ne_of_none q hD)]; exact q⟩
  ok := fun i a c e1 e2 => CellOk.hide hD (h.ok i a c e1 e2)
theorem CellOk.show {a : Addr} {c : Cell} (h : CellOk K ⟨rho, D :: hid⟩ H a c) : CellOk K ⟨rho, hid⟩ H a c := by
  cases c with
  | dead => exact h
  | lst xs => obtain ⟨vs, q, z⟩ := h; exact ⟨vs, q, Rvs.show (r := ⟨rho, hid⟩) z⟩
theorem Hw.show (h : Hw K ⟨rho, D :: hid⟩ H W) : Hw K ⟨rho, hid⟩ H W where
  len := h.len
  nd := h.nd
  live := h.live
  sep := fun a m z => h.sep a m (List.mem_cons_of_mem _ z)
  hd := fun a m => h.hd a (List.mem_cons_of_mem _ m)
  ok := fun i a c e1 e2 => (h.ok i a c e1 e2).show
theorem RelE.unhid {env : DEnv} {sg : St} (n : some D ∉ rho) (h : RelE K ⟨rho, D :: hid⟩ H env sg) : RelE K ⟨rho, D :: hid⟩ (upd H D o) env sg := ⟨h.1, fun i x q => by
  obtain ⟨v, a, z⟩ := h.2 i x q
  exact ⟨v, a, Rv.unhid (r := ⟨rho, hid⟩) n z⟩⟩
theorem RelE.hide {env : DEnv} {sg : St} (hD : H D = none) (h : RelE K ⟨rho, hid⟩ H env sg) : RelE K ⟨rho, D :: hid⟩ (upd H D o) env sg := ⟨h.1, fun i x q => by
  obtain ⟨v, a, z⟩ := h.2 i x q
  exact ⟨v, a, Rv.hide (r := ⟨rho, hid⟩) hD z⟩⟩
end

/-- what stands between two turns of a comprehension whose list grows at D -/
structure CInv (K : PySem.W.Frag) (r1 : Rh) (H1 : Hp) (D : Addr) (env : DEnv) (sg : St) (acc : List DV) (rho : List (Option Addr)) (W : Wd) (H : Hp) : Prop where
  x : Ext r1 H1 ⟨rho, r1.hid⟩ H
  d : ∃ avs, H D = some (.lst avs) ∧ Rvs K ⟨rho, D :: r1.hid⟩ H acc avs
  e : RelE K ⟨rho, D :: r1.hid⟩ H env sg
  w : Hw K ⟨rho, D :: r1.hid⟩ H W
theorem of_comp {K : PySem.W.Frag} {I : IS} {G : GS} {B : EB} {F : ES} {ss : List Nat} : ∀ sg H Q, tX K (eComp ss I G B F) sg H Q → tLc (tXI K I) (tXG K ss G) (tXB K B) (tX K F) ss sg H Q := by
  rintro sg H Q ⟨r, env, W, hE, hw, z, W', e, q⟩
  obtain ⟨xs, W1, e1, e⟩ := mb_inv e
  obtain ⟨ys, W2, e2, e⟩ := mb_inv e
  obtain ⟨rfl, rfl⟩ := mr_inv e
  refine ⟨r, env, W, hE, hw, xs, W1, e1, fun r1 H1 J x1 w1 it D hD => ?_⟩
  refine ⟨fun i m H2 => m = xs.length - i ∧ i ≤ xs.length ∧ ∃ acc rho W2, CInv K r1 H1 D (wipeD env ss) (wipe sg ss) acc rho W2 H2 ∧ cLoop G B F (wipeD env ss) (xs.drop i) acc W2 = some (ys, W'),
    ⟨xs.length, by simp, Nat.zero_le _, [], r1.rho, W1, ⟨Ext.laid hD, ⟨[], upd_same, .nil⟩, RelE.hide hD ((hE.ext x1).wipe ss), Hw.hide w1 hD⟩, e2⟩, ?_⟩
  rintro i m H2 ⟨rfl, hi, acc, rho, W2, iv, e3⟩
  obtain ⟨avs, hDa, ra⟩ := iv.d
  have nD : some D ∉ rho := iv.w.hidnot
  have xw : Exw r1 H1 ⟨rho, D :: r1.hid⟩ H2 := ⟨iv.x.get, iv.x.new, fun a ma na => by
    rcases List.mem_cons.mp ma with z | z
    · rw [z]; exact hD
    · exact absurd z na, iv.x.keep⟩
  obtain ⟨it1, it2⟩ := it ⟨rho, D :: r1.hid⟩ H2 W2 xw iv.w
  by_cases hlt : i < xs.length
  · refine .inr ⟨(it1 i xs[i] (List.getElem?_eq_getElem hlt)).1, fun H3 => i + 1 ≤ xs.length ∧ ∃ acc rho W2, CInv K r1 H1 D (wipeD env ss) (wipe sg ss) acc rho W2 H3 ∧ cLoop G B F (wipeD env ss) (xs.drop (i + 1)) acc W2 = some (ys, W'), fun H3 z => ⟨xs.length - (i + 1), by omega, rfl, z.1, z.2⟩, fun v H3 y => ?_⟩
    obtain ⟨sm, rv⟩ := (it1 i xs[i] (List.getElem?_eq_getElem hlt)).2 v H3 y
    rw [List.drop_eq_getElem_cons hlt] at e3
    obtain ⟨env1, W3, e4, e3⟩ := mb_inv e3
    obtain ⟨b, W4, e5, e3⟩ := mb_inv e3
    have x0 : Ext (⟨rho, D :: r1.hid⟩ : Rh) H2 ⟨rho, D :: r1.hid⟩ H3 := Ext.of_same sm
    refine ⟨_, wipeD env ss, W2, xs[i], iv.e.ext x0, iv.w.same sm, rv, env1, W3, e4, fun r4 H4 sg4 x4 w4 hE4 hq4 => ⟨hq4.trans (wipe_wipe sg ss), ?_⟩⟩
    refine ⟨r4, env1, W3, hE4, w4, b, W4, e5, fun r5 H5 x5 w5 => ?_⟩
    -- back from a later state in which D is hidden
    have back : ∀ (r6 : Rh) (H6 : Hp), Ext (⟨rho, D :: r1.hid⟩ : Rh) H2 r6 H6 → r6 = ⟨r6.rho, D :: r1.hid⟩ ∧ Ext r1 H1 ⟨r6.rho, r1.hid⟩ H6 ∧ H6 D = some (.lst avs) ∧ Rvs K r6 H6 acc avs ∧ RelE K r6 H6 (wipeD env ss) (wipe sg ss) := fun r6 H6 x6 => by
      obtain ⟨rho6, hid6⟩ := r6
      obtain rfl : hid6 = D :: r1.hid := x6.hid
      refine ⟨rfl, ⟨rfl, fun j a q => x6.get j a (iv.x.get j a q), Nat.le_trans iv.x.len x6.len, fun a ma na => ?_, fun a u na qa => x6.keep a u (iv.x.notin qa na) (iv.x.keep a u na qa)⟩, x6.keep D _ nD hDa, ra.ext x6, iv.e.ext x6⟩
      by_cases mm : some a ∈ rho
      · exact iv.x.new a mm na
      · cases qa : H1 a with
        | none => rfl
        | some u =>
          have z := x6.new a ma mm
          rw [iv.x.keep a u na qa] at z; cases z
    cases b with
    | false =>
      refine iteF ?_
      obtain ⟨k1, k2, k3, k4, k5⟩ := back r5 H5 ((x0.trans x4).trans x5)
      rw [k1] at k4 k5 w5
      exact ⟨hlt, acc, r5.rho, W4, ⟨k2, ⟨avs, k3, k4⟩, k5, w5⟩, e3⟩
    | true =>
      refine iteT ?_
      obtain ⟨y', W5, e6, e3⟩ := mb_inv (show mb (F env1) _ W4 = some (ys, W') from e3)
      refine ⟨r5, env1, W4, hE4.ext x5, w5, y', W5, e6, fun r6 H6 u x6 w6 ru => ?_⟩
      obtain ⟨k1, k2, k3, k4, k5⟩ := back r6 H6 (((x0.trans x4).trans x5).trans x6)
      rw [k1] at k4 k5 w6 ru
      have n6 : some D ∉ r6.rho := w6.hidnot
      by_cases c : acc.length < sizeLine
      · rw [if_pos c] at e3
        refine ⟨avs, k3, by rw [← ra.length]; exact c, hlt, acc ++ [y'], r6.rho, W5, ⟨?_, ⟨avs ++ [u], upd_same, ?_⟩, RelE.unhid n6 k5, Hw.unhid w6⟩, e3⟩
        · exact ⟨rfl, k2.get, k2.len, k2.new, fun a o na qa => by rw [upd_ne (ne_of_none qa hD)]; exact k2.keep a o na qa⟩
        · exact (Rvs.unhid (r := ⟨r6.rho, r1.hid⟩) n6 k4).append (.cons (Rv.unhid (r := ⟨r6.rho, r1.hid⟩) n6 ru) .nil)
      · rw [if_neg c] at e3; cases e3
  · have ei : i = xs.length := by omega
    subst ei
    rw [List.drop_length] at e3
    obtain ⟨rfl, rfl⟩ := mr_inv e3
    refine .inl ⟨it2 _ (Nat.le_refl _), q ⟨rho, r1.hid⟩ H2 _ (x1.trans iv.x) (Hw.show iv.w) (.lst ⟨nD, fun m => ?_⟩ hDa (Rvs.show (r := ⟨rho, r1.hid⟩) ra))⟩
    obtain ⟨o, q⟩ := w1.hd D m
    rw [hD] at q; cases q
section
variable {X : Cx} {elt tg iter : Expr} {ifs : List Expr} {scope : Scope} {own : List (Str × Nat)} {pos : Pos} {I : IS} {G : GS} {B : EB} {F : ES}
abbrev DTs (X : Cx) (ifs : List Expr) (B : EB) : Prop := PTs X ifs (tXB X.K B)
def bYes : EB := fun _ => mr true
theorem dts_nil : DTs X [] bYes := ⟨fun _ _ _ H Q I h => wpAny_tests_nil ⟨H, I, by
  obtain ⟨r, env, W, hE, hw, b, W', e, q⟩ := h
  obtain ⟨rfl, rfl⟩ := mr_inv e
  exact q r H (Ext.refl _ _) hw⟩⟩
theorem dts_one {c : Expr} (h : DT X c B) : DTs X [c] B := pts_one h
theorem de_comp (hc : X.calm = true) (hN : X.N.Nodup) (hi : DI X tg iter I) (ok : BlkOk X.N X.env.scope scope own)
    (hg : ∀ (s : Shared) (H : Hp) (C : Addr) (cl : List (Str × Addr)) (fp : List Addr), DG (X.blk s H scope (compEnvC scope cl C X.env) fp) (own.map (·.2)) tg G) (ht : ∀ (s : Shared) (H : Hp) (C : Addr) (cl : List (Str × Addr)) (fp : List Addr), DTs (X.blk s H scope (compEnvC scope cl C X.env) fp) ifs B)
    (he : ∀ (s : Shared) (H : Hp) (C : Addr) (cl : List (Str × Addr)) (fp : List Addr), DE (X.blk s H scope (compEnvC scope cl C X.env) fp) elt F) (hs : ∀ x, foldedSetIterable iter X.env x = pure x := by intro _; rfl) :
    DE X (.ListComp elt [⟨tg, iter, ifs, 0⟩] scope pos) (eComp (own.map (·.2)) I G B F) := pe_imp (pe_lc hc hN hi ok hg ht he hs) of_comp
theorem ds_setLc {i : Nat} {y : Str} {py spos : Pos} (hc : X.calm = true) (hN : X.N.Nodup) (hy : X.N[i]? = some y) (hyl : X.env.scope.names.lookup y = some .local)
    (hsw : swapsWith (.ListComp elt [⟨tg, iter, ifs, 0⟩] scope pos) (some (.Name y py)) spos.line X.env = pure true) (hi : DI X tg iter I) (ok : BlkOk X.N X.env.scope scope own)
    (hg : ∀ (s : Shared) (H : Hp) (C : Addr) (cl : List (Str × Addr)) (fp : List Addr), DG (X.blk s H scope (compEnvC scope cl C X.env) fp) (own.map (·.2)) tg G) (ht : ∀ (s : Shared) (H : Hp) (C : Addr) (cl : List (Str × Addr)) (fp : List Addr), DTs (X.blk s H scope (compEnvC scope cl C X.env) fp) ifs B)
    (he : ∀ (s : Shared) (H : Hp) (C : Addr) (cl : List (Str × Addr)) (fp : List Addr), DE (X.blk s H scope (compEnvC scope cl C X.env) fp) elt F) (hs : ∀ x, foldedSetIterable iter X.env x = pure x := by intro _; rfl) :
    DS X (.Assign [.Name y py] (.ListComp elt [⟨tg, iter, ifs, 0⟩] scope pos) spos) (sAsg (eComp (own.map (·.2)) I G B F) (gN i)) := by
  refine ps_imp (ps_setLc (g := tXG X.K (own.map (·.2)) G) (tt := tXB X.K B) (te := tX X.K F) hc hN hy hyl hsw hi ok hg ht he hs) fun D sg H h => ?_
  obtain ⟨r, env, W, hE, hw, x, W', e, q⟩ := of_asg (ss := [i]) D sg H h
  refine of_comp sg H _ ⟨r, env, W, hE, hw, x, W', e, fun r' H' v x' w' rv => of_gname (ss := [i]) (List.mem_singleton.mpr rfl) _ _ _ _ (q r' H' v x' w' rv)⟩
end

/-! ### a def's end: cells of its own that nobody speaks of are dropped -/
mutual
def DV.lo (n : Nat) : DV → Bool
  | .loc i => decide (i < n)
  | .tup xs => DV.loL n xs
  | .lst xs => DV.loL n xs
  | .exc _ _ xs => DV.loL n xs
  | _ => true
def DV.loL (n : Nat) : List DV → Bool
  | [] => true
  | x :: xs => DV.lo n x && DV.loL n xs
end
def Cell.lo (n : Nat) : Cell → Bool
  | .dead => true
  | .lst xs => DV.loL n xs
def fin (n : Nat) (x : DV) (W : Wd) : Option (DV × Wd) := if W.length = n then some (x, W) else if (x.lo n && (W.take n).all (Cell.lo n)) = true then some (x, W.take n) else some (x, W)
section
variable {K : PySem.W.Frag} {rho : List (Option Addr)} {hid : List Addr} {H : Hp} {n : Nat}
theorem out_take {a : Addr} (h : (⟨rho, hid⟩ : Rh).out a) : (⟨rho.take n, hid⟩ : Rh).out a := ⟨fun m => h.1 (List.mem_of_mem_take m), h.2⟩
mutual
theorem Rv.cut : ∀ {x : DV} {v : V}, x.lo n = true → Rv K ⟨rho, hid⟩ H x v → Rv K ⟨rho.take n, hid⟩ H x v
  | _, _, _, .non => .non
  | _, _, _, .bl b => .bl b
  | _, _, _, .int i => .int i
  | _, _, _, .str s => .str s
  | _, _, _, .cst v => .cst v
  | .loc i, _, b, .loc h => .loc (by
      have l : i < n := of_decide_eq_true b
      show (rho.take n)[i]? = _
      rw [List.getElem?_take]
      rw [if_pos l]; exact h)
  | _, _, _, .scr h => .scr (by
      rcases h with ⟨z, h⟩ | h
      · exact .inl ⟨out_take z, h⟩
      · exact .inr h)
  | .tup xs, _, b, .tup h q => .tup (by
      rcases h with ⟨z, h⟩ | h
      · exact .inl ⟨out_take z, h⟩
      · exact .inr h) (Rvs.cut (show DV.loL n xs = true from b) q)
  | .lst xs, _, b, .lst z h q => .lst (out_take z) h (Rvs.cut (show DV.loL n xs = true from b) q)
  | _, _, _, .gl c => .gl c
  | .exc _ _ _, _, _,  .exc0 c z h => .exc0 c (out_take z) h
  | .exc _ _ xs, _, b, .excD c z h y g l q => .excD c (out_take z) h (out_take y) g l (Rvs.cut (show DV.loL n xs = true from b) q)
theorem Rvs.cut : ∀ {xs : List DV} {vs : List V}, DV.loL n xs = true → Rvs K ⟨rho, hid⟩ H xs vs → Rvs K ⟨rho.take n, hid⟩ H xs vs
  | _, _, _, .nil => .nil
  | x :: xs, _, b, .cons h q => .cons (Rv.cut (Bool.and_eq_true_iff.mp (show (x.lo n && DV.loL n xs) = true from b)).1 h) (Rvs.cut (Bool.and_eq_true_iff.mp (show (x.lo n && DV.loL n xs) = true from b)).2 q)
end
theorem take_get {α : Type} {l : List α} {i : Nat} {a : α} (h : (l.take n)[i]? = some a) : l[i]? = some a ∧ i < n := by
  rw [List.getElem?_take] at h
  split at h
  · rename_i l; exact ⟨h, l⟩
  · cases h
theorem Hw.cut {W : Wd} (h : Hw K ⟨rho, hid⟩ H W) (b : (W.take n).all (Cell.lo n) = true) : Hw K ⟨rho.take n, hid⟩ H (W.take n) where
  len := by show (rho.take n).length = (W.take n).length; rw [List.length_take, List.length_take]; exact congrArg _ h.len
  nd := fun i j a e1 e2 => h.nd i j a (take_get e1).1 (take_get e2).1
  live := fun i c e nd => by
    obtain ⟨e', l⟩ := take_get e
    obtain ⟨a, q⟩ := h.live i c e' nd
    refine ⟨a, ?_⟩
    show (rho.take n)[i]? = _
    rw [List.getElem?_take, if_pos l]; exact q
  sep := fun a m => h.sep a (List.mem_of_mem_take m)
  hd := h.hd
  ok := fun i a c e1 e2 => by
    have k := h.ok i a c (take_get e1).1 (take_get e2).1
    have bc : c.lo n = true := List.all_eq_true.mp b c (mem_of e2)
    cases c with
    | dead => exact k
    | lst xs => obtain ⟨vs, q, z⟩ := k; exact ⟨vs, q, Rvs.cut bc z⟩
theorem Ext.cut {r0 : Rh} {H0 : Hp} {r : Rh} (x : Ext r0 H0 r H) : Ext r0 H0 ⟨r.rho.take r0.rho.length, r.hid⟩ H where
  hid := x.hid
  get := fun i a q => by
    obtain ⟨l, _⟩ := List.getElem?_eq_some_iff.mp q
    show (r.rho.take r0.rho.length)[i]? = _
    rw [List.getElem?_take, if_pos l]; exact x.get i a q
  len := by
    show _ ≤ (r.rho.take _).length
    rw [List.length_take]
    exact Nat.le_min.mpr ⟨Nat.le_refl _, x.len⟩
  new := fun a m na => x.new a (List.mem_of_mem_take m) na
  keep := x.keep
end
theorem fin_ok {K : PySem.W.Frag} {r0 : Rh} {H0 : Hp} {r : Rh} {H : Hp} {W W' : Wd} {x y : DV} {v : V} (x0 : Ext r0 H0 r H) (w : Hw K r H W) (rv : Rv K r H x v) (e : fin r0.rho.length x W = some (y, W')) :
    ∃ r', Ext r0 H0 r' H ∧ Hw K r' H W' ∧ Rv K r' H y v := by
  obtain ⟨rho, hid⟩ := r
  unfold fin at e
  split at e
  · cases e; exact ⟨_, x0, w, rv⟩
  · split at e
    · rename_i c
      cases e
      rw [Bool.and_eq_true] at c
      exact ⟨⟨rho.take r0.rho.length, hid⟩, x0.cut, w.cut c.2, rv.cut c.1⟩
    · cases e; exact ⟨_, x0, w, rv⟩

/-! ### a def -/
def runF (nN : Nat) (S : SS) : List DV → M DV := fun xs W => match S W.length (xs.map some ++ List.replicate (nN - xs.length) none) W with
  | some (.rt x, W') => fin W.length x W'
  | some (.nx _, W') => fin W.length .non W'
  | _ => none
theorem rel_start {K : PySem.W.Frag} {r : Rh} {H : Hp} {N : List Str} {xs : List DV} {vs : List V} (h : Rvs K r H xs vs) : RelE K r H (xs.map some ++ List.replicate (N.length - xs.length) none) (start N vs) := by
  have l := h.length
  refine ⟨by unfold start; rw [List.length_append, List.length_append, List.length_map, List.length_map, List.length_replicate, List.length_replicate, l], fun i x e => ?_⟩
  unfold start
  by_cases hi : i < xs.length
  · rw [List.getElem?_append_left (by rw [List.length_map]; exact hi), List.getElem?_map] at e
    cases q : xs[i]? with
    | none => rw [q] at e; cases e
    | some y =>
      rw [q] at e
      have e' : y = x := Option.some.inj (Option.some.inj e)
      subst e'
      obtain ⟨v, e2, rv⟩ := h.get q
      exact ⟨v, by rw [List.getElem?_append_left (by rw [List.length_map, ← l]; exact hi), List.getElem?_map, e2]; rfl, rv⟩
  · rw [List.getElem?_append_right (by rw [List.length_map]; omega)] at e
    have m := mem_of e
    have := (List.mem_replicate.mp m).2
    cases this
theorem fnD {P : Program} {w : PySem.World} {K : PySem.W.Frag} {mg : Str → Option Value} {base : Heap} {x qual : Str} {st : Stmt} {f : Addr} {fd : FuncData} {N ps : List Str} {k : Nat} {S : SS} (F : Fun K x qual st f fd) (Sc : FnScope N ps (defScope st))
    (hb : ∀ (cdv : Value) (A : Around) (out : List Env) (s : Shared) (H : Hp) (E : XK), Rm k (A.deeper (envOfC qual (defScope st) s.heap.objs.size f cdv)) → DSs (cxOf CX0 P w K mg base N qual (defScope st) f cdv A out s H E).nox (defBody st) S) :
    FnG P w K mg base CX0 (k + 1) f fd ps (spD K ps.length (runF N.length S)) := by
  refine fnG_of F Sc (fun vs H Q E h => ?_) (fun cdv A out s H vs Q E hr h => ?_)
  · obtain ⟨r, W, xs, l, hw, rs, _⟩ := h
    rw [← rs.length]; exact l
  · obtain ⟨r, W, xs, l, hw, rs, z, W', e, q⟩ := h
    refine ⟨_, (hb cdv A out s H E hr).nox, ?_⟩
    unfold runF at e
    rw [← hw.len] at e
    refine ⟨r, H, r, _, W, Ext.refl _ _, rel_start rs, hw, ?_⟩
    split at e
    · rename_i y W1 e1
      refine ⟨_, _, e1, fun r1 H1 x1 w1 v rv => ?_⟩
      obtain ⟨r2, k1, k2, k3⟩ := fin_ok x1 w1 rv e
      exact q r2 H1 v k1 k2 k3
    · rename_i y W1 e1
      refine ⟨_, _, e1, fun r1 H1 x1 w1 sg hE => ?_⟩
      obtain ⟨r2, k1, k2, k3⟩ := fin_ok (x := .non) x1 w1 .non e
      exact q r2 H1 _ k1 k2 k3
    · cases e
/-- the same by another name of what it does -/
theorem FnG.say {P : Program} {w : PySem.World} {K : PySem.W.Frag} {mg : Str → Option Value} {base : Heap} {k n : Nat} {f : Addr} {fd : FuncData} {ps : List Str} {fn fn' : List DV → M DV} (F : FnG P w K mg base CX0 k f fd ps (spD K n fn))
    (h : ∀ xs W z, fn' xs W = some z → fn xs W = some z) : FnG P w K mg base CX0 k f fd ps (spD K n fn') :=
  F.weak fun vs H Q E ⟨r, W, xs, l, hw, rs, z, W', e, q⟩ => ⟨r, W, xs, l, hw, rs, z, W', h _ _ _ e, q⟩
end DL
end L2

set_option maxRecDepth 100000
/-! DLe: operators and built-ins upon data. -/
namespace L2
namespace DL
open PySem PySem.Spec PyProof.Rows

/-! ### data as the library's data -/
mutual
def toPy : DV → Option PyData
  | .non => some .none
  | .bl b => some (.bool b)
  | .int i => some (.int i)
  | .str s => some (.str s)
  | .tup xs => (toPys xs).map .tuple
  | .lst xs => (toPys xs).map .list
  | .scr ns => some (.list (ns.map .int))
  | .loc _ => none
  | .cst _ => none
  | .exc _ _ _ => none
  | .gl _ => none
def toPys : List DV → Option (List PyData)
  | [] => some []
  | x :: xs => (toPy x).bind fun d => (toPys xs).map fun ds => d :: ds
end
theorem dp_ints {K : PySem.W.Frag} {H : Hp} : ∀ ns : List Int, DpAll K H (ns.map V.int) (ns.map PyData.int)
  | [] => .nil
  | n :: ns => .cons (.int n) (dp_ints ns)
section
variable {K : PySem.W.Frag} {r : Rh} {H : Hp}
mutual
theorem Rv.dp : ∀ {x : DV} {v : V} {d : PyData}, Rv K r H x v → toPy x = some d → Dp K H v d
  | _, _, _, .non, e => by cases e; exact .non
  | _, _, _, .bl b, e => by cases e; exact .bl b
  | _, _, _, .int i, e => by cases e; exact .int i
  | _, _, _, .str s, e => by cases e; exact .str s
  | _, _, _, .cst v, e => by cases e
  | _, _, _, .loc h, e => by cases e
  | _, _, _, .gl _, e => by cases e
  | _, _, _, .exc0 _ _ _, e => by cases e
  | _, _, _, .excD _ _ _ _ _ _ _, e => by cases e
  | _, _, _, .scr h, e => by cases e; exact .lst h.sq (dp_ints _)
  | .tup xs, _, _, .tup h q, e => by
    obtain ⟨ds, e1, e2⟩ := Option.map_eq_some_iff.mp (show (toPys xs).map PyData.tuple = some _ from e)
    cases e2
    exact .tup h.sq (Rvs.dp q e1)
  | .lst xs, _, _, .lst z h q, e => by
    obtain ⟨ds, e1, e2⟩ := Option.map_eq_some_iff.mp (show (toPys xs).map PyData.list = some _ from e)
    cases e2
    exact .lst (.of h) (Rvs.dp q e1)
theorem Rvs.dp : ∀ {xs : List DV} {vs : List V} {ds : List PyData}, Rvs K r H xs vs → toPys xs = some ds → DpAll K H vs ds
  | _, _, _, .nil, e => by cases e; exact .nil
  | x :: xs, _, _, .cons h q, e => by
    obtain ⟨d, e1, e2⟩ := Option.bind_eq_some_iff.mp (show (toPy x).bind _ = some _ from e)
    obtain ⟨ds, e3, e4⟩ := Option.map_eq_some_iff.mp e2
    cases e4
    exact .cons (Rv.dp h e1) (Rvs.dp q e3)
end
end

/-! ### operators -/
def mz (o : Option DV) : M DV := mo o
/-- an answer without a new object -/
theorem done0 {K : PySem.W.Frag} {r : Rh} {H : Hp} {W : Wd} {z : DV} {u : V} {Q : VK} (hw : Hw K r H W) (rz : Rv K r H z u) (q : ∀ r' H' u, Ext r H r' H' → Hw K r' H' W → Rv K r' H' z u → Q u H') : Q u H := q r H u (Ext.refl _ _) hw rz
def dI (g : Int → Int → Option DV) (x y : DV) : Option DV := match x, y with
  | .int i, .int j => g i j
  | _, _ => none
theorem dI_inv {g : Int → Int → Option DV} {x y z : DV} (h : dI g x y = some z) : ∃ i j, x = .int i ∧ y = .int j ∧ g i j = some z := by
  unfold dI at h
  split at h
  · exact ⟨_, _, rfl, rfl, h⟩
  · cases h
def oI (g : Int → Int → Option DV) : DV → DV → M DV := fun x y => mo (dI g x y)
theorem od_i0 {K : PySem.W.Frag} {g : Int → Int → Int} : OpD K (rI0 fun i j => .int (g i j)) (oI fun i j => some (.int (g i j))) := by
  intro r H W x y z W' v w Q hw e rx ry q
  replace e := mo_inv e
  obtain ⟨e, rfl⟩ := e
  replace e := dI_inv e
  obtain ⟨i, j, rfl, rfl, e⟩ := e
  cases e
  obtain rfl := rx.int_inv
  obtain rfl := ry.int_inv
  exact ⟨i, j, rfl, rfl, done0 hw (.int _) q⟩
theorem od_b0 {K : PySem.W.Frag} {g : Int → Int → Bool} : OpD K (rI0 fun i j => .bl (g i j)) (oI fun i j => some (.bl (g i j))) := by
  intro r H W x y z W' v w Q hw e rx ry q
  replace e := mo_inv e
  obtain ⟨e, rfl⟩ := e
  replace e := dI_inv e
  obtain ⟨i, j, rfl, rfl, e⟩ := e
  cases e
  obtain rfl := rx.int_inv
  obtain rfl := ry.int_inv
  exact ⟨i, j, rfl, rfl, done0 hw (.bl _) q⟩
theorem od_i {K : PySem.W.Frag} {C : Int → Int → Prop} {c : Int → Int → Bool} {g : Int → Int → Int} (hc : ∀ i j, c i j = true → C i j) : OpD K (rI C fun i j => .int (g i j)) (oI fun i j => if c i j = true then some (.int (g i j)) else none) := by
  intro r H W x y z W' v w Q hw e rx ry q
  replace e := mo_inv e
  obtain ⟨e, rfl⟩ := e
  replace e := dI_inv e
  obtain ⟨i, j, rfl, rfl, e⟩ := e
  obtain ⟨c, rfl⟩ := if_inv e
  obtain rfl := rx.int_inv
  obtain rfl := ry.int_inv
  exact ⟨i, j, rfl, rfl, hc i j c, done0 hw (.int _) q⟩
def oSub := oI fun i j => some (.int (i - j))
def bound64 (i : Int) : Bool := decide (-(2 ^ 64) < i ∧ i < 2 ^ 64)
def oMul := oI fun i j => if (bound64 i || bound64 j) = true then some (.int (i * j)) else none
def oDiv := oI fun i j => if (decide (0 < j ∧ j < 1073741824)) = true then some (.int (i / j)) else none
def oMod := oI fun i j => if (decide (0 < j)) = true then some (.int (i % j)) else none
def oPow := oI fun i j => if (decide (0 ≤ j ∧ j ≤ 1000000 ∧ i.natAbs < 2 ^ 64)) = true then some (.int (i ^ j.toNat)) else none
def oLt := oI fun i j => some (.bl (decide (i < j)))
def oLe := oI fun i j => some (.bl (decide (i ≤ j)))
def oGt := oI fun i j => some (.bl (decide (j < i)))
def oGe := oI fun i j => some (.bl (decide (j ≤ i)))
theorem od_mul {K : PySem.W.Frag} : OpD K (rI CMul fun i j => .int (i * j)) oMul := od_i fun i j h => by
  rcases Bool.or_eq_true_iff.mp h with h | h
  · exact .inl (of_decide_eq_true h)
  · exact .inr (of_decide_eq_true h)
theorem od_div {K : PySem.W.Frag} : OpD K (rI CDiv fun i j => .int (i / j)) oDiv := od_i fun i j h => (of_decide_eq_true h : 0 < j ∧ j < 1073741824)
theorem od_mod {K : PySem.W.Frag} : OpD K (rI (fun _ j => 0 < j) fun i j => .int (i % j)) oMod := od_i fun i j h => of_decide_eq_true h
theorem od_pow {K : PySem.W.Frag} : OpD K (rI CPow fun i j => .int (i ^ j.toNat)) oPow := od_i fun i j h => (of_decide_eq_true h : 0 ≤ j ∧ j ≤ 1000000 ∧ i.natAbs < 2 ^ 64)
section
variable {X : Cx} {a b : Expr} {F F' : ES} {pos : Pos}
theorem de_sub (ha : DE X a F) (hb : DE X b F') : DE X (.BinOp a .Sub b pos) (eO oSub F F') := de_op op_sub od_i0 ha hb
theorem de_mul (ha : DE X a F) (hb : DE X b F') : DE X (.BinOp a .Mult b pos) (eO oMul F F') := de_op op_mul od_mul ha hb
theorem de_div (ha : DE X a F) (hb : DE X b F') : DE X (.BinOp a .FloorDiv b pos) (eO oDiv F F') := de_op op_fdiv od_div ha hb
theorem de_mod (ha : DE X a F) (hb : DE X b F') : DE X (.BinOp a .Mod b pos) (eO oMod F F') := de_op op_mod od_mod ha hb
theorem de_pow (ha : DE X a F) (hb : DE X b F') : DE X (.BinOp a .Pow b pos) (eO oPow F F') := de_op op_pow od_pow ha hb
end
/-- + : ints, texts, tuples, lists -/
def dAdd (x y : DV) : Option DV := match x, y with
  | .int i, .int j => some (.int (i + j))
  | .str i, .str j => if decide (i.length + j.length ≤ sizeLine) = true then some (.str (i ++ j)) else none
  | .lst xs, .lst ys => if decide (xs.length + ys.length ≤ sizeLine) = true then some (.lst (xs ++ ys)) else none
  | .tup xs, .tup ys => if (!xs.isEmpty && decide (xs.length + ys.length ≤ sizeLine)) = true then some (.tup (xs ++ ys)) else none
  | _, _ => none
def oAdd : DV → DV → M DV := fun x y => mo (dAdd x y)
abbrev rAddA (K : PySem.W.Frag) : R2 := fun x y H Q => rI0 (fun i j => .int (i + j)) x y H Q ∨ (∃ i j, x = .str i ∧ y = .str j ∧ i.length + j.length ≤ sizeLine ∧ Q (.str (i ++ j)) H) ∨ rCat x y H Q ∨ rCatT K x y H Q
theorem od_add {K : PySem.W.Frag} : OpD K (rAddA K) oAdd := by
  intro r H W x y z W' v w Q hw e rx ry q
  replace e := mo_inv e
  obtain ⟨e, rfl⟩ := e
  unfold dAdd at e
  split at e
  · cases e
    obtain rfl := rx.int_inv
    obtain rfl := ry.int_inv
    exact .inl ⟨_, _, rfl, rfl, done0 hw (.int _) q⟩
  · obtain ⟨c, rfl⟩ := if_inv e
    obtain rfl := rx.str_inv
    obtain rfl := ry.str_inv
    exact .inr (.inl ⟨_, _, rfl, rfl, of_decide_eq_true c, done0 hw (.str _) q⟩)
  · obtain ⟨c, rfl⟩ := if_inv e
    have l := of_decide_eq_true c
    cases rx with
    | lst z1 h1 q1 =>
      cases ry with
      | lst z2 h2 q2 =>
        refine .inr (.inr (.inl ⟨_, _, _, _, rfl, rfl, h1, h2, by rw [← q1.length, ← q2.length]; exact l, fun p hp => ?_⟩))
        exact q r _ _ (Ext.laid hp) (hw.laid hp) (Rv.newLst hw (q1.append q2) hp)
  · obtain ⟨c, rfl⟩ := if_inv e
    rw [Bool.and_eq_true] at c
    have l := of_decide_eq_true c.2
    cases rx with
    | @tup a1 vs1 xs1 h1 q1 =>
      cases ry with
      | @tup a2 vs2 xs2 h2 q2 =>
        refine .inr (.inr (.inr ⟨_, _, _, _, rfl, rfl, h1.sq, h2.sq, fun z => ?_, by rw [← q1.length, ← q2.length]; exact l, fun z => ?_, fun _ p hp => ?_⟩))
        · subst z
          cases q1
          exact absurd c.1 (by decide)
        · subst z
          cases q2
          rw [List.append_nil] at q
          exact done0 hw (.tup h1 q1) q
        · exact q r _ _ (Ext.laid hp) (hw.laid hp) (Rv.newTup hw (q1.append q2) hp)
  · cases e
/-- == -/
def dEqD (x y : DV) : Option Bool := (toPy x).bind fun d => (toPy y).bind fun e => if (SeqAt.shaped d && SeqAt.shaped e) = true then some (PyData.eqv d e) else none
def dEq (x y : DV) : Option Bool := match x, y with
  | .int i, .int j => some (decide (i = j))
  | .str i, .str j => some (decide (i = j))
  | .bl i, .bl j => some (decide (i = j))
  | _, _ => dEqD x y
def oEq : DV → DV → M DV := fun x y => mo ((dEq x y).map .bl)
def oNe : DV → DV → M DV := fun x y => mo ((dEq x y).map fun b => .bl (!b))
theorem dEqD_inv {x y : DV} {b : Bool} (h : dEqD x y = some b) : ∃ d e, toPy x = some d ∧ toPy y = some e ∧ SeqAt.shaped d = true ∧ SeqAt.shaped e = true ∧ PyData.eqv d e = b := by
  obtain ⟨d, e1, h⟩ := Option.bind_eq_some_iff.mp h
  obtain ⟨e, e2, h⟩ := Option.bind_eq_some_iff.mp h
  obtain ⟨c, h⟩ := if_inv h
  rw [Bool.and_eq_true] at c
  exact ⟨d, e, e1, e2, c.1, c.2, h⟩
theorem dEq_rel {K : PySem.W.Frag} {r : Rh} {H : Hp} {x y : DV} {v w : V} {b : Bool} (h : dEq x y = some b) (rx : Rv K r H x v) (ry : Rv K r H y w) :
    (scal v w = true ∧ b = decide (v = w)) ∨ ∃ d e, Dp K H v d ∧ Dp K H w e ∧ SeqAt.shaped d = true ∧ SeqAt.shaped e = true ∧ PyData.eqv d e = b := by
  unfold dEq at h
  split at h
  · obtain rfl := rx.int_inv
    obtain rfl := ry.int_inv
    cases h
    exact .inl ⟨rfl, by simp⟩
  · obtain rfl := rx.str_inv
    obtain rfl := ry.str_inv
    cases h
    exact .inl ⟨rfl, by simp⟩
  · obtain rfl := rx.bl_inv
    obtain rfl := ry.bl_inv
    cases h
    exact .inl ⟨rfl, by simp⟩
  · obtain ⟨d, e2, h1, h2, s1, s2, e⟩ := dEqD_inv h
    exact .inr ⟨d, e2, rx.dp h1, ry.dp h2, s1, s2, e⟩
theorem od_eq {K : PySem.W.Frag} : OpD K (fun x y H Q => rEq x y H Q ∨ rEqD K x y H Q) oEq := by
  intro r H W x y z W' v w Q hw e rx ry q
  replace e := mo_inv e
  obtain ⟨e, rfl⟩ := e
  replace e := Option.map_eq_some_iff.mp e
  obtain ⟨b, e, rfl⟩ := e
  rcases dEq_rel e rx ry with ⟨h1, rfl⟩ | ⟨d, e2, h1, h2, s1, s2, rfl⟩
  · exact .inl ⟨h1, done0 hw (.bl _) q⟩
  · exact .inr ⟨d, e2, h1, h2, s1, s2, done0 hw (.bl _) q⟩
theorem od_ne {K : PySem.W.Frag} : OpD K (fun x y H Q => rNe x y H Q ∨ rNeD K x y H Q) oNe := by
  intro r H W x y z W' v w Q hw e rx ry q
  replace e := mo_inv e
  obtain ⟨e, rfl⟩ := e
  replace e := Option.map_eq_some_iff.mp e
  obtain ⟨b, e, rfl⟩ := e
  rcases dEq_rel e rx ry with ⟨h1, rfl⟩ | ⟨d, e2, h1, h2, s1, s2, rfl⟩
  · exact .inl ⟨h1, done0 hw (.bl _) q⟩
  · exact .inr ⟨d, e2, h1, h2, s1, s2, done0 hw (.bl _) q⟩
/-- flat data -/
def flatD : DV → Option V
  | .non => some .non
  | .bl b => some (.bl b)
  | .int i => some (.int i)
  | .str s => some (.str s)
  | _ => none
def flatDs : List DV → Option (List V)
  | [] => some []
  | x :: xs => (flatD x).bind fun v => (flatDs xs).map fun vs => v :: vs
theorem Rv.flat {K : PySem.W.Frag} {r : Rh} {H : Hp} {x : DV} {v u : V} (h : Rv K r H x v) (e : flatD x = some u) : v = u ∧ flatV u = true := by
  cases h <;> first | (cases e; exact ⟨rfl, rfl⟩) | cases e
theorem Rvs.flat {K : PySem.W.Frag} {r : Rh} {H : Hp} : ∀ {xs : List DV} {vs us : List V}, Rvs K r H xs vs → flatDs xs = some us → vs = us ∧ us.all flatV = true
  | _, _, _, .nil, e => by cases e; exact ⟨rfl, rfl⟩
  | x :: xs, _, _, .cons h q, e => by
    obtain ⟨u, e1, e2⟩ := Option.bind_eq_some_iff.mp (show (flatD x).bind _ = some _ from e)
    obtain ⟨us, e3, e4⟩ := Option.map_eq_some_iff.mp e2
    cases e4
    obtain ⟨rfl, f1⟩ := h.flat e1
    obtain ⟨rfl, f2⟩ := Rvs.flat q e3
    exact ⟨rfl, by rw [List.all_cons, f1, f2]; rfl⟩
def signOf (s : Str) : Option Nat := match s.cps.toList with
  | [c] => some c
  | _ => none
theorem sign_inv {s : Str} {c : Nat} (h : signOf s = some c) : s = ⟨#[c]⟩ := by
  obtain ⟨⟨l⟩⟩ := s
  unfold signOf at h
  split at h
  · rename_i d e
    cases h
    have e' : l = [c] := e
    rw [e']
  · cases h
/-- in -/
def dIn (x y : DV) : Option Bool := match y with
  | .tup ys => (flatD x).bind fun v => (flatDs ys).map fun vs => inV v vs
  | .lst ys => (flatD x).bind fun v => (flatDs ys).map fun vs => inV v vs
  | .str t => match x with
    | .str s => (signOf s).map fun c => decide (c ∈ t.cps.toList)
    | _ => none
  | _ => none
def oIn : DV → DV → M DV := fun x y => mo ((dIn x y).map .bl)
def oNotIn : DV → DV → M DV := fun x y => mo ((dIn x y).map fun b => .bl (!b))
abbrev rInA (K : PySem.W.Frag) : R2 := fun x y H Q => rIn K false x y H Q ∨ ∃ (c : Nat) (z : Str), x = .str ⟨#[c]⟩ ∧ y = .str z ∧ Q (.bl (decide (c ∈ z.cps.toList))) H
abbrev rNotInA (K : PySem.W.Frag) : R2 := fun x y H Q => rIn K true x y H Q ∨ ∃ (c : Nat) (z : Str), x = .str ⟨#[c]⟩ ∧ y = .str z ∧ Q (.bl (!decide (c ∈ z.cps.toList))) H
theorem dIn_ok {K : PySem.W.Frag} {r : Rh} {H : Hp} {x y : DV} {v w : V} {b : Bool} (h : dIn x y = some b) (rx : Rv K r H x v) (ry : Rv K r H y w) :
    (∃ p xs, w = .ref p ∧ (SqL K H p xs ∨ SqT K H p xs) ∧ flatV v = true ∧ xs.all flatV = true ∧ b = inV v xs) ∨ ∃ (c : Nat) (z : Str), v = .str ⟨#[c]⟩ ∧ w = .str z ∧ b = decide (c ∈ z.cps.toList) := by
  unfold dIn at h
  split at h
  · obtain ⟨u, e1, h⟩ := Option.bind_eq_some_iff.mp h
    obtain ⟨us, e2, rfl⟩ := Option.map_eq_some_iff.mp h
    obtain ⟨rfl, f1⟩ := rx.flat e1
    cases ry with
    | tup hq qs =>
      obtain ⟨rfl, f2⟩ := qs.flat e2
      exact .inl ⟨_, _, rfl, .inr hq.sq, f1, f2, rfl⟩
  · obtain ⟨u, e1, h⟩ := Option.bind_eq_some_iff.mp h
    obtain ⟨us, e2, rfl⟩ := Option.map_eq_some_iff.mp h
    obtain ⟨rfl, f1⟩ := rx.flat e1
    cases ry with
    | lst z hq qs =>
      obtain ⟨rfl, f2⟩ := qs.flat e2
      exact .inl ⟨_, _, rfl, .inl (.of hq), f1, f2, rfl⟩
  · split at h
    · obtain ⟨c, e1, rfl⟩ := Option.map_eq_some_iff.mp h
      have e2 := sign_inv e1
      subst e2
      obtain rfl := rx.str_inv
      obtain rfl := ry.str_inv
      exact .inr ⟨c, _, rfl, rfl, rfl⟩
    · cases h
  · cases h
theorem od_in {K : PySem.W.Frag} : OpD K (rInA K) oIn := by
  intro r H W x y z W' v w Q hw e rx ry q
  replace e := mo_inv e
  obtain ⟨e, rfl⟩ := e
  replace e := Option.map_eq_some_iff.mp e
  obtain ⟨b, e, rfl⟩ := e
  rcases dIn_ok e rx ry with ⟨p, xs, rfl, h1, h2, h3, rfl⟩ | ⟨c, t, rfl, rfl, rfl⟩
  · exact .inl ⟨p, xs, rfl, h1, h2, h3, done0 hw (.bl _) q⟩
  · exact .inr ⟨c, t, rfl, rfl, done0 hw (.bl _) q⟩
theorem od_notIn {K : PySem.W.Frag} : OpD K (rNotInA K) oNotIn := by
  intro r H W x y z W' v w Q hw e rx ry q
  replace e := mo_inv e
  obtain ⟨e, rfl⟩ := e
  replace e := Option.map_eq_some_iff.mp e
  obtain ⟨b, e, rfl⟩ := e
  rcases dIn_ok e rx ry with ⟨p, xs, rfl, h1, h2, h3, rfl⟩ | ⟨c, t, rfl, rfl, rfl⟩
  · exact .inl ⟨p, xs, rfl, h1, h2, h3, done0 hw (.bl _) q⟩
  · exact .inr ⟨c, t, rfl, rfl, done0 hw (.bl _) q⟩
/-- is None -/
def isN : DV → Bool
  | .non => true
  | .cst v => decide (v = .non)
  | _ => false
theorem Rv.isN {K : PySem.W.Frag} {r : Rh} {H : Hp} {x : DV} {v : V} (h : Rv K r H x v) : decide (v = .non) = DL.isN x := by
  cases h <;> first | rfl | simp [DL.isN]
def oIs : DV → DV → M DV := fun x y => mo (match y with | .non => some (.bl (isN x)) | _ => none)
def oIsNot : DV → DV → M DV := fun x y => mo (match y with | .non => some (.bl (!isN x)) | _ => none)
theorem od_is {K : PySem.W.Frag} : OpD K (fun x y H Q => y = .non ∧ Q (.bl (decide (x = .non))) H) oIs := by
  intro r H W x y z W' v w Q hw e rx ry q
  replace e := mo_inv e
  obtain ⟨e, rfl⟩ := e
  split at e
  · cases e
    rw [rx.isN]
    exact ⟨ry.non_inv, done0 hw (.bl _) q⟩
  · cases e
theorem od_isNot {K : PySem.W.Frag} : OpD K (fun x y H Q => y = .non ∧ Q (.bl (!decide (x = .non))) H) oIsNot := by
  intro r H W x y z W' v w Q hw e rx ry q
  replace e := mo_inv e
  obtain ⟨e, rfl⟩ := e
  split at e
  · cases e
    rw [rx.isN]
    exact ⟨ry.non_inv, done0 hw (.bl _) q⟩
  · cases e
section
variable {X : Cx} {a b c : Expr} {F F' F2 : ES} {pos : Pos} {k : Nat}
theorem de_add (ha : DE X a F) (hb : DE X b F') : DE X (.BinOp a .Add b pos) (eO oAdd F F') := de_op (op_add.or (op_add_str.or (op_cat.or op_catT))) od_add ha hb
/-- the rule of a comparison -/
structure CmpR (X : Cx) (op : CmpOp) (G : DV → DV → M DV) : Prop where
  ex : ∃ r2 : R2, OpR X (compareOp op) r2 ∧ OpD X.K r2 G
theorem c_lt : CmpR X .Lt oLt := ⟨_, op_lt, od_b0⟩
theorem c_le : CmpR X .LtE oLe := ⟨_, op_le, od_b0⟩
theorem c_gt : CmpR X .Gt oGt := ⟨_, op_gt, od_b0⟩
theorem c_ge : CmpR X .GtE oGe := ⟨_, op_ge, od_b0⟩
theorem c_eq (hr : Rm k X.A) : CmpR X .Eq oEq := ⟨_, op_eq.or (op_eqD hr.1.units), od_eq⟩
theorem c_ne (hr : Rm k X.A) : CmpR X .NotEq oNe := ⟨_, op_ne.or (op_neD hr.1.units), od_ne⟩
theorem c_in : CmpR X .In oIn := ⟨_, op_in_seq.or op_in_sign, od_in⟩
theorem c_notIn : CmpR X .NotIn oNotIn := ⟨_, op_notIn_seq.or op_notIn_sign, od_notIn⟩
theorem c_is : CmpR X .Is oIs := ⟨_, op_isN, od_is⟩
theorem c_isNot : CmpR X .IsNot oIsNot := ⟨_, op_notN, od_isNot⟩
theorem de_c {op : CmpOp} {G : DV → DV → M DV} (h : CmpR X op G) (ha : DE X a F) (hb : DE X b F') (hm : behindInMarks op b = false := by rfl) : DE X (.Compare a [op] [b] pos) (eO G F F') := by
  obtain ⟨r2, h1, h2⟩ := h.ex
  exact de_cmp h1 h2 ha hb hm
theorem dt_c {op : CmpOp} {G : DV → DV → M DV} (h : CmpR X op G) (ha : DE X a F) (hb : DE X b F') (hm : behindInMarks op b = false := by rfl) : DT X (.Compare a [op] [b] pos) (bT (eO G F F')) := by
  obtain ⟨r2, h1, h2⟩ := h.ex
  exact dt_cmp h1 h2 ha hb hm
theorem of_chain {K : PySem.W.Frag} {r2 r2' : R2} {G G' : DV → DV → M DV} (g : OpD K r2 G) (g' : OpD K r2' G') : ∀ sg H Q, tX K (eCh G G' F F' F2) sg H Q → tChain r2 r2' (tX K F) (tX K F') (tX K F2) sg H Q := by
  rintro sg H Q ⟨r, env, W, hE, hw, z, W', e, q⟩
  obtain ⟨x, W1, e1, e⟩ := mb_inv e
  obtain ⟨y, W2, e2, e⟩ := mb_inv e
  obtain ⟨d, W3, e3, e⟩ := mb_inv e
  obtain ⟨b, W4, e4, e⟩ := mb_inv e
  obtain ⟨rfl, rfl⟩ := mB_inv e4
  refine ⟨r, env, W, hE, hw, x, W1, e1, fun r1 H1 v x1 w1 rx => ?_⟩
  refine ⟨r1, env, W1, hE.ext x1, w1, y, W2, e2, fun r2 H2 w x2 w2 ry => ?_⟩
  refine g r2 H2 W2 x y _ _ v w _ w2 e3 (rx.ext x2) ry fun r3 H3 u x3 w3 ru => ⟨b, ru.bl_inv, ?_⟩
  cases b with
  | true =>
    obtain ⟨z', W5, e5, e⟩ := mb_inv (show mb (F2 env) _ W4 = some (z, W') from e)
    refine iteT ⟨r3, env, W4, hE.ext ((x1.trans x2).trans x3), w3, z', W5, e5, fun r4 H4 u' x4 w4 rz => ?_⟩
    exact g' r4 H4 W5 y z' z W' w u' Q w4 e (ry.ext (x3.trans x4)) rz fun r5 H5 t x5 w5 rt => q r5 H5 t ((((x1.trans x2).trans x3).trans x4).trans x5) w5 rt
  | false =>
    obtain ⟨rfl, rfl⟩ := mr_inv (show mr (DV.bl false) W4 = some (z, W') from e)
    exact iteF (q r3 H3 _ ((x1.trans x2).trans x3) w3 (.bl _))
theorem de_ch {op op' : CmpOp} {G G' : DV → DV → M DV} (h : CmpR X op G) (h' : CmpR X op' G') (ha : DE X a F) (hb : DE X b F') (hc : DE X c F2) (hm : lastMarks [op, op'] [b, c] = false := by with_unfolding_all rfl) : DE X (.Compare a [op, op'] [b, c] pos) (eCh G G' F F' F2) := by
  obtain ⟨r2, h1, h2⟩ := h.ex
  obtain ⟨r2', h3, h4⟩ := h'.ex
  exact pe_imp (pe_chain h1 h3 ha hb hc hm) (of_chain h2 h4)
theorem dt_ch {op op' : CmpOp} {G G' : DV → DV → M DV} (h : CmpR X op G) (h' : CmpR X op' G') (ha : DE X a F) (hb : DE X b F') (hc : DE X c F2) (hm : lastMarks [op, op'] [b, c] = false := by with_unfolding_all rfl) : DT X (.Compare a [op, op'] [b, c] pos) (bT (eCh G G' F F' F2)) := by
  obtain ⟨r2, h1, h2⟩ := h.ex
  obtain ⟨r2', h3, h4⟩ := h'.ex
  exact pt_imp (pt_chain h1 h3 ha hb hc hm) (of_test (of_chain h2 h4))
end
end DL
end L2

set_option maxRecDepth 100000
/-! DLf: subscripts, slices, built-in functions, iterators, append. -/
namespace L2
namespace DL
open PySem PySem.Spec PyProof.Rows

/-! ### subscripts -/
/-- the items of what may be subscripted by a number -/
def itemsOf (W : Wd) : DV → Option (List DV)
  | .tup xs => some xs
  | .lst xs => some xs
  | .scr ns => some (ns.map DV.int)
  | .loc i => match W[i]? with
    | some (.lst xs) => some xs
    | _ => none
  | _ => none
theorem atI_rel {K : PySem.W.Frag} {r : Rh} {H : Hp} {xs : List DV} {vs : List V} {i : Int} {x : DV} (h : Rvs K r H xs vs) (e : atI xs i = some x) : ∃ v, atI vs i = some v ∧ Rv K r H x v := by
  unfold atI at e ⊢
  obtain ⟨j, e1, e2⟩ := Option.bind_eq_some_iff.mp e
  obtain ⟨v, e3, rv⟩ := h.get e2
  exact ⟨v, by rw [← h.length, e1]; exact e3, rv⟩
def oIx : DV → DV → M DV := fun x y W => match y with
  | .int i => match x with
    | .str s => if s.length ≤ sizeLine then ((atI s.cps.toList i).map fun c => DV.str ⟨#[c]⟩).map fun z => (z, W) else none
    | _ => ((itemsOf W x).bind fun xs => atI xs i).map fun z => (z, W)
  | _ => none
abbrev rIxA (K : PySem.W.Frag) : R2 := fun x y H Q => rIxL K x y H Q ∨ rIxT K x y H Q ∨ rIxS x y H Q
theorem items_rel {K : PySem.W.Frag} {r : Rh} {H : Hp} {W : Wd} {x : DV} {xs : List DV} {v : V} (hw : Hw K r H W) (rx : Rv K r H x v) (e : itemsOf W x = some xs) : ∃ a vs, v = .ref a ∧ (SqL K H a vs ∨ SqT K H a vs) ∧ Rvs K r H xs vs := by
  cases rx with
  | tup h q => cases e; exact ⟨_, _, rfl, .inr h.sq, q⟩
  | lst z h q => cases e; exact ⟨_, _, rfl, .inl (.of h), q⟩
  | scr h => cases e; exact ⟨_, _, rfl, .inl h.sq, map_ints _⟩
  | @loc i a h =>
    unfold itemsOf at e
    dsimp only at e
    cases q : W[i]? with
    | none => rw [q] at e; cases e
    | some c =>
      rw [q] at e
      cases c with
      | dead => cases e
      | lst ys =>
        cases e
        obtain ⟨vs, h1, h2⟩ := hw.ok i a _ h q
        exact ⟨a, vs, rfl, .inl (.of h1), h2⟩
  | _ => cases e
theorem od_ix {K : PySem.W.Frag} : OpD K (rIxA K) oIx := by
  intro r H W x y z W' v w Q hw e rx ry q
  unfold oIx at e
  split at e
  · rename_i i
    obtain rfl := ry.int_inv
    split at e
    · rename_i s
      obtain rfl := rx.str_inv
      by_cases l : s.length ≤ sizeLine
      · rw [if_pos l] at e
        obtain ⟨d, e3, e2⟩ := Option.map_eq_some_iff.mp e
        cases e2
        obtain ⟨c, e4, rfl⟩ := Option.map_eq_some_iff.mp e3
        exact .inr (.inr ⟨s, i, c, rfl, rfl, l, e4, done0 hw (.str _) q⟩)
      · rw [if_neg l] at e; cases e
    · obtain ⟨d, e4, e2⟩ := Option.map_eq_some_iff.mp e
      cases e2
      obtain ⟨xs, e1, e5⟩ := Option.bind_eq_some_iff.mp e4
      obtain ⟨a, vs, rfl, hs, rs⟩ := items_rel hw rx e1
      obtain ⟨u, e3, ru⟩ := atI_rel rs e5
      rcases hs with hs | hs
      · exact .inl ⟨a, vs, i, u, rfl, rfl, hs, e3, done0 hw ru q⟩
      · exact .inr (.inl ⟨a, vs, i, u, rfl, rfl, hs, e3, done0 hw ru q⟩)
  · cases e
section
variable {X : Cx} {a b : Expr} {F F' : ES} {pos : Pos}
theorem de_at (ha : DE X a F) (hb : DE X b F') (hs : PlainIx b := by exact fun _ _ => rfl) : DE X (.Subscript a b pos) (eO oIx F F') := de_ix (ix_list.or (ix_tup.or ix_str)) od_ix ha hb hs
end
/-! ### slices -/
def cutD (xs : List DV) (lo hi : Option Int) : List DV := (xs.drop (HT.sIx xs.length 0 lo)).take (HT.sIx xs.length xs.length hi - HT.sIx xs.length 0 lo)
theorem Rvs.cutD {K : PySem.W.Frag} {r : Rh} {H : Hp} {xs : List DV} {vs : List V} (h : Rvs K r H xs vs) (lo hi : Option Int) : Rvs K r H (DL.cutD xs lo hi) (cutV vs lo hi) := by
  unfold DL.cutD cutV
  rw [h.length]
  exact (h.drop _).take _
abbrev EO := DEnv → M (Option Int)
def tXO (K : PySem.W.Frag) (F : EO) : TO := fun sg H Q => ∃ r env W, RelE K r H env sg ∧ Hw K r H W ∧ ∃ x W', F env W = some (x, W') ∧ ∀ r' H', Ext r H r' H' → Hw K r' H' W' → Q x H'
abbrev DO (X : Cx) (e : Option Expr) (F : EO) : Prop := PO X e (tXO X.K F)
theorem po_imp {X : Cx} {e : Option Expr} {t t' : TO} (h : PO X e t) (i : ∀ sg H Q, t' sg H Q → t sg H Q) : PO X e t' := ⟨fun pins s sg H Q I w => h.run pins s sg H Q I (i sg H Q w)⟩
def oNone : EO := fun _ => mr none
def oSome (F : ES) : EO := fun env => mb (F env) fun x => match x with
  | .int i => mr (some i)
  | _ => fun _ => none
def dSl (x : DV) (lo hi : Option Int) : M DV := fun W => match x with
  | .str s => if s.length ≤ sizeLine then some (.str (cutS s lo hi), W) else none
  | .tup xs => if HT.sIx xs.length 0 lo = 0 ∧ HT.sIx xs.length xs.length hi = xs.length then none else some (.tup (cutD xs lo hi), W)
  | .lst xs => some (.lst (cutD xs lo hi), W)
  | .scr ns => some (.lst (cutD (ns.map DV.int) lo hi), W)
  | _ => none
def eSl (F : ES) (L U : EO) : ES := fun env => mb (F env) fun x => mb (L env) fun lo => mb (U env) fun hi => dSl x lo hi
section
variable {X : Cx} {a : Expr} {l u : Option Expr} {F : ES} {L U : EO} {pos p2 : Pos}
theorem do_none : DO X none oNone := by
  refine po_imp po_none ?_
  rintro sg H Q ⟨r, env, W, hE, hw, x, W', e, q⟩
  obtain ⟨rfl, rfl⟩ := mr_inv e
  exact q r H (Ext.refl _ _) hw
theorem do_some (h : DE X a F) : DO X (some a) (oSome F) := by
  refine po_imp (po_some h) ?_
  rintro sg H Q ⟨r, env, W, hE, hw, x, W', e, q⟩
  obtain ⟨y, W1, e1, e⟩ := mb_inv e
  refine ⟨r, env, W, hE, hw, y, W1, e1, fun r1 H1 v x1 w1 rv => ?_⟩
  cases rv with
  | int i =>
    obtain ⟨rfl, rfl⟩ := mr_inv (show mr (some i) W1 = some (x, W') from e)
    exact ⟨i, rfl, q r1 H1 x1 w1⟩
  | _ => cases (show none = some (x, W') from e)
theorem de_slice (he : DE X a F) (hl : DO X l L) (hu : DO X u U) : DE X (.Subscript a (.Slice l u none p2) pos) (eSl F L U) := by
  refine pe_imp (pe_slice (sl_list.or (sl_tup.or sl_str)) he hl hu) ?_
  rintro sg H Q ⟨r, env, W, hE, hw, z, W', e, q⟩
  obtain ⟨x, W1, e1, e⟩ := mb_inv e
  obtain ⟨lo, W2, e2, e⟩ := mb_inv e
  obtain ⟨hi, W3, e3, e⟩ := mb_inv e
  refine ⟨r, env, W, hE, hw, x, W1, e1, fun r1 H1 v x1 w1 rx => ?_⟩
  refine ⟨r1, env, W1, hE.ext x1, w1, lo, W2, e2, fun r2 H2 x2 w2 => ?_⟩
  refine ⟨r2, env, W2, (hE.ext x1).ext x2, w2, hi, W3, e3, fun r3 H3 x3 w3 => ?_⟩
  have x4 := (x1.trans x2).trans x3
  have rx' := rx.ext (x2.trans x3)
  cases rx' with
  | str s =>
    unfold dSl at e
    dsimp only at e
    by_cases c : s.length ≤ sizeLine
    · rw [if_pos c] at e; cases e
      exact .inr (.inr ⟨s, rfl, c, q r3 H3 _ x4 w3 (.str _)⟩)
    · rw [if_neg c] at e; cases e
  | @tup b vs xs h1 q1 =>
    unfold dSl at e
    dsimp only at e
    by_cases c : HT.sIx xs.length 0 lo = 0 ∧ HT.sIx xs.length xs.length hi = xs.length
    · rw [if_pos c] at e; cases e
    · rw [if_neg c] at e; cases e
      refine .inr (.inl ⟨b, vs, rfl, h1.sq, by rw [← q1.length]; exact c, fun p hp => ?_⟩)
      exact q r3 _ _ (x4.trans (Ext.laid hp)) (w3.laid hp) (Rv.newTup w3 (q1.cutD lo hi) hp)
  | @lst b vs xs z1 h1 q1 =>
    cases (show some (DV.lst (cutD xs lo hi), W3) = some (z, W') from e)
    refine .inl ⟨b, vs, rfl, .of h1, fun p hp => ?_⟩
    exact q r3 _ _ (x4.trans (Ext.laid hp)) (w3.laid hp) (Rv.newLst w3 (q1.cutD lo hi) hp)
  | @scr ns b h1 =>
    cases (show some (DV.lst (cutD (ns.map DV.int) lo hi), W3) = some (z, W') from e)
    refine .inl ⟨b, _, rfl, h1.sq, fun p hp => ?_⟩
    exact q r3 _ _ (x4.trans (Ext.laid hp)) (w3.laid hp) (Rv.newLst w3 ((map_ints ns).cutD lo hi) hp)
  | _ => cases (show none = some (z, W') from e)
end
/-! ### built-in functions -/
/-- one argument -/
def k1 (g : DV → M DV) : List DV → M DV := fun xs => match xs with
  | [x] => g x
  | _ => fun _ => none
def k2 (g : DV → DV → M DV) : List DV → M DV := fun xs => match xs with
  | [x, y] => g x y
  | _ => fun _ => none
theorem k1_inv {g : DV → M DV} {xs : List DV} {W : Wd} {z : DV × Wd} (h : k1 g xs W = some z) : ∃ x, xs = [x] ∧ g x W = some z := by
  unfold k1 at h
  split at h
  · exact ⟨_, rfl, h⟩
  · cases h
theorem k2_inv {g : DV → DV → M DV} {xs : List DV} {W : Wd} {z : DV × Wd} (h : k2 g xs W = some z) : ∃ x y, xs = [x, y] ∧ g x y W = some z := by
  unfold k2 at h
  split at h
  · exact ⟨_, _, rfl, h⟩
  · cases h
theorem Rvs.one {K : PySem.W.Frag} {r : Rh} {H : Hp} {x : DV} {vs : List V} (h : Rvs K r H [x] vs) : ∃ v, vs = [v] ∧ Rv K r H x v := by
  cases h with
  | cons h t => cases t; exact ⟨_, rfl, h⟩
theorem Rvs.two {K : PySem.W.Frag} {r : Rh} {H : Hp} {x y : DV} {vs : List V} (h : Rvs K r H [x, y] vs) : ∃ v w, vs = [v, w] ∧ Rv K r H x v ∧ Rv K r H y w := by
  cases h with
  | cons h t =>
    cases t with
    | cons h2 t => cases t; exact ⟨_, _, rfl, h, h2⟩
/-- len -/
def kLen : List DV → M DV := k1 fun x W => match x with
  | .str s => if s.length ≤ sizeLine then some (.int s.length, W) else none
  | _ => (itemsOf W x).map fun xs => (.int xs.length, W)
theorem cd_len {K : PySem.W.Frag} : CallD K (fun xs H Q => ∃ x n, xs = [x] ∧ LenV K x H n ∧ Q (.int n) H) kLen := by
  intro r H W xs z W' vs Q hw e rs q
  replace e := k1_inv e
  obtain ⟨x, rfl, e⟩ := e
  obtain ⟨v, rfl, rx⟩ := rs.one
  try dsimp only at e
  split at e
  · rename_i s
    obtain rfl := rx.str_inv
    by_cases l : s.length ≤ sizeLine
    · rw [if_pos l] at e; cases e
      exact ⟨_, _, rfl, ⟨l, rfl⟩, done0 hw (.int _) q⟩
    · rw [if_neg l] at e; cases e
  · obtain ⟨ys, e1, e2⟩ := Option.map_eq_some_iff.mp e
    cases e2
    obtain ⟨a, us, rfl, hs, rl⟩ := items_rel hw rx e1
    refine ⟨_, ys.length, rfl, ?_, done0 hw (.int _) q⟩
    rcases hs with hs | hs
    · exact .inl ⟨us, hs, rl.length⟩
    · exact .inr ⟨us, hs, rl.length⟩
/-- all -/
def bools : List DV → Option (List Bool)
  | [] => some []
  | .bl b :: xs => (bools xs).map fun bs => b :: bs
  | _ => none
theorem bools_rel {K : PySem.W.Frag} {r : Rh} {H : Hp} : ∀ {xs : List DV} {vs : List V} {bs : List Bool}, Rvs K r H xs vs → bools xs = some bs → vs = bs.map V.bl
  | _, _, _, .nil, e => by cases e; rfl
  | .bl b :: xs, _, _, .cons h t, e => by
    obtain ⟨cs, e1, e2⟩ := Option.map_eq_some_iff.mp (show (bools xs).map _ = some _ from e)
    cases e2
    obtain rfl := h.bl_inv
    rw [bools_rel t e1]; rfl
  | .non :: _, _, _, .cons _ _, e => by cases e
  | .int _ :: _, _, _, .cons _ _, e => by cases e
  | .str _ :: _, _, _, .cons _ _, e => by cases e
  | .tup _ :: _, _, _, .cons _ _, e => by cases e
  | .lst _ :: _, _, _, .cons _ _, e => by cases e
  | .loc _ :: _, _, _, .cons _ _, e => by cases e
  | .cst _ :: _, _, _, .cons _ _, e => by cases e
  | .scr _ :: _, _, _, .cons _ _, e => by cases e
def kAll : List DV → M DV := k1 fun x => mo (match x with
  | .lst xs => (bools xs).map fun bs => .bl (bs.all id)
  | _ => none)
def kAny : List DV → M DV := k1 fun x => mo (match x with
  | .lst xs => (bools xs).map fun bs => .bl (bs.any id)
  | _ => none)
theorem cd_all {K : PySem.W.Frag} : CallD K (rAll K) kAll := by
  intro r H W xs z W' vs Q hw e rs q
  replace e := k1_inv e
  obtain ⟨x, rfl, e⟩ := e
  obtain ⟨v, rfl, rx⟩ := rs.one
  obtain ⟨e5, e6⟩ := mo_inv e
  subst e6
  clear e
  split at e5
  · obtain ⟨bs, e1, rfl⟩ := Option.map_eq_some_iff.mp e5
    cases rx with
    | lst z h t =>
      have e2 := bools_rel t e1
      subst e2
      exact ⟨_, bs, rfl, .of h, done0 hw (.bl _) q⟩
  · cases e5
/-- isinstance -/
def tyD (W : Wd) : DV → Option String
  | .non => some "NoneType"
  | .bl _ => some "bool"
  | .int _ => some "int"
  | .str _ => some "str"
  | .tup _ => some "tuple"
  | .lst _ => some "list"
  | .scr _ => some "list"
  | .loc i => match W[i]? with
    | some (.lst _) => some "list"
    | _ => none
  | .cst _ => none
  | .gl _ => none
  | .exc _ _ _ => none
theorem ty_rel {K : PySem.W.Frag} {r : Rh} {H : Hp} {W : Wd} {x : DV} {v : V} {t : String} (hw : Hw K r H W) (rx : Rv K r H x v) (e : tyD W x = some t) : TyX K H v (.type t) := by
  cases rx with
  | non => cases e; exact .base .non
  | bl b => cases e; exact .base (.bl b)
  | int i => cases e; exact .base (.int i)
  | str s => cases e; exact .base (.str s)
  | cst v => cases e
  | gl c => cases e
  | exc0 c n h => cases e
  | excD c n h m g l q => cases e
  | tup h q =>
    cases e
    rcases h with ⟨_, h⟩ | ⟨o, its, n, h1, h2, _⟩
    · exact .base (.tup h)
    · exact .kTuple h1 h2
  | lst z h q => cases e; exact .base (.lst h)
  | scr h =>
    cases e
    rcases h with ⟨_, h | ⟨o, h⟩⟩ | ⟨o, its, n, h1, h2, _⟩
    · exact .base (.lst h)
    · exact .base (.frz h)
    · exact .kList h1 h2
  | @loc i a h =>
    unfold tyD at e
    dsimp only at e
    cases q : W[i]? with
    | none => rw [q] at e; cases e
    | some c =>
      rw [q] at e
      cases c with
      | dead => cases e
      | lst ys =>
        cases e
        obtain ⟨vs, h1, h2⟩ := hw.ok i a _ h q
        exact .base (.lst h1)
/-- is a value of the type t one of the class c -/
def isSub (t c : String) : Bool := t == c || (t == "bool" && c == "int")
def known : List String := ["int", "bool", "str", "tuple", "list"]
def clsOf : DV → Option String
  | .cst (.ty n) => some n
  | _ => none
def clsAll : List DV → Option (List String)
  | [] => some []
  | x :: xs => (clsOf x).bind fun n => (clsAll xs).map fun ns => n :: ns
def kIsi : List DV → M DV := k2 fun x c W => (tyD W x).bind fun t => match c with
  | .tup cs => (clsAll cs).bind fun ns => if ns.all (known.contains ·) = true then some (.bl (ns.any (isSub t)), W) else none
  | _ => (clsOf c).bind fun n => if known.contains n = true then some (.bl (isSub t n), W) else none
theorem kit_known (K : PySem.W.Frag) {t c : String} (ht : t ∈ ["NoneType", "bool", "int", "str", "tuple", "list"]) (hc : known.contains c = true) : PySem.W.kitOne K (.type t) (.type c) = some (isSub t c) := by
  have hc' : c ∈ known := by simpa using hc
  simp only [known, List.mem_cons, List.not_mem_nil, or_false] at ht hc'
  rcases ht with rfl | rfl | rfl | rfl | rfl | rfl <;> rcases hc' with rfl | rfl | rfl | rfl | rfl <;> first | rfl | (with_unfolding_all rfl) | (unfold PySem.W.kitOne PySem.W.kitCls; decide +kernel)
theorem ty_in {W : Wd} {x : DV} {t : String} (e : tyD W x = some t) : t ∈ ["NoneType", "bool", "int", "str", "tuple", "list"] := by
  unfold tyD at e
  split at e <;> first | (cases e; done) | (cases e; decide) | (split at e <;> first | (cases e; done) | (cases e; decide))
theorem kit_all (K : PySem.W.Frag) {t : String} (ht : t ∈ ["NoneType", "bool", "int", "str", "tuple", "list"]) : ∀ ns : List String, ns.all (known.contains ·) = true → PySem.W.kitAny K (.type t) (ns.map Value.type) = some (ns.any (isSub t))
  | [], _ => rfl
  | n :: ns, h => by
    rw [List.all_cons, Bool.and_eq_true] at h
    have i := kit_all K ht ns h.2
    have j := kit_known K ht h.1
    show (match PySem.W.kitOne K (.type t) (.type n) with | some true => some true | some false => PySem.W.kitAny K (.type t) (ns.map Value.type) | none => none) = _
    rw [j, List.any_cons]
    cases isSub t n with
    | true => rfl
    | false => rw [Bool.false_or]; exact i
theorem cls_inv {x : DV} {n : String} (h : clsOf x = some n) : x = .cst (.ty n) := by
  unfold clsOf at h
  split at h
  · cases h; rfl
  · cases h
theorem clsAll_rel {K : PySem.W.Frag} {r : Rh} {H : Hp} : ∀ {xs : List DV} {vs : List V} {ns : List String}, Rvs K r H xs vs → clsAll xs = some ns → Paired ClsV vs (ns.map Value.type)
  | _, _, _, .nil, e => by cases e; exact .nil
  | x :: xs, _, _, .cons h t, e => by
    obtain ⟨n, e1, e2⟩ := Option.bind_eq_some_iff.mp (show (clsOf x).bind _ = some _ from e)
    obtain ⟨ns, e3, e4⟩ := Option.map_eq_some_iff.mp e2
    cases e4
    have := cls_inv e1
    subst this
    obtain rfl := h.cst_inv
    exact .cons (.ty n) (clsAll_rel t e3)
theorem cd_isi {K : PySem.W.Frag} : CallD K (fun xs H Q => rIsi K xs H Q ∨ rIsiT K xs H Q ∨ rIsiK K xs H Q) kIsi := by
  intro r H W xs z W' vs Q hw e rs q
  replace e := k2_inv e
  obtain ⟨x, c, rfl, e⟩ := e
  obtain ⟨v, w, rfl, rx, rc⟩ := rs.two
  obtain ⟨t, e1, e⟩ := Option.bind_eq_some_iff.mp e
  have ty := ty_rel hw rx e1
  have ti := ty_in e1
  split at e
  · rename_i cs
    obtain ⟨ns, e2, e⟩ := Option.bind_eq_some_iff.mp e
    obtain ⟨k, e⟩ := if_inv e
    cases e
    cases rc with
    | @tup tp us _ h t' =>
      have cl := clsAll_rel t' e2
      rcases h with ⟨_, h⟩ | ⟨o, its, n, h1, h2, h3, _, h4⟩
      · exact .inr (.inl ⟨v, tp, us, .type t, ns.map Value.type, _, rfl, h, cl, ty, kit_all K ti ns k, done0 hw (.bl _) q⟩)
      · have e4 : its.toList = ns.map Value.type := ClsV.all cl h4
        obtain ⟨oc, od, oda, osl⟩ := o
        dsimp only at h2 h3
        subst h2 h3
        refine .inr (.inr ⟨v, tp, od, ns.map Value.type, n, osl, .type t, _, rfl, ?_, ty, kit_all K ti ns k, done0 hw (.bl _) q⟩)
        rw [h1, ← e4]
  · obtain ⟨n, e2, e⟩ := Option.bind_eq_some_iff.mp e
    obtain ⟨k, e⟩ := if_inv e
    cases e
    have := cls_inv e2
    subst this
    obtain rfl := rc.cst_inv
    exact .inl ⟨v, .ty n, .type t, .type n, _, rfl, .ty n, ty, kit_known K ti k, done0 hw (.bl _) q⟩
section
variable {X : Cx} {x : Str} {p pos : Pos} {e : Expr} {es : List Expr} {A : EA}
theorem CallR.or {f : Value} {r1 r2 : List V → Hp → VK → Prop} (h : CallR X f r1) (h' : CallR X f r2) : CallR X f (fun xs H Q => r1 xs H Q ∨ r2 xs H Q) := by
  intro pins s sg H xs us Q I rl q
  rcases q with q | q
  · exact h pins s sg H xs us Q I rl q
  · exact h' pins s sg H xs us Q I rl q
/-- a built-in function's rule -/
structure BR (X : Cx) (f : Value) (G : List DV → M DV) : Prop where
  ex : ∃ rc, CallR X f rc ∧ CallD X.K rc G
theorem b_len : BR X (.builtin "len") kLen := ⟨_, call_len, cd_len⟩
theorem b_all (hc : X.calm = true := by rfl) : BR X (.builtin "all") kAll := ⟨_, cr_all hc, cd_all⟩
theorem b_isi : BR X (.builtin "isinstance") kIsi := ⟨_, CallR.or call_isi (CallR.or call_isiT call_isiK), cd_isi⟩
theorem de_b {id : String} {G : List DV → M DV} (h : BR X (.builtin id) G) (hg : Gl X x) (hm : X.mg x = none) (ha : DA X (e :: es) A) (hv : bootBuiltins x = some (.builtin id) := by decide +kernel) (hn : x ≠ "__name__" := by decide) (hdb : (x == ("__debug__" : Str)) = false := by decide)
    (he : starEach (e :: es) X.env = (false, eval e X.env) :: starEach es X.env := by rfl) (hpl : (backTo pos (starEach es X.env)).any (·.1) = false := by rfl) : DE X (.Call (.Name x p) (e :: es) [] pos) (eK G A) := by
  obtain ⟨rc, h1, h2⟩ := h.ex
  exact de_callB h1 h2 hg hm hv ha hn hdb he hpl
theorem de_t {T : String} {G : List DV → M DV} (h : BR X (.type T) G) (hg : Gl X x) (hm : X.mg x = none) (ha : DA X (e :: es) A) (hv : bootBuiltins x = some (.type T) := by decide +kernel) (hn : x ≠ "__name__" := by decide) (hdb : (x == ("__debug__" : Str)) = false := by decide)
    (he : starEach (e :: es) X.env = (false, eval e X.env) :: starEach es X.env := by rfl) (hpl : (backTo pos (starEach es X.env)).any (·.1) = false := by rfl) : DE X (.Call (.Name x p) (e :: es) [] pos) (eK G A) := by
  obtain ⟨rc, h1, h2⟩ := h.ex
  exact de_callTy h1 h2 hg hm hv ha hn hdb he hpl
end
/-! ### int, abs, min, tuple, list -/
def kInt : List DV → M DV := k1 fun x => mo (match x with
  | .int i => some (.int i)
  | .bl b => some (.int (if b then 1 else 0))
  | _ => none)
def kAbs : List DV → M DV := k1 fun x => mo (match x with
  | .int i => some (.int (if i < 0 then -i else i))
  | _ => none)
def kMin2 : List DV → M DV := k2 (oI fun i j => some (.int (if j < i then j else i)))
def kMax2 : List DV → M DV := k2 (oI fun i j => some (.int (if j > i then j else i)))
def kTuple : List DV → M DV := k1 fun x W => match x with
  | .tup xs => some (.tup xs, W)
  | _ => (itemsOf W x).map fun xs => (.tup xs, W)
def kList : List DV → M DV := k1 fun x W => (itemsOf W x).map fun xs => (.lst xs, W)
theorem cd_int {K : PySem.W.Frag} : CallD K (fun xs H Q => (∃ i, xs = [.int i] ∧ Q (.int i) H) ∨ ∃ k, xs = [.bl k] ∧ Q (.int (if k then 1 else 0)) H) kInt := by
  intro r H W xs z W' vs Q hw e rs q
  replace e := k1_inv e
  obtain ⟨x, rfl, e⟩ := e
  obtain ⟨v, rfl, rx⟩ := rs.one
  obtain ⟨e5, e6⟩ := mo_inv e
  subst e6
  clear e
  cases rx with
  | int i => cases e5; exact .inl ⟨i, rfl, done0 hw (.int _) q⟩
  | bl b => cases e5; exact .inr ⟨b, rfl, done0 hw (.int _) q⟩
  | _ => cases e5
theorem cd_abs {K : PySem.W.Frag} : CallD K (fun xs H Q => ∃ i, xs = [.int i] ∧ Q (.int (if i < 0 then -i else i)) H) kAbs := by
  intro r H W xs z W' vs Q hw e rs q
  replace e := k1_inv e
  obtain ⟨x, rfl, e⟩ := e
  obtain ⟨v, rfl, rx⟩ := rs.one
  obtain ⟨e5, e6⟩ := mo_inv e
  subst e6
  clear e
  cases rx with
  | int i => cases e5; exact ⟨i, rfl, done0 hw (.int _) q⟩
  | _ => cases e5
theorem cd_ii {K : PySem.W.Frag} {g : Int → Int → Int} : CallD K (fun xs H Q => ∃ i j, xs = [.int i, .int j] ∧ Q (.int (g i j)) H) (k2 (oI fun i j => some (.int (g i j)))) := by
  intro r H W xs z W' vs Q hw e rs q
  replace e := k2_inv e
  obtain ⟨x, y, rfl, e⟩ := e
  obtain ⟨v, w, rfl, rx, ry⟩ := rs.two
  obtain ⟨e5, e6⟩ := mo_inv e
  subst e6
  clear e
  replace e5 := dI_inv e5
  obtain ⟨i, j, rfl, rfl, e5⟩ := e5
  cases e5
  obtain rfl := rx.int_inv
  obtain rfl := ry.int_inv
  exact ⟨i, j, rfl, done0 hw (.int _) q⟩
theorem cd_tuple {K : PySem.W.Frag} : CallD K (fun xs H Q => ∃ p ys, xs = [.ref p] ∧ ((SqL K H p ys ∧ ∀ l, H l = none → Q (.ref l) (upd H l (.tup ys))) ∨ (SqT K H p ys ∧ Q (.ref p) H))) kTuple := by
  intro r H W xs z W' vs Q hw e rs q
  replace e := k1_inv e
  obtain ⟨x, rfl, e⟩ := e
  obtain ⟨v, rfl, rx⟩ := rs.one
  split at e
  · cases e
    cases rx with
    | tup h t => exact ⟨_, _, rfl, .inr ⟨h.sq, done0 hw (.tup h t) q⟩⟩
  · rename_i nt
    obtain ⟨ys, e1, e2⟩ := Option.map_eq_some_iff.mp e
    cases e2
    obtain ⟨a, us, rfl, hs, rl⟩ := items_rel hw rx e1
    rcases hs with hs | hs
    · exact ⟨a, us, rfl, .inl ⟨hs, fun l hl => q r _ _ (Ext.laid hl) (hw.laid hl) (Rv.newTup hw rl hl)⟩⟩
    · cases rx with
      | @tup b vs zs h t => exact absurd rfl (nt zs)
      | lst z1 h1 t1 =>
        rcases hs with (h2 | ⟨o, h2⟩) | ⟨o, its, n, h2, h3, _⟩
        · rw [h1] at h2; cases h2
        · rw [h1] at h2; cases h2
        · exact ⟨_, _, rfl, .inl ⟨.of h1, fun l hl => q r _ _ (Ext.laid hl) (hw.laid hl) (Rv.newTup hw (by cases e1; exact t1) hl)⟩⟩
      | scr h1 => exact ⟨_, _, rfl, .inl ⟨h1.sq, fun l hl => q r _ _ (Ext.laid hl) (hw.laid hl) (Rv.newTup hw (by cases e1; exact map_ints _) hl)⟩⟩
      | @loc i a h =>
        have e1' := e1
        unfold itemsOf at e1'
        dsimp only at e1'
        cases q2 : W[i]? with
        | none => rw [q2] at e1'; cases e1'
        | some c =>
          rw [q2] at e1'
          cases c with
          | dead => cases e1'
          | lst ws =>
            cases e1'
            obtain ⟨vs2, h1, h2⟩ := hw.ok i a _ h q2
            exact ⟨a, vs2, rfl, .inl ⟨.of h1, fun l hl => q r _ _ (Ext.laid hl) (hw.laid hl) (Rv.newTup hw h2 hl)⟩⟩
      | _ => cases e1
theorem cd_list {K : PySem.W.Frag} : CallD K (fun xs H Q => ∃ p ys, xs = [.ref p] ∧ (SqL K H p ys ∨ SqT K H p ys) ∧ ∀ l, H l = none → Q (.ref l) (upd H l (.lst ys))) kList := by
  intro r H W xs z W' vs Q hw e rs q
  replace e := k1_inv e
  obtain ⟨x, rfl, e⟩ := e
  obtain ⟨v, rfl, rx⟩ := rs.one
  obtain ⟨ys, e1, e2⟩ := Option.map_eq_some_iff.mp e
  cases e2
  obtain ⟨a, us, rfl, hs, rl⟩ := items_rel hw rx e1
  exact ⟨a, us, rfl, hs, fun l hl => q r _ _ (Ext.laid hl) (hw.laid hl) (Rv.newLst hw rl hl)⟩
section
variable {X : Cx}
theorem b_int : BR X (.type "int") kInt := ⟨_, call_int1, cd_int⟩
theorem b_abs : BR X (.builtin "abs") kAbs := ⟨_, call_abs, cd_abs⟩
theorem b_min2 (hc : X.calm = true := by rfl) : BR X (.builtin "min") kMin2 := ⟨_, call_min2 hc, cd_ii⟩
theorem b_max2 (hc : X.calm = true := by rfl) : BR X (.builtin "max") kMax2 := ⟨_, call_max2 hc, cd_ii⟩
theorem b_tuple : BR X (.type "tuple") kTuple := ⟨_, call_tuple_of, cd_tuple⟩
theorem b_list : BR X (.type "list") kList := ⟨_, call_list_of, cd_list⟩
end
end DL
end L2

set_option maxRecDepth 100000
/-! DLh: repr, further iterators, lists changed in place, freezing, the end of a law. -/
namespace L2
namespace DL
open PySem PySem.Spec PyProof.Rows

/-! ### repr -/
def isDisp : PyData → Bool
  | .list _ => true
  | .tuple _ => true
  | _ => false
def rRepr (K : PySem.W.Frag) : List V → Hp → VK → Prop := fun xs H Q => ∃ x d, xs = [x] ∧ Dp K H x d ∧ d.showable = true ∧ d.hasDict = false ∧ d.depth ≤ 64 ∧ d.shown.length ≤ sizeLine ∧ Q (.str d.shown) H
theorem call_repr {X : Cx} (hg : X.A.guards = some []) (hu : X.A.units + 66 < cLine) : CallR X (.builtin "repr") (rRepr X.K) := by
  intro pins s sg H xs us Q I rl h
  obtain ⟨x, d, rfl, hd, sh, nd, dp, sz, q⟩ := h
  obtain ⟨u, rfl, ru⟩ := vals1 rl
  have ans : ∀ (h' : Heap) (t tk : Tok), (∀ b o, s.heap.get? b = some o → h'.get? b = some o) → EP X pins sg Q (.str d.shown t) { s with heap := h', toks := tk } := fun h' t tk k => ⟨.str d.shown, H, I.kept k, ⟨t, rfl⟩, q⟩
  have same : ∀ (t tk : Tok), EP X pins sg Q (.str d.shown t) { s with toks := tk } := fun t tk => ans s.heap t tk fun _ _ z => z
  have deep : ∀ a : Addr, u = .ref a → wpAny (model X.prog X.w) X.A (call (.builtin "repr") [u]) (EP X pins sg Q) X.xe s := fun a ea => by
    obtain ⟨as, r1⟩ := Dp.reads I d x u hd ru
    subst ea
    exact repr_of_reads' r1 sh (PyData.noDict_hsm nd) hg (by omega) (fun _ _ z => z) (fun h' t tk k => ans h' t tk k) sz
  cases hd with
  | non => obtain rfl : u = Value.none := ru; exact PySem.P.repr_of_none (same _ _)
  | bl b => obtain rfl : u = Value.bool b := ru; exact PySem.P.repr_of_bool (same _ _)
  | int i =>
    obtain ⟨t, rfl⟩ : ∃ t, u = Value.int i t := ru
    exact PySem.P.repr_of_int (of_decide_eq_true sh) (same _ _)
  | str z =>
    obtain ⟨t, rfl⟩ : ∃ t, u = Value.str z t := ru
    exact PySem.P.repr_of_str (same _ _) (hsz := sz)
  | lst _ _ => exact deep _ ru
  | tup _ _ => exact deep _ ru
def dRepr (x : DV) : Option Str := (toPy x).bind fun d => if (d.showable && !d.hasDict && decide (d.depth ≤ 64) && decide (d.shown.length ≤ sizeLine)) = true then some d.shown else none
def kRepr : List DV → M DV := k1 fun x => mo ((dRepr x).map .str)
theorem cd_repr {K : PySem.W.Frag} : CallD K (rRepr K) kRepr := by
  intro r H W xs z W' vs Q hw e rs q
  replace e := k1_inv e
  obtain ⟨x, rfl, e⟩ := e
  obtain ⟨v, rfl, rx⟩ := rs.one
  obtain ⟨e5, e6⟩ := mo_inv e
  subst e6
  clear e
  obtain ⟨t, e1, rfl⟩ := Option.map_eq_some_iff.mp e5
  obtain ⟨d, e2, e3⟩ := Option.bind_eq_some_iff.mp e1
  obtain ⟨c, rfl⟩ := if_inv e3
  simp only [Bool.and_eq_true, Bool.not_eq_true', decide_eq_true_eq] at c
  exact ⟨v, d, rfl, rx.dp e2, c.1.1.1, c.1.1.2, c.1.2, c.2, done0 hw (.str _) q⟩
theorem b_repr {X : Cx} {k : Nat} (hr : Rm k X.A) : BR X (.builtin "repr") kRepr := ⟨_, call_repr hr.2 (by have := hr.1.un; omega), cd_repr⟩

/-! ### further iterators -/
/-- the signs of a text -/
def signs (s : Str) : List DV := s.cps.toList.map fun c => DV.str ⟨#[c]⟩
theorem itd_text {K : PySem.W.Frag} {r : Rh} {H : Hp} {s : Str} : ItD K (signs s) r H (Its s) := fun r2 H2 W2 e w => by
  refine ⟨fun i x ex => ?_, fun i l => ?_⟩
  · unfold signs at ex
    rw [List.getElem?_map] at ex
    cases q : s.cps.toList[i]? with
    | none => rw [q] at ex; cases ex
    | some c =>
      rw [q] at ex
      obtain rfl := Option.some.inj ex
      have q' : s.cps[i]? = some c := by rw [← q]; exact (Array.getElem?_toList).symm
      obtain ⟨l, _⟩ := Array.getElem?_eq_some_iff.mp q'
      refine ⟨l, fun u H3 y => ?_⟩
      obtain ⟨rfl, d, qd, rfl⟩ := y
      rw [q'] at qd
      cases qd
      exact ⟨Same.refl _, .str _⟩
  · unfold signs at l
    rw [List.length_map, Array.length_toList] at l
    exact l
def iS (F : ES) : IS := fun env => mb (F env) fun x => match x with
  | .str s => mr (signs s)
  | _ => fun _ => none
/-- lo, lo + c, .. -/
def stepFrom (lo c : Int) (n : Nat) : List DV := (List.range n).map fun i => DV.int (lo + (i : Nat) * c)
theorem stepFrom_get {lo c : Int} {n i : Nat} {x : DV} (h : (stepFrom lo c n)[i]? = some x) : i < n ∧ x = .int (lo + (i : Nat) * c) := by
  unfold stepFrom at h
  rw [List.getElem?_map] at h
  cases q : (List.range n)[i]? with
  | none => rw [q] at h; cases h
  | some j =>
    rw [q] at h
    obtain ⟨l, e⟩ := List.getElem?_eq_some_iff.mp q
    rw [List.getElem_range] at e
    rw [List.length_range] at l
    subst e
    exact ⟨l, (Option.some.inj h).symm⟩
theorem itd_step {K : PySem.W.Frag} {r : Rh} {H : Hp} {lo c : Int} {n : Nat} : ItD K (stepFrom lo c n) r H (Itc lo c n) := fun r2 H2 W2 e w =>
  ⟨fun i x ex => by
    obtain ⟨l, rfl⟩ := stepFrom_get ex
    refine ⟨l, fun u H3 y => ?_⟩
    obtain ⟨rfl, rfl⟩ := y
    exact ⟨Same.refl _, .int _⟩,
  fun i l => by
    have z : (stepFrom lo c n).length = n := by unfold stepFrom; rw [List.length_map, List.length_range]
    rw [z] at l; exact l⟩
/-- range(i, j, -1) -/
def iDown (A : EA) : IS := fun env => mb (A env) fun xs => match xs with
  | [.int i, .int j, .int c] => if (rngOk i && rngOk j && decide (c = -1)) = true then mr (stepFrom i (-1) (i - j).toNat) else fun _ => none
  | _ => fun _ => none
def pairUp : List DV → List DV → List DV
  | x :: xs, y :: ys => .tup [x, y] :: pairUp xs ys
  | _, _ => []
theorem pairUp_get : ∀ {xs ys : List DV} {i : Nat} {z : DV}, (pairUp xs ys)[i]? = some z → ∃ x y, xs[i]? = some x ∧ ys[i]? = some y ∧ z = .tup [x, y]
  | [], ys, i, z, h => by cases ys <;> cases h
  | x :: xs, [], i, z, h => by cases h
  | x :: xs, y :: ys, 0, z, h => by cases h; exact ⟨x, y, rfl, rfl, rfl⟩
  | x :: xs, y :: ys, i + 1, z, h => by
    obtain ⟨a, b, h1, h2, h3⟩ := pairUp_get (xs := xs) (ys := ys) (i := i) (z := z) (by simpa [pairUp] using h)
    exact ⟨a, b, by simpa using h1, by simpa using h2, h3⟩
theorem pairUp_len : ∀ {xs ys : List DV} {i : Nat}, (pairUp xs ys).length ≤ i → xs.length ≤ i ∨ ys.length ≤ i
  | [], ys, i, h => .inl (Nat.zero_le _)
  | x :: xs, [], i, h => .inr (Nat.zero_le _)
  | x :: xs, y :: ys, 0, h => by simp [pairUp] at h
  | x :: xs, y :: ys, i + 1, h => by
    rcases pairUp_len (xs := xs) (ys := ys) (i := i) (by simpa [pairUp] using h) with q | q
    · exact .inl (by simpa using q)
    · exact .inr (by simpa using q)
/-- zip of two lists, or of two tuples -/
def iZ (A : EA) : IS := fun env => mb (A env) fun zs => match zs with
  | [.lst xs, .lst ys] => mr (pairUp xs ys)
  | [.tup xs, .tup ys] => mr (pairUp xs ys)
  | _ => fun _ => none
theorem itd_zipL {K : PySem.W.Frag} {r : Rh} {H : Hp} {a b : Addr} {xs ys : List DV} {vs us : List V} (h1 : ∀ r' H', Exw r H r' H' → SqL K H' a vs) (h2 : ∀ r' H', Exw r H r' H' → SqL K H' b us) (r1 : Rvs K r H xs vs) (r2 : Rvs K r H ys us) : ItD K (pairUp xs ys) r H (Itz K a b) := fun r3 H3 W3 e w =>
  ⟨fun i x ex => by
    obtain ⟨y, z, e1, e2, rfl⟩ := pairUp_get ex
    obtain ⟨v, ev, rv⟩ := r1.get e1
    obtain ⟨u, eu, ru⟩ := r2.get e2
    refine ⟨⟨vs, us, v, u, h1 _ _ e, h2 _ _ e, ev, eu⟩, fun t H4 y => ?_⟩
    obtain ⟨T, v', u', rfl, hT, rfl, k1, k2⟩ := y
    have k1 := k1 _ (h1 _ _ e)
    have k2 := k2 _ (h2 _ _ e)
    rw [ev] at k1; cases k1
    rw [eu] at k2; cases k2
    exact ⟨same_laid hT, Rv.newTup w (.cons (rv.extw e) (.cons (ru.extw e) .nil)) hT⟩,
  fun i l => ⟨vs, us, h1 _ _ e, h2 _ _ e, by
    rcases pairUp_len l with q | q
    · exact .inl (by rw [← r1.length]; exact q)
    · exact .inr (by rw [← r2.length]; exact q)⟩⟩
theorem itd_zipT {K : PySem.W.Frag} {r : Rh} {H : Hp} {a b : Addr} {xs ys : List DV} {vs us : List V} (h1 : ∀ r' H', Exw r H r' H' → SqT K H' a vs) (h2 : ∀ r' H', Exw r H r' H' → SqT K H' b us) (r1 : Rvs K r H xs vs) (r2 : Rvs K r H ys us) : ItD K (pairUp xs ys) r H (RZ.ItzT K a b) := fun r3 H3 W3 e w =>
  ⟨fun i x ex => by
    obtain ⟨y, z, e1, e2, rfl⟩ := pairUp_get ex
    obtain ⟨v, ev, rv⟩ := r1.get e1
    obtain ⟨u, eu, ru⟩ := r2.get e2
    refine ⟨⟨vs, us, v, u, h1 _ _ e, h2 _ _ e, ev, eu⟩, fun t H4 y => ?_⟩
    obtain ⟨T, v', u', rfl, hT, rfl, k1, k2⟩ := y
    have k1 := k1 _ (h1 _ _ e)
    have k2 := k2 _ (h2 _ _ e)
    rw [ev] at k1; cases k1
    rw [eu] at k2; cases k2
    exact ⟨same_laid hT, Rv.newTup w (.cons (rv.extw e) (.cons (ru.extw e) .nil)) hT⟩,
  fun i l => ⟨vs, us, h1 _ _ e, h2 _ _ e, by
    rcases pairUp_len l with q | q
    · exact .inl (by rw [← r1.length]; exact q)
    · exact .inr (by rw [← r2.length]; exact q)⟩⟩
/-- i, x in enumerate(xs) -/
def numbered (k : Nat) : List DV → List DV
  | [] => []
  | x :: xs => .tup [.int (k : Nat), x] :: numbered (k + 1) xs
theorem numbered_get : ∀ {xs : List DV} {k i : Nat} {z : DV}, (numbered k xs)[i]? = some z → ∃ x, xs[i]? = some x ∧ z = .tup [.int ((k + i : Nat) : Int), x]
  | [], k, i, z, h => by cases h
  | x :: xs, k, 0, z, h => by cases h; exact ⟨x, rfl, rfl⟩
  | x :: xs, k, i + 1, z, h => by
    obtain ⟨y, h1, h2⟩ := numbered_get (xs := xs) (k := k + 1) (i := i) (z := z) (by simpa [numbered] using h)
    exact ⟨y, by simpa using h1, by rw [h2]; congr 4; omega⟩
theorem numbered_len : ∀ {xs : List DV} {k : Nat}, (numbered k xs).length = xs.length
  | [], k => rfl
  | x :: xs, k => by show (numbered (k + 1) xs).length + 1 = xs.length + 1; rw [numbered_len]
def iE (A : EA) : IS := fun env => mb (A env) fun zs => match zs with
  | [.lst xs] => mr (numbered 0 xs)
  | _ => fun _ => none
theorem itd_enum {K : PySem.W.Frag} {r : Rh} {H : Hp} {a : Addr} {xs : List DV} {vs : List V} (h1 : ∀ r' H', Exw r H r' H' → SqL K H' a vs) (r1 : Rvs K r H xs vs) : ItD K (numbered 0 xs) r H (Ite K a) := fun r3 H3 W3 e w =>
  ⟨fun i x ex => by
    obtain ⟨y, e1, rfl⟩ := numbered_get ex
    obtain ⟨v, ev, rv⟩ := r1.get e1
    refine ⟨⟨vs, v, h1 _ _ e, ev⟩, fun t H4 y => ?_⟩
    obtain ⟨T, v', rfl, hT, rfl, k1⟩ := y
    have k1 := k1 _ (h1 _ _ e)
    rw [ev] at k1; cases k1
    rw [Nat.zero_add]
    exact ⟨same_laid hT, Rv.newTup w (.cons (.int _) (.cons (rv.extw e) .nil)) hT⟩,
  fun i l => ⟨vs, h1 _ _ e, by rw [numbered_len] at l; rw [← r1.length]; exact l⟩⟩
section
variable {X : Cx} {tg a b c : Expr} {F : ES} {A : EA} {p pos tpos : Pos} {elts : List Expr} {kk : Nat}
theorem di_str (h : DE X a F) : DI X tg a (iS F) := by
  refine pi_imp (pi_str h) ?_
  rintro sg H R ⟨r, env, W, hE, hw, xs, W', e, q⟩
  obtain ⟨x, W1, e1, e⟩ := mb_inv e
  refine ⟨r, env, W, hE, hw, x, W1, e1, fun r1 H1 v x1 w1 rv => ?_⟩
  cases rv with
  | str s =>
    obtain ⟨rfl, rfl⟩ := mr_inv (show mr (signs s) W1 = some (xs, W') from e)
    exact ⟨s, rfl, q r1 H1 _ x1 w1 itd_text⟩
  | _ => cases (show none = some (xs, W') from e)
theorem di_r1 (hg : Gl X "range") (hm : X.mg "range" = none) (ha : DA X [a] A) (hs : starEach [a] X.env = [(false, eval a X.env)] := by rfl) : DI X tg (.Call (.Name "range" p) [a] [] pos) (iR1 A) := di_range1 hg hm ha hs (pi_range1 hg hm ha hs)
theorem di_down (hg : Gl X "range") (hm : X.mg "range" = none) (ha : DA X [a, b, c] A) (hs : starEach [a, b, c] X.env = (false, eval a X.env) :: starEach [b, c] X.env := by rfl) (hpl : (backTo pos (starEach [b, c] X.env)).any (·.1) = false := by rfl) :
    DI X tg (.Call (.Name "range" p) [a, b, c] [] pos) (iDown A) := by
  refine pi_imp (pi_range3 hg hm ha hs hpl) ?_
  rintro sg H R ⟨r, env, W, hE, hw, ys, W', e, q⟩
  obtain ⟨xs, W1, e1, e⟩ := mb_inv e
  refine ⟨r, env, W, hE, hw, xs, W1, e1, fun r1 H1 vs x1 w1 rs => ?_⟩
  try dsimp only at e
  split at e
  · rename_i i j c
    cases rs with
    | cons q1 rs =>
      cases rs with
      | cons q2 rs =>
        cases rs with
        | cons q3 rs =>
          cases rs
          obtain rfl := q1.int_inv
          obtain rfl := q2.int_inv
          obtain rfl := q3.int_inv
          obtain ⟨c', e⟩ := if_some e
          obtain ⟨rfl, rfl⟩ := mr_inv e
          simp only [Bool.and_eq_true] at c'
          have a1 := of_decide_eq_true c'.1.1
          have a2 := of_decide_eq_true c'.1.2
          have a3 : c = -1 := of_decide_eq_true c'.2
          subst a3
          exact ⟨i, j, -1, _, rfl, RgC.neg a1.1 a1.2 a2.1 a2.2, q r1 H1 _ x1 w1 itd_step⟩
  · cases e
theorem di_zip (hg : Gl X "zip") (hm : X.mg "zip" = none) (ha : DA X [a, b] A)
    (hs : starEach [a, b] X.env = (false, eval a X.env) :: starEach [b] X.env := by rfl) (hpl : (backTo pos (starEach [b] X.env)).any (·.1) = false := by rfl) : DI X (.Tuple elts kk tpos) (.Call (.Name "zip" p) [a, b] [] pos) (iZ A) := by
  refine pi_imp (RZ.pi_zipA hg hm ha hs hpl) ?_
  rintro sg H R ⟨r, env, W, hE, hw, ys, W', e, q⟩
  obtain ⟨xs, W1, e1, e⟩ := mb_inv e
  refine ⟨r, env, W, hE, hw, xs, W1, e1, fun r1 H1 vs x1 w1 rs => ?_⟩
  try dsimp only at e
  split at e
  · cases rs with
    | cons q1 rs =>
      cases rs with
      | cons q2 rs =>
        cases rs
        obtain ⟨rfl, rfl⟩ := mr_inv e
        cases q1 with
        | lst z1 h1 t1 =>
          cases q2 with
          | lst z2 h2 t2 => exact ⟨_, _, _, _, rfl, .inl ⟨.of h1, .of h2, q r1 H1 _ x1 w1 (itd_zipL (fun r' H' e' => .of (e'.keep _ _ z1.1 h1)) (fun r' H' e' => .of (e'.keep _ _ z2.1 h2)) t1 t2)⟩⟩
  · cases rs with
    | cons q1 rs =>
      cases rs with
      | cons q2 rs =>
        cases rs
        obtain ⟨rfl, rfl⟩ := mr_inv e
        cases q1 with
        | tup h1 t1 =>
          cases q2 with
          | tup h2 t2 => exact ⟨_, _, _, _, rfl, .inr ⟨h1.sq, h2.sq, q r1 H1 _ x1 w1 (itd_zipT (fun r' H' e' => (h1.extw e').sq) (fun r' H' e' => (h2.extw e').sq) t1 t2)⟩⟩
  · cases e
theorem di_enum (hg : Gl X "enumerate") (hm : X.mg "enumerate" = none) (ha : DA X [a] A) (hs : starEach [a] X.env = [(false, eval a X.env)] := by rfl) : DI X (.Tuple elts kk tpos) (.Call (.Name "enumerate" p) [a] [] pos) (iE A) := by
  refine pi_imp (pi_enum hg hm ha hs) ?_
  rintro sg H R ⟨r, env, W, hE, hw, ys, W', e, q⟩
  obtain ⟨xs, W1, e1, e⟩ := mb_inv e
  refine ⟨r, env, W, hE, hw, xs, W1, e1, fun r1 H1 vs x1 w1 rs => ?_⟩
  try dsimp only at e
  split at e
  · obtain ⟨v, rfl, rx⟩ := rs.one
    obtain ⟨rfl, rfl⟩ := mr_inv e
    cases rx with
    | lst z1 h1 t1 => exact ⟨_, _, rfl, .of h1, q r1 H1 _ x1 w1 (itd_enum (fun r' H' e' => .of (e'.keep _ _ z1.1 h1)) t1)⟩
  · cases e
end
/-! ### lists changed in place -/
def dApp (x y : DV) : M DV := fun W => match x with
  | .loc i => match W[i]? with
    | some (.lst xs) => if xs.length < sizeLine then some (.non, W.set i (.lst (xs ++ [y]))) else none
    | _ => none
  | _ => none
theorem dApp_inv {x y : DV} {W : Wd} {p : DV × Wd} (h : dApp x y W = some p) : ∃ (i : Nat) (xs : List DV), x = .loc i ∧ W[i]? = some (.lst xs) ∧ xs.length < sizeLine ∧ p = (.non, W.set i (.lst (xs ++ [y]))) := by
  unfold dApp at h
  split at h
  · rename_i i
    split at h
    · rename_i xs ex
      by_cases c : xs.length < sizeLine
      · rw [if_pos c] at h; exact ⟨i, xs, rfl, ex, c, (Option.some.inj h).symm⟩
      · rw [if_neg c] at h; cases h
    · cases h
  · cases h
def eApp (F F' : ES) : ES := fun env => mb (F env) fun x => mb (F' env) fun y => dApp x y
theorem loc_inv {K : PySem.W.Frag} {r : Rh} {H : Hp} {i : Nat} {v : V} (h : Rv K r H (.loc i) v) : ∃ a, v = .ref a ∧ r.rho[i]? = some (some a) := by
  cases h with
  | loc h => exact ⟨_, rfl, h⟩
theorem put_list {K : PySem.W.Frag} {r : Rh} {H : Hp} {W : Wd} {i : Nat} {a : Addr} {xs : List DV} {vs : List V} (hw : Hw K r H W) (hi : r.rho[i]? = some (some a)) (rs : Rvs K r H xs vs) : Ext r H r (upd H a (.lst vs)) ∧ Hw K r (upd H a (.lst vs)) (W.set i (.lst xs)) := by
  have e : Ext r H r (upd H a (.lst vs)) := ⟨rfl, fun _ _ q => q, Nat.le_refl _, fun b mb n => absurd mb n, fun b u n q => by rw [upd_ne (fun z => n (by rw [z]; exact mem_of hi))]; exact q⟩
  exact hw.put hi ⟨vs, upd_same, rs.ext e⟩
section
variable {X : Cx} {o a i : Expr} {F F' F2 : ES} {apos cpos pos : Pos}
theorem de_append (ho : DE X o F) (ha : DE X a F') (hbase : attributeBase o "append" X.env (eval o X.env) = eval o X.env := by rfl)
    (hfew : ((backTo cpos (starEach [a] X.env)).all (fun x => !x.1) && (backToKw cpos (keywordEach [] X.env)).all (fun x => x.1.isSome) && decide ([a].length + ([] : List Keyword).length + (if ([] : List Keyword).isEmpty then 0 else 1) < 30)) = true := by rfl)
    (hline : (apos.endLine == cpos.line) = true := by rfl) (hs : starEach [a] X.env = (false, eval a X.env) :: starEach [] X.env := by rfl) (hplain : (backTo cpos (starEach [] X.env)).any (·.1) = false := by rfl) :
    DE X (.Call (.Attribute o "append" apos) [a] [] cpos) (eApp F F') := by
  refine pe_imp (pe_bm PySem.F.plainAttrs_list PySem.F.slot_list_append PySem.F.type_list_append mt_append ho (pa_cons ha pa_nil hs) hbase hfew hline hs hplain) ?_
  rintro sg H Q ⟨r, env, W, hE, hw, z, W', e, q⟩
  obtain ⟨x, W1, e1, e⟩ := mb_inv e
  obtain ⟨y, W2, e2, e⟩ := mb_inv e
  obtain ⟨i, xs, rfl, ex, c, e9⟩ := dApp_inv e
  cases e9
  refine ⟨r, env, W, hE, hw, .loc i, W1, e1, fun r1 H1 v x1 w1 rx => ?_⟩
  obtain ⟨l, rfl, hl⟩ := loc_inv rx
  obtain ⟨c1, hc1⟩ : ∃ c, W1[i]? = some c := by
    have : i < W1.length := by
      rw [← w1.len]
      exact (List.getElem?_eq_some_iff.mp hl).1
    exact ⟨_, List.getElem?_eq_getElem this⟩
  have ok1 := w1.ok i l c1 hl hc1
  refine ⟨?_, ?_⟩
  · cases c1 with
    | dead => exact ok1.elim
    | lst ys => obtain ⟨us, h1, _⟩ := ok1; exact .inl ⟨rfl, us, .of h1⟩
  · refine ⟨r1, env, W1, hE.ext x1, w1, y, W2, e2, fun r2 H2 w x2 w2 ry => ?_⟩
    have hl2 := x2.get _ _ hl
    obtain ⟨vs, h1, h2⟩ := w2.ok i l _ hl2 ex
    obtain ⟨k1, k2⟩ := put_list w2 hl2 (h2.append (.cons ry .nil))
    exact ⟨l, vs, w, rfl, rfl, h1, by rw [← h2.length]; exact c, q r2 _ _ ((x1.trans x2).trans k1) k2 .non⟩
/-- o[i] = v, o a cell -/
def dPut (v x y : DV) : M Unit := fun W => match x, y with
  | .loc i, .int k => match W[i]? with
    | some (.lst xs) => (ixN xs.length k).map fun j => ((), W.set i (.lst (xs.set j v)))
    | _ => none
  | _, _ => none
theorem dPut_inv {v x y : DV} {W : Wd} {p : Unit × Wd} (h : dPut v x y W = some p) : ∃ (i : Nat) (k : Int) (xs : List DV) (j : Nat), x = .loc i ∧ y = .int k ∧ W[i]? = some (.lst xs) ∧ ixN xs.length k = some j ∧ p = ((), W.set i (.lst (xs.set j v))) := by
  unfold dPut at h
  split at h
  · rename_i i k
    split at h
    · rename_i xs ex
      obtain ⟨j, e1, e2⟩ := Option.map_eq_some_iff.mp h
      exact ⟨i, k, xs, j, rfl, rfl, ex, e1, e2.symm⟩
    · cases h
  · cases h
def gSet (F F' : ES) : GS := fun v env => mb (F env) fun x => mb (F' env) fun y => mb (dPut v x y) fun _ => mr env
theorem dg_set {ss : List Nat} (ho : DE X o F) (hi : DE X i F') (ha : ∀ v, assign (.Subscript o i pos) X.env v = (do
      let ov ← holding [v] (eval o X.env)
      let iv ← holding [v, ov] (eval i X.env)
      standAt pos
      holding [v, ov, iv] (setItem ov iv v)
      release [v, ov, iv] []) := by intro _; rfl) : DG X ss (.Subscript o i pos) (gSet F F') := by
  refine pg_imp (pg_sub ho hi set_list ha) ?_
  rintro v sg H Q ⟨r, env, W, x, hE, hw, rx, env', W', e, q⟩
  obtain ⟨y, W1, e1, e⟩ := mb_inv e
  obtain ⟨z, W2, e2, e⟩ := mb_inv e
  obtain ⟨_, W3, e3, e⟩ := mb_inv e
  obtain ⟨rfl, rfl⟩ := mr_inv e
  obtain ⟨i, k, xs, j, rfl, rfl, ex, ej, e9⟩ := dPut_inv e3
  cases e9
  refine ⟨r, env', W, hE, hw, _, W1, e1, fun r1 H1 v1 x1 w1 ry => ?_⟩
  refine ⟨r1, env', W1, hE.ext x1, w1, _, W2, e2, fun r2 H2 v2 x2 w2 rz => ?_⟩
  obtain ⟨l, rfl, hl⟩ := loc_inv ry
  obtain rfl := rz.int_inv
  have hl2 := x2.get _ _ hl
  obtain ⟨vs, h1, h2⟩ := w2.ok i l _ hl2 ex
  obtain ⟨k1, k2⟩ := put_list w2 hl2 (h2.set (rx.ext (x1.trans x2)) j)
  exact ⟨l, vs, k, j, rfl, rfl, h1, by rw [← h2.length]; exact ej, q r2 _ sg ((x1.trans x2).trans k1) k2 ((hE.ext (x1.trans x2)).ext k1) rfl⟩
end
/-! ### freezing: the last cell, spoken of by one slot alone, becomes plain data -/
def optLo (n : Nat) : Option DV → Bool
  | some x => x.lo n
  | none => true
def frz (i n : Nat) (env : DEnv) (W : Wd) : Option (DEnv × Wd) := match env[i]?.join with
  | some (.loc j) => match W[j]? with
    | some (.lst xs) => if (decide (j + 1 = W.length) && decide (n ≤ j) && DV.loL j xs && (env.set i none).all (optLo j) && (W.take j).all (Cell.lo j)) = true then some (env.set i (some (.lst xs)), W.take j) else none
    | _ => none
  | _ => none
def sFrz (i : Nat) (T : SS) : SS := fun n env W => match frz i n env W with
  | some (env', W') => T n env' W'
  | none => none
theorem frz_inv {i n : Nat} {env : DEnv} {W : Wd} {p : DEnv × Wd} (h : frz i n env W = some p) : ∃ (j : Nat) (xs : List DV), env[i]? = some (some (.loc j)) ∧ W[j]? = some (.lst xs) ∧ j + 1 = W.length ∧ n ≤ j ∧ DV.loL j xs = true ∧ (env.set i none).all (optLo j) = true ∧ (W.take j).all (Cell.lo j) = true ∧ p = (env.set i (some (.lst xs)), W.take j) := by
  unfold frz at h
  split at h
  · rename_i j ej
    split at h
    · rename_i xs ex
      obtain ⟨c, e⟩ := if_inv h
      simp only [Bool.and_eq_true] at c
      refine ⟨j, xs, ?_, ex, of_decide_eq_true c.1.1.1.1, of_decide_eq_true c.1.1.1.2, c.1.1.2, c.1.2, c.2, e.symm⟩
      cases q : env[i]? with
      | none => rw [q] at ej; cases ej
      | some o => rw [q] at ej; exact congrArg some ej
    · cases h
  · cases h
theorem dss_frz {X : Cx} {i : Nat} {sts : List Stmt} {T : SS} (h : DSs X sts T) : DSs X sts (sFrz i T) := by
  refine pss_imp h ?_
  rintro D sg H ⟨r0, H0, r, env, W, x0, hE, hw, f, W', e, q⟩
  unfold sFrz at e
  split at e
  · rename_i env' W1 e1
    obtain ⟨j, xs, h1, h2, h3, h4, h5, h6, h7, e9⟩ := frz_inv e1
    cases e9
    obtain ⟨rho, hid⟩ := r
    obtain ⟨v, hv, rv⟩ := hE.2 i _ h1
    obtain ⟨a, rfl, ha⟩ := loc_inv rv
    obtain ⟨vs, hl, rs⟩ := hw.ok j a _ ha h2
    have outa : (⟨rho.take j, hid⟩ : Rh).out a := ⟨fun m => by
      obtain ⟨i', l', e'⟩ := List.mem_iff_getElem.mp m
      have q' : (rho.take j)[i']? = some (some a) := by rw [List.getElem?_eq_getElem l', e']
      obtain ⟨q1, q2⟩ := take_get q'
      have := hw.nd i' j a q1 ha
      omega, hw.sep a (mem_of ha)⟩
    refine ⟨r0, H0, ⟨rho.take j, hid⟩, _, _, ⟨x0.hid, fun k b qb => ?_, ?_, fun b m nb => x0.new b (List.mem_of_mem_take m) nb, x0.keep⟩, ⟨?_, fun k x qx => ?_⟩, hw.cut h7, f, W', e, q⟩
    · obtain ⟨l, _⟩ := List.getElem?_eq_some_iff.mp qb
      show (rho.take j)[k]? = _
      rw [List.getElem?_take, if_pos (Nat.lt_of_lt_of_le l h4)]
      exact x0.get k b qb
    · show _ ≤ (rho.take j).length
      rw [List.length_take]
      have := hw.len
      exact Nat.le_min.mpr ⟨h4, x0.len⟩
    · rw [List.length_set]; exact hE.1
    · by_cases hk : k = i
      · subst hk
        rw [List.getElem?_set] at qx
        split at qx
        · split at qx
          · obtain rfl := Option.some.inj (Option.some.inj qx)
            exact ⟨_, hv, .lst outa hl (Rvs.cut h5 rs)⟩
          · cases qx
        · rename_i z; exact absurd rfl z
      · rw [List.getElem?_set_ne (Ne.symm hk)] at qx
        obtain ⟨u, e1, ru⟩ := hE.2 k x qx
        refine ⟨u, e1, Rv.cut ?_ ru⟩
        have m : some x ∈ env.set i none := mem_of (i := k) (by rw [List.getElem?_set_ne (Ne.symm hk)]; exact qx)
        exact List.all_eq_true.mp h6 _ m
  · cases e
/-! ### the end of a law -/
theorem go_law {P : Program} {w : PySem.World} {K : PySem.W.Frag} {mg mb : Str → Option Value} {k : Nat} {fa a : Addr} {fd : FuncData} {x : Str} {fn : List DV → M DV} {s : Shared} {ns : List Int} {H : Hp}
    (KX : K.In s.heap) (gl : s.heap.Ns mainGlobals mg) (bl : s.heap.Ns builtinsNs mb) (bb : ∀ x : Str, x ≠ "__name__" → mb x = bootBuiltins x) (lim : s.heap.NoLimit) (gens : s.gens = #[]) (hr : Room k callerA)
    (hob : ∃ o its n, s.heap.get? a = some o ∧ o.data = Data.seq its n) (hok : HOk P w H s.heap) (only : ∀ b o, H b = some o → b = a ∧ K.lookup a = none ∧ ∃ ob xs, o = .frz ob (.lst xs)) (sq : SQ K ⟨[], []⟩ H a (ns.map V.int))
    (F : ∀ base : Heap, K.In base → base.Ns mainGlobals mg → FnG P w K mg base CX0 k fa fd [x] (spD K 1 fn)) (hb : ∀ (s : Shared) (u : Value), BindsTo s fd ⟨[u], []⟩ [(x, u)]) (hf : ∃ W', fn [.scr ns] [] = some (.bl true, W')) :
    codeAny (model P w) callerA (.call (.ref fa) ⟨[.ref a], []⟩) (fun r s' => r = .ok (.ret (.bool true)) ∧ OldK s.heap s'.heap ∧ s'.os = s.os ∧ AllBare s'.gens) s := by
  have noDict : ∀ {b : Addr} {o : Obj} {es : Array DictEntry} {ep : Nat}, s.heap.get? b = some o → o.data = .dict es ep → H b = none := fun {b o es ep} e d => by
    cases q : H b with
    | none => rfl
    | some u =>
      obtain ⟨rfl, _⟩ := only b u q
      obtain ⟨o', its, n, h1, h2⟩ := hob
      rw [e] at h1; cases h1
      rw [d] at h2; cases h2
  have ns' : ∀ {b : Addr} {m : Str → Option Value}, s.heap.Ns b m → (hidT s.heap H).Ns b m := fun {b m} ⟨o, es, ep, e, d, z⟩ => ⟨o, es, ep, hidT_get e (noDict e d), d, z⟩
  have KB : K.In (hidT s.heap H) := fun b o e => hidT_get (KX b o e) (by
    cases q : H b with
    | none => rfl
    | some u =>
      obtain ⟨rfl, h, _⟩ := only b u q
      rw [h] at e; cases e)
  obtain ⟨mc, l1, l2⟩ := lim
  have e0 : Env0 P w K mg (hidT s.heap H) callerA [] s H := ⟨rfl, ⟨KB, ns' gl, ⟨mb, ns' bl, bb⟩, ⟨mc, ns' l1, l2⟩⟩, fun b o e => of_hidT e, Nat.le_of_eq (hidT_size _ _), trivial, fun b hb => absurd (show b ∈ ([] : List Addr) from hb) (by simp), hok, .of_eq gens⟩
  obtain ⟨W', hf⟩ := hf
  refine codeAny_mono ((F _ KB (ns' gl)).go callerA [] s H ⟨[.ref a], []⟩ [.ref a] [.ref a] (fun v _ => v = .bl true) (fun _ _ _ => False) ⟨hr, rfl⟩ e0 (hb s (.ref a)) (.cons rfl .nil)
    ⟨⟨[], []⟩, [], [.scr ns], rfl, ⟨rfl, fun i j b q => by simp at q, fun i b c q => by simp at q, fun i c q => by simp at q, fun b m => absurd m (by simp), fun b m => absurd m (by simp)⟩, .cons (.scr sq) .nil, _, _, hf, fun r' H' v _ _ rv => rv.bl_inv⟩) fun r s' h => ?_
  match r, h with
  | .ok (.ret u), ⟨v, H', os, bare, un, hok', ru, (ev : v = .bl true)⟩ =>
    subst ev
    obtain rfl : u = Value.bool true := ru
    refine ⟨rfl, OldK.of_keep fun b o e => ?_, os, bare⟩
    cases q : H b with
    | none => exact un.keep b o e q (by intro z; exact absurd (show b ∈ ([] : List Addr) from z) (by simp)) (by simp)
    | some u =>
      obtain ⟨rfl, _, ob, xs, rfl⟩ := only b u q
      obtain ⟨e1, _⟩ := hok b _ q
      obtain ⟨e2, _⟩ := hok' b _ (un.frzs b ob _ q)
      rw [e] at e1; cases e1
      exact e2
/-- the goal that the head leaves -/
theorem end_law {l : PySem.W.OpenLaw} {n k : Nat} {q : Program} {loose : List Str} {XP : (Str → Option Value) → Heap → Prop} {YP : PySem.World → Heap → Prop} {d : DefRec} {K : Params → PySem.W.Frag} {fn : List DV → M DV} {x : Str}
    (hn : l.most = some n) (hn2 : n ≤ sizeLine) (hdf : d.params.defaults = []) (hr : Room k callerA) (hY : ∀ (w : PySem.World) (h : Heap), YP w h → (K w.params).In h)
    (F : ∀ (w : PySem.World) (mg : Str → Option Value) (fa : Addr) (h : Heap), (K w.params).In h → h.Ns mainGlobals mg → mg d.name = some (.ref fa) →
      ∃ fd : FuncData, (∀ (s : Shared) (u : Value), BindsTo s fd ⟨[u], []⟩ [(x, u)]) ∧ ∀ base : Heap, (K w.params).In base → base.Ns mainGlobals mg → FnG l.prog w (K w.params) mg base CX0 k fa fd [x] (spD (K w.params) 1 fn))
    (hf : ∀ ns : List Int, ns.length ≤ n → ∃ W', fn [.scr ns] [] = some (.bl true, W')) :
    PySem.W.WalkO q loose XP YP l.row.toRowW d [] (fun f vs => PySem.call f vs) := by
  refine Att.attach_call hn hdf fun w s0 s1 mg mb fa o pm cd doc a vs ns G Y ho hd hcd hmg hobj hints hlen hg => ?_
  have KX := hY w _ Y
  obtain ⟨fd, hb, hF⟩ := F w mg fa _ KX G.T.g hmg
  have rv := vals_ints hints
  have lenV := hints.length
  have small : ns.length ≤ sizeLine := Nat.le_trans hlen hn2
  cases hk : (K w.params).lookup a with
  | some ob =>
    have e := KX a ob hk
    rw [hobj] at e; cases e
    exact go_law (H := fun _ => none) KX G.T.g G.T.b G.T.builtins G.T.nolimit hg hr ⟨_, _, _, hobj, rfl⟩ (fun b u z => by cases (show (none : Option HO) = some u from z)) (fun b u z => by cases (show (none : Option HO) = some u from z))
      (.inr ⟨_, vs.toArray, _, hk, rfl, rfl, rfl, by rw [List.size_toArray, lenV]; exact small, by simpa using rv⟩) hF hb (hf ns hlen)
  | none =>
    have at_a : ∀ b u, (if b = a then some (HO.frz { cls := .type "list", data := .seq vs.toArray } (.lst (ns.map V.int))) else none) = some u → b = a ∧ u = .frz { cls := .type "list", data := .seq vs.toArray } (.lst (ns.map V.int)) := fun b u z => by
      by_cases hb : b = a
      · rw [if_pos hb] at z; exact ⟨hb, (Option.some.inj z).symm⟩
      · rw [if_neg hb] at z; cases z
    refine go_law (H := fun b => if b = a then some (.frz { cls := .type "list", data := .seq vs.toArray } (.lst (ns.map V.int))) else none) KX G.T.g G.T.b G.T.builtins G.T.nolimit hg hr ⟨_, _, _, hobj, rfl⟩ (fun b u z => ?_) (fun b u z => ?_)
      (.inl ⟨⟨by simp, by simp⟩, .inr ⟨_, if_pos rfl⟩⟩) hF hb (hf ns hlen)
    · obtain ⟨rfl, rfl⟩ := at_a b u z
      exact ⟨hobj, by rw [List.length_map]; exact small, vs, _, rv, hobj⟩
    · obtain ⟨rfl, rfl⟩ := at_a b u z
      exact ⟨rfl, hk, _, _, rfl⟩
end DL
end L2

set_option maxRecDepth 100000
/-! DLi: unpacking, -n, two targets. -/
namespace L2
namespace DL
open PySem PySem.Spec PyProof.Rows
section
variable {X : Cx} {ss : List Nat}
def gQ (n : Nat) (Gs : GSs) : GS := fun x env => match x with
  | .tup xs => if (xs.length == n) = true then Gs xs env else fun _ => none
  | .lst xs => if (xs.length == n) = true then Gs xs env else fun _ => none
  | _ => fun _ => none
theorem pg_or {e : Expr} {t t' : TG} (h : PG X e t) (h' : PG X e t') : PG X e (fun v sg H Q => t v sg H Q ∨ t' v sg H Q) := ⟨fun pins s sg H v u Q I rl w => by
  rcases w with w | w
  · exact h.run pins s sg H v u Q I rl w
  · exact h'.run pins s sg H v u Q I rl w⟩
theorem dg_seq {es : List Expr} {k : Nat} {Gs : GSs} {n : Nat} {pos : Pos} (hc : X.calm = true) (h : DGs X ss es Gs)
    (hn : (assignEach es X.env).length = n := by rfl) (hst : (assignEach es X.env).findIdx? (·.1) = none := by rfl) : DG X ss (.Tuple es k pos) (gQ n Gs) := by
  refine pg_imp (pg_or (pg_tup hc h hn hst) (pg_unl hc h hn hst)) ?_
  rintro v sg H Q ⟨r, env, W, x, hE, hw, rx, env', W', e, q⟩
  unfold gQ at e
  split at e
  · rename_i xs
    cases rx with
    | @tup a vs _ hq rs =>
      by_cases c : (xs.length == n) = true
      · rw [if_pos c] at e
        exact .inl ⟨a, vs, rfl, hq.sq, by rw [← rs.length]; simpa using c, r, env, W, xs, hE, hw, rs, env', W', e, q⟩
      · rw [if_neg c] at e; cases e
  · rename_i xs
    cases rx with
    | @lst a vs _ z hq rs =>
      by_cases c : (xs.length == n) = true
      · rw [if_pos c] at e
        exact .inr ⟨a, vs, rfl, .of hq, by rw [← rs.length]; simpa using c, r, env, W, xs, hE, hw, rs, env', W', e, q⟩
      · rw [if_neg c] at e; cases e
  · cases e
def eNeg (F : ES) : ES := fun env => mb (F env) fun x => mo (match x with
  | .int i => some (.int (-i))
  | _ => none)
theorem de_neg {a : Expr} {F : ES} {pos : Pos} (h : DE X a F) : DE X (.UnaryOp .USub a pos) (eNeg F) := by
  refine pe_imp (pe_un un_neg h) ?_
  rintro sg H Q ⟨r, env, W, hE, hw, z, W', e, q⟩
  obtain ⟨x, W1, e1, e⟩ := mb_inv e
  obtain ⟨e2, rfl⟩ := mo_inv e
  refine ⟨r, env, W, hE, hw, x, _, e1, fun r1 H1 v x1 w1 rx => ?_⟩
  cases rx with
  | int i => cases e2; exact ⟨i, rfl, q r1 H1 _ x1 w1 (.int _)⟩
  | _ => cases e2
theorem ds_two {i j : Nat} {x y : Str} {a b : Expr} {A : EA} {px py pt pos : Pos} {kt k2 pt2} (hc : X.calm = true) (hN : X.N.Nodup) (hi : X.N[i]? = some x) (hj : X.N[j]? = some y) (hij : i ≠ j)
    (hx : X.env.scope.names.lookup x = some .local) (hy : X.env.scope.names.lookup y = some .local) (ha : DA X [a, b] A)
    (hw : swappedStores [.Tuple [.Name x px, .Name y py] kt pt] (.Tuple [a, b] k2 pt2) X.env = pure (some [x, y]))
    (hs : swapsWithSole [.Tuple [.Name x px, .Name y py] kt pt] (.Tuple [a, b] k2 pt2) pos.line X.env = pure false := by rfl) :
    DS X (.Assign [.Tuple [.Name x px, .Name y py] kt pt] (.Tuple [a, b] k2 pt2) pos) (sPar i j A) := ds_par hc hN hi hj hij hx hy ha (ps_par hc hN hi hj hij hx hy ha hw hs)
theorem ds_mulset {i : Nat} {x : Str} {e : Expr} {F : ES} {pos pos' : Pos} (hN : X.N.Nodup) (hi : X.N[i]? = some x) (hx : Loc X.env.scope x) (he : DE X e F) (h : PS X (.AugAssign (.Name x pos') .Mult e pos) (tAug i (tX X.K F) (rI CMul fun i j => .int (i * j)))) : DS X (.AugAssign (.Name x pos') .Mult e pos) (sAug i F oMul) := ds_aug h od_mul
theorem ds_addset {i : Nat} {x : Str} {e : Expr} {F : ES} {pos pos' : Pos} (hN : X.N.Nodup) (hi : X.N[i]? = some x) (hx : Loc X.env.scope x) (he : DE X e F) (h : PS X (.AugAssign (.Name x pos') .Add e pos) (tAug i (tX X.K F) (rI0 fun i j => .int (i + j)))) : DS X (.AugAssign (.Name x pos') .Add e pos) (sAug i F (oI fun i j => some (.int (i + j)))) := ds_aug h od_i0
end
end DL
end L2

set_option maxRecDepth 100000
/-! DLs: how the combinators are reckoned (for simp). -/
namespace L2
namespace DL
open PySem PySem.Spec PyProof.Rows
theorem mb_apply {α β : Type} (m : M α) (k : α → M β) (W : Wd) : mb m k W = (m W).bind fun p => k p.1 p.2 := by
  unfold mb
  cases m W with
  | none => rfl
  | some p => rfl
@[simp] theorem mr_apply {α : Type} (a : α) (W : Wd) : mr a W = some (a, W) := rfl
@[simp] theorem mo_some {α : Type} (a : α) (W : Wd) : mo (some a) W = some (a, W) := rfl
@[simp] theorem mo_none {α : Type} (W : Wd) : mo (none : Option α) W = none := rfl
@[simp] theorem mB_bl (b : Bool) (W : Wd) : mB (.bl b) W = some (b, W) := rfl
theorem fin_same {n : Nat} {x : DV} {W : Wd} (h : W.length = n) : fin n x W = some (x, W) := by unfold fin; rw [if_pos h]
theorem runF_rt {nN : Nat} {S : SS} {xs : List DV} {W W' : Wd} {x : DV} (h : S W.length (xs.map some ++ List.replicate (nN - xs.length) none) W = some (.rt x, W')) (l : W'.length = W.length) : runF nN S xs W = some (x, W') := by
  unfold runF
  rw [h]
  exact fin_same l
theorem runF_nx {nN : Nat} {S : SS} {xs : List DV} {W W' : Wd} {e : DEnv} (h : S W.length (xs.map some ++ List.replicate (nN - xs.length) none) W = some (.nx e, W')) (l : W'.length = W.length) : runF nN S xs W = some (.non, W') := by
  unfold runF
  rw [h]
  exact fin_same l
/-- a def whose own cells are dropped -/
theorem runF_cut {nN : Nat} {S : SS} {xs : List DV} {W W' : Wd} {x : DV} (h : S W.length (xs.map some ++ List.replicate (nN - xs.length) none) W = some (.rt x, W')) (l : W.length < W'.length) (c : (x.lo W.length && (W'.take W.length).all (Cell.lo W.length)) = true) : runF nN S xs W = some (x, W'.take W.length) := by
  unfold runF
  rw [h]
  show fin W.length x W' = _
  unfold fin
  rw [if_neg (by omega), if_pos c]
theorem runF_keep {nN : Nat} {S : SS} {xs : List DV} {W W' : Wd} {x : DV} (h : S W.length (xs.map some ++ List.replicate (nN - xs.length) none) W = some (.rt x, W')) (l : W.length < W'.length) (c : x.lo W.length = false) : runF nN S xs W = some (x, W') := by
  unfold runF
  rw [h]
  show fin W.length x W' = _
  unfold fin
  rw [if_neg (by omega), c]
  rfl
@[simp] theorem k1_one (g : DV → M DV) (x : DV) : k1 g [x] = g x := rfl
@[simp] theorem k2_two (g : DV → DV → M DV) (x y : DV) : k2 g [x, y] = g x y := rfl
/-! expressions -/
section
variable (F F' F2 : ES) (A : EA) (B B' : EB) (G G' : DV → DV → M DV) (env : DEnv) (W : Wd) (n : Nat) (S T : SS)
@[simp] theorem r_eV (i : Nat) : eV i env W = mo (env[i]?.join) W := rfl
@[simp] theorem r_eC (d : DV) : eC d env W = some (d, W) := rfl
@[simp] theorem r_eO : eO G F F' env W = (F env W).bind fun p => (F' env p.2).bind fun q => G p.1 q.1 q.2 := by simp [eO, mb_apply]
@[simp] theorem r_bT : bT F env W = (F env W).bind fun p => mB p.1 p.2 := by simp [bT, mb_apply]
@[simp] theorem r_bNot : bNot B env W = (B env W).bind fun p => some (!p.1, p.2) := by simp [bNot, mb_apply]
@[simp] theorem r_bAnd : bAnd B B' env W = (B env W).bind fun p => if p.1 = true then B' env p.2 else some (false, p.2) := by
  simp only [bAnd, mb_apply]
  congr 1
  funext p
  split <;> rfl
@[simp] theorem r_bOr : bOr B B' env W = (B env W).bind fun p => if p.1 = true then some (true, p.2) else B' env p.2 := by
  simp only [bOr, mb_apply]
  congr 1
  funext p
  split <;> rfl
@[simp] theorem r_eAnd : eAnd F F' env W = (F env W).bind fun p => (mB p.1 p.2).bind fun q => if q.1 = true then F' env q.2 else some (.bl false, q.2) := by
  simp only [eAnd, mb_apply]
  congr 1
  funext p
  congr 1
  funext q
  split <;> rfl
@[simp] theorem r_eOr : eOr F F' env W = (F env W).bind fun p => (mB p.1 p.2).bind fun q => if q.1 = true then some (.bl true, q.2) else F' env q.2 := by
  simp only [eOr, mb_apply]
  congr 1
  funext p
  congr 1
  funext q
  split <;> rfl
@[simp] theorem r_eNot : eNot F env W = (F env W).bind fun p => (mB p.1 p.2).bind fun q => some (.bl (!q.1), q.2) := by simp [eNot, mb_apply]
@[simp] theorem r_eIf : eIf B F F' env W = (B env W).bind fun p => if p.1 = true then F env p.2 else F' env p.2 := by
  simp only [eIf, mb_apply]
  congr 1
  funext p
  split <;> rfl
@[simp] theorem r_eCh : eCh G G' F F' F2 env W = (F env W).bind fun p => (F' env p.2).bind fun q => (G p.1 q.1 q.2).bind fun c => (mB c.1 c.2).bind fun b => if b.1 = true then (F2 env b.2).bind fun z => G' q.1 z.1 z.2 else some (.bl false, b.2) := by
  simp only [eCh, mb_apply]
  congr 1
  funext p
  congr 1
  funext q
  congr 1
  funext c
  congr 1
  funext b
  split <;> simp [mb_apply]
@[simp] theorem r_aN : aN env W = some ([], W) := rfl
@[simp] theorem r_aC : aC F A env W = (F env W).bind fun p => (A env p.2).bind fun q => some (p.1 :: q.1, q.2) := by simp [aC, mb_apply]
@[simp] theorem r_eTup : eTup A env W = (A env W).bind fun p => mo (if lineOk p.1 = true then some (.tup p.1) else none) p.2 := by simp [eTup, mb_apply]
@[simp] theorem r_eLst : eLst A env W = (A env W).bind fun p => mo (if lineOk p.1 = true then some (.lst p.1) else none) p.2 := by simp [eLst, mb_apply]
@[simp] theorem r_eNew : eNew A env W = (A env W).bind fun p => if lineOk p.1 = true then some (.loc p.2.length, p.2 ++ [.lst p.1]) else none := by simp [eNew, mb_apply]
@[simp] theorem r_eK (g : List DV → M DV) : eK g A env W = (A env W).bind fun p => g p.1 p.2 := by simp [eK, mb_apply]
theorem app_ite {α : Type} {c : Prop} [Decidable c] (m : M α) (W : Wd) : (if c then m else fun _ => none) W = if c then m W else none := by split <;> rfl
@[simp] theorem r_eF (fn : List DV → M DV) : eF n fn A env W = (A env W).bind fun p => if (p.1.length == n) = true then fn p.1 p.2 else none := by simp only [eF, mb_apply, app_ite]
@[simp] theorem r_eFK (m : Nat) (ix : List Nat) (fn : List DV → M DV) : eFK n m ix fn A env W = (A env W).bind fun p => if (p.1.length == m) = true then (if ((perm ix p.1).length == n) = true then fn (perm ix p.1) p.2 else none) else none := by simp only [eFK, mb_apply, app_ite]
def negD : DV → Option DV
  | .int i => some (.int (-i))
  | _ => none
@[simp] theorem r_eNeg : eNeg F env W = (F env W).bind fun p => mo (negD p.1) p.2 := by
  simp only [eNeg, mb_apply]
  cases F env W with
  | none => rfl
  | some p =>
    obtain ⟨x, W1⟩ := p
    cases x <;> rfl
@[simp] theorem negD_int (i : Int) : negD (.int i) = some (.int (-i)) := rfl
@[simp] theorem r_eSl (L U : EO) : eSl F L U env W = (F env W).bind fun p => (L env p.2).bind fun l => (U env l.2).bind fun u => dSl p.1 l.1 u.1 u.2 := by simp only [eSl, mb_apply]
@[simp] theorem r_oNone : oNone env W = some (none, W) := rfl
def toI : DV → Option (Option Int)
  | .int i => some (some i)
  | _ => none
@[simp] theorem r_oSome : oSome F env W = (F env W).bind fun p => mo (toI p.1) p.2 := by
  simp only [oSome, mb_apply]
  congr 1
  funext p
  obtain ⟨x, W1⟩ := p
  cases x <;> rfl
@[simp] theorem r_eApp : eApp F F' env W = (F env W).bind fun p => (F' env p.2).bind fun q => dApp p.1 q.1 q.2 := by simp only [eApp, mb_apply]
@[simp] theorem r_eComp (ss : List Nat) (I : IS) (g : GS) : eComp ss I g B F env W = (I env W).bind fun p => (cLoop g B F (wipeD env ss) p.1 [] p.2).bind fun q => some (.lst q.1, q.2) := by simp only [eComp, mb_apply, mr_apply]
/-! operators -/
@[simp] theorem r_oI (g : Int → Int → Option DV) (i j : Int) : oI g (.int i) (.int j) W = mo (g i j) W := rfl
@[simp] theorem r_oSub (i j : Int) : oSub (.int i) (.int j) W = some (.int (i - j), W) := rfl
@[simp] theorem r_oMul (i j : Int) : oMul (.int i) (.int j) W = mo (if (bound64 i || bound64 j) = true then some (.int (i * j)) else none) W := rfl
@[simp] theorem r_oDiv (i j : Int) : oDiv (.int i) (.int j) W = mo (if (decide (0 < j ∧ j < 1073741824)) = true then some (.int (i / j)) else none) W := rfl
@[simp] theorem r_oMod (i j : Int) : oMod (.int i) (.int j) W = mo (if (decide (0 < j)) = true then some (.int (i % j)) else none) W := rfl
@[simp] theorem r_oLt (i j : Int) : oLt (.int i) (.int j) W = some (.bl (decide (i < j)), W) := rfl
@[simp] theorem r_oLe (i j : Int) : oLe (.int i) (.int j) W = some (.bl (decide (i ≤ j)), W) := rfl
@[simp] theorem r_oGt (i j : Int) : oGt (.int i) (.int j) W = some (.bl (decide (j < i)), W) := rfl
@[simp] theorem r_oGe (i j : Int) : oGe (.int i) (.int j) W = some (.bl (decide (j ≤ i)), W) := rfl
@[simp] theorem r_oAddI (i j : Int) : oAdd (.int i) (.int j) W = some (.int (i + j), W) := rfl
@[simp] theorem r_oEqI (i j : Int) : oEq (.int i) (.int j) W = some (.bl (decide (i = j)), W) := rfl
@[simp] theorem r_oEqB (i j : Bool) : oEq (.bl i) (.bl j) W = some (.bl (decide (i = j)), W) := rfl
@[simp] theorem r_oEqS (i j : Str) : oEq (.str i) (.str j) W = some (.bl (decide (i = j)), W) := rfl
@[simp] theorem r_oNeI (i j : Int) : oNe (.int i) (.int j) W = some (.bl (!decide (i = j)), W) := rfl
@[simp] theorem r_oNeB (i j : Bool) : oNe (.bl i) (.bl j) W = some (.bl (!decide (i = j)), W) := rfl
@[simp] theorem r_oNeS (i j : Str) : oNe (.str i) (.str j) W = some (.bl (!decide (i = j)), W) := rfl
/-! statements -/
def seqK (T : SS) (n : Nat) : Fl × Wd → Option (Fl × Wd)
  | (.nx e, W) => T n e W
  | p => some p
@[simp] theorem seqK_nx (e : DEnv) : seqK T n (.nx e, W) = T n e W := rfl
@[simp] theorem seqK_rt (x : DV) : seqK T n (.rt x, W) = some (.rt x, W) := rfl
@[simp] theorem seqK_bk (e : DEnv) : seqK T n (.bk e, W) = some (.bk e, W) := rfl
@[simp] theorem seqK_ct (e : DEnv) : seqK T n (.ct e, W) = some (.ct e, W) := rfl
@[simp] theorem r_sSeq : sSeq S T n env W = (S n env W).bind (seqK T n) := by
  simp only [sSeq, mb_apply]
  congr 1
  funext p
  obtain ⟨f, W1⟩ := p
  cases f <;> rfl
@[simp] theorem r_sNil : sNil n env W = some (.nx env, W) := rfl
@[simp] theorem r_sExpr : sExpr F n env W = (F env W).bind fun p => some (.nx env, p.2) := by simp only [sExpr, mb_apply, mr_apply]
@[simp] theorem r_sRet : sRet F n env W = (F env W).bind fun p => some (.rt p.1, p.2) := by simp only [sRet, mb_apply, mr_apply]
@[simp] theorem r_sIf : sIf B S T n env W = (B env W).bind fun p => if p.1 = true then S n env p.2 else T n env p.2 := by
  simp only [sIf, mb_apply]
  congr 1
  funext p
  split <;> rfl
@[simp] theorem r_sAsg (g : GS) : sAsg F g n env W = (F env W).bind fun p => (g p.1 env p.2).bind fun q => some (.nx q.1, q.2) := by simp only [sAsg, mb_apply, mr_apply]
@[simp] theorem r_gN (i : Nat) (x : DV) : gN i x env W = some (env.set i (some x), W) := rfl
@[simp] theorem r_sPar (i j : Nat) (F1 F2 : ES) : sPar i j (aC F1 (aC F2 aN)) n env W = (F1 env W).bind fun p => (F2 env p.2).bind fun q => some (.nx ((env.set i (some p.1)).set j (some q.1)), q.2) := by
  simp only [sPar, mb_apply, r_aC, r_aN]
  cases F1 env W with
  | none => rfl
  | some p =>
    obtain ⟨x, W1⟩ := p
    simp only [Option.bind_some]
    cases F2 env W1 with
    | none => rfl
    | some q => rfl
@[simp] theorem r_sAug (i : Nat) : sAug i F G n env W = (mo (env[i]?.join) W).bind fun p => (F env p.2).bind fun q => (G p.1 q.1 q.2).bind fun z => some (.nx (env.set i (some z.1)), z.2) := by simp only [sAug, mb_apply, mr_apply, r_eV]
@[simp] theorem r_gSet (v : DV) : gSet F F' v env W = (F env W).bind fun p => (F' env p.2).bind fun q => (dPut v p.1 q.1 q.2).bind fun z => some (env, z.2) := by simp only [gSet, mb_apply, mr_apply]
@[simp] theorem r_gsN : gsN [] env W = some (env, W) := rfl
@[simp] theorem r_gsC (g : GS) (gs : GSs) (x : DV) (xs : List DV) : gsC g gs (x :: xs) env W = (g x env W).bind fun p => gs xs p.1 p.2 := by simp only [gsC, mb_apply]
@[simp] theorem r_gQt (gs : GSs) (xs : List DV) : gQ n gs (.tup xs) env W = if (xs.length == n) = true then gs xs env W else none := by simp only [gQ, app_ite]
@[simp] theorem r_gQl (gs : GSs) (xs : List DV) : gQ n gs (.lst xs) env W = if (xs.length == n) = true then gs xs env W else none := by simp only [gQ, app_ite]
/-! loops -/
def loopK (g : GS) (S : SS) (n : Nat) (xs : List DV) : Fl × Wd → Option (Fl × Wd)
  | (.nx e, W) => sLoop g S n xs e W
  | (.ct e, W) => sLoop g S n xs e W
  | (.bk e, W) => some (.nx e, W)
  | (.rt v, W) => some (.rt v, W)
@[simp] theorem loopK_nx (g : GS) (xs : List DV) (e : DEnv) : loopK g S n xs (.nx e, W) = sLoop g S n xs e W := rfl
@[simp] theorem loopK_ct (g : GS) (xs : List DV) (e : DEnv) : loopK g S n xs (.ct e, W) = sLoop g S n xs e W := rfl
@[simp] theorem loopK_bk (g : GS) (xs : List DV) (e : DEnv) : loopK g S n xs (.bk e, W) = some (.nx e, W) := rfl
@[simp] theorem loopK_rt (g : GS) (xs : List DV) (v : DV) : loopK g S n xs (.rt v, W) = some (.rt v, W) := rfl
@[simp] theorem r_sLoop0 (g : GS) : sLoop g S n [] env W = some (.nx env, W) := rfl
@[simp] theorem r_sLoop (g : GS) (x : DV) (xs : List DV) : sLoop g S n (x :: xs) env W = (g x env W).bind fun p => (S n p.1 p.2).bind (loopK g S n xs) := by
  simp only [sLoop, mb_apply]
  congr 1
  funext p
  congr 1
  funext q
  obtain ⟨f, W1⟩ := q
  cases f <;> rfl
@[simp] theorem r_sFor (I : IS) (g : GS) : sFor I g S n env W = (I env W).bind fun p => sLoop g S p.2.length p.1 env p.2 := by simp only [sFor, mb_apply]
@[simp] theorem r_cLoop0 (g : GS) (acc : List DV) : cLoop g B F env [] acc W = some (acc, W) := rfl
@[simp] theorem r_cLoop (g : GS) (x : DV) (xs acc : List DV) : cLoop g B F env (x :: xs) acc W = (g x env W).bind fun p => (B p.1 p.2).bind fun b => if b.1 = true then (F p.1 b.2).bind fun y => if acc.length < sizeLine then cLoop g B F env xs (acc ++ [y.1]) y.2 else none else cLoop g B F env xs acc b.2 := by
  simp only [cLoop, mb_apply]
  congr 1
  funext p
  congr 1
  funext b
  split
  · rw [mb_apply]
    congr 1
    funext y
    split <;> rfl
  · rfl
@[simp] theorem r_bYes : bYes env W = some (true, W) := rfl
def itL : DV → Option (List DV)
  | .lst xs => some xs
  | .scr ns => some (ns.map DV.int)
  | _ => none
@[simp] theorem r_iD : iD F env W = (F env W).bind fun p => mo (itL p.1) p.2 := by
  simp only [iD, mb_apply]
  congr 1
  funext p
  obtain ⟨x, W1⟩ := p
  cases x <;> rfl
def itS : DV → Option (List DV)
  | .str s => some (signs s)
  | _ => none
@[simp] theorem r_iS : iS F env W = (F env W).bind fun p => mo (itS p.1) p.2 := by
  simp only [iS, mb_apply]
  congr 1
  funext p
  obtain ⟨x, W1⟩ := p
  cases x <;> rfl
def itT : DV → Option (List DV)
  | .tup xs => some xs
  | _ => none
@[simp] theorem r_iT : iT F env W = (F env W).bind fun p => mo (itT p.1) p.2 := by
  simp only [iT, mb_apply]
  congr 1
  funext p
  obtain ⟨x, W1⟩ := p
  cases x <;> rfl
def itR : List DV → Option (List DV)
  | [.int j] => if rngOk j = true then some (upFrom 0 j.toNat) else none
  | _ => none
@[simp] theorem r_iR1 : iR1 A env W = (A env W).bind fun p => mo (itR p.1) p.2 := by
  simp only [iR1, mb_apply]
  congr 1
  funext p
  obtain ⟨x, W1⟩ := p
  rcases x with _ | ⟨a, _ | ⟨b, t⟩⟩
  · rfl
  · cases a with
    | int j =>
      show (if rngOk j = true then mr (upFrom 0 j.toNat) else fun _ => none) W1 = mo (if rngOk j = true then some (upFrom 0 j.toNat) else none) W1
      split <;> rfl
    | _ => rfl
  · cases a <;> rfl
@[simp] theorem itR_int (j : Int) : itR [.int j] = if rngOk j = true then some (upFrom 0 j.toNat) else none := rfl
@[simp] theorem itL_lst (xs : List DV) : itL (.lst xs) = some xs := rfl
@[simp] theorem itT_tup (xs : List DV) : itT (.tup xs) = some xs := rfl
@[simp] theorem itS_str (t : Str) : itS (.str t) = some (signs t) := rfl
end
end DL
end L2

set_option maxRecDepth 100000
set_option maxHeartbeats 2000000
/-! DX1: an own exception class is called, with names of parameters too: the made object, then the own __init__. -/
namespace PySem
namespace DXE
open PySem.W PySem.Calls
section
variable {P : Program} {W₀ : World} {A : Around} {Er : Value → Shared → Prop} {RR : Result → Shared → Prop} {hp : Heap} {gs : Array GenState} {dr : Drawn} {tk : Nat} {so : OsState}
variable {B nId iId : String} {bmB : List Value} {cN cQ : Str} {C nsp : Addr} {cbs cbm : List Value} {hasD : Bool} {sls : List Str} {subs : List Value} {abst : Bool} {coll : Option Bool} {cdict : Option Addr} {s0 s1 s2 s3 s5 : Option Value}
abbrev exC (cN cQ : Str) (C nsp : Addr) (cbs cbm : List Value) (hasD : Bool) (sls : List Str) (subs : List Value) (abst : Bool) (coll : Option Bool) (cdict : Option Addr) (s0 s1 s2 s3 s5 : Option Value) (nId : String) : Obj := excClassObj cN cQ C nsp cbs cbm hasD sls subs abst coll cdict s0 s1 s2 s3 s5 nId
theorem chk_new (FB : ExcBaseFacts B nId iId bmB) (same : ∀ T : String, cbm.contains (.type T) = bmB.contains (.type T)) {ar : List Value} {kw : List (Str × Value)} {Q : Unit → Shared → Prop}
    (at_ : hp.get? C = some (exC cN cQ C nsp cbs cbm hasD sls subs abst coll cdict s0 s1 s2 s3 s5 nId)) (q : Q () ⟨hp, gs, dr, tk, so⟩) : wpAny (model P W₀) A (checkBuiltinCall nId ⟨.ref C :: ar, kw⟩) Q Er ⟨hp, gs, dr, tk, so⟩ := by
  have isB : (Value.ref C :: cbm).contains (.type B) = true := by rw [List.contains_cons, same]; rw [FB.hasB, Bool.or_true]
  have star := FB.noStar
  simp only [checkBuiltinCall, FB.newSplit, FB.newKind, FB.newRow]
  repeat (first | refine wpAny_loadPart_at at_ ?_ | (refine wpAny_isSubtype_exc at_ ?_; rw [isB]) | refine wpAny_staticBase_exc at_ ?_ | refine wpAny_madeBy_exc at_ ?_ | wp_step | simp only [bne_self_eq_false, Bool.false_eq_true, if_false])
  exact q
theorem run_new (FB : ExcBaseFacts B nId iId bmB) (same : ∀ T : String, cbm.contains (.type T) = bmB.contains (.type T)) {ar : List Value} {kw : List (Str × Value)}
    (at_ : hp.get? C = some (exC cN cQ C nsp cbs cbm hasD sls subs abst coll cdict s0 s1 s2 s3 s5 nId)) (few : ar.length ≤ sizeLine)
    (q : RR (.ok (.ret (.ref (hp.objs.size + 1)))) ⟨(hp.push (kdv_tup ar)).push (HandSPX.excO C hp.objs.size), gs, dr, tk, so⟩) :
    codeAny (model P W₀) A (.builtin nId ⟨.ref C :: ar, kw⟩) RR ⟨hp, gs, dr, tk, so⟩ := by
  have en := FB.ends
  have isB : (Value.ref C :: cbm).contains (.type B) = true := by rw [List.contains_cons, same]; rw [FB.hasB, Bool.or_true]
  have noA : (Value.ref C :: cbm).contains (.type "AttributeError") = false := by rw [List.contains_cons, same]; rw [FB.noAttr]; rfl
  have noN : (Value.ref C :: cbm).contains (.type "NameError") = false := by rw [List.contains_cons, same]; rw [FB.noName]; rfl
  refine codeAny_builtinAt FB.entry ?_
  unfold Builtin.«BaseException.__new__»
  refine wpAt_bind ?_
  show wpAt _ _ _ (stack >>= _) _ _ _
  refine wpAt_bind (wpAt_stack fun p below => wpAt_of_wpAny ?_)
  wp_walk
  refine wpAt_of_wpAny ?_
  rw [FB.owner]
  repeat (first | with_reducible refine wpAny_madeHere_exc FB.canon at_ ?_ | with_reducible refine wpAny_loadPart_at at_ ?_ | (with_reducible refine wpAny_isSubtype_exc at_ ?_; first | rw [isB] | rw [noA] | rw [noN]) | wp_step)
  show RR _ _
  rw [Heap.size_push]
  exact q
theorem run_type (FB : ExcBaseFacts B nId iId bmB) (same : ∀ T : String, cbm.contains (.type T) = bmB.contains (.type T)) {ar : List Value} {kw : List (Str × Value)} {fI : Addr} {Q : Fin → Shared → Prop}
    (at_ : hp.get? C = some (exC cN cQ C nsp cbs cbm hasD sls subs abst coll cdict s0 s1 s2 s3 s5 nId)) (few : ar.length ≤ sizeLine)
    (li : Looks (model P W₀) hp (typeLookup (.ref C) "__init__") (some (.ref fI))) (lb : ∀ o, Looks (model P W₀) hp (bindSpecial (.ref fI) o) (.ref fI, [o]))
    (q : codeAny (model P W₀) A (.call (.ref fI) ⟨.ref (hp.objs.size + 1) :: ar, kw⟩)
      (fun r s' => match r with | .ok (.ret v) => v = .none ∧ Q (.done (.ret (.ref (hp.objs.size + 1)))) s' | .ok _ => False | .error e => Er e s')
      ⟨(hp.push (kdv_tup ar)).push (HandSPX.excO C hp.objs.size), gs, dr, tk, so⟩) :
    wpAny (model P W₀) A (Builtin.«type.__call__» ⟨.ref C :: ar, kw⟩) Q Er ⟨hp, gs, dr, tk, so⟩ := by
  repeat (first | with_reducible refine wpAny_madeBy_exc at_ ?_ | with_reducible refine wpAny_loadPart_at at_ ?_ | wp_step)
  refine codeAny_call_builtin_code (Code.quiet_builtin _ FB.quiet) (chk_new FB same at_ (run_new FB same at_ few ?_))
  show wpAny _ _ _ _ _ _
  have k : ∀ b o, hp.get? b = some o → ((hp.push (kdv_tup ar)).push (HandSPX.excO C hp.objs.size)).get? b = some o := fun b o e => Heap.get?_push_of_some _ (Heap.get?_push_of_some _ e)
  have atC := k _ _ at_
  have atE : ((hp.push (kdv_tup ar)).push (HandSPX.excO C hp.objs.size)).get? (hp.objs.size + 1) = some (HandSPX.excO C hp.objs.size) := by heap_get
  have isC : (Value.ref C :: cbm).contains (.ref C) = true := by simp
  have li1 := li.keeps k
  have lb1 := (lb (.ref (hp.objs.size + 1))).keeps k
  unfold isInstance
  repeat (first | with_reducible refine wpAny_loadPart_at atE ?_ | (with_reducible refine wpAny_isSubtype_exc atC ?_; rw [isC]) | wp_step)
  show wpAny _ _ (typeLookup (.ref C) _) _ _ _
  refine li1.at (wpAny_holding (wpAny_bind (lb1.at (wpAny_bind (wpAny_call (codeAny_mono q fun r s' z => ?_))))))
  rcases r with e | (v | _ | _ | _) <;> first | exact z | exact z.elim | skip
  obtain ⟨rfl, z⟩ := z
  first
    | exact wpAny_pure (wpAny_pure z)
    | (wp_walk; exact z)
theorem chk_type {ar : List Value} {kw : List (Str × Value)} {Q : Unit → Shared → Prop} (at_ : hp.get? C = some (exC cN cQ C nsp cbs cbm hasD sls subs abst coll cdict s0 s1 s2 s3 s5 nId))
    (q : Q () ⟨hp, gs, dr, tk, so⟩) : wpAny (model P W₀) A (checkBuiltinCall "type.__call__" ⟨.ref C :: ar, kw⟩) Q Er ⟨hp, gs, dr, tk, so⟩ := by
  have f := tc_sub
  have hT : (⟨hp, gs, dr, tk, so⟩ : Shared).TypeIs (.ref C) "type" := ⟨_, at_, rfl⟩
  simp only [checkBuiltinCall, tc_split, tc_kind]
  repeat (any_goals (first | assumption | with_reducible refine wpAny_map ?_ | with_reducible refine wpAny_loadPart_at at_ ?_ | with_reducible refine wpAny_onRaise ?_ | wp_step))
/-- C(.., n=..) -/
theorem call_cls (FB : ExcBaseFacts B nId iId bmB) (same : ∀ T : String, cbm.contains (.type T) = bmB.contains (.type T)) {ar : List Value} {kw : List (Str × Value)} {fI : Addr}
    (at_ : hp.get? C = some (exC cN cQ C nsp cbs cbm hasD sls subs abst coll cdict s0 s1 s2 s3 s5 nId)) (few : ar.length ≤ sizeLine)
    (li : Looks (model P W₀) hp (typeLookup (.ref C) "__init__") (some (.ref fI))) (lb : ∀ o, Looks (model P W₀) hp (bindSpecial (.ref fI) o) (.ref fI, [o]))
    (q : codeAny (model P W₀) (A.under (.builtin "type.__call__" ⟨.ref C :: ar, kw⟩)) (.call (.ref fI) ⟨.ref (hp.objs.size + 1) :: ar, kw⟩) (InitBack (hp.objs.size + 1) RR)
      ⟨(hp.push (kdv_tup ar)).push (HandSPX.excO C hp.objs.size), gs, dr, tk, so⟩) :
    codeAny (model P W₀) A (.call (.ref C) ⟨ar, kw⟩) RR ⟨hp, gs, dr, tk, so⟩ := by
  have g1 := tc_lookup
  have g2 := tc_bind (.ref C)
  have hT : (⟨hp, gs, dr, tk, so⟩ : Shared).TypeIs (.ref C) "type" := ⟨_, at_, rfl⟩
  refine codeAny_of_tree ?_
  show wpAny _ _ (callAny (.ref C) _) _ _ _
  repeat (any_goals (first | assumption | with_reducible refine wpAny_loadPart_at at_ ?_ | wp_step))
  refine ⟨rfl, ?_⟩
  refine codeAny_call_builtin_at (Code.quiet_builtin _ (by decide +kernel)) entry_typeCall (chk_type at_ (run_type FB same at_ few li lb (codeAny_mono q fun r s' z => ?_)))
  rcases r with e | (v | _ | _ | _) <;> first | exact z | exact z.elim
end
end DXE
end PySem

set_option maxRecDepth 100000
set_option maxHeartbeats 2000000
/-! DX2: fields of an exception that is being made (over any built-in base), super().__init__(..) in its __init__. -/
namespace PySem
namespace DXE
open PySem.W PySem.Calls Builtin Builtin.ObjectAttr
section
variable {P : Program} {W₀ : World} {A : Around} {Er : Value → Shared → Prop} {RR : Result → Shared → Prop} {hp : Heap} {gs : Array GenState} {dr : Drawn} {tk : Nat} {so : OsState}
variable {K : Frag} {fn : Str} {tok : Tok} {val : Value} {x C dx : Addr} {fv : Array Value} {cd : ClassData}
/-- what the class lets a store pass -/
structure Lets (K : Frag) (x C : Addr) (cd : ClassData) : Prop where
  cls : clsIn K C = some cd
  pass : refuseLoop (.ref x) "__setattr__" cd.mro = pure ()
  obj : mroIn K C (.type "object") = some true
  dct : cd.hasDict = true
theorem st_own {ox : Obj} {od : Option Obj} (kin : K.In hp) (I : InstAt hp x ox C od) (L : Lets K x C cd) (no : findIn K (.ref C) fn = some none)
    (q : wpAny (model P W₀) A.in1 (storeInOwnDict (.ref x) (.ref C) (.str fn tok) fn val false)
      (fun z s' => match z with | .done f => RR (.ok f) s' | .again c => c.quiet = true ∧ codeAny (model P W₀) A c RR s') (fun e s' => RR (.error e) s') ⟨hp, gs, dr, tk, so⟩) :
    codeAny (model P W₀) A (.call (.builtin "object.__setattr__") ⟨[.ref x, .str fn tok, val], []⟩) RR ⟨hp, gs, dr, tk, so⟩ := by
  have S0 := F.store_object
  have isO : Looks (model P W₀) hp (isInstance (.ref x) (.type "object")) true := I.type.andThen (looks_mroIn kin L.obj)
  refine codeAny_call_builtin S0.slot.plain S0.entry (@check_slot (model P W₀) _ _ ⟨hp, gs, dr, tk, so⟩ "object.__setattr__" "object" "__setattr__" (.ref x) [.str fn tok, val] [] _ S0.kind S0.split isO (S0.args (.ref x) (.str fn tok) val) ?_)
  have lm : Looks (model P W₀) hp (mroOf (.ref C)) cd.mro := (looks_clsIn kin L.cls).andThen .now
  have l0 : Looks (model P W₀) hp (storeTaker? none) none := .now
  rw [osa_eq, refuse_eq]
  refine wpAny_bind (wpAny_bind (I.type.at (wpAny_bind (lm.at ?_))))
  rw [L.pass]
  exact wpAny_pure (wpAny_bind (I.type.at (wpAny_bind ((looks_findIn kin no).at (wpAny_bind (l0.at q))))))
/-- the first field: the dict is laid -/
theorem st_new (kin : K.In hp) (at_ : hp.get? x = some { cls := .ref C, data := .fields fv }) (L : Lets K x C cd) (no : findIn K (.ref C) fn = some none)
    (q : ∀ h' t' dx, (∀ b o, b ≠ x → hp.get? b = some o → h'.get? b = some o) → hp.objs.size ≤ dx → dx ≠ x → h'.get? x = some { cls := .ref C, dict := some dx, data := .fields fv } →
      h'.Ns1 dx (fun y => if y = fn then some val else none) → RR (.ok (.ret .none)) ⟨h', gs, dr, t', so⟩) :
    codeAny (model P W₀) A (.call (.builtin "object.__setattr__") ⟨[.ref x, .str fn tok, val], []⟩) RR ⟨hp, gs, dr, tk, so⟩ := by
  have ne : x ≠ hp.objs.size := Nat.ne_of_lt (Heap.lt_size at_)
  have lc : Looks (model P W₀) hp (classData C) cd := looks_clsIn kin L.cls
  refine st_own kin (ox := { cls := .ref C, data := .fields fv }) (od := none) ⟨at_, rfl, rfl, trivial⟩ L no ?_
  have hd := L.dct
  obtain ⟨c1, c2, c3, c4, c5, c6, c7, c8, c9, c10, c11⟩ := cd
  dsimp only at hd
  subst hd
  unfold storeInOwnDict ownDictForStores
  repeat (first | with_reducible refine wpAny_loadPart_at at_ ?_ | with_reducible refine HandSPX.store_in_new ?_ ?_ | with_reducible refine lc.at ?_ | wp_step)
  · exact ⟨_, #[], _, (Heap.get?_update_ne _ _ _ _ ne.symm).trans (Heap.get?_push_at rfl rfl), rfl, fun e m => absurd m (by simp), fun _ => rfl⟩
  · intro h' t' n' sb
    have at1 : (hp.push { cls := .type "dict", data := .dict #[] }).get? x = some { cls := .ref C, data := .fields fv } := Heap.get?_push_of_some _ at_
    refine q h' t' hp.objs.size (fun b o nb e => ?_) (Nat.le_refl _) ne.symm ?_ n'
    · exact (sb.2 b (Nat.ne_of_lt (Heap.lt_size e))).trans ((Heap.get?_update_ne _ _ _ _ nb).trans (Heap.get?_push_of_some _ e))
    · exact (sb.2 x ne).trans (Heap.get?_update_self _ at1 rfl)
/-- a further field -/
theorem st_more {m0 : Str → Option Value} {nl : List Str} (kin : K.In hp) (at_ : hp.get? x = some { cls := .ref C, dict := some dx, data := .fields fv }) (hn : hp.Ns1 dx m0) (hw : Within m0 nl) (hl : nl.length ≤ 1000) (L : Lets K x C cd) (no : findIn K (.ref C) fn = some none)
    (q : ∀ h' t', (∀ b o, b ≠ dx → hp.get? b = some o → h'.get? b = some o) → h'.Ns1 dx (fun y => if y = fn then some val else m0 y) → RR (.ok (.ret .none)) ⟨h', gs, dr, t', so⟩) :
    codeAny (model P W₀) A (.call (.builtin "object.__setattr__") ⟨[.ref x, .str fn tok, val], []⟩) RR ⟨hp, gs, dr, tk, so⟩ := by
  obtain ⟨oD, e1, e2, atD, e3, _⟩ := hn.count hw
  have lc : Looks (model P W₀) hp (classData C) cd := looks_clsIn kin L.cls
  refine st_own kin (ox := { cls := .ref C, dict := some dx, data := .fields fv }) (od := some oD) ⟨at_, rfl, rfl, atD⟩ L no ?_
  have hd := L.dct
  obtain ⟨c1, c2, c3, c4, c5, c6, c7, c8, c9, c10, c11⟩ := cd
  dsimp only at hd
  subst hd
  unfold storeInOwnDict ownDictForStores
  repeat (first | with_reducible refine wpAny_loadPart_at at_ ?_ | with_reducible refine OEX.store_in_old hn hw hl ?_ | with_reducible refine lc.at ?_ | wp_step)
  intro h' t' n' sb
  exact q h' t' (fun b o nb e => (sb.2 b nb).trans e) n'
variable {B nId iId : String} {bmB : List Value} {cN cQ : Str} {nsp : Addr} {cbs : List Value} {hasD : Bool} {sls : List Str} {subs : List Value} {abst : Bool} {coll : Option Bool} {cdict : Option Addr} {s0 s1 s2 s3 s5 : Option Value}
/-- the bound __init__ of the base is called -/
theorem call_mw (FB : ExcBaseFacts B nId iId bmB) {u t0 : Addr} {ar : List Value} {Q : Value → Shared → Prop} (at_ : hp.get? C = some (exC cN cQ C nsp cbs bmB hasD sls subs abst coll cdict s0 s1 s2 s3 s5 nId))
    (ax : hp.get? x = some (excObj C t0 none .none)) (au : hp.get? u = some (kxs_mw iId x)) (few : ar.length ≤ sizeLine)
    (q : ∀ h' t1, (∀ b o, b ≠ x → hp.get? b = some o → h'.get? b = some o) → h'.get? x = some (excObj C t1 none .none) → Q .none ⟨h', gs, dr, tk, so⟩) :
    wpAny (model P W₀) A (call (.ref u) ar) Q Er ⟨hp, gs, dr, tk, so⟩ := by
  refine wpAny_call (codeAny_of_tree ?_)
  show wpAny _ A.in1 (callAny (.ref u) ⟨ar, []⟩) _ _ _
  simp only [callAny]
  refine wpAny_bind (wpAny_load au ?_)
  simp only [kxs_mw, show (Value.type "method-wrapper" == Value.type "method" || Value.type "method-wrapper" == Value.type "builtin_function_or_method" || Value.type "method-wrapper" == Value.type "method-wrapper") = true by decide, if_true]
  refine KFB.if_so (by decide) (wpAny_bind (check_bound_init FB.toExcCallFacts at_ ax rfl (wpAny_bind (wpAny_pure (wpAny_pure ?_)))))
  refine ⟨plainId_quiet FB.init.plain _, codeAny_builtin FB.initEntry ?_⟩
  exact exc_init_tree (cls := .ref C) (t0 := t0) (dv := none) (c2 := .none) (c3 := .none) (b4 := .bool false) ax few fun h' k1 k2 k3 => q h' _ k1 k2
end
end DXE
end PySem

set_option maxRecDepth 100000
set_option maxHeartbeats 2000000
/-! DX3: an exception being made, in the hand layer's states. -/
namespace L2
namespace DL
open PySem PySem.Spec PyProof.Rows
/-- what the top has written of an own exception class straight over B -/
structure XC (K : PySem.W.Frag) (nm : Str) (C : Addr) (B nId iId : String) (bmB : List Value) : Prop where
  fb : ExcBaseFacts B nId iId bmB
  kx : PySem.W.KxsFacts B iId
  sf : StoreFacts B bmB "object.__setattr__" "object"
  gl : PySem.W.nsIn K mainGlobals nm = some (some (.ref C))
  cls : ∃ cQ N bs sn sub ab col dd k0 k1 k2 k3 k5, K.lookup C = some (DXE.exC nm cQ C N bs bmB true sn sub ab col dd k0 k1 k2 k3 k5 nId)
  sa : PySem.W.findIn K (.ref C) "__setattr__" = some (some (.builtin "object.__setattr__"))
  sub : PySem.W.subIn K (.ref C) (.type B) = some true
  kC : PySem.W.keepIn K (.ref C) = true
section
variable {K : PySem.W.Frag} {nm : Str} {C : Addr} {B nId iId : String} {bmB : List Value}
theorem XC.lets (T : XC K nm C B nId iId bmB) (x : Addr) : ∃ cd, DXE.Lets K x C cd := by
  obtain ⟨cQ, N, bs, sn, sub, ab, col, dd, k0, k1, k2, k3, k5, hC⟩ := T.cls
  have hcl : PySem.W.clsIn K C = some { name := nm, bases := bs, mro := .ref C :: bmB, ns := N, qualname := cQ, hasDict := true, slotNames := sn, subclasses := sub, abstract := ab, collection := col, hasDel := false } := by unfold PySem.W.clsIn; rw [hC] <;> rfl
  refine ⟨_, hcl, ?_, ?_, rfl⟩
  · show refuseLoop (.ref x) "__setattr__" (.ref C :: bmB) = pure ()
    rw [refuseLoop_ref]
    exact T.sf.passes _
  · unfold PySem.W.mroIn
    rw [hcl, Option.bind_some]
    show (if (Value.ref C :: bmB).isEmpty = true then _ else some ((Value.ref C :: bmB).contains (.type "object"))) = _
    rw [if_neg (show ¬ (Value.ref C :: bmB).isEmpty = true from Bool.false_ne_true), List.contains_cons, T.sf.hasOwner, Bool.or_true]
end
section
variable {X : Cx} {pins : List (Addr × Obj)} {sg : St} {H : Hp} {s : Shared} {a C d : Addr} {f : Str} {y : V} {u : Value} {fs : List (Str × V)} {Q : Unit → Shared → Prop} {E : Value → Shared → Prop} {A : Around}
variable {nm : Str} {B nId iId : String} {bmB : List Value}
/-- self.f = y: the first field -/
theorem ex_new (T : XC X.K nm C B nId iId bmB) (I : Inv X pins sg H s) (e : H a = some (exo a C none)) (no : PySem.W.findIn X.K (.ref C) f = some none) (ry : RelV y u)
    (h : ∀ d s', H d = none → d ≠ a → Inv X pins sg (upd (upd H d (exd d [(f, y)])) a (exo a C (some d))) s' → Q () s') : wpAny (model X.prog X.w) A (setAttr (.ref a) f u) Q E s := by
  obtain ⟨cd, L⟩ := T.lets a
  obtain ⟨t1, at_⟩ := exo_at I.hok e
  obtain ⟨hp, g, dr, t, os⟩ := s
  refine PySem.W.set_plain I.kIn (ox := { cls := .ref C, dict := none, data := .fields #[.ref t1, .none, .none, .none, .bool false, .none] }) (od := none) ⟨at_, rfl, rfl, trivial⟩ T.sa ?_
  refine DXE.st_new I.kIn at_ L no (fun h' t' d k dn dne ax hn => ?_)
  have nd : H d = none := I.hok.fresh dn
  have old : ∀ {b : Addr} {o : Obj}, hp.get? b = some o → b ≠ d := fun {b o} z => Nat.ne_of_lt (Nat.lt_of_lt_of_le (Heap.lt_size z) dn)
  have na : ∀ {b : Addr}, H b = none → b ≠ a := fun {b} z w => by rw [w, e] at z; cases z
  have U : Un X.fs [] H (upd (upd H d (exd d [(f, y)])) a (exo a C (some d))) hp h' := {
    keep := fun b o z n _ _ => k b o (na n) z
    slot := fun b o z n _ _ => ⟨_, k b o (na n) z⟩
    free := fun b o z n _ => by rw [upd_ne (na n), upd_ne (old z)]; exact n
    there := fun b o z _ => by
      by_cases w : b = a
      · exact ⟨_, by rw [w]; exact ax⟩
      · exact ⟨o, k b o w z⟩
    tups := fun b xs z => by rw [upd_ne (at_ne e z exo_tup), upd_ne (ne_of_none z nd)]; exact z
    frzs := fun b o v z => by rw [upd_ne (at_ne e z exo_frz), upd_ne (ne_of_none z nd)]; exact z
    tbls := fun b ps z => ⟨#[], by rw [upd_ne (at_ne e z exo_tbl), upd_ne (ne_of_none z nd), z]; simp⟩ }
  refine h d _ nd dne (I.un (t' := t') U fun b o z => ?_)
  by_cases w : b = a
  · subst w
    rw [upd_same] at z
    cases z
    exact exo_ok ax
  · rw [upd_ne w] at z
    by_cases w' : b = d
    · subst w'
      rw [upd_same] at z
      cases z
      exact exd_ok hn (relO_put (fs := []) ry fun g => True.intro)
    · rw [upd_ne w'] at z
      exact (I.hok b o z).stay (fun c v hc z2 => k c v (by
          rcases hc with hc | hc
          · rw [hc]; exact w
          · exact at_ne e hc exo_own) z2)
        (fun c hc => by rw [upd_ne (at_ne e hc exo_own), upd_ne (ne_of_none hc nd)]; exact hc) (fun c xs hc => by rw [upd_ne (at_ne e hc exo_tup), upd_ne (ne_of_none hc nd)]; exact hc)
/-- self.f = y: a further field -/
theorem ex_more (T : XC X.K nm C B nId iId bmB) (I : Inv X pins sg H s) (e : H a = some (exo a C (some d))) (ed : H d = some (exd d fs)) (hl : fs.length ≤ 900) (no : PySem.W.findIn X.K (.ref C) f = some none) (ry : RelV y u)
    (h : ∀ s', Inv X pins sg (upd H d (exd d ((f, y) :: fs))) s' → Q () s') : wpAny (model X.prog X.w) A (setAttr (.ref a) f u) Q E s := by
  obtain ⟨cd, L⟩ := T.lets a
  obtain ⟨t1, at_⟩ := exo_at I.hok e
  obtain ⟨mA, hns, rel⟩ := exd_at I.hok ed
  have hw := within_of rel
  obtain ⟨hp, g, dr, t, os⟩ := s
  obtain ⟨oD, _, _, atD, _, _⟩ := hns.count hw
  refine PySem.W.set_plain I.kIn (ox := { cls := .ref C, dict := some d, data := .fields #[.ref t1, .none, .none, .none, .bool false, .none] }) (od := some oD) ⟨at_, rfl, rfl, atD⟩ T.sa ?_
  refine DXE.st_more I.kIn at_ hns hw (by rw [List.length_map]; omega) L no (fun h' t' k hn => ?_)
  have hd : ∃ o, h'.get? d = some o := by
    obtain ⟨o, _, _, z, _⟩ := hn
    exact ⟨o, z⟩
  exact h _ (I.write (t' := t') (x := d) (e := d) (o := exd d ((f, y) :: fs)) (by rw [ed]; exact True.intro) (.inl rfl) k hd (exd_ok hn (relO_put ry rel)))
end
/-- what the top has written of the class's __init__ -/
structure XI (P : Program) (K : PySem.W.Frag) (C fI : Addr) (F : NdefX.NF) (iId : String) (fd : FuncData) : Prop where
  ini : PySem.W.findIn K (.ref C) "__init__" = some (some (.ref fI))
  typ : PySem.W.typeIn K (.ref fI) = some (.type "function")
  fn : ∃ (oc : Value) (od : Option Addr) (osl : Array (Option Value)) (doc pm ct : Value), fd = F.fd doc pm ct ∧ K.lookup fI = some ⟨oc, od, .func fd, osl⟩
  cod : PySem.W.codeIn K (.ref F.c) F.qual = true
  rcd : ∃ (oc : Value) (od : Option Addr) (osl : Array (Option Value)) (vs : Array Value) (file : Str) (tf : Tok), K.lookup F.c = some ⟨oc, od, .fields vs, osl⟩ ∧ vs[2]? = some (.str file tf) ∧ ((P.main.file : Str) == file) = true
  cel : ∃ (cc : Addr) (oc : Value) (od : Option Addr) (osl : Array (Option Value)), F.cl = [(("__class__" : Str), cc)] ∧ K.lookup cc = some ⟨oc, od, .cell (some (.ref C)), osl⟩
  opq : PySem.W.nsIn K cStatics "thirdparty.any" = some none
  sup : PySem.W.ks_superIn K C C "__init__" = some (some (.builtin iId))
  mro : PySem.W.mroIn K C (.ref C) = some true
  top : (P.main.scope.names.lookup ("super" : Str)).isSome = false
end DL
end L2

set_option maxRecDepth 100000
set_option maxHeartbeats 2000000
/-! DX4: super().__init__(..), and the stores, in an __init__'s body. -/
namespace L2
namespace DL
open PySem PySem.Spec PyProof.Rows
theorem upd_id {H : Hp} {a : Addr} {o : HO} (e : H a = some o) : upd H a o = H := by
  funext b
  by_cases w : b = a
  · rw [w, upd_same, e]
  · rw [upd_ne w]
section
variable {CX : CXT} {P : Program} {w : PySem.World} {K : PySem.W.Frag} {mg : Str → Option Value} {base : Heap} {N : List Str} {F : NdefX.NF} {fI : Addr} {A₀ : Around} {out : List Env} {sh : Shared} {H₀ : Hp} {Ex : XK}
variable {nm : Str} {C : Addr} {B nId iId : String} {bmB : List Value} {fd : FuncData}
theorem sup_ok {pl : Sem Bool} {body : List Stmt} {p0 p1 p2 p3 pos : Pos} {e : Expr} {es : List Expr} {AS : EA} {ar : Arg} {pins : List (Addr × Obj)} {sg : St} {H : Hp} {s : Shared} {a : Addr} {Q : Hp → Prop} {Qf : Flow → Shared → Prop}
    (T : XC K nm C B nId iId bmB) (S : XI P K C fI F iId fd) (kd : F.scope.kind = .function) (ks : F.scope.names.lookup ("super" : Str) = some .globalImplicit) (kc : F.scope.names.lookup ("__class__" : Str) = some .free)
    (hp : (F.params.posonlyargs ++ F.params.args).head? = some ar) (ka : F.scope.names.lookup ar.arg = some .local) (hm : mg "super" = none) (hN : N[0]? = some ar.arg)
    (ha : DA (NdefX.ncx CX P w K mg base N F fI A₀ out sh H₀ Ex) (e :: es) AS) (I : Inv (NdefX.ncx CX P w K mg base N F fI A₀ out sh H₀ Ex) pins sg H s) (h0 : sg[0]? = some (some (.ref a))) (ea : H a = some (exo a C none))
    (ht : tXA K AS sg H fun vs H1 => vs.length ≤ 1000 ∧ H1 a = some (exo a C none) ∧ Q H1) (hq : ∀ H1 s', Inv (NdefX.ncx CX P w K mg base N F fI A₀ out sh H₀ Ex) pins sg H1 s' → Q H1 → Qf .next s')
    (hc : eval (.Call (.Attribute (.Call (.Name "super" p0) [] [] p1) "__init__" p2) (e :: es) [] pos) (NdefX.ncx CX P w K mg base N F fI A₀ out sh H₀ Ex).env = (do
      let ov ← attributeBase (.Call (.Name "super" p0) [] [] p1) "__init__" (NdefX.ncx CX P w K mg base N F fI A₀ out sh H₀ Ex).env (eval (.Call (.Name "super" p0) [] [] p1) (NdefX.ncx CX P w K mg base N F fI A₀ out sh H₀ Ex).env)
      standAt p2.atName
      let (f, first) ← holding [ov] (getMethod ov "__init__" pl)
      callWith pos f first (backTo pos (starEach (e :: es) (NdefX.ncx CX P w K mg base N F fI A₀ out sh H₀ Ex).env)) []) := by rfl)
    (he : starEach (e :: es) (NdefX.ncx CX P w K mg base N F fI A₀ out sh H₀ Ex).env = (false, eval e (NdefX.ncx CX P w K mg base N F fI A₀ out sh H₀ Ex).env) :: starEach es (NdefX.ncx CX P w K mg base N F fI A₀ out sh H₀ Ex).env := by rfl)
    (hpl : (backTo pos (starEach es (NdefX.ncx CX P w K mg base N F fI A₀ out sh H₀ Ex).env)).any (·.1) = false := by rfl)
    (hs : swapsWith (.Call (.Attribute (.Call (.Name "super" p0) [] [] p1) "__init__" p2) (e :: es) [] pos) none p3.line (NdefX.ncx CX P w K mg base N F fI A₀ out sh H₀ Ex).env = pure false := by rfl)
    (hi : interactive (NdefX.ncx CX P w K mg base N F fI A₀ out sh H₀ Ex).env = false := by rfl) :
    _root_.PySem.wpAt (model P w) (NdefX.ncx CX P w K mg base N F fI A₀ out sh H₀ Ex).A (.func body (NdefX.ncx CX P w K mg base N F fI A₀ out sh H₀ Ex).env)
      (exec (.Expr (.Call (.Attribute (.Call (.Name "super" p0) [] [] p1) "__init__" p2) (e :: es) [] pos) p3) (NdefX.ncx CX P w K mg base N F fI A₀ out sh H₀ Ex).env) Qf (NdefX.ncx CX P w K mg base N F fI A₀ out sh H₀ Ex).xe s := by
  obtain ⟨m, hns, look⟩ := id I.loc
  obtain ⟨u0, ru, lk⟩ := look 0 ar.arg (.ref a) hN h0 (.inl ka)
  obtain rfl : u0 = .ref a := ru
  have hself : m ar.arg = some (.ref a) := by
    rcases lk with ⟨_, z⟩ | ⟨z, _⟩
    · exact z
    · have z' : F.scope.names.lookup ar.arg = some .cell ∨ F.scope.names.lookup ar.arg = some .free := z
      rw [ka] at z'
      rcases z' with z' | z' <;> cases z'
  obtain ⟨t1, atA⟩ := exo_at I.hok ea
  obtain ⟨fo, fod, fsl, doc, pm, ct, rfl, lkF⟩ := S.fn
  obtain ⟨co, cod, csl, cvs, file, tf, lkC, cv2, hfile⟩ := S.rcd
  obtain ⟨cc, ceo, ceod, cesl, hcl, lkE⟩ := S.cel
  obtain ⟨cQ, nsp, bs, sn, sub, ab, col, dd, k0, k1, k2, k3, k5, hC⟩ := T.cls
  obtain ⟨mb, b1, b2⟩ := I.mod.blt
  have kI := I.kIn
  refine PySem.ks_wpAt_Expr_any (PySem.ks_wpAt_MethodCall (pl := pl) ?_ hc) hi hs
  · skip
    refine PySem.ks_wpAt_super_base (env := (NdefX.ncx CX P w K mg base N F fI A₀ out sh H₀ Ex).env) ks kc (by decide) rfl (kI _ _ lkF) rfl hp rfl (kI _ _ lkC) rfl cv2 hfile S.top ?_
    refine PySem.W.ks_loadName_global kd ks (Calls.loadGlobal_builtin (by rw [I.ok.glob]; exact I.mod.glob.keeps I.bk) hm (by rw [I.ok.blt]; exact b1.keeps I.bk) ((b2 "super" (by decide)).trans (by decide +kernel : bootBuiltins "super" = some (.type "super"))) ⟨rfl, ?_⟩)
    refine wpAny_loadName_free kd kc (show F.cl.lookup ("__class__" : Str) = some cc by rw [hcl]; rfl) ⟨_, kI _ _ lkE, rfl⟩ ?_
    refine wpAny_loadName_local kd ka hns hself ?_
    refine PySem.ks_wpAny_isType_cls (kI _ _ hC) rfl ⟨rfl, ?_⟩
    obtain ⟨hh, g, dr, t, os⟩ := s
    refine PySem.ks_wpAny_call_super (kI _ _ hC) rfl atA rfl (fun c z => nomatch z) (PySem.W.looks_mroIn kI S.mro) (fun h' so k => ?_)
    have I1 := I.kept (t' := t) k
    have inst : PySem.W.InstAt h' a ({ cls := .ref C, dict := none, data := .fields #[.ref t1, .none, .none, .none, .bool false, .none] } : Obj) C none := ⟨k _ _ atA, rfl, rfl, trivial⟩
    have hcl' : PySem.W.clsIn K C = some { name := nm, bases := bs, mro := .ref C :: bmB, ns := nsp, qualname := cQ, hasDict := true, slotNames := sn, subclasses := sub, abstract := ab, collection := col, hasDel := false } := by unfold PySem.W.clsIn; rw [hC] <;> rfl
    have hsup := S.sup
    unfold PySem.W.ks_superIn at hsup
    rw [hcl'] at hsup
    refine PySem.W.kxs_getMethod T.kx so (PySem.W.looks_opaque I1.kIn S.opq) (l₀ := .ref C :: bmB) ((PySem.W.looks_clsIn I1.kIn hcl').andThen .now) rfl I1.kIn hsup (inst.type.andThen (PySem.W.looks_subIn I1.kIn T.sub)) (PySem.W.ks_ne I1.kIn inst hcl') (by decide) ?_
    have pushk : ∀ b o, h'.get? b = some o → (h'.push (PySem.W.kxs_mw iId a)).get? b = some o := fun b o z => Heap.get?_push_of_some _ z
    have I2 := I1.kept (t' := t + 1) pushk
    have nU : H h'.objs.size = none := I1.hok.fresh (Nat.le_refl _)
    have atU : (h'.push (PySem.W.kxs_mw iId a)).get? h'.objs.size = some (PySem.W.kxs_mw iId a) := Heap.get?_push_at rfl rfl
    have I3 := I2.pins_of (pins' := pins ++ [(h'.objs.size, PySem.W.kxs_mw iId a)]) fun p hp' => by
      rcases List.mem_append.mp hp' with z | z
      · exact I2.pin p (List.mem_append_right _ z)
      · obtain rfl := List.mem_singleton.mp z
        exact ⟨atU, nU, (Nat.ne_of_lt I1.lt).symm, I1.nofs (Nat.le_refl _), fun v z => nomatch z⟩
    have run : wpAny (model P w) (NdefX.ncx CX P w K mg base N F fI A₀ out sh H₀ Ex).A (spliced (backTo pos (starEach (e :: es) (NdefX.ncx CX P w K mg base N F fI A₀ out sh H₀ Ex).env)))
        (fun vs s₁ => PySem.W.KxsAt iId h'.objs.size a s₁.heap ∧ wpAny (model P w) (NdefX.ncx CX P w K mg base N F fI A₀ out sh H₀ Ex).A (call (.ref h'.objs.size) ([] ++ vs)) (fun _ => Qf .next) (NdefX.ncx CX P w K mg base N F fI A₀ out sh H₀ Ex).xe s₁)
        (NdefX.ncx CX P w K mg base N F fI A₀ out sh H₀ Ex).xe ⟨h'.push (PySem.W.kxs_mw iId a), g, dr, t + 1, os⟩ := by
      refine thn (ha.run pos _ _ sg H _ I3 ht) fun us s1 ⟨vs, H1, J, rl, hlen, ea1, q1⟩ => ?_
      have pinU := (J.pin (h'.objs.size, PySem.W.kxs_mw iId a) (List.mem_append_right _ (List.mem_append_right _ (List.mem_singleton.mpr rfl)))).1
      refine ⟨pinU, ?_⟩
      obtain ⟨t2, atA1⟩ := exo_at J.hok ea1
      obtain ⟨hh1, g1, dr1, tt1, os1⟩ := s1
      refine DXE.call_mw T.fb (J.kIn _ _ hC) atA1 pinU (by rw [List.nil_append, ← rl.length, sizeLine_eq]; omega) fun h2 t3 k2 ax => ?_
      have J2 := J.write (t' := tt1) (x := a) (e := a) (o := exo a C none) (by rw [ea1]; exact True.intro) (.inl rfl) k2 ⟨_, ax⟩ (exo_ok ax)
      rw [upd_id ea1] at J2
      exact hq H1 _ J2.unpinned q1
    rw [he] at run ⊢
    refine PySem.W.kxs_callWith (i := iId) (x := a) (by show (false || (backTo pos (starEach es (NdefX.ncx CX P w K mg base N F fI A₀ out sh H₀ Ex).env)).any (·.1)) = false; rw [hpl]; rfl) ?_
    exact Calls.evalArgs_plain run
end
end DL
end L2

set_option maxRecDepth 100000
set_option maxHeartbeats 2000000
/-! DX5: an __init__ is entered, its stores are done. -/
namespace L2
namespace DL
open PySem PySem.Spec PyProof.Rows
/-- self.f = e -/
def tSt (K : PySem.W.Frag) (f : Str) (to te : TE) : TS := fun D sg H => te sg H fun y H1 => to sg H1 fun x H2 => ∃ (a C : Addr) (nm : Str) (B nId iId : String) (bmB : List Value), x = .ref a ∧ XC K nm C B nId iId bmB ∧ PySem.W.findIn K (.ref C) f = some none ∧
  ((H2 a = some (exo a C none) ∧ ∀ d, H2 d = none → d ≠ a → D.nx sg (upd (upd H2 d (exd d [(f, y)])) a (exo a C (some d)))) ∨
    ∃ (d : Addr) (fs : List (Str × V)), H2 a = some (exo a C (some d)) ∧ H2 d = some (exd d fs) ∧ fs.length ≤ 900 ∧ D.nx sg (upd H2 d (exd d ((f, y) :: fs))))
theorem ps_st {X : Cx} {o e : Expr} {to te : TE} {f : Str} {p' pos : Pos} (ho : PE X o to) (he : PE X e te) (hs : swapsWith e (some (.Attribute o f p')) pos.line X.env = pure false := by rfl) : PS X (.Assign [.Attribute o f p'] e pos) (tSt X.K f to te) := by
  refine ⟨fun pins s sg H D I h => ?_⟩
  refine plainObj_wpAny_Assign_Attribute (thn (he.run pins s sg H _ I h) fun v s1 ⟨y, H1, I1, r1, q1⟩ => thn (ho.run pins s1 sg H1 _ I1 q1) fun u s2 ⟨x, H2, I2, r2, a, C, nm, B, nId, iId, bmB, ex, T, no, q⟩ => ?_) hs
  subst ex
  obtain rfl : u = Value.ref a := r2
  rcases q with ⟨ea, q⟩ | ⟨d, fs, ea, ed, hl, q⟩
  · exact ex_new T I2 ea no r1 fun d s' n ne J => ⟨sg, _, J, q d n ne⟩
  · exact ex_more T I2 ea ed hl no r1 fun s' J => ⟨sg, _, J, q⟩
theorem exd_swap {d : Addr} {f g : Str} {x y : V} (ne : f ≠ g) : exd d [(g, y), (f, x)] = exd d [(f, x), (g, y)] := by
  unfold exd
  congr 1
  funext h
  have e : ∀ k : Str, ([(g, y), (f, x)] : List (Str × V)).lookup k = ([(f, x), (g, y)] : List (Str × V)).lookup k := fun k => by
    rw [lookup_put, lookup_put, lookup_put, lookup_put]
    by_cases h1 : k = g
    · subst h1
      rw [if_pos rfl, if_neg (Ne.symm ne), if_pos rfl]
    · rw [if_neg h1, if_neg h1]
  simp only [e]
section
variable {P : Program} {w : PySem.World} {K : PySem.W.Frag} {mg : Str → Option Value} {base : Heap} {N ps : List Str} {F : NdefX.NF} {fI : Addr} {A : Around} {out : List Env} {s : Shared} {H : Hp} {E : XK} {Q : VK} {k : Nat} {ar : Args} {us : List Value} {vs : List V}
variable {C : Addr} {iId : String} {fd : FuncData}
theorem ini_enter (S : XI P K C fI F iId fd) (Sc : NdefX.NScope N ps ["__class__"] F.scope) (hr : Room (k + 1) A) (e0 : Env0 P w K mg base A out s H) (hb : BindsTo s fd ar (ps.zip us)) (rl : Vals vs us) (hl : vs.length = ps.length)
    (go : ∀ h₁ tk, Inv (NdefX.ncx CX0 P w K mg base N F fI A out s H E) [] (NdefX.startF N vs [none]) H { s with heap := h₁, toks := tk } →
      _root_.PySem.wpAt (model P w) (NdefX.ncx CX0 P w K mg base N F fI A out s H E).A (.func F.body (NdefX.ncx CX0 P w K mg base N F fI A out s H E).env) (execs F.body (NdefX.ncx CX0 P w K mg base N F fI A out s H E).env)
        (SP (NdefX.ncx CX0 P w K mg base N F fI A out s H E) [] { nx := fun _ H' => Q .non H', rt := Q }) (NdefX.ncx CX0 P w K mg base N F fI A out s H E).xe { s with heap := h₁, toks := tk }) :
    codeAny (model P w) A (.call (.ref fI) ar) (CR CX0 out P w H s Q E) s := by
  obtain ⟨fo, fod, fsl, doc, pm, ct, rfl, lkF⟩ := S.fn
  obtain ⟨cc, ceo, ceod, cesl, hcl, lkE⟩ := S.cel
  have old : ∀ b o, base.get? b = some o → s.heap.get? b = some o := fun b o z => (e0.bs b o z).1
  have KX : K.In s.heap := e0.mod.kin.keeps old
  have cells : NdefX.CellsAt F.cl ["__class__"] [none] s.heap H := by
    have one : ∀ y c, F.cl.lookup y = some c → c = cc ∧ y = "__class__" := fun y c z => by
      rw [hcl] at z
      have z' : (match y == ("__class__" : Str) with | true => some cc | false => none) = some c := z
      cases q : (y == ("__class__" : Str)) with
      | true => rw [q] at z'; exact ⟨(Option.some.inj z').symm, by simpa using q⟩
      | false => rw [q] at z'; cases z'
    refine ⟨rfl, fun y c z => ?_, fun x y c z1 z2 => (one x c z1).2.trans (one y c z2).2.symm, fun i y z => ?_⟩
    · obtain ⟨rfl, _⟩ := one y c z
      exact ⟨(e0.bs _ _ (e0.mod.kin _ _ lkE)).2, _, _, KX _ _ lkE, rfl⟩
    · match i, z with
      | 0, z =>
        cases z
        exact ⟨cc, by rw [hcl]; rfl, fun v z => nomatch z⟩
      | i + 1, z => simp at z
  refine PySem.ks_codeAny_call_defAt hr.depth (KX _ _ lkF) rfl (e0.mod.nolimit.keeps old) (PySem.W.codeRec_of KX S.cod) rfl hb Sc.nocell (fun ⟨n, _⟩ hy => Sc.par n (List.of_mem_zip hy).1) (fun h₁ hns kp => ?_) Sc.co Sc.gen Sc.kind
  have I : Inv (NdefX.ncx CX0 P w K mg base N F fI A out s H E) [] (NdefX.startF N vs [none]) H { s with heap := h₁, toks := s.toks + (ps.zip us).length } := NdefX.inv_startN Sc hr.hd e0 hl rl cells hns kp
  refine PySem.ks_wpAt_mono (go h₁ _ I) (fun fl s' hs => ?_) fun _ _ z => z
  match fl, hs with
  | .ret u, ⟨v, _, H', J, rv, q⟩ => exact ⟨v, H', J.os, J.bare, J.base, J.hok, rv, q⟩
  | .next, ⟨_, H', J, q⟩ => exact ⟨.non, H', J.os, J.bare, J.base, J.hok, rfl, q⟩
  | .brk, ⟨_, _, _, q⟩ => exact q.elim
  | .cont, ⟨_, _, _, q⟩ => exact q.elim
end
end DL
end L2

set_option maxRecDepth 100000
set_option maxHeartbeats 2000000
/-! DX6: what an own exception's __init__ does: a text for the base, its parameters kept as fields. -/
namespace L2
namespace DL
open PySem PySem.Spec PyProof.Rows
abbrev psI (fs : List Str) : List Str := ("self" : Str) :: fs
abbrev nmI (fs : List Str) : List Str := ("self" : Str) :: (fs ++ [("__class__" : Str)])
/-- the exception at a has its fields -/
def Made (a C : Addr) (fs : List Str) (ys : List V) (H1 H2 : Hp) : Prop := (fs = [] ∧ H2 = H1) ∨ ∃ d, H1 d = none ∧ d ≠ a ∧ H2 = upd (upd H1 d (exd d (fs.zip ys))) a (exo a C (some d))
structure IniOk (P : Program) (w : PySem.World) (K : PySem.W.Frag) (mg : Str → Option Value) (base : Heap) (k : Nat) (C fI : Addr) (fd : FuncData) (fs : List Str) (AS : EA) : Prop where
  run : ∀ (A : Around) (out : List Env) (s : Shared) (H : Hp) (E : XK) (Q : VK) (ar : Args) (us : List Value) (a : Addr) (ys : List V) (xs : List DV) (r : Rh) (W : Wd) (zs : List DV) (W' : Wd), Room k A → Env0 P w K mg base A out s H →
    BindsTo s fd ar ((psI fs).zip us) → Vals (.ref a :: ys) us → H a = some (exo a C none) → Hw K r H W → some a ∉ r.rho → Rvs K r H xs ys → ys.length = fs.length → AS (none :: (xs.map some ++ [none])) W = some (zs, W') → zs.length ≤ 1000 →
    (∀ r' H1 H2, Ext r H r' H1 → Hw K r' H1 W' → H1 a = some (exo a C none) → Made a C fs ys H1 H2 → Q .non H2) → codeAny (model P w) A (.call (.ref fI) ar) (CR CX0 out P w H s Q E) s
theorem rel_ini {K : PySem.W.Frag} {r : Rh} {H : Hp} {fs : List Str} {a : Addr} {xs : List DV} {ys : List V} (rs : Rvs K r H xs ys) (hl : ys.length = fs.length) :
    RelE K r H (none :: (xs.map some ++ [none])) (NdefX.startF (nmI fs) (.ref a :: ys) [none]) := by
  have hx := rs.length
  have e : NdefX.startF (nmI fs) (.ref a :: ys) [none] = some (.ref a) :: (ys.map some ++ [none]) := by
    unfold NdefX.startF
    have : (nmI fs).length - (V.ref a :: ys).length - ([none] : List (Option V)).length = 0 := by simp; omega
    rw [this]
    simp
  rw [e]
  refine ⟨by simp [hx], fun i x q => ?_⟩
  match i, q with
  | 0, q => cases q
  | i + 1, q =>
    have q' : (xs.map some ++ [none])[i]? = some (some x) := by simpa using q
    by_cases l : i < xs.length
    · rw [List.getElem?_append_left (by rw [List.length_map]; exact l), List.getElem?_map] at q'
      have q2 : xs[i]? = some x := by
        cases z : xs[i]? with
        | none => rw [z] at q'; cases q'
        | some y => rw [z] at q'; cases q'; rfl
      obtain ⟨v, h1, h2⟩ := rs.get q2
      refine ⟨v, ?_, h2⟩
      have l' : i < ys.length := by omega
      show (ys.map some ++ [none])[i]? = _
      rw [List.getElem?_append_left (by rw [List.length_map]; exact l'), List.getElem?_map, h1]; rfl
    · rw [List.getElem?_append_right (by rw [List.length_map]; omega), List.length_map] at q'
      have : i - xs.length < 1 := by
        obtain ⟨z, _⟩ := List.getElem?_eq_some_iff.mp q'
        simpa using z
      have z0 : i - xs.length = 0 := by omega
      rw [z0] at q'
      cases q'
section
variable {P : Program} {w : PySem.World} {K : PySem.W.Frag} {mg : Str → Option Value} {base : Heap} {F : NdefX.NF} {fI : Addr} {k : Nat} {fs : List Str} {nm : Str} {C : Addr} {B nId iId : String} {bmB : List Value} {fd : FuncData} {ar : Arg} {e : Expr} {AS : EA}
/-- from the stores behind super().__init__(e) -/
theorem ini_ok {pl : Sem Bool} {p0 p1 p2 p3 pos : Pos} {tail : List Stmt} {tt : TS} (T : XC K nm C B nId iId bmB) (S : XI P K C fI F iId fd) (Sc : NdefX.NScope (nmI fs) (psI fs) ["__class__"] F.scope)
    (hbody : F.body = .Expr (.Call (.Attribute (.Call (.Name "super" p0) [] [] p1) "__init__" p2) [e] [] pos) p3 :: tail) (ks : F.scope.names.lookup ("super" : Str) = some .globalImplicit) (hp : (F.params.posonlyargs ++ F.params.args).head? = some ar) (har : ar.arg = "self") (hm : mg "super" = none)
    (ha : ∀ A out s H E, DA (NdefX.ncx CX0 P w K mg base (nmI fs) F fI A out s H E) [e] AS)
    (ht : ∀ A out s H E, PSs (NdefX.ncx CX0 P w K mg base (nmI fs) F fI A out s H E) tail tt)
    (hc : ∀ L, eval (.Call (.Attribute (.Call (.Name "super" p0) [] [] p1) "__init__" p2) [e] [] pos) (NdefX.envF F fI L) = (do
      let ov ← attributeBase (.Call (.Name "super" p0) [] [] p1) "__init__" (NdefX.envF F fI L) (eval (.Call (.Name "super" p0) [] [] p1) (NdefX.envF F fI L))
      standAt p2.atName
      let (f, first) ← holding [ov] (getMethod ov "__init__" pl)
      callWith pos f first (backTo pos (starEach [e] (NdefX.envF F fI L))) []))
    (hst : ∀ L, starEach [e] (NdefX.envF F fI L) = (false, eval e (NdefX.envF F fI L)) :: starEach [] (NdefX.envF F fI L))
    (hsw : ∀ L, swapsWith (.Call (.Attribute (.Call (.Name "super" p0) [] [] p1) "__init__" p2) [e] [] pos) none p3.line (NdefX.envF F fI L) = pure false)
    (hin : ∀ L, interactive (NdefX.envF F fI L) = false)
    (tl : ∀ (a : Addr) (ys : List V) (Q : VK) (H1 : Hp), H1 a = some (exo a C none) → ys.length = fs.length → (∀ H2, Made a C fs ys H1 H2 → Q .non H2) → tt { nx := fun _ H' => Q .non H', rt := Q } (NdefX.startF (nmI fs) (.ref a :: ys) [none]) H1) :
    IniOk P w K mg base (k + 1) C fI fd fs AS := by
  refine ⟨fun A out s H E Q arg us a ys xs r W zs W' hr e0 hb rl ea hw na rs hl he hz q => ?_⟩
  refine ini_enter (E := E) S Sc hr e0 hb rl (by simp [hl]) fun h₁ tk I => ?_
  rw [hbody]
  refine PySem.ks_wpAt_execs_cons ?_
  refine sup_ok (pl := pl) (ar := ar) (a := a) (Q := fun H1 => tt { nx := fun _ H' => Q .non H', rt := Q } (NdefX.startF (nmI fs) (.ref a :: ys) [none]) H1) T S Sc.kind ks (Sc.frk _ List.mem_cons_self) hp (by rw [har]; exact Sc.par _ List.mem_cons_self) hm (by rw [har]; rfl) (ha A out s H E) I rfl ea ?_ (fun H1 s' J q1 => ?_) (hc _) (hst _) rfl (hsw _) (hin _)
  · refine ⟨r, _, W, rel_ini rs hl, hw, zs, W', he, fun r1 H1 vs x1 w1 rz => ?_⟩
    have ea1 : H1 a = some (exo a C none) := x1.keep a _ na ea
    exact ⟨by rw [← rz.length]; exact hz, ea1, tl a ys Q H1 ea1 hl fun H2 m => q r1 H1 H2 x1 w1 ea1 m⟩
  · exact PySem.wpAt_of_wpAny ((ht A out s H E).run [] s' _ H1 _ J q1)
end
end DL
end L2

set_option maxRecDepth 100000
set_option maxHeartbeats 2000000
/-! DX7: an own exception class is called: the made exception as a datum. -/
namespace L2
namespace DL
open PySem PySem.Spec PyProof.Rows
def kExc (nm : Str) (fs : List Str) (AS : EA) : List DV → M DV := fun xs W => match AS (none :: (xs.map some ++ [none])) W with
  | some (zs, W') => if (decide (zs.length ≤ 1000) && decide (xs.length = fs.length)) = true then some (.exc nm fs xs, W') else none
  | none => none
theorem kExc_inv {nm : Str} {fs : List Str} {AS : EA} {xs : List DV} {W W' : Wd} {z : DV} (h : kExc nm fs AS xs W = some (z, W')) : z = .exc nm fs xs ∧ xs.length = fs.length ∧ ∃ zs, zs.length ≤ 1000 ∧ AS (none :: (xs.map some ++ [none])) W = some (zs, W') := by
  unfold kExc at h
  split at h
  · rename_i zs W1 e
    split at h
    · rename_i c
      rw [Bool.and_eq_true] at c
      cases h
      exact ⟨rfl, of_decide_eq_true c.2, zs, of_decide_eq_true c.1, e⟩
    · cases h
  · cases h
/-- the exception is told as a datum -/
theorem exv_inv {X : Cx} {pins : List (Addr × Obj)} {sg : St} {H : Hp} {s : Shared} {a C : Addr} {dd : Option Addr} (I : Inv X pins sg H s) (e : H a = some (exo a C dd)) : Inv X pins sg (upd H a (exv a C dd)) s := by
  obtain ⟨t1, at_⟩ := exo_at I.hok e
  have na : ∀ {b : Addr}, H b = none → b ≠ a := fun {b} z w => by rw [w, e] at z; cases z
  have U : Un X.fs [] H (upd H a (exv a C dd)) s.heap s.heap := {
    keep := fun b o z _ _ _ => z
    slot := fun b o z _ _ _ => ⟨o.slots, z⟩
    free := fun b o _ n _ => by rw [upd_ne (na n)]; exact n
    there := fun b o z _ => ⟨o, z⟩
    tups := fun b xs z => by rw [upd_ne (at_ne e z exo_tup)]; exact z
    frzs := fun b o v z => by rw [upd_ne (at_ne e z exo_frz)]; exact z
    tbls := fun b ps z => ⟨#[], by rw [upd_ne (at_ne e z exo_tbl), z]; simp⟩ }
  have J := I.un (t' := s.toks) U fun b o z => by
    by_cases w : b = a
    · subst w
      rw [upd_same] at z
      cases z
      refine ⟨⟨_, _, at_, rfl, rfl, rfl⟩, ⟨_, at_⟩, fun h1 h2 z k => ?_⟩
      obtain ⟨o, vs, c1, c2, c3, c4⟩ := z
      exact ⟨o, vs, k _ c1, c2, c3, c4⟩
    · rw [upd_ne w] at z
      exact (I.hok b o z).stay (fun c v _ z2 => z2) (fun c hc => by rw [upd_ne (at_ne e hc exo_own)]; exact hc) (fun c xs hc => by rw [upd_ne (at_ne e hc exo_tup)]; exact hc)
  exact J
section
variable {X : Cx} {pins : List (Addr × Obj)} {sg : St} {H : Hp} {s : Shared} {Q : VK} {E : XK} {k : Nat} {nm : Str} {C fI : Addr} {B nId iId : String} {bmB : List Value} {fd : FuncData} {F : NdefX.NF} {fs : List Str} {AS : EA} {ar : Args} {us : List Value} {vs : List V}
theorem new_run (T : XC X.K nm C B nId iId bmB) (S : XI X.prog X.K C fI F iId fd) (N : IniOk X.prog X.w X.K X.mg X.base k C fI fd fs AS) (hr : Room (k + 1) X.A) (I : Inv X pins sg H s) (rl : Vals vs us) (few : ar.pos.length ≤ sizeLine)
    (hb : ∀ (s' : Shared) (a : Addr), X.K.In s'.heap → BindsTo s' fd ⟨.ref a :: ar.pos, ar.kw⟩ ((psI fs).zip (.ref a :: us))) (sp : spD X.K fs.length (kExc nm fs AS) vs H Q E) :
    codeAny (model X.prog X.w) X.A (.call (.ref C) ar) (fun r s' => match r with
      | .ok (.ret u) => EP X pins sg Q u s'
      | .ok _ => False
      | .error e => X.xe e s') s := by
  obtain ⟨r, W, xs, l, hw, rs, z, W', e, q⟩ := sp
  obtain ⟨rfl, _, zs, hz, e⟩ := kExc_inv e
  obtain ⟨cQ, nsp, bs, sn, sub, ab, col, dd, k0, k1, k2, k3, k5, hC⟩ := T.cls
  obtain ⟨hp, g, dr, tk, os⟩ := s
  obtain ⟨pos, kw⟩ := ar
  have hsz : hp.objs.size ≤ hp.objs.size + 1 := Nat.le_succ _
  have hn : H (hp.objs.size + 1) = none := I.hok.fresh hsz
  have kk : ∀ b o, hp.get? b = some o → ((hp.push (PySem.W.kdv_tup pos)).push (PySem.HandSPX.excO C hp.objs.size)).get? b = some o := fun b o z => Heap.get?_push_of_some _ (Heap.get?_push_of_some _ z)
  have atA : ((hp.push (PySem.W.kdv_tup pos)).push (PySem.HandSPX.excO C hp.objs.size)).get? (hp.objs.size + 1) = some (PySem.HandSPX.excO C hp.objs.size) := by heap_get
  generalize ha : hp.objs.size + 1 = a at *
  have I2 : Inv X pins sg (upd H a (exo a C none)) ⟨(hp.push (PySem.W.kdv_tup pos)).push (PySem.HandSPX.excO C hp.objs.size), g, dr, tk, os⟩ :=
    I.laid (t' := tk) (a := a) (o := exo a C none) (h' := (hp.push (PySem.W.kdv_tup pos)).push (PySem.HandSPX.excO C hp.objs.size)) kk hsz (exo_ok atA)
  have oa : r.out a := hw.fresh hn
  have hw2 : Hw X.K ⟨r.rho, a :: r.hid⟩ (upd H a (exo a C none)) W := Hw.hide (rho := r.rho) (hid := r.hid) hw hn
  have rs2 : Rvs X.K ⟨r.rho, a :: r.hid⟩ (upd H a (exo a C none)) xs vs := Rvs.hide hn rs
  refine DXE.call_cls T.fb (fun _ => rfl) (I.kIn _ _ hC) few (PySem.W.looks_findIn I.kIn S.ini) (fun self => PySem.W.bind_fn I.kIn self S.typ) ?_
  rw [ha]
  refine codeAny_mono (N.run _ X.stack _ _ E (fun v H2 => v = .non ∧ ∃ r1 H1, Ext ⟨r.rho, a :: r.hid⟩ (upd H a (exo a C none)) r1 H1 ∧ Hw X.K r1 H1 W' ∧ H1 a = some (exo a C none) ∧ Made a C fs vs H1 H2) ⟨.ref a :: pos, kw⟩ (.ref a :: us) a vs xs ⟨r.rho, a :: r.hid⟩ W zs W'
    (hr.make C pos kw) (I2.env0.make C pos kw) (hb _ a I2.kIn) (.cons rfl rl) upd_same hw2 oa.1 rs2 (by rw [← rs.length]; exact l) e hz (fun r1 H1 H2 x1 w1 ea1 m => ⟨rfl, r1, H1, x1, w1, ea1, m⟩)) fun rr s' hq => ?_
  match rr, hq with
  | .error er, hq => exact False.elim hq
  | .ok (.ret u), hq =>
    obtain ⟨v, H2, os2, bare2, un2, hok2, rv, rfl, r1, H1, x1, w1, ea1, m⟩ := hq
    refine ⟨rv, ?_⟩
    have J : Inv X pins sg H2 s' := I2.call' (ch := []) os2 un2 hok2 bare2 (fun b z => absurd z (by simp))
    obtain ⟨rho1, hid1⟩ := r1
    obtain rfl : hid1 = a :: r.hid := x1.hid
    have na1 : some a ∉ rho1 := w1.hidnot
    have keep1 : ∀ b o, some b ∉ r.rho → H b = some o → b ≠ a ∧ H1 b = some o := fun b o n z => by
      have nb : b ≠ a := ne_of_none z hn
      exact ⟨nb, x1.keep b o n (by rw [upd_ne nb]; exact z)⟩
    have new1 : ∀ b, some b ∈ rho1 → some b ∉ r.rho → H b = none := fun b m n => by
      have z := x1.new b m n
      by_cases nb : b = a
      · rw [nb]; exact hn
      · rw [upd_ne nb] at z; exact z
    rcases m with ⟨rfl, rfl⟩ | ⟨d, hd, nd, rfl⟩
    · have J2 := exv_inv J ea1
      refine ⟨.ref a, _, J2, rfl, q ⟨rho1, r.hid⟩ _ (.ref a) ⟨rfl, x1.get, x1.len, new1, fun b o n z => ?_⟩ (Hw.show (Hw.unhid w1)) ?_⟩
      · obtain ⟨nb, z1⟩ := keep1 b o n z
        rw [upd_ne nb]; exact z1
      · obtain rfl : xs = [] := List.eq_nil_of_length_eq_zero l
        exact .exc0 T.gl ⟨na1, oa.2⟩ upd_same
    · have J2 := exv_inv (a := a) J upd_same
      have od : (⟨rho1, a :: r.hid⟩ : Rh).out d := w1.fresh hd
      have w2 : Hw X.K ⟨rho1, a :: r.hid⟩ (upd H1 d (exd d (fs.zip vs))) W' := w1.laid hd
      have x2 : Ext ⟨r.rho, a :: r.hid⟩ (upd H a (exo a C none)) ⟨rho1, a :: r.hid⟩ (upd H1 d (exd d (fs.zip vs))) := x1.trans (Ext.laid hd)
      have w3 := Hw.unhid (o := exo a C (some d)) w2
      have w4 := Hw.unhid (o := exv a C (some d)) w3
      have r3 : Rvs X.K ⟨rho1, a :: r.hid⟩ (upd (upd (upd H1 d (exd d (fs.zip vs))) a (exo a C (some d))) a (exv a C (some d))) xs vs :=
        Rvs.unhid (r := ⟨rho1, r.hid⟩) na1 (Rvs.unhid (r := ⟨rho1, r.hid⟩) na1 (rs2.ext x2))
      refine ⟨.ref a, _, J2, rfl, q ⟨rho1, r.hid⟩ _ (.ref a) ⟨rfl, x1.get, x1.len, new1, fun b o n z => ?_⟩ (Hw.show w4) ?_⟩
      · obtain ⟨nb, z1⟩ := keep1 b o n z
        rw [upd_ne nb, upd_ne nb, upd_ne (ne_of_none z1 hd)]; exact z1
      · exact .excD T.gl ⟨na1, oa.2⟩ upd_same ⟨od.1, fun m => od.2 (List.mem_cons_of_mem _ m)⟩ (by rw [upd_ne nd, upd_ne nd, upd_same]) (by rw [← rs.length]; exact l.symm) (Rvs.show (r := ⟨rho1, r.hid⟩) r3)
  | .ok .next, hq => exact False.elim hq
  | .ok .brk, hq => exact False.elim hq
  | .ok .cont, hq => exact False.elim hq
end
end DL
end L2

set_option maxRecDepth 100000
set_option maxHeartbeats 2000000
/-! DX8: calls of own exception classes, isinstance and fields of their instances, str(n). -/
namespace L2
namespace DL
open PySem PySem.Spec PyProof.Rows
/-! ### stores -/
section
variable {K : PySem.W.Frag} {nm : Str} {C : Addr} {B nId iId : String} {bmB : List Value} {f g : Str}
theorem tl0 (a : Addr) (ys : List V) (Q : VK) (H1 : Hp) (ea : H1 a = some (exo a C none)) (l : ys.length = ([] : List Str).length) (q : ∀ H2, Made a C [] ys H1 H2 → Q .non H2) :
    tNext { nx := fun _ H' => Q .non H', rt := Q } (NdefX.startF (nmI []) (.ref a :: ys) [none]) H1 := q H1 (.inl ⟨rfl, rfl⟩)
theorem tl1 (T : XC K nm C B nId iId bmB) (no : PySem.W.findIn K (.ref C) f = some none) (a : Addr) (ys : List V) (Q : VK) (H1 : Hp) (ea : H1 a = some (exo a C none)) (l : ys.length = [f].length) (q : ∀ H2, Made a C [f] ys H1 H2 → Q .non H2) :
    tSt K f (tVar 0) (tVar 1) { nx := fun _ H' => Q .non H', rt := Q } (NdefX.startF (nmI [f]) (.ref a :: ys) [none]) H1 := by
  match ys, l with
  | [y], _ => exact ⟨y, rfl, .ref a, rfl, a, C, nm, B, nId, iId, bmB, rfl, T, no, .inl ⟨ea, fun d n ne => q _ (.inr ⟨d, n, ne, rfl⟩)⟩⟩
theorem tl2 (T : XC K nm C B nId iId bmB) (no : PySem.W.findIn K (.ref C) f = some none) (no' : PySem.W.findIn K (.ref C) g = some none) (ne' : f ≠ g) (a : Addr) (ys : List V) (Q : VK) (H1 : Hp) (ea : H1 a = some (exo a C none)) (l : ys.length = [f, g].length) (q : ∀ H2, Made a C [f, g] ys H1 H2 → Q .non H2) :
    tSeq (tSt K f (tVar 0) (tVar 1)) (tSt K g (tVar 0) (tVar 2)) { nx := fun _ H' => Q .non H', rt := Q } (NdefX.startF (nmI [f, g]) (.ref a :: ys) [none]) H1 := by
  match ys, l with
  | [y, z], _ =>
    refine ⟨y, rfl, .ref a, rfl, a, C, nm, B, nId, iId, bmB, rfl, T, no, .inl ⟨ea, fun d n ne => ?_⟩⟩
    refine ⟨z, rfl, .ref a, rfl, a, C, nm, B, nId, iId, bmB, rfl, T, no', .inr ⟨d, [(f, y)], upd_same, ?_, by simp, q _ (.inr ⟨d, n, ne, ?_⟩)⟩⟩
    · rw [upd_ne ne, upd_same]
    · funext b
      by_cases h1 : b = d
      · subst h1
        rw [upd_same, upd_ne ne, upd_same]
        exact congrArg some (exd_swap ne')
      · rw [upd_ne h1]
        by_cases h2 : b = a
        · rw [h2, upd_same, upd_same]
        · rw [upd_ne h2, upd_ne h2, upd_ne h1, upd_ne h1]
end
/-! ### calls -/
section
variable {X : Cx} {k : Nat} {nm : Str} {C fI : Addr} {B nId iId : String} {bmB : List Value} {fd : FuncData} {F : NdefX.NF} {fs : List Str} {AS : EA} {x : Str} {p pos : Pos} {e : Expr} {es : List Expr} {A : EA} {kws : List Keyword} {ks : List Str} {ix : List Nat}
/-- values by position come to the parameters behind self -/
def BindsI (K : PySem.W.Frag) (fd : FuncData) (fs : List Str) : Prop := ∀ (s : Shared) (a : Addr) (us : List Value), K.In s.heap → us.length = fs.length → BindsTo s fd ⟨.ref a :: us, []⟩ ((psI fs).zip (.ref a :: us))
def KwI (K : PySem.W.Frag) (fd : FuncData) (fs ks : List Str) (ix : List Nat) : Prop := ∀ (s : Shared) (a : Addr) (us : List Value), K.In s.heap → us.length = ks.length → BindsTo s fd ⟨[.ref a], ks.zip us⟩ ((psI fs).zip (.ref a :: perm ix us))
theorem de_xc (T : XC X.K nm C B nId iId bmB) (S : XI X.prog X.K C fI F iId fd) (N : IniOk X.prog X.w X.K X.mg X.base k C fI fd fs AS) (hr : Room (k + 1) X.A) (hg : Gl X x) (hm : X.mg x = some (.ref C)) (hb : BindsI X.K fd fs) (ha : DA X (e :: es) A)
    (hf : fs.length ≤ 1000 := by decide) (hdb : (x == ("__debug__" : Str)) = false := by decide) (he : starEach (e :: es) X.env = (false, eval e X.env) :: starEach es X.env := by rfl) (hpl : (backTo pos (starEach es X.env)).any (·.1) = false := by rfl) :
    DE X (.Call (.Name x p) (e :: es) [] pos) (eF fs.length (kExc nm fs AS) A) := by
  refine ⟨fun pins s sg H Q I h => wpAny_Call_Name_kw (ld_glob I hg hm (PySem.W.callWith_K (h₀ := X.base) I.ok.mod.kin T.kC (thn (ha.run pos pins s sg H (fun vs H1 => spD X.K fs.length (kExc nm fs AS) vs H1 Q (fun _ _ _ => False)) I ?_) fun us s1 ⟨vs, H1, I1, rl, q⟩ => ⟨I1.kIn, ?_⟩) he hpl) hdb)⟩
  · obtain ⟨r, env, W, hE, hw, z, W', e, q⟩ := h
    obtain ⟨xs, W1, e1, e⟩ := mb_inv e
    obtain ⟨l, e⟩ := len_inv e
    exact ⟨r, env, W, hE, hw, _, _, e1, fun r1 H1 vs x1 w1 rs => ⟨r1, W1, xs, l, w1, rs, z, W', e, fun r2 H2 u x2 w2 ru => q r2 H2 u (x1.trans x2) w2 ru⟩⟩
  · have lu : us.length = fs.length := by
      obtain ⟨r, W, xs, l, hw, rs, _⟩ := q
      rw [← rl.length, ← rs.length, l]
    exact call_back (new_run T S N hr I1 rl (by show us.length ≤ _; rw [lu, sizeLine_eq]; omega) (fun s' a KI => hb s' a us KI lu) q)
theorem de_xc0 (T : XC X.K nm C B nId iId bmB) (S : XI X.prog X.K C fI F iId fd) (N : IniOk X.prog X.w X.K X.mg X.base k C fI fd [] AS) (hr : Room (k + 1) X.A) (hg : Gl X x) (hm : X.mg x = some (.ref C)) (hb : BindsI X.K fd [])
    (hdb : (x == ("__debug__" : Str)) = false := by decide) : DE X (.Call (.Name x p) [] [] pos) (fun _ => kExc nm [] AS []) := by
  refine ⟨fun pins s sg H Q I h => wpAny_Call_Name_kw (ld_glob I hg hm (PySem.W.callWith_K0 I.kIn T.kC (call_back (new_run (us := []) (vs := []) (E := fun _ _ _ => False) T S N hr I .nil (by simp) (fun s' a KI => hb s' a [] KI rfl) ?_))) hdb)⟩
  obtain ⟨r, env, W, hE, hw, z, W', e, q⟩ := h
  exact ⟨r, W, [], rfl, hw, .nil, z, W', e, q⟩
theorem de_xcK (T : XC X.K nm C B nId iId bmB) (S : XI X.prog X.K C fI F iId fd) (N : IniOk X.prog X.w X.K X.mg X.base k C fI fd fs AS) (hr : Room (k + 1) X.A) (hg : Gl X x) (hm : X.mg x = some (.ref C)) (hb : KwI X.K fd fs ks ix)
    (hkw : DK X kws A) (hall : (backToKw pos (keywordEach kws X.env)).all (·.1.isSome) = true := by rfl) (hks : (backToKw pos (keywordEach kws X.env)).filterMap (·.1) = ks := by rfl)
    (hdb : (x == ("__debug__" : Str)) = false := by decide) (hpl : ((backTo pos (starEach [] X.env)).any (·.1) || (backToKw pos (keywordEach kws X.env)).any (·.1.isNone)) = false := by rfl) :
    DE X (.Call (.Name x p) [] kws pos) (eFK fs.length ks.length ix (kExc nm fs AS) A) := by
  refine ⟨fun pins s sg H Q I h => ?_⟩
  refine wpAny_Call_Name_kw (ld_glob I hg hm ?_ hdb)
  refine PySem.W.callWith_KW0 (h₀ := X.base) I.ok.mod.kin T.kC hall (thn (hkw.run pos pins s sg H (fun vs H1 => vs.length = ks.length ∧ spD X.K fs.length (kExc nm fs AS) (perm ix vs) H1 Q (fun _ _ _ => False)) I ?_) fun ws s2 ⟨zs, H2, I2, rz, l2, q2⟩ => ⟨I2.kIn, ?_⟩) hpl
  · obtain ⟨r, env, W, hE, hw, z, W', e, q⟩ := h
    obtain ⟨xs, W1, e1, e⟩ := mb_inv e
    obtain ⟨lm, e⟩ := len_inv (fn := fun xs => if ((perm ix xs).length == fs.length) = true then kExc nm fs AS (perm ix xs) else fun _ => none) e
    obtain ⟨l, e⟩ := len_inv (xs := perm ix xs) e
    refine ⟨r, env, W, hE, hw, _, _, e1, fun r1 H1 vs x1 w1 rs => ⟨by rw [← rs.length]; exact lm, ?_⟩⟩
    exact ⟨r1, W1, perm ix xs, l, w1, rs.perm ix, z, W', e, fun r2 H2 u x2 w2 ru => q r2 H2 u (x1.trans x2) w2 ru⟩
  · rw [hks]
    exact call_back (new_run (us := perm ix ws) T S N hr I2 (Vals.perm rz ix) (by simp) (fun s' a KI => hb s' a ws KI (rz.length.symm.trans l2)) q2)
end
end DL
end L2

set_option maxRecDepth 100000
set_option maxHeartbeats 2000000
/-! DX9: isinstance and fields of own exceptions, str(n). -/
namespace L2
namespace DL
open PySem PySem.Spec PyProof.Rows
/-! ### the classes of the program -/
def xBases (nm : Str) : List String :=
  if nm = "Full" then ["RuntimeError", "Exception", "BaseException", "object"]
  else if nm ∈ (["Known", "BadText", "BadLine", "Unexplained"] : List Str) then ["ValueError", "Exception", "BaseException", "object"]
  else ["LookupError", "Exception", "BaseException", "object"]
def xFields (nm : Str) : List Str :=
  if nm = "Full" then ["order"] else if nm ∈ (["Known", "NoFile"] : List Str) then ["name"] else if nm ∈ (["BadLine", "NoItem"] : List Str) then ["number"]
  else if nm ∈ (["Unexplained", "NoStep"] : List Str) then ["index"] else if nm = "NoBlock" then ["block"] else if nm = "NoPromise" then ["name", "block"] else []
/-- what the top has written of the classes nms -/
def XTab (K : PySem.W.Frag) (nms : List Str) : Prop := ∀ nm ∈ nms, ∃ (C : Addr) (B nId iId : String), XC K nm C B nId iId ((xBases nm).map Value.type) ∧ ExcC K C ∧ ∀ f ∈ xFields nm, PySem.W.findIn K (.ref C) f = some none
section
variable {K : PySem.W.Frag} {nms : List Str} {nm nm' : Str} {C D : Addr} {B nId iId B' nId' iId' : String} {bm bm' : List Value}
theorem XC.cd (T : XC K nm C B nId iId bm) : ∃ cd, PySem.W.clsIn K C = some cd ∧ cd.name = nm ∧ cd.mro = .ref C :: bm ∧ PySem.W.typeIn K (.ref C) = some (.type "type") := by
  obtain ⟨cQ, N, bs, sn, sub, ab, col, dd, k0, k1, k2, k3, k5, hC⟩ := T.cls
  refine ⟨{ name := nm, bases := bs, mro := .ref C :: bm, ns := N, qualname := cQ, hasDict := true, slotNames := sn, subclasses := sub, abstract := ab, collection := col, hasDel := false }, by unfold PySem.W.clsIn; rw [hC] <;> rfl, rfl, rfl, ?_⟩
  show (K.lookup C).map (·.cls) = _
  rw [hC] <;> rfl
theorem XC.mroIs (T : XC K nm C B nId iId bm) (v : Value) : PySem.W.mroIn K C v = some ((Value.ref C :: bm).contains v) := by
  obtain ⟨cd, h1, h2, h3, h4⟩ := T.cd
  unfold PySem.W.mroIn
  rw [h1, Option.bind_some, h3, if_neg (show ¬ (Value.ref C :: bm).isEmpty = true from Bool.false_ne_true)]
theorem kit_own (T : XC K nm C B nId iId (bm)) (T' : XC K nm' D B' nId' iId' bm') (hb : ∀ v ∈ bm, ∃ t, v = .type t) : PySem.W.kitOne K (.ref C) (.ref D) = some (decide (nm = nm')) := by
  obtain ⟨cd, h1, h2, h3, h4⟩ := T.cd
  obtain ⟨cd', g1, g2, g3, g4⟩ := T'.cd
  unfold PySem.W.kitOne
  by_cases e : C = D
  · subst e
    rw [h1] at g1
    cases g1
    rw [h2] at g2
    rw [if_pos (beq_self_eq_true _), decide_eq_true g2]
  · have ne : nm ≠ nm' := fun z => by
      subst z
      have := T.gl.symm.trans T'.gl
      cases this
      exact e rfl
    rw [if_neg (by simpa using e), decide_eq_false ne]
    unfold PySem.W.kitCls
    dsimp only
    rw [g1, g4, if_pos (by rfl)]
    show PySem.W.mroIn K C (.ref D) = _
    rw [T.mroIs, List.contains_cons]
    have n1 : (Value.ref D == Value.ref C) = false := by simpa using Ne.symm e
    rw [n1, Bool.false_or]
    refine congrArg some (Bool.eq_false_iff.mpr fun z => ?_)
    obtain ⟨t, q⟩ := hb _ (by simpa using z)
    cases q
theorem kit_blt (T : XC K nm C B nId iId bm) {t : String} (hm : PySem.W.kitMeta t = true) : PySem.W.kitOne K (.ref C) (.type t) = some (bm.contains (.type t)) := by
  unfold PySem.W.kitOne
  rw [if_neg (by simp)]
  unfold PySem.W.kitCls
  dsimp only
  rw [if_pos hm]
  show PySem.W.mroIn K C (.type t) = _
  rw [T.mroIs, List.contains_cons]
  rfl
end
/-- isinstance(e, c), e an own exception -/
def rIsX (K : PySem.W.Frag) : List V → Hp → VK → Prop := fun xs H Q => ∃ (a C : Addr) (c : V) (cv : Value) (dd : Option Addr) (b : Bool), xs = [.ref a, c] ∧ (∀ u, RelV c u → u = cv) ∧ ExcC K C ∧ H a = some (exv a C dd) ∧ (∀ d, dd = some d → ∃ fs, H d = some (exd d fs)) ∧ PySem.W.kitOne K (.ref C) cv = some b ∧ Q (.bl b) H
theorem exv_at {P : Program} {w : PySem.World} {H : Hp} {h : Heap} {a C : Addr} {dd : Option Addr} (hok : HOk P w H h) (e : H a = some (exv a C dd)) : ∃ (o : Obj) (vs : Array Value), h.get? a = some o ∧ o.cls = .ref C ∧ o.dict = dd ∧ o.data = .fields vs := by
  obtain ⟨z, _, _⟩ := hok a _ e
  exact z
theorem exv_inst {P : Program} {w : PySem.World} {H : Hp} {h : Heap} {a C : Addr} {dd : Option Addr} (hok : HOk P w H h) (e : H a = some (exv a C dd)) (hd : ∀ d, dd = some d → ∃ fs, H d = some (exd d fs)) : ∃ ox od, PySem.W.InstAt h a ox C od := by
  obtain ⟨o, vs, c1, c2, c3, c4⟩ := exv_at hok e
  have nc : PySem.W.notCls o = true := by unfold PySem.W.notCls; rw [c4] <;> rfl
  cases dd with
  | none => exact ⟨o, none, c1, c2, nc, by rw [c3]; trivial⟩
  | some d =>
    obtain ⟨fs, ed⟩ := hd d rfl
    obtain ⟨mA, ⟨od, es, ep, atD, _⟩, _⟩ := exd_at hok ed
    exact ⟨o, some od, c1, c2, nc, by rw [c3]; exact atD⟩
theorem call_isX {X : Cx} : CallR X (.builtin "isinstance") (rIsX X.K) := by
  intro pins s sg H xs us Q I r h
  obtain ⟨a, C, c, cv, dd, b, rfl, hcv, R, ea, hd, e, q⟩ := h
  cases r with
  | cons rx rr =>
    cases rr with
    | cons rt rr =>
      cases rr
      cases rx
      have ec := hcv _ rt
      subst ec
      obtain ⟨ox, od, J⟩ := exv_inst I.hok ea hd
      have cl : (PySem.W.clsIn X.K C).isSome = true := by
        have := R.hd
        unfold PySem.W.hasDictIn at this
        cases z : PySem.W.clsIn X.K C with
        | none => rw [z] at this; cases this
        | some cd => rfl
      exact PySem.W.kia_one (PySem.W.kitx_exc cl R.hg R.hk R.hs R.ha R.hn R.ht R.hm) I.kIn J e (fun z => nomatch z) fun tk => ⟨.bl b, H, I.kept (t' := tk) fun _ _ z => z, rfl, q⟩
def xAsk : List String := ["ValueError", "LookupError", "RuntimeError", "KeyError", "IndexError"]
theorem xAsk_meta : ∀ t ∈ xAsk, PySem.W.kitMeta t = true := by decide +kernel
def kIsx (nms : List Str) : List DV → M DV := k2 fun x c W => match x with
  | .exc nm _ _ => if nm ∈ nms then (match c with
    | .gl nm' => if nm' ∈ nms then some (.bl (decide (nm = nm')), W) else none
    | .cst (.ty t) => if t ∈ xAsk then some (.bl ((xBases nm).contains t), W) else none
    | _ => none) else none
  | _ => kIsi [x, c] W
theorem Rv.exc_inv {K : PySem.W.Frag} {r : Rh} {H : Hp} {nm : Str} {fs : List Str} {xs : List DV} {v : V} (h : Rv K r H (.exc nm fs xs) v) : ∃ (a C : Addr) (dd : Option Addr), v = .ref a ∧ PySem.W.nsIn K mainGlobals nm = some (some (.ref C)) ∧ H a = some (exv a C dd) ∧ (∀ d, dd = some d → ∃ gs, H d = some (exd d gs)) := by
  cases h with
  | @exc0 _ a C c n h => exact ⟨a, C, none, rfl, c, h, fun d z => nomatch z⟩
  | @excD _ a C d _ vs _ c n h m g l q => exact ⟨a, C, some d, rfl, c, h, fun d' z => by cases z; exact ⟨_, g⟩⟩
theorem map_has (l : List String) (t : String) : (l.map Value.type).contains (.type t) = l.contains t := by
  induction l with
  | nil => rfl
  | cons a l ih =>
    rw [List.map_cons, List.contains_cons, List.contains_cons, ih]
    congr 1
    by_cases h : t = a
    · subst h; simp
    · have h1 : (t == a) = false := by simpa using h
      have h2 : (Value.type t == Value.type a) = false := by simpa using h
      rw [h1, h2]
theorem cd_isx {K : PySem.W.Frag} {nms : List Str} (T : XTab K nms) : CallD K (fun xs H Q => rIsX K xs H Q ∨ rIsi K xs H Q ∨ rIsiT K xs H Q ∨ rIsiK K xs H Q) (kIsx nms) := by
  intro r H W xs z W' vs Q hw e rs q
  replace e := k2_inv e
  obtain ⟨x, c, rfl, e⟩ := e
  split at e
  · rename_i nm fs ys
    obtain ⟨v, u, rfl, rx, rc⟩ := rs.two
    obtain ⟨a, C, dd, rfl, gl, ea, hd⟩ := rx.exc_inv
    split at e
    · rename_i hn
      obtain ⟨C', B, nId, iId, T1, R1, _⟩ := T nm hn
      have ec : C' = C := by
        have := T1.gl.symm.trans gl
        cases this; rfl
      subst ec
      split at e
      · rename_i nm'
        split at e
        · rename_i hn'
          cases e
          obtain ⟨D, B2, nId2, iId2, T2, _, _⟩ := T nm' hn'
          cases rc with
          | @gl _ D' g =>
            have ed : D = D' := by
              have := T2.gl.symm.trans g
              cases this; rfl
            subst ed
            exact .inl ⟨a, C', _, .ref D, dd, _, rfl, fun u z => z, R1, ea, hd, kit_own T1 T2 (fun v m => by
              obtain ⟨t, _, z⟩ := List.mem_map.mp m
              exact ⟨t, z.symm⟩), done0 hw (.bl _) q⟩
        · cases e
      · rename_i t
        split at e
        · rename_i ht
          cases e
          obtain rfl := rc.cst_inv
          refine .inl ⟨a, C', _, .type t, dd, _, rfl, fun u z => z, R1, ea, hd, kit_blt T1 (xAsk_meta t ht), ?_⟩
          rw [map_has]
          exact done0 hw (.bl _) q
        · cases e
      · cases e
    · cases e
  · exact .inr (cd_isi r H W [x, c] z W' vs Q hw e rs q)
theorem b_isx {X : Cx} {nms : List Str} (T : XTab X.K nms) : BR X (.builtin "isinstance") (kIsx nms) := ⟨_, CallR.or call_isX (CallR.or call_isi (CallR.or call_isiT call_isiK)), cd_isx T⟩
/-! ### fields -/
def eAt (nms : List Str) (f : Str) (F : ES) : ES := fun env => mb (F env) fun x W => match x with
  | .exc nm fs xs => if nm ∈ nms ∧ f ∈ xFields nm ∧ fs.length = xs.length then ((fs.zip xs).lookup f).map fun y => (y, W) else none
  | _ => none
theorem zip_rel {K : PySem.W.Frag} {r : Rh} {H : Hp} {f : Str} : ∀ {fs : List Str} {xs : List DV} {vs : List V} {y : DV}, Rvs K r H xs vs → (fs.zip xs).lookup f = some y → ∃ v, (fs.zip vs).lookup f = some v ∧ Rv K r H y v
  | [], _, _, _, _, e => by simp at e
  | _ :: _, _, _, _, .nil, e => by simp at e
  | g :: fs, x :: xs, v :: vs, y, .cons h t, e => by
    rw [List.zip_cons_cons] at e ⊢
    by_cases c : f = g
    · subst c
      simp [List.lookup] at e
      subst e
      exact ⟨v, by simp [List.lookup], h⟩
    · have c' : (f == g) = false := by simpa using c
      rw [List.lookup_cons, c'] at e ⊢
      exact zip_rel t e
theorem de_xf {X : Cx} {nms : List Str} {e : Expr} {F : ES} {f : Str} {pos : Pos} (T : XTab X.K nms) (he : DE X e F) (hb : attributeBase e f X.env (eval e X.env) = eval e X.env := by rfl) : DE X (.Attribute e f pos) (eAt nms f F) := by
  refine ⟨fun pins s sg H Q I h => ?_⟩
  obtain ⟨r, env, W, hE, hw, z, W', e1, q⟩ := h
  obtain ⟨x, W1, e2, e3⟩ := mb_inv e1
  refine attr_of hb (thn (he.run pins s sg H (fun v H1 => ∃ r1, Ext r H r1 H1 ∧ Hw X.K r1 H1 W1 ∧ Rv X.K r1 H1 x v) I ⟨r, env, W, hE, hw, x, W1, e2, fun r1 H1 v x1 w1 rv => ⟨r1, x1, w1, rv⟩⟩) fun u s1 hh => ?_)
  obtain ⟨v, H1, I1, rv, r1, x1, w1, rx⟩ := hh
  split at e3
  · rename_i nm fs xs
    split at e3
    · rename_i c
      obtain ⟨hn, hf, hlen⟩ := c
      obtain ⟨y, e4, e5⟩ := Option.map_eq_some_iff.mp e3
      cases e5
      obtain ⟨C', B, nId, iId, T1, R1, F1⟩ := T nm hn
      cases rx with
      | exc0 c n h => simp at e4
      | @excD _ a C d _ vs _ c n h m g l t =>
        obtain rfl : u = Value.ref a := rv
        have ec : C' = C := by
          have := T1.gl.symm.trans c
          cases this; rfl
        subst ec
        obtain ⟨v, l1, ry⟩ := zip_rel t e4
        obtain ⟨o, fv, c1, c2, c3, c4⟩ := exv_at I1.hok h
        obtain ⟨mA, hns, hr⟩ := exd_at I1.hok g
        obtain ⟨od, ho, hl⟩ := lookIn_ns hns
        obtain ⟨u, hu, ru⟩ := RelO.some_of (v := v) (o := mA f) (by rw [← l1]; exact hr f)
        have J : PySem.W.InstAt s1.heap a o C' (some od) := ⟨c1, c2, by unfold PySem.W.notCls; rw [c4] <;> rfl, by rw [c3]; exact ho⟩
        exact HandSPX.exc_get I1.kIn J R1.hg R1.hk R1.hs (PySem.W.findObj_own R1.hd (F1 f hf) rfl (by rw [hl, hu])) (handed_of ru) ⟨v, H1, I1.tok _, ru, q r1 H1 v x1 w1 ry⟩
    · cases e3
  · cases e3
/-! ### str(n), a class as a value -/
def kStrI : List DV → M DV := k1 fun x => mo (match x with
  | .int i => if i.natAbs.log2 < 1920 then some (.str (toString i)) else none
  | _ => none)
theorem b_strI {X : Cx} : BR X (.type "str") kStrI := ⟨_, call_str_int, by
  intro r H W xs z W' vs Q hw e rs q
  replace e := k1_inv e
  obtain ⟨x, rfl, e⟩ := e
  obtain ⟨v, rfl, rx⟩ := rs.one
  obtain ⟨e5, e6⟩ := mo_inv e
  subst e6
  split at e5
  · rename_i i
    split at e5
    · rename_i hl
      cases e5
      obtain rfl := rx.int_inv
      exact ⟨i, rfl, hl, done0 hw (.str _) q⟩
    · cases e5
  · cases e5⟩
theorem de_gl {X : Cx} {x : Str} {C : Addr} {pos : Pos} (hg : Gl X x) (hm : X.mg x = some (.ref C)) (g : PySem.W.nsIn X.K mainGlobals x = some (some (.ref C))) (hd : (x == ("__debug__" : Str)) = false := by decide) : DE X (.Name x pos) (eC (.gl x)) :=
  de_glob hg hm (v := .ref C) rfl (fun _ _ => .gl g) hd
end DL
end L2

set_option maxRecDepth 100000
/-! k01: what the defs do, as functions of the deep layer (printed by gen.py). -/
namespace L2
namespace K01
open PySem PySem.Spec PyProof.Rows DL
abbrev nms : List Str := ["Known", "BadText", "BadLine", "Unexplained", "NoFile", "NoBlock", "NoPromise", "NoItem", "NoStep", "Full"]
def as_Known : EA := (aC (eO oAdd (eC (.str "a known name: ")) (eV 1)) aN)
def as_BadText : EA := (aC (eC (.str "a wrong text")) aN)
def as_BadLine : EA := (aC (eO oAdd (eC (.str "a wrong line: ")) (eK kStrI (aC (eV 1) aN))) aN)
def as_Unexplained : EA := (aC (eO oAdd (eC (.str "no explanation: ")) (eK kStrI (aC (eV 1) aN))) aN)
def as_NoFile : EA := (aC (eO oAdd (eC (.str "no file: ")) (eV 1)) aN)
def as_NoBlock : EA := (aC (eO oAdd (eC (.str "no block: ")) (eK kStrI (aC (eV 1) aN))) aN)
def as_NoPromise : EA := (aC (eO oAdd (eC (.str "no promise: ")) (eV 1)) aN)
def as_NoItem : EA := (aC (eO oAdd (eC (.str "no item: ")) (eK kStrI (aC (eV 1) aN))) aN)
def as_NoStep : EA := (aC (eO oAdd (eC (.str "no such step: ")) (eK kStrI (aC (eV 1) aN))) aN)
def as_Full : EA := (aC (eC (.str "no room")) aN)
def b__law_cell_at : SS := (sRet (eIf (bT (eO oLt (eV 1) (eK kLen (aC (eV 0) aN)))) (eO oIx (eV 0) (eV 1)) (eC (.int 0))))
def f__law_cell_at : List DV → M DV := runF 2 b__law_cell_at
def b__law_box : SS := (sSeq (sAsg (eF 2 f__law_cell_at (aC (eV 0) (aC (eV 1) aN))) (gN 2))
    (sSeq (sAsg (eO oAdd (eO oAdd (eO oMod (eK kInt (aC (eV 2) aN)) (eC (.int 2305843009213693951))) (eO oMul (eC (.int 39373)) (eV 1))) (eC (.int 61))) (gN 3))
    (sRet (eNew (aC (eO oMul (eK kAbs (aC (eV 2) aN)) (eK kInt (aC (eO oGe (eK kAbs (aC (eV 2) aN)) (eO oPow (eC (.int 10)) (eC (.int 18)))) aN))) (aC (eV 3) (aC (eC (.int 0)) aN)))))))
def f__law_box : List DV → M DV := runF 4 b__law_box
def b__law_take : SS := (sSeq (sIf (bT (eO oGt (eO oIx (eV 0) (eC (.int 0))) (eC (.int 0)))) (sSeq (sAsg (eO oMod (eK kInt (aC (eO oIx (eV 0) (eC (.int 0))) aN)) (eV 1)) (gN 2))
    (sSeq (sAsg (eO oDiv (eO oIx (eV 0) (eC (.int 0))) (eV 1)) (gSet (eV 0) (eC (.int 0))))
    (sRet (eV 2)))) sNil)
    (sSeq (sAsg (eO oAdd (eO oIx (eV 0) (eC (.int 2))) (eC (.int 1))) (gSet (eV 0) (eC (.int 2))))
    (sSeq (sAsg (eO oMod (eK kInt (aC (eO oMul (eO oAdd (eO oIx (eV 0) (eC (.int 1))) (eO oMul (eC (.int 48271)) (eO oIx (eV 0) (eC (.int 2))))) (eO oAdd (eC (.int 39373)) (eO oIx (eV 0) (eC (.int 2))))) aN)) (eC (.int 2147483647))) (gN 3))
    (sSeq (sAsg (eO oAdd (eO oMod (eK kInt (aC (eV 3) aN)) (eC (.int 40009))) (eC (.int 7))) (gN 4))
    (sSeq (sAsg (eO oMod (eK kInt (aC (eO oMul (eO oAdd (eO oAdd (eV 3) (eO oIx (eV 0) (eC (.int 2)))) (eO oDiv (eO oIx (eV 0) (eC (.int 1))) (eC (.int 1000003)))) (eV 4)) aN)) (eC (.int 2147483629))) (gN 5))
    (sRet (eO oMod (eK kInt (aC (eO oDiv (eO oMod (eK kInt (aC (eO oAdd (eO oMul (eV 5) (eC (.int 48271))) (eV 3)) aN)) (eC (.int 2147483587))) (eC (.int 64))) aN)) (eV 1))))))))
def f__law_take : List DV → M DV := runF 6 b__law_take
def b__law_of : SS := (sRet (eO oIx (eV 1) (eF 2 f__law_take (aC (eV 0) (aC (eK kLen (aC (eV 1) aN)) aN)))))
def f__law_of : List DV → M DV := runF 2 b__law_of
def b__law_same (rec : List DV → M DV) : SS := (sSeq (sIf (bT (eK (kIsx nms) (aC (eV 1) (aC (eTup (aC (eC (.cst (.ty "list"))) (aC (eC (.cst (.ty "tuple"))) aN))) aN)))) (sSeq (sIf (bOr (bT (eO oNe (eK (kIsx nms) (aC (eV 0) (aC (eC (.cst (.ty "list"))) aN))) (eK (kIsx nms) (aC (eV 1) (aC (eC (.cst (.ty "list"))) aN))))) (bT (eO oNe (eK (kIsx nms) (aC (eV 0) (aC (eC (.cst (.ty "tuple"))) aN))) (eK (kIsx nms) (aC (eV 1) (aC (eC (.cst (.ty "tuple"))) aN)))))) (sRet (eC (.bl false))) sNil)
    (sRet (eAnd (eO oEq (eK kLen (aC (eV 0) aN)) (eK kLen (aC (eV 1) aN))) (eK kAll (aC (eComp [2, 3] (iZ (aC (eV 0) (aC (eV 1) aN))) (gQ 2 (gsC (gN 2) (gsC (gN 3) gsN))) bYes (eF 2 rec (aC (eV 2) (aC (eV 3) aN)))) aN))))) sNil)
    (sSeq (sIf (bOr (bT (eO oIs (eV 1) (eC .non))) (bT (eK (kIsx nms) (aC (eV 1) (aC (eTup (aC (eC (.cst (.ty "str"))) (aC (eC (.cst (.ty "bool"))) aN))) aN))))) (sRet (eAnd (eO oEq (eV 0) (eV 1)) (eAnd (eO oEq (eK (kIsx nms) (aC (eV 0) (aC (eC (.cst (.ty "bool"))) aN))) (eK (kIsx nms) (aC (eV 1) (aC (eC (.cst (.ty "bool"))) aN)))) (eO oEq (eO oIs (eV 0) (eC .non)) (eO oIs (eV 1) (eC .non)))))) sNil)
    (sRet (eAnd (eK (kIsx nms) (aC (eV 0) (aC (eC (.cst (.ty "int"))) aN))) (eAnd (eNot (eK (kIsx nms) (aC (eV 0) (aC (eC (.cst (.ty "bool"))) aN)))) (eO oEq (eV 0) (eV 1)))))))
def f__law_same : Nat → List DV → M DV
  | 0 => fun _ _ => none
  | d + 1 => runF 4 (b__law_same (f__law_same d))
def b__law_sorts : SS := (sSeq (sAsg (eLst (aC (eK (kIsx nms) (aC (eV 0) (aC (eC (.gl "Known")) aN))) (aC (eK (kIsx nms) (aC (eV 0) (aC (eC (.gl "BadText")) aN))) (aC (eK (kIsx nms) (aC (eV 0) (aC (eC (.gl "BadLine")) aN))) aN)))) (gN 1))
    (sSeq (sAsg (eO oAdd (eV 1) (eLst (aC (eK (kIsx nms) (aC (eV 0) (aC (eC (.gl "Unexplained")) aN))) (aC (eK (kIsx nms) (aC (eV 0) (aC (eC (.gl "NoFile")) aN))) (aC (eK (kIsx nms) (aC (eV 0) (aC (eC (.gl "NoBlock")) aN))) aN))))) (gN 1))
    (sSeq (sAsg (eO oAdd (eV 1) (eLst (aC (eK (kIsx nms) (aC (eV 0) (aC (eC (.gl "NoPromise")) aN))) (aC (eK (kIsx nms) (aC (eV 0) (aC (eC (.gl "NoItem")) aN))) (aC (eK (kIsx nms) (aC (eV 0) (aC (eC (.gl "NoStep")) aN))) aN))))) (gN 1))
    (sRet (eO oAdd (eV 1) (eLst (aC (eK (kIsx nms) (aC (eV 0) (aC (eC (.gl "Full")) aN))) aN)))))))
def f__law_sorts : List DV → M DV := runF 2 b__law_sorts
def b__law_bases : SS := (sSeq (sAsg (eLst (aC (eK (kIsx nms) (aC (eV 0) (aC (eC (.cst (.ty "ValueError"))) aN))) (aC (eK (kIsx nms) (aC (eV 0) (aC (eC (.cst (.ty "LookupError"))) aN))) (aC (eK (kIsx nms) (aC (eV 0) (aC (eC (.cst (.ty "RuntimeError"))) aN))) aN)))) (gN 1))
    (sRet (eO oAdd (eV 1) (eLst (aC (eK (kIsx nms) (aC (eV 0) (aC (eC (.cst (.ty "KeyError"))) aN))) (aC (eK (kIsx nms) (aC (eV 0) (aC (eC (.cst (.ty "IndexError"))) aN))) aN))))))
def f__law_bases : List DV → M DV := runF 2 b__law_bases
def b__law_kept : SS := (sSeq (sIf (bT (eO oIn (eV 1) (eTup (aC (eC (.int 0)) (aC (eC (.int 4)) aN))))) (sRet (eLst (aC (eAt nms "name" (eV 0)) aN))) sNil)
    (sSeq (sIf (bT (eO oEq (eV 1) (eC (.int 1)))) (sRet (eLst aN)) sNil)
    (sSeq (sIf (bT (eO oIn (eV 1) (eTup (aC (eC (.int 2)) (aC (eC (.int 7)) aN))))) (sRet (eLst (aC (eAt nms "number" (eV 0)) aN))) sNil)
    (sSeq (sIf (bT (eO oIn (eV 1) (eTup (aC (eC (.int 3)) (aC (eC (.int 8)) aN))))) (sRet (eLst (aC (eAt nms "index" (eV 0)) aN))) sNil)
    (sSeq (sIf (bT (eO oEq (eV 1) (eC (.int 5)))) (sRet (eLst (aC (eAt nms "block" (eV 0)) aN))) sNil)
    (sRet (eIf (bT (eO oEq (eV 1) (eC (.int 6)))) (eLst (aC (eAt nms "name" (eV 0)) (aC (eAt nms "block" (eV 0)) aN))) (eLst (aC (eAt nms "order" (eV 0)) aN)))))))))
def f__law_kept : List DV → M DV := runF 2 b__law_kept
def b__law_right_L1 : SS := (sSeq (sIf (bOr (bNot (bT (eF 2 (f__law_same 4) (aC (eF 2 f__law_kept (aC (eV 9) (aC (eV 6) aN))) (aC (eO oIx (eV 5) (eV 6)) aN))))) (bT (eO oNe (eF 1 f__law_bases (aC (eV 9) aN)) (eV 8)))) (sRet (eC (.bl false))) sNil)
    (sIf (bT (eO oNe (eF 1 f__law_sorts (aC (eV 9) aN)) (eComp [10] (iR1 (aC (eC (.int 10)) aN)) (gN 10) bYes (eO oEq (eV 10) (eV 6))))) (sRet (eC (.bl false))) sNil))
def b__law_right_L2 : SS := (sSeq (sAsg (eLst (aC (eO oLt (eV 6) (eC (.int 4))) (aC (eCh oLt oLt (eC (.int 3)) (eV 6) (eC (.int 9))) (aC (eO oEq (eV 6) (eC (.int 9))) (aC (eC (.bl false)) (aC (eC (.bl false)) aN)))))) (gN 8))
    (sFor (iD (eV 7)) (gN 9) b__law_right_L1))
def b__law_right : SS := (sSeq (sPar 1 2 (aC (eF 2 f__law_take (aC (eV 0) (aC (eO oPow (eC (.int 10)) (eC (.int 6))) aN))) (aC (eF 2 f__law_of (aC (eV 0) (aC (eLst (aC (eC (.str "a")) (aC (eC (.str "zz")) (aC (eC (.str "abcdefgh")) aN)))) aN))) aN)))
    (sSeq (sAsg (eTup (aC (eTup (aC (eC (.str "place")) (aC (eV 2) (aC (eV 1) aN)))) (aC (eTup (aC (eC (.str "commit")) aN)) aN))) (gN 3))
    (sSeq (sAsg (eLst (aC (eLst (aC (eF 1 (kExc "Known" ["name"] as_Known) (aC (eV 2) aN)) (aC (eFK 1 1 [0] (kExc "Known" ["name"] as_Known) (aC (eV 2) aN)) aN))) (aC (eLst (aC (fun _ => (kExc "BadText" [] as_BadText) []) (aC (fun _ => (kExc "BadText" [] as_BadText) []) aN))) (aC (eLst (aC (eF 1 (kExc "BadLine" ["number"] as_BadLine) (aC (eV 1) aN)) (aC (eFK 1 1 [0] (kExc "BadLine" ["number"] as_BadLine) (aC (eV 1) aN)) aN))) aN)))) (gN 4))
    (sSeq (sAsg (eO oAdd (eV 4) (eLst (aC (eLst (aC (eF 1 (kExc "Unexplained" ["index"] as_Unexplained) (aC (eV 1) aN)) (aC (eFK 1 1 [0] (kExc "Unexplained" ["index"] as_Unexplained) (aC (eV 1) aN)) aN))) (aC (eLst (aC (eF 1 (kExc "NoFile" ["name"] as_NoFile) (aC (eV 2) aN)) (aC (eFK 1 1 [0] (kExc "NoFile" ["name"] as_NoFile) (aC (eV 2) aN)) aN))) aN)))) (gN 4))
    (sSeq (sAsg (eO oAdd (eV 4) (eLst (aC (eLst (aC (eF 1 (kExc "NoBlock" ["block"] as_NoBlock) (aC (eV 1) aN)) (aC (eFK 1 1 [0] (kExc "NoBlock" ["block"] as_NoBlock) (aC (eV 1) aN)) aN))) (aC (eLst (aC (eF 2 (kExc "NoPromise" ["name", "block"] as_NoPromise) (aC (eV 2) (aC (eV 1) aN))) (aC (eFK 2 2 [1, 0] (kExc "NoPromise" ["name", "block"] as_NoPromise) (aC (eV 1) (aC (eV 2) aN))) aN))) aN)))) (gN 4))
    (sSeq (sAsg (eO oAdd (eV 4) (eLst (aC (eLst (aC (eF 1 (kExc "NoItem" ["number"] as_NoItem) (aC (eV 1) aN)) (aC (eFK 1 1 [0] (kExc "NoItem" ["number"] as_NoItem) (aC (eV 1) aN)) aN))) (aC (eLst (aC (eF 1 (kExc "NoStep" ["index"] as_NoStep) (aC (eV 1) aN)) (aC (eFK 1 1 [0] (kExc "NoStep" ["index"] as_NoStep) (aC (eV 1) aN)) aN))) (aC (eLst (aC (eF 1 (kExc "Full" ["order"] as_Full) (aC (eV 3) aN)) (aC (eFK 1 1 [0] (kExc "Full" ["order"] as_Full) (aC (eV 3) aN)) aN))) aN))))) (gN 4))
    (sSeq (sAsg (eLst (aC (eLst (aC (eV 2) aN)) (aC (eLst aN) (aC (eLst (aC (eV 1) aN)) (aC (eLst (aC (eV 1) aN)) (aC (eLst (aC (eV 2) aN)) (aC (eLst (aC (eV 1) aN)) (aC (eLst (aC (eV 2) (aC (eV 1) aN))) (aC (eLst (aC (eV 1) aN)) (aC (eLst (aC (eV 1) aN)) (aC (eLst (aC (eV 3) aN)) aN))))))))))) (gN 5))
    (sSeq (sFor (iE (aC (eV 4) aN)) (gQ 2 (gsC (gN 6) (gsC (gN 7) gsN))) b__law_right_L2)
    (sRet (eC (.bl true)))))))))))
def f__law_right : List DV → M DV := runF 11 b__law_right
def b_law_L1 : SS := (sSeq (sAsg (eF 2 f__law_box (aC (eV 0) (aC (eV 1) aN))) (gN 2))
    (sIf (bNot (bT (eK kAll (aC (eComp [3] (iR1 (aC (eC (.int 1)) aN)) (gN 3) bYes (eF 1 f__law_right (aC (eV 2) aN))) aN)))) (sRet (eC (.bl false))) sNil))
def b_law : SS := (sSeq (sFor (iR1 (aC (eO oAdd (eC (.int 1)) (eK kMin2 (aC (eC (.int 2)) (aC (eK kLen (aC (eV 0) aN)) aN)))) aN)) (gN 1) b_law_L1)
    (sRet (eC (.bl true))))
def f_law : List DV → M DV := runF 4 b_law
end K01
end L2

set_option maxRecDepth 100000
namespace L2
namespace K01
open PySem PySem.Spec PyProof.Rows DL
/-! ### the box of draws -/
theorem at0 {α : Type} (a : α) (l : List α) : atI (a :: l) 0 = some a := atI_nat (j := 0) rfl
theorem at1 {α : Type} (a b : α) (l : List α) : atI (a :: b :: l) 1 = some b := atI_nat (j := 1) rfl
theorem at2 {α : Type} (a b c : α) (l : List α) : atI (a :: b :: c :: l) 2 = some c := atI_nat (j := 2) rfl
theorem ix0 (n : Nat) : ixN (n + 1) 0 = some 0 := by unfold ixN; rw [if_pos (by decide), if_pos (by omega)]; rfl
theorem ix3_2 : ixN 3 2 = some 2 := by decide
def Box (W : Wd) (b : Nat) (c : Int) : Prop := ∃ x0 x1 x2 : Int, W[b]? = some (.lst [.int x0, .int x1, .int x2]) ∧ 0 ≤ x0 ∧ 0 ≤ x1 ∧ x1 < 2 ^ 62 ∧ 0 ≤ x2 ∧ x2 ≤ c
structure Sm (W W' : Wd) (b : Nat) : Prop where
  len : W'.length = W.length
  rest : ∀ j, j ≠ b → W'[j]? = W[j]?
theorem Sm.refl (W : Wd) (b : Nat) : Sm W W b := ⟨rfl, fun _ _ => rfl⟩
theorem Sm.trans {W W1 W2 : Wd} {b : Nat} (h : Sm W W1 b) (k : Sm W1 W2 b) : Sm W W2 b := ⟨k.len.trans h.len, fun j hj => (k.rest j hj).trans (h.rest j hj)⟩
theorem Sm.set (W : Wd) (b : Nat) (c : Cell) : Sm W (W.set b c) b := ⟨List.length_set, fun j hj => List.getElem?_set_ne (Ne.symm hj)⟩
theorem get_set {W : Wd} {b : Nat} {c d : Cell} (h : W[b]? = some d) : (W.set b c)[b]? = some c := by
  obtain ⟨l, _⟩ := List.getElem?_eq_some_iff.mp h
  exact List.getElem?_set_self l
theorem oIx_loc {W : Wd} {b : Nat} {xs : List DV} (h : W[b]? = some (.lst xs)) (k : Int) : oIx (.loc b) (.int k) W = (atI xs k).map fun z => (z, W) := by
  simp [oIx, itemsOf, h]
theorem dPut_loc {W : Wd} {b : Nat} {xs : List DV} (h : W[b]? = some (.lst xs)) (v : DV) (k : Int) : dPut v (.loc b) (.int k) W = (ixN xs.length k).map fun j => ((), W.set b (.lst (xs.set j v))) := by
  simp [dPut, h]
theorem bound64_of {i : Int} (h : 0 ≤ i) (h2 : i < 2 ^ 62) : bound64 i = true := by
  unfold bound64
  have : (2 : Int) ^ 62 < 2 ^ 64 := by decide
  exact decide_eq_true ⟨by omega, by omega⟩
theorem take_spec {W : Wd} {b : Nat} {c n : Int} (hb : Box W b c) (hn : 0 < n) (hn2 : n < 1073741824) (hc : c < 1000000000) :
    ∃ v W', f__law_take [.loc b, .int n] W = some (.int v, W') ∧ 0 ≤ v ∧ v < n ∧ Box W' b (c + 1) ∧ Sm W W' b := by
  obtain ⟨x0, x1, x2, h, p0, p1, p2, p3, p4⟩ := hb
  by_cases hx : 0 < x0
  · refine ⟨x0 % n, W.set b (.lst [.int (x0 / n), .int x1, .int x2]), runF_rt ?_ List.length_set, Int.emod_nonneg _ (by omega), Int.emod_lt_of_pos _ hn, ⟨_, _, _, get_set h, Int.ediv_nonneg p0 (by omega), p1, p2, p3, by omega⟩, Sm.set _ _ _⟩
    simp [b__law_take, oIx_loc h, dPut_loc h, at0, hx, kInt, hn, hn2, ix0]
  · have hW : (W.set b (.lst [.int x0, .int x1, .int (x2 + 1)]))[b]? = some (.lst [.int x0, .int x1, .int (x2 + 1)]) := get_set h
    have b2 : bound64 (39373 + (x2 + 1)) = true := bound64_of (by omega) (by omega)
    have b3 : bound64 (48271 : Int) = true := by decide
    obtain ⟨on, hon⟩ : ∃ on, (x1 + 48271 * (x2 + 1)) * (39373 + (x2 + 1)) % 2147483647 = on := ⟨_, rfl⟩
    have b4 : bound64 (on % 40009 + 7) = true := by
      have a1 := Int.emod_nonneg on (show (40009 : Int) ≠ 0 by decide)
      have a2 := Int.emod_lt_of_pos on (show (0 : Int) < 40009 by decide)
      exact bound64_of (by omega) (by omega)
    obtain ⟨tw, htw⟩ : ∃ tw, (on + (x2 + 1) + x1 / 1000003) * (on % 40009 + 7) % 2147483629 = tw := ⟨_, rfl⟩
    refine ⟨(tw * 48271 + on) % 2147483587 / 64 % n, W.set b (.lst [.int x0, .int x1, .int (x2 + 1)]), runF_rt ?_ List.length_set, Int.emod_nonneg _ (by omega), Int.emod_lt_of_pos _ hn, ⟨_, _, _, hW, p0, p1, p2, by omega, by omega⟩, Sm.set _ _ _⟩
    simp [b__law_take, oIx_loc h, dPut_loc h, at0, at1, at2, hx, kInt, hn, hn2, ix3_2, oIx_loc hW, b2, b3, hon, b4, htw]
end K01
end L2

set_option maxRecDepth 100000
namespace L2
namespace K01
open PySem PySem.Spec PyProof.Rows DL
theorem ixN_lt {n : Nat} {v : Int} (h0 : 0 ≤ v) (h1 : v < n) : ixN n v = some v.toNat := by unfold ixN; rw [if_pos h0, if_pos h1]
theorem atI_lt {α : Type} {xs : List α} {v : Int} (h0 : 0 ≤ v) (h1 : v < xs.length) : ∃ x, atI xs v = some x ∧ x ∈ xs := by
  unfold atI
  rw [ixN_lt h0 h1]
  have l : v.toNat < xs.length := by omega
  exact ⟨xs[v.toNat], List.getElem?_eq_getElem l, List.getElem_mem l⟩
theorem of_spec {W : Wd} {b : Nat} {c : Int} {xs : List DV} (hb : Box W b c) (h0 : 0 < xs.length) (h1 : xs.length < 1000000) (hc : c < 1000000000) :
    ∃ x W', f__law_of [.loc b, .lst xs] W = some (x, W') ∧ x ∈ xs ∧ Box W' b (c + 1) ∧ Sm W W' b := by
  obtain ⟨v, W', e, v0, v1, hb', sm⟩ := take_spec (n := xs.length) hb (by omega) (by omega) hc
  obtain ⟨x, ex, mx⟩ := atI_lt v0 v1
  refine ⟨x, W', runF_rt ?_ sm.len, mx, hb', sm⟩
  simp [b__law_of, kLen, itemsOf, e, oIx, ex]
theorem cell_eq (ns : List Int) (k : Nat) (W : Wd) : f__law_cell_at [.scr ns, .int (k : Nat)] W = some (.int (ns.getD k 0), W) := by
  refine runF_rt ?_ rfl
  by_cases h : k < ns.length
  · have e : atI (ns.map DV.int) (k : Int) = some (.int ns[k]) := atI_nat (by rw [List.getElem?_map, List.getElem?_eq_getElem h]; rfl)
    simp [b__law_cell_at, kLen, itemsOf, oIx, e, h]
  · simp [b__law_cell_at, kLen, itemsOf, oIx, h]
theorem box_spec (ns : List Int) (k : Nat) (W : Wd) (hk : k ≤ 100) : ∃ x0 x1 : Int, f__law_box [.scr ns, .int (k : Nat)] W = some (.loc W.length, W ++ [.lst [.int x0, .int x1, .int 0]]) ∧ 0 ≤ x0 ∧ 0 ≤ x1 ∧ x1 < 2 ^ 62 := by
  obtain ⟨c, hc⟩ : ∃ c, ns.getD k 0 = c := ⟨_, rfl⟩
  have ec := cell_eq ns k W
  rw [hc] at ec
  obtain ⟨a, ha⟩ : ∃ a : Int, (if c < 0 then -c else c) = a := ⟨_, rfl⟩
  have a0 : 0 ≤ a := by rw [← ha]; split <;> omega
  have m0 := Int.emod_nonneg c (show (2305843009213693951 : Int) ≠ 0 by decide)
  have m1 := Int.emod_lt_of_pos c (show (0 : Int) < 2305843009213693951 by decide)
  have bk : bound64 (39373 : Int) = true := by decide
  obtain ⟨f, hf⟩ : ∃ f : Int, (if decide ((1000000000000000000 : Int) ≤ a) = true then (1 : Int) else 0) = f := ⟨_, rfl⟩
  have f01 : f = 1 ∨ f = 0 := by rw [← hf]; split <;> simp
  have bf : bound64 f = true := by rcases f01 with rfl | rfl <;> decide
  have big : (2 : Int) ^ 62 = 4611686018427387904 := by decide
  refine ⟨a * f, c % 2305843009213693951 + 39373 * (k : Int) + 61, runF_keep ?_ (by simp) (by simp [DV.lo]), ?_, by omega, by rw [big]; omega⟩
  · have l3 : lineOk [DV.int (a * f), DV.int (c % 2305843009213693951 + 39373 * (k : Int) + 61), DV.int 0] = true := by unfold lineOk; rw [sizeLine_eq]; rfl
    have pw : oPow (.int 10) (.int 18) W = some (.int 1000000000000000000, W) := by kernel_rfl
    simp [b__law_box, ec, kInt, kAbs, ha, bk, pw]
    simp only [decide_eq_true_eq] at hf
    simp [hf, bf, l3]
  · rcases f01 with rfl | rfl
    · omega
    · omega
/-! ### same -/
def okS : Nat → DV → Bool
  | 0, _ => false
  | k + 1, x => match x with
    | .non => true
    | .bl _ => true
    | .int _ => true
    | .str _ => true
    | .tup xs => decide (xs.length ≤ sizeLine) && xs.all (okS k)
    | .lst xs => decide (xs.length ≤ sizeLine) && xs.all (okS k)
    | _ => false
theorem same_all (g : List DV → M DV) (W : Wd) (e0 e1 : Option DV) : ∀ (xs acc : List DV), (∀ x ∈ xs, g [x, x] W = some (.bl true, W)) → acc.length + xs.length ≤ sizeLine →
    cLoop (gQ 2 (gsC (gN 2) (gsC (gN 3) gsN))) bYes (eF 2 g (aC (eV 2) (aC (eV 3) aN))) [e0, e1, none, none] (pairUp xs xs) acc W = some (acc ++ xs.map fun _ => .bl true, W)
  | [], acc, _, _ => by simp [pairUp]
  | x :: xs, acc, h, l => by
    have e := h x List.mem_cons_self
    have ih := same_all g W e0 e1 xs (acc ++ [.bl true]) (fun y hy => h y (List.mem_cons_of_mem _ hy)) (by rw [List.length_append]; simp at l ⊢; omega)
    have l' : acc.length < sizeLine := by simp at l; omega
    simp [pairUp, e, l', ih]
theorem bools_true : ∀ xs : List DV, bools (xs.map fun _ => DV.bl true) = some (xs.map fun _ => true)
  | [] => rfl
  | x :: xs => by
    show (bools (xs.map fun _ => DV.bl true)).map (fun bs => true :: bs) = _
    rw [bools_true xs]; rfl
theorem all_true : ∀ xs : List DV, (xs.map fun _ => true).all id = true
  | [] => rfl
  | x :: xs => by simpa using all_true xs
theorem line2 (a b : DV) : lineOk [a, b] = true := by unfold lineOk; rw [sizeLine_eq]; rfl
theorem same_refl : ∀ (k : Nat) (x : DV) (W : Wd), okS k x = true → f__law_same k [x, x] W = some (.bl true, W)
  | 0, _, _, h => by cases h
  | k + 1, x, W, h => by
    refine runF_rt ?_ rfl
    have z (xs : List DV) (h : (decide (xs.length ≤ sizeLine) && xs.all (okS k)) = true) := same_all (f__law_same k) W (some (.tup xs)) (some (.tup xs)) xs [] (fun y hy => same_refl k y W (by rw [Bool.and_eq_true] at h; exact List.all_eq_true.mp h.2 y hy)) (by rw [Bool.and_eq_true] at h; simpa using of_decide_eq_true h.1)
    have z2 (xs : List DV) (h : (decide (xs.length ≤ sizeLine) && xs.all (okS k)) = true) := same_all (f__law_same k) W (some (.lst xs)) (some (.lst xs)) xs [] (fun y hy => same_refl k y W (by rw [Bool.and_eq_true] at h; exact List.all_eq_true.mp h.2 y hy)) (by rw [Bool.and_eq_true] at h; simpa using of_decide_eq_true h.1)
    cases x with
    | non => simp [b__law_same, kIsx, kIsi, tyD, clsOf, clsAll, known, isSub, line2, oIs, isN, oEq, dEq, dEqD, toPy, SeqAt.shaped, PyData.canLay0, PyData.depth, PyData.eqv]
    | bl b => simp [b__law_same, kIsx, kIsi, tyD, clsOf, clsAll, known, isSub, line2, oIs, isN]
    | int i => simp [b__law_same, kIsx, kIsi, tyD, clsOf, clsAll, known, isSub, line2, oIs, isN]
    | str i => simp [b__law_same, kIsx, kIsi, tyD, clsOf, clsAll, known, isSub, line2, oIs, isN]
    | tup xs =>
      have zz := z xs h
      simp [b__law_same, kIsx, kIsi, tyD, clsOf, clsAll, known, isSub, line2, kLen, itemsOf, iZ, mb_apply, wipeD, zz, kAll, bools_true, all_true]
    | lst xs =>
      have zz := z2 xs h
      simp [b__law_same, kIsx, kIsi, tyD, clsOf, clsAll, known, isSub, line2, kLen, itemsOf, iZ, mb_apply, wipeD, zz, kAll, bools_true, all_true]
    | loc i => cases h
    | cst v => cases h
    | scr ns => cases h
    | gl c => cases h
    | exc a b c => cases h
end K01
end L2

set_option maxRecDepth 100000
namespace L2
namespace K01
open PySem PySem.Spec PyProof.Rows DL
theorem small_num {n : Int} (h0 : 0 ≤ n) (h1 : n < 1000000) : n.natAbs.log2 < 1920 := by
  have h : n.natAbs < 2 ^ 20 := by omega
  have : n.natAbs.log2 < 20 := by
    by_cases z : n.natAbs = 0
    · rw [z]; decide
    · exact (Nat.log2_lt z).mpr h
  omega
theorem num_len {n : Int} (h0 : 0 ≤ n) (h1 : n < 1000000) : (Str.ofString (toString n)).length ≤ 6 := toString_length_le h0 (by decide) (by
  have : (10 : Int) ^ 6 = 1000000 := by decide
  omega)
theorem strI {n : Int} (h0 : 0 ≤ n) (h1 : n < 1000000) (W : Wd) : kStrI [.int n] W = some (.str (Str.ofString (toString n)), W) := by
  have := small_num h0 h1
  simp [kStrI, this]
theorem line1 (a : DV) : lineOk [a] = true := by unfold lineOk; rw [sizeLine_eq]; rfl
theorem exI {nm f : Str} {t : Str} (ht : t.length ≤ 100) {n : Int} (h0 : 0 ≤ n) (h1 : n < 1000000) (W : Wd) : kExc nm [f] (aC (eO oAdd (eC (.str t)) (eK kStrI (aC (eV 1) aN))) aN) [.int n] W = some (.exc nm [f] [.int n], W) := by
  have l : t.length + (Str.ofString (toString n)).length ≤ sizeLine := by
    have := num_len h0 h1
    rw [sizeLine_eq]; omega
  have k := strI h0 h1 W
  generalize Str.ofString (toString n) = u at k l
  simp [kExc, k, oAdd, dAdd, l]
theorem exS {nm f : Str} {t u : Str} (ht : t.length ≤ 100) (hu : u.length ≤ 8) (W : Wd) : kExc nm [f] (aC (eO oAdd (eC (.str t)) (eV 1)) aN) [.str u] W = some (.exc nm [f] [.str u], W) := by
  have l : t.length + u.length ≤ sizeLine := by
    rw [sizeLine_eq]; omega
  simp [kExc, oAdd, dAdd, l]
theorem exS2 {nm f g : Str} {t u : Str} (ht : t.length ≤ 100) (hu : u.length ≤ 8) (y : DV) (W : Wd) : kExc nm [f, g] (aC (eO oAdd (eC (.str t)) (eV 1)) aN) [.str u, y] W = some (.exc nm [f, g] [.str u, y], W) := by
  have l : t.length + u.length ≤ sizeLine := by
    rw [sizeLine_eq]; omega
  simp [kExc, oAdd, dAdd, l]
theorem exC0 {nm : Str} {t : Str} (W : Wd) : kExc nm [] (aC (eC (.str t)) aN) [] W = some (.exc nm [] [], W) := by
  simp [kExc]
theorem exC1 {nm f : Str} {t : Str} (x : DV) (W : Wd) : kExc nm [f] (aC (eC (.str t)) aN) [x] W = some (.exc nm [f] [x], W) := by
  simp [kExc]
end K01
end L2

set_option maxRecDepth 100000
/-! the ten rows (printed by genq.py) -/
namespace L2
namespace K01
open PySem PySem.Spec PyProof.Rows DL
abbrev steps (n : Int) (t : Str) : DV := .tup [.tup [.str "place", .str t, .int n], .tup [.str "commit"]]
abbrev er0 (n : Int) (t : Str) : DV := .exc "Known" ["name"] [.str t]
abbrev vl0 (n : Int) (t : Str) : DV := .lst [.str t]
abbrev bs0 : DV := .lst [.bl true, .bl false, .bl false, .bl false, .bl false]
abbrev so0 : DV := .lst [.bl true, .bl false, .bl false, .bl false, .bl false, .bl false, .bl false, .bl false, .bl false, .bl false]
abbrev er1 (n : Int) (t : Str) : DV := .exc "BadText" [] []
abbrev vl1 (n : Int) (t : Str) : DV := .lst []
abbrev bs1 : DV := .lst [.bl true, .bl false, .bl false, .bl false, .bl false]
abbrev so1 : DV := .lst [.bl false, .bl true, .bl false, .bl false, .bl false, .bl false, .bl false, .bl false, .bl false, .bl false]
abbrev er2 (n : Int) (t : Str) : DV := .exc "BadLine" ["number"] [.int n]
abbrev vl2 (n : Int) (t : Str) : DV := .lst [.int n]
abbrev bs2 : DV := .lst [.bl true, .bl false, .bl false, .bl false, .bl false]
abbrev so2 : DV := .lst [.bl false, .bl false, .bl true, .bl false, .bl false, .bl false, .bl false, .bl false, .bl false, .bl false]
abbrev er3 (n : Int) (t : Str) : DV := .exc "Unexplained" ["index"] [.int n]
abbrev vl3 (n : Int) (t : Str) : DV := .lst [.int n]
abbrev bs3 : DV := .lst [.bl true, .bl false, .bl false, .bl false, .bl false]
abbrev so3 : DV := .lst [.bl false, .bl false, .bl false, .bl true, .bl false, .bl false, .bl false, .bl false, .bl false, .bl false]
abbrev er4 (n : Int) (t : Str) : DV := .exc "NoFile" ["name"] [.str t]
abbrev vl4 (n : Int) (t : Str) : DV := .lst [.str t]
abbrev bs4 : DV := .lst [.bl false, .bl true, .bl false, .bl false, .bl false]
abbrev so4 : DV := .lst [.bl false, .bl false, .bl false, .bl false, .bl true, .bl false, .bl false, .bl false, .bl false, .bl false]
abbrev er5 (n : Int) (t : Str) : DV := .exc "NoBlock" ["block"] [.int n]
abbrev vl5 (n : Int) (t : Str) : DV := .lst [.int n]
abbrev bs5 : DV := .lst [.bl false, .bl true, .bl false, .bl false, .bl false]
abbrev so5 : DV := .lst [.bl false, .bl false, .bl false, .bl false, .bl false, .bl true, .bl false, .bl false, .bl false, .bl false]
abbrev er6 (n : Int) (t : Str) : DV := .exc "NoPromise" ["name", "block"] [.str t, .int n]
abbrev vl6 (n : Int) (t : Str) : DV := .lst [.str t, .int n]
abbrev bs6 : DV := .lst [.bl false, .bl true, .bl false, .bl false, .bl false]
abbrev so6 : DV := .lst [.bl false, .bl false, .bl false, .bl false, .bl false, .bl false, .bl true, .bl false, .bl false, .bl false]
abbrev er7 (n : Int) (t : Str) : DV := .exc "NoItem" ["number"] [.int n]
abbrev vl7 (n : Int) (t : Str) : DV := .lst [.int n]
abbrev bs7 : DV := .lst [.bl false, .bl true, .bl false, .bl false, .bl false]
abbrev so7 : DV := .lst [.bl false, .bl false, .bl false, .bl false, .bl false, .bl false, .bl false, .bl true, .bl false, .bl false]
abbrev er8 (n : Int) (t : Str) : DV := .exc "NoStep" ["index"] [.int n]
abbrev vl8 (n : Int) (t : Str) : DV := .lst [.int n]
abbrev bs8 : DV := .lst [.bl false, .bl true, .bl false, .bl false, .bl false]
abbrev so8 : DV := .lst [.bl false, .bl false, .bl false, .bl false, .bl false, .bl false, .bl false, .bl false, .bl true, .bl false]
abbrev er9 (n : Int) (t : Str) : DV := .exc "Full" ["order"] [steps n t]
abbrev vl9 (n : Int) (t : Str) : DV := .lst [steps n t]
abbrev bs9 : DV := .lst [.bl false, .bl false, .bl true, .bl false, .bl false]
abbrev so9 : DV := .lst [.bl false, .bl false, .bl false, .bl false, .bl false, .bl false, .bl false, .bl false, .bl false, .bl true]
abbrev vals (n : Int) (t : Str) : DV := .lst [vl0 n t, vl1 n t, vl2 n t, vl3 n t, vl4 n t, vl5 n t, vl6 n t, vl7 n t, vl8 n t, vl9 n t]
abbrev rows (n : Int) (t : Str) : DV := .lst [.lst [er0 n t, er0 n t], .lst [er1 n t, er1 n t], .lst [er2 n t, er2 n t], .lst [er3 n t, er3 n t], .lst [er4 n t, er4 n t], .lst [er5 n t, er5 n t], .lst [er6 n t, er6 n t], .lst [er7 n t, er7 n t], .lst [er8 n t, er8 n t], .lst [er9 n t, er9 n t]]
variable (n : Int) (t : Str) (W : Wd)
theorem kept0 : f__law_kept [er0 n t, .int 0] W = some (vl0 n t, W) := runF_rt (by kernel_rfl) rfl
theorem bases0 : f__law_bases [er0 n t] W = some (bs0, W) := runF_rt (by kernel_rfl) rfl
theorem sorts0 : f__law_sorts [er0 n t] W = some (so0, W) := runF_rt (by kernel_rfl) rfl
theorem nb0 : oNe bs0 bs0 W = some (.bl false, W) := by kernel_rfl
theorem ns0 : oNe so0 so0 W = some (.bl false, W) := by kernel_rfl
theorem same0 : f__law_same 4 [vl0 n t, vl0 n t] W = some (.bl true, W) := same_refl 4 _ W (by simp [okS]; try (rw [sizeLine_eq]; decide))
theorem at0_ : oIx (vals n t) (.int 0) W = some (vl0 n t, W) := by kernel_rfl
theorem comp0 (e0 e4 e7 e10 : Option DV) : eComp [10] (iR1 (aC (eC (.int 10)) aN)) (gN 10) bYes (eO oEq (eV 10) (eV 6)) [e0, some (.int n), some (.str t), some (steps n t), e4, some (vals n t), some (.int 0), e7, some bs0, some (er0 n t), e10] W = some (so0, W) := by kernel_rfl
theorem row0 (m : Nat) (e0 e4 e7 e10 : Option DV) : b__law_right_L1 m [e0, some (.int n), some (.str t), some (steps n t), e4, some (vals n t), some (.int 0), e7, some bs0, some (er0 n t), e10] W = some (.nx [e0, some (.int n), some (.str t), some (steps n t), e4, some (vals n t), some (.int 0), e7, some bs0, some (er0 n t), e10], W) := by
  simp only [b__law_right_L1]
  simp [kept0, bases0, sorts0, nb0, ns0, same0, at0_, comp0, -r_eComp]
theorem kept1 : f__law_kept [er1 n t, .int 1] W = some (vl1 n t, W) := runF_rt (by kernel_rfl) rfl
theorem bases1 : f__law_bases [er1 n t] W = some (bs1, W) := runF_rt (by kernel_rfl) rfl
theorem sorts1 : f__law_sorts [er1 n t] W = some (so1, W) := runF_rt (by kernel_rfl) rfl
theorem nb1 : oNe bs1 bs1 W = some (.bl false, W) := by kernel_rfl
theorem ns1 : oNe so1 so1 W = some (.bl false, W) := by kernel_rfl
theorem same1 : f__law_same 4 [vl1 n t, vl1 n t] W = some (.bl true, W) := same_refl 4 _ W (by simp [okS]; try (rw [sizeLine_eq]; decide))
theorem at1_ : oIx (vals n t) (.int 1) W = some (vl1 n t, W) := by kernel_rfl
theorem comp1 (e0 e4 e7 e10 : Option DV) : eComp [10] (iR1 (aC (eC (.int 10)) aN)) (gN 10) bYes (eO oEq (eV 10) (eV 6)) [e0, some (.int n), some (.str t), some (steps n t), e4, some (vals n t), some (.int 1), e7, some bs1, some (er1 n t), e10] W = some (so1, W) := by kernel_rfl
theorem row1 (m : Nat) (e0 e4 e7 e10 : Option DV) : b__law_right_L1 m [e0, some (.int n), some (.str t), some (steps n t), e4, some (vals n t), some (.int 1), e7, some bs1, some (er1 n t), e10] W = some (.nx [e0, some (.int n), some (.str t), some (steps n t), e4, some (vals n t), some (.int 1), e7, some bs1, some (er1 n t), e10], W) := by
  simp only [b__law_right_L1]
  simp [kept1, bases1, sorts1, nb1, ns1, same1, at1_, comp1, -r_eComp]
theorem kept2 : f__law_kept [er2 n t, .int 2] W = some (vl2 n t, W) := runF_rt (by kernel_rfl) rfl
theorem bases2 : f__law_bases [er2 n t] W = some (bs2, W) := runF_rt (by kernel_rfl) rfl
theorem sorts2 : f__law_sorts [er2 n t] W = some (so2, W) := runF_rt (by kernel_rfl) rfl
theorem nb2 : oNe bs2 bs2 W = some (.bl false, W) := by kernel_rfl
theorem ns2 : oNe so2 so2 W = some (.bl false, W) := by kernel_rfl
theorem same2 : f__law_same 4 [vl2 n t, vl2 n t] W = some (.bl true, W) := same_refl 4 _ W (by simp [okS]; try (rw [sizeLine_eq]; decide))
theorem at2_ : oIx (vals n t) (.int 2) W = some (vl2 n t, W) := by kernel_rfl
theorem comp2 (e0 e4 e7 e10 : Option DV) : eComp [10] (iR1 (aC (eC (.int 10)) aN)) (gN 10) bYes (eO oEq (eV 10) (eV 6)) [e0, some (.int n), some (.str t), some (steps n t), e4, some (vals n t), some (.int 2), e7, some bs2, some (er2 n t), e10] W = some (so2, W) := by kernel_rfl
theorem row2 (m : Nat) (e0 e4 e7 e10 : Option DV) : b__law_right_L1 m [e0, some (.int n), some (.str t), some (steps n t), e4, some (vals n t), some (.int 2), e7, some bs2, some (er2 n t), e10] W = some (.nx [e0, some (.int n), some (.str t), some (steps n t), e4, some (vals n t), some (.int 2), e7, some bs2, some (er2 n t), e10], W) := by
  simp only [b__law_right_L1]
  simp [kept2, bases2, sorts2, nb2, ns2, same2, at2_, comp2, -r_eComp]
theorem kept3 : f__law_kept [er3 n t, .int 3] W = some (vl3 n t, W) := runF_rt (by kernel_rfl) rfl
theorem bases3 : f__law_bases [er3 n t] W = some (bs3, W) := runF_rt (by kernel_rfl) rfl
theorem sorts3 : f__law_sorts [er3 n t] W = some (so3, W) := runF_rt (by kernel_rfl) rfl
theorem nb3 : oNe bs3 bs3 W = some (.bl false, W) := by kernel_rfl
theorem ns3 : oNe so3 so3 W = some (.bl false, W) := by kernel_rfl
theorem same3 : f__law_same 4 [vl3 n t, vl3 n t] W = some (.bl true, W) := same_refl 4 _ W (by simp [okS]; try (rw [sizeLine_eq]; decide))
theorem at3_ : oIx (vals n t) (.int 3) W = some (vl3 n t, W) := by kernel_rfl
theorem comp3 (e0 e4 e7 e10 : Option DV) : eComp [10] (iR1 (aC (eC (.int 10)) aN)) (gN 10) bYes (eO oEq (eV 10) (eV 6)) [e0, some (.int n), some (.str t), some (steps n t), e4, some (vals n t), some (.int 3), e7, some bs3, some (er3 n t), e10] W = some (so3, W) := by kernel_rfl
theorem row3 (m : Nat) (e0 e4 e7 e10 : Option DV) : b__law_right_L1 m [e0, some (.int n), some (.str t), some (steps n t), e4, some (vals n t), some (.int 3), e7, some bs3, some (er3 n t), e10] W = some (.nx [e0, some (.int n), some (.str t), some (steps n t), e4, some (vals n t), some (.int 3), e7, some bs3, some (er3 n t), e10], W) := by
  simp only [b__law_right_L1]
  simp [kept3, bases3, sorts3, nb3, ns3, same3, at3_, comp3, -r_eComp]
theorem kept4 : f__law_kept [er4 n t, .int 4] W = some (vl4 n t, W) := runF_rt (by kernel_rfl) rfl
theorem bases4 : f__law_bases [er4 n t] W = some (bs4, W) := runF_rt (by kernel_rfl) rfl
theorem sorts4 : f__law_sorts [er4 n t] W = some (so4, W) := runF_rt (by kernel_rfl) rfl
theorem nb4 : oNe bs4 bs4 W = some (.bl false, W) := by kernel_rfl
theorem ns4 : oNe so4 so4 W = some (.bl false, W) := by kernel_rfl
theorem same4 : f__law_same 4 [vl4 n t, vl4 n t] W = some (.bl true, W) := same_refl 4 _ W (by simp [okS]; try (rw [sizeLine_eq]; decide))
theorem at4_ : oIx (vals n t) (.int 4) W = some (vl4 n t, W) := by kernel_rfl
theorem comp4 (e0 e4 e7 e10 : Option DV) : eComp [10] (iR1 (aC (eC (.int 10)) aN)) (gN 10) bYes (eO oEq (eV 10) (eV 6)) [e0, some (.int n), some (.str t), some (steps n t), e4, some (vals n t), some (.int 4), e7, some bs4, some (er4 n t), e10] W = some (so4, W) := by kernel_rfl
theorem row4 (m : Nat) (e0 e4 e7 e10 : Option DV) : b__law_right_L1 m [e0, some (.int n), some (.str t), some (steps n t), e4, some (vals n t), some (.int 4), e7, some bs4, some (er4 n t), e10] W = some (.nx [e0, some (.int n), some (.str t), some (steps n t), e4, some (vals n t), some (.int 4), e7, some bs4, some (er4 n t), e10], W) := by
  simp only [b__law_right_L1]
  simp [kept4, bases4, sorts4, nb4, ns4, same4, at4_, comp4, -r_eComp]
theorem kept5 : f__law_kept [er5 n t, .int 5] W = some (vl5 n t, W) := runF_rt (by kernel_rfl) rfl
theorem bases5 : f__law_bases [er5 n t] W = some (bs5, W) := runF_rt (by kernel_rfl) rfl
theorem sorts5 : f__law_sorts [er5 n t] W = some (so5, W) := runF_rt (by kernel_rfl) rfl
theorem nb5 : oNe bs5 bs5 W = some (.bl false, W) := by kernel_rfl
theorem ns5 : oNe so5 so5 W = some (.bl false, W) := by kernel_rfl
theorem same5 : f__law_same 4 [vl5 n t, vl5 n t] W = some (.bl true, W) := same_refl 4 _ W (by simp [okS]; try (rw [sizeLine_eq]; decide))
theorem at5_ : oIx (vals n t) (.int 5) W = some (vl5 n t, W) := by kernel_rfl
theorem comp5 (e0 e4 e7 e10 : Option DV) : eComp [10] (iR1 (aC (eC (.int 10)) aN)) (gN 10) bYes (eO oEq (eV 10) (eV 6)) [e0, some (.int n), some (.str t), some (steps n t), e4, some (vals n t), some (.int 5), e7, some bs5, some (er5 n t), e10] W = some (so5, W) := by kernel_rfl
theorem row5 (m : Nat) (e0 e4 e7 e10 : Option DV) : b__law_right_L1 m [e0, some (.int n), some (.str t), some (steps n t), e4, some (vals n t), some (.int 5), e7, some bs5, some (er5 n t), e10] W = some (.nx [e0, some (.int n), some (.str t), some (steps n t), e4, some (vals n t), some (.int 5), e7, some bs5, some (er5 n t), e10], W) := by
  simp only [b__law_right_L1]
  simp [kept5, bases5, sorts5, nb5, ns5, same5, at5_, comp5, -r_eComp]
theorem kept6 : f__law_kept [er6 n t, .int 6] W = some (vl6 n t, W) := runF_rt (by kernel_rfl) rfl
theorem bases6 : f__law_bases [er6 n t] W = some (bs6, W) := runF_rt (by kernel_rfl) rfl
theorem sorts6 : f__law_sorts [er6 n t] W = some (so6, W) := runF_rt (by kernel_rfl) rfl
theorem nb6 : oNe bs6 bs6 W = some (.bl false, W) := by kernel_rfl
theorem ns6 : oNe so6 so6 W = some (.bl false, W) := by kernel_rfl
theorem same6 : f__law_same 4 [vl6 n t, vl6 n t] W = some (.bl true, W) := same_refl 4 _ W (by simp [okS]; try (rw [sizeLine_eq]; decide))
theorem at6_ : oIx (vals n t) (.int 6) W = some (vl6 n t, W) := by kernel_rfl
theorem comp6 (e0 e4 e7 e10 : Option DV) : eComp [10] (iR1 (aC (eC (.int 10)) aN)) (gN 10) bYes (eO oEq (eV 10) (eV 6)) [e0, some (.int n), some (.str t), some (steps n t), e4, some (vals n t), some (.int 6), e7, some bs6, some (er6 n t), e10] W = some (so6, W) := by kernel_rfl
theorem row6 (m : Nat) (e0 e4 e7 e10 : Option DV) : b__law_right_L1 m [e0, some (.int n), some (.str t), some (steps n t), e4, some (vals n t), some (.int 6), e7, some bs6, some (er6 n t), e10] W = some (.nx [e0, some (.int n), some (.str t), some (steps n t), e4, some (vals n t), some (.int 6), e7, some bs6, some (er6 n t), e10], W) := by
  simp only [b__law_right_L1]
  simp [kept6, bases6, sorts6, nb6, ns6, same6, at6_, comp6, -r_eComp]
theorem kept7 : f__law_kept [er7 n t, .int 7] W = some (vl7 n t, W) := runF_rt (by kernel_rfl) rfl
theorem bases7 : f__law_bases [er7 n t] W = some (bs7, W) := runF_rt (by kernel_rfl) rfl
theorem sorts7 : f__law_sorts [er7 n t] W = some (so7, W) := runF_rt (by kernel_rfl) rfl
theorem nb7 : oNe bs7 bs7 W = some (.bl false, W) := by kernel_rfl
theorem ns7 : oNe so7 so7 W = some (.bl false, W) := by kernel_rfl
theorem same7 : f__law_same 4 [vl7 n t, vl7 n t] W = some (.bl true, W) := same_refl 4 _ W (by simp [okS]; try (rw [sizeLine_eq]; decide))
theorem at7_ : oIx (vals n t) (.int 7) W = some (vl7 n t, W) := by kernel_rfl
theorem comp7 (e0 e4 e7 e10 : Option DV) : eComp [10] (iR1 (aC (eC (.int 10)) aN)) (gN 10) bYes (eO oEq (eV 10) (eV 6)) [e0, some (.int n), some (.str t), some (steps n t), e4, some (vals n t), some (.int 7), e7, some bs7, some (er7 n t), e10] W = some (so7, W) := by kernel_rfl
theorem row7 (m : Nat) (e0 e4 e7 e10 : Option DV) : b__law_right_L1 m [e0, some (.int n), some (.str t), some (steps n t), e4, some (vals n t), some (.int 7), e7, some bs7, some (er7 n t), e10] W = some (.nx [e0, some (.int n), some (.str t), some (steps n t), e4, some (vals n t), some (.int 7), e7, some bs7, some (er7 n t), e10], W) := by
  simp only [b__law_right_L1]
  simp [kept7, bases7, sorts7, nb7, ns7, same7, at7_, comp7, -r_eComp]
theorem kept8 : f__law_kept [er8 n t, .int 8] W = some (vl8 n t, W) := runF_rt (by kernel_rfl) rfl
theorem bases8 : f__law_bases [er8 n t] W = some (bs8, W) := runF_rt (by kernel_rfl) rfl
theorem sorts8 : f__law_sorts [er8 n t] W = some (so8, W) := runF_rt (by kernel_rfl) rfl
theorem nb8 : oNe bs8 bs8 W = some (.bl false, W) := by kernel_rfl
theorem ns8 : oNe so8 so8 W = some (.bl false, W) := by kernel_rfl
theorem same8 : f__law_same 4 [vl8 n t, vl8 n t] W = some (.bl true, W) := same_refl 4 _ W (by simp [okS]; try (rw [sizeLine_eq]; decide))
theorem at8_ : oIx (vals n t) (.int 8) W = some (vl8 n t, W) := by kernel_rfl
theorem comp8 (e0 e4 e7 e10 : Option DV) : eComp [10] (iR1 (aC (eC (.int 10)) aN)) (gN 10) bYes (eO oEq (eV 10) (eV 6)) [e0, some (.int n), some (.str t), some (steps n t), e4, some (vals n t), some (.int 8), e7, some bs8, some (er8 n t), e10] W = some (so8, W) := by kernel_rfl
theorem row8 (m : Nat) (e0 e4 e7 e10 : Option DV) : b__law_right_L1 m [e0, some (.int n), some (.str t), some (steps n t), e4, some (vals n t), some (.int 8), e7, some bs8, some (er8 n t), e10] W = some (.nx [e0, some (.int n), some (.str t), some (steps n t), e4, some (vals n t), some (.int 8), e7, some bs8, some (er8 n t), e10], W) := by
  simp only [b__law_right_L1]
  simp [kept8, bases8, sorts8, nb8, ns8, same8, at8_, comp8, -r_eComp]
theorem kept9 : f__law_kept [er9 n t, .int 9] W = some (vl9 n t, W) := runF_rt (by kernel_rfl) rfl
theorem bases9 : f__law_bases [er9 n t] W = some (bs9, W) := runF_rt (by kernel_rfl) rfl
theorem sorts9 : f__law_sorts [er9 n t] W = some (so9, W) := runF_rt (by kernel_rfl) rfl
theorem nb9 : oNe bs9 bs9 W = some (.bl false, W) := by kernel_rfl
theorem ns9 : oNe so9 so9 W = some (.bl false, W) := by kernel_rfl
theorem same9 : f__law_same 4 [vl9 n t, vl9 n t] W = some (.bl true, W) := same_refl 4 _ W (by simp [okS]; try (rw [sizeLine_eq]; decide))
theorem at9_ : oIx (vals n t) (.int 9) W = some (vl9 n t, W) := by kernel_rfl
theorem comp9 (e0 e4 e7 e10 : Option DV) : eComp [10] (iR1 (aC (eC (.int 10)) aN)) (gN 10) bYes (eO oEq (eV 10) (eV 6)) [e0, some (.int n), some (.str t), some (steps n t), e4, some (vals n t), some (.int 9), e7, some bs9, some (er9 n t), e10] W = some (so9, W) := by kernel_rfl
theorem row9 (m : Nat) (e0 e4 e7 e10 : Option DV) : b__law_right_L1 m [e0, some (.int n), some (.str t), some (steps n t), e4, some (vals n t), some (.int 9), e7, some bs9, some (er9 n t), e10] W = some (.nx [e0, some (.int n), some (.str t), some (steps n t), e4, some (vals n t), some (.int 9), e7, some bs9, some (er9 n t), e10], W) := by
  simp only [b__law_right_L1]
  simp [kept9, bases9, sorts9, nb9, ns9, same9, at9_, comp9, -r_eComp]
end K01
end L2

set_option maxRecDepth 100000
/-! the ten turns (printed by genr.py) -/
namespace L2
namespace K01
open PySem PySem.Spec PyProof.Rows DL
theorem line5 (a b c d e : DV) : lineOk [a, b, c, d, e] = true := by unfold lineOk; rw [sizeLine_eq]; rfl
variable (n : Int) (t : Str) (W : Wd)
theorem turn0 (m : Nat) (e0 e4 e8 e9 e10 : Option DV) : b__law_right_L2 m [e0, some (.int n), some (.str t), some (steps n t), e4, some (vals n t), some (.int 0), some (.lst [er0 n t, er0 n t]), e8, e9, e10] W = some (.nx [e0, some (.int n), some (.str t), some (steps n t), e4, some (vals n t), some (.int 0), some (.lst [er0 n t, er0 n t]), some bs0, some (er0 n t), e10], W) := by
  have r := row0 n t W W.length e0 e4 (some (.lst [er0 n t, er0 n t])) e10
  have hd : eLst (aC (eO oLt (eV 6) (eC (.int 4))) (aC (eCh oLt oLt (eC (.int 3)) (eV 6) (eC (.int 9))) (aC (eO oEq (eV 6) (eC (.int 9))) (aC (eC (.bl false)) (aC (eC (.bl false)) aN))))) [e0, some (.int n), some (.str t), some (steps n t), e4, some (vals n t), some (.int 0), some (.lst [er0 n t, er0 n t]), e8, e9, e10] W = some (bs0, W) := by kernel_rfl
  unfold b__law_right_L2
  rw [r_sSeq, r_sAsg, hd]
  simp [r, itL]
theorem turn1 (m : Nat) (e0 e4 e8 e9 e10 : Option DV) : b__law_right_L2 m [e0, some (.int n), some (.str t), some (steps n t), e4, some (vals n t), some (.int 1), some (.lst [er1 n t, er1 n t]), e8, e9, e10] W = some (.nx [e0, some (.int n), some (.str t), some (steps n t), e4, some (vals n t), some (.int 1), some (.lst [er1 n t, er1 n t]), some bs1, some (er1 n t), e10], W) := by
  have r := row1 n t W W.length e0 e4 (some (.lst [er1 n t, er1 n t])) e10
  have hd : eLst (aC (eO oLt (eV 6) (eC (.int 4))) (aC (eCh oLt oLt (eC (.int 3)) (eV 6) (eC (.int 9))) (aC (eO oEq (eV 6) (eC (.int 9))) (aC (eC (.bl false)) (aC (eC (.bl false)) aN))))) [e0, some (.int n), some (.str t), some (steps n t), e4, some (vals n t), some (.int 1), some (.lst [er1 n t, er1 n t]), e8, e9, e10] W = some (bs1, W) := by kernel_rfl
  unfold b__law_right_L2
  rw [r_sSeq, r_sAsg, hd]
  simp [r, itL]
theorem turn2 (m : Nat) (e0 e4 e8 e9 e10 : Option DV) : b__law_right_L2 m [e0, some (.int n), some (.str t), some (steps n t), e4, some (vals n t), some (.int 2), some (.lst [er2 n t, er2 n t]), e8, e9, e10] W = some (.nx [e0, some (.int n), some (.str t), some (steps n t), e4, some (vals n t), some (.int 2), some (.lst [er2 n t, er2 n t]), some bs2, some (er2 n t), e10], W) := by
  have r := row2 n t W W.length e0 e4 (some (.lst [er2 n t, er2 n t])) e10
  have hd : eLst (aC (eO oLt (eV 6) (eC (.int 4))) (aC (eCh oLt oLt (eC (.int 3)) (eV 6) (eC (.int 9))) (aC (eO oEq (eV 6) (eC (.int 9))) (aC (eC (.bl false)) (aC (eC (.bl false)) aN))))) [e0, some (.int n), some (.str t), some (steps n t), e4, some (vals n t), some (.int 2), some (.lst [er2 n t, er2 n t]), e8, e9, e10] W = some (bs2, W) := by kernel_rfl
  unfold b__law_right_L2
  rw [r_sSeq, r_sAsg, hd]
  simp [r, itL]
theorem turn3 (m : Nat) (e0 e4 e8 e9 e10 : Option DV) : b__law_right_L2 m [e0, some (.int n), some (.str t), some (steps n t), e4, some (vals n t), some (.int 3), some (.lst [er3 n t, er3 n t]), e8, e9, e10] W = some (.nx [e0, some (.int n), some (.str t), some (steps n t), e4, some (vals n t), some (.int 3), some (.lst [er3 n t, er3 n t]), some bs3, some (er3 n t), e10], W) := by
  have r := row3 n t W W.length e0 e4 (some (.lst [er3 n t, er3 n t])) e10
  have hd : eLst (aC (eO oLt (eV 6) (eC (.int 4))) (aC (eCh oLt oLt (eC (.int 3)) (eV 6) (eC (.int 9))) (aC (eO oEq (eV 6) (eC (.int 9))) (aC (eC (.bl false)) (aC (eC (.bl false)) aN))))) [e0, some (.int n), some (.str t), some (steps n t), e4, some (vals n t), some (.int 3), some (.lst [er3 n t, er3 n t]), e8, e9, e10] W = some (bs3, W) := by kernel_rfl
  unfold b__law_right_L2
  rw [r_sSeq, r_sAsg, hd]
  simp [r, itL]
theorem turn4 (m : Nat) (e0 e4 e8 e9 e10 : Option DV) : b__law_right_L2 m [e0, some (.int n), some (.str t), some (steps n t), e4, some (vals n t), some (.int 4), some (.lst [er4 n t, er4 n t]), e8, e9, e10] W = some (.nx [e0, some (.int n), some (.str t), some (steps n t), e4, some (vals n t), some (.int 4), some (.lst [er4 n t, er4 n t]), some bs4, some (er4 n t), e10], W) := by
  have r := row4 n t W W.length e0 e4 (some (.lst [er4 n t, er4 n t])) e10
  have hd : eLst (aC (eO oLt (eV 6) (eC (.int 4))) (aC (eCh oLt oLt (eC (.int 3)) (eV 6) (eC (.int 9))) (aC (eO oEq (eV 6) (eC (.int 9))) (aC (eC (.bl false)) (aC (eC (.bl false)) aN))))) [e0, some (.int n), some (.str t), some (steps n t), e4, some (vals n t), some (.int 4), some (.lst [er4 n t, er4 n t]), e8, e9, e10] W = some (bs4, W) := by kernel_rfl
  unfold b__law_right_L2
  rw [r_sSeq, r_sAsg, hd]
  simp [r, itL]
theorem turn5 (m : Nat) (e0 e4 e8 e9 e10 : Option DV) : b__law_right_L2 m [e0, some (.int n), some (.str t), some (steps n t), e4, some (vals n t), some (.int 5), some (.lst [er5 n t, er5 n t]), e8, e9, e10] W = some (.nx [e0, some (.int n), some (.str t), some (steps n t), e4, some (vals n t), some (.int 5), some (.lst [er5 n t, er5 n t]), some bs5, some (er5 n t), e10], W) := by
  have r := row5 n t W W.length e0 e4 (some (.lst [er5 n t, er5 n t])) e10
  have hd : eLst (aC (eO oLt (eV 6) (eC (.int 4))) (aC (eCh oLt oLt (eC (.int 3)) (eV 6) (eC (.int 9))) (aC (eO oEq (eV 6) (eC (.int 9))) (aC (eC (.bl false)) (aC (eC (.bl false)) aN))))) [e0, some (.int n), some (.str t), some (steps n t), e4, some (vals n t), some (.int 5), some (.lst [er5 n t, er5 n t]), e8, e9, e10] W = some (bs5, W) := by kernel_rfl
  unfold b__law_right_L2
  rw [r_sSeq, r_sAsg, hd]
  simp [r, itL]
theorem turn6 (m : Nat) (e0 e4 e8 e9 e10 : Option DV) : b__law_right_L2 m [e0, some (.int n), some (.str t), some (steps n t), e4, some (vals n t), some (.int 6), some (.lst [er6 n t, er6 n t]), e8, e9, e10] W = some (.nx [e0, some (.int n), some (.str t), some (steps n t), e4, some (vals n t), some (.int 6), some (.lst [er6 n t, er6 n t]), some bs6, some (er6 n t), e10], W) := by
  have r := row6 n t W W.length e0 e4 (some (.lst [er6 n t, er6 n t])) e10
  have hd : eLst (aC (eO oLt (eV 6) (eC (.int 4))) (aC (eCh oLt oLt (eC (.int 3)) (eV 6) (eC (.int 9))) (aC (eO oEq (eV 6) (eC (.int 9))) (aC (eC (.bl false)) (aC (eC (.bl false)) aN))))) [e0, some (.int n), some (.str t), some (steps n t), e4, some (vals n t), some (.int 6), some (.lst [er6 n t, er6 n t]), e8, e9, e10] W = some (bs6, W) := by kernel_rfl
  unfold b__law_right_L2
  rw [r_sSeq, r_sAsg, hd]
  simp [r, itL]
theorem turn7 (m : Nat) (e0 e4 e8 e9 e10 : Option DV) : b__law_right_L2 m [e0, some (.int n), some (.str t), some (steps n t), e4, some (vals n t), some (.int 7), some (.lst [er7 n t, er7 n t]), e8, e9, e10] W = some (.nx [e0, some (.int n), some (.str t), some (steps n t), e4, some (vals n t), some (.int 7), some (.lst [er7 n t, er7 n t]), some bs7, some (er7 n t), e10], W) := by
  have r := row7 n t W W.length e0 e4 (some (.lst [er7 n t, er7 n t])) e10
  have hd : eLst (aC (eO oLt (eV 6) (eC (.int 4))) (aC (eCh oLt oLt (eC (.int 3)) (eV 6) (eC (.int 9))) (aC (eO oEq (eV 6) (eC (.int 9))) (aC (eC (.bl false)) (aC (eC (.bl false)) aN))))) [e0, some (.int n), some (.str t), some (steps n t), e4, some (vals n t), some (.int 7), some (.lst [er7 n t, er7 n t]), e8, e9, e10] W = some (bs7, W) := by kernel_rfl
  unfold b__law_right_L2
  rw [r_sSeq, r_sAsg, hd]
  simp [r, itL]
theorem turn8 (m : Nat) (e0 e4 e8 e9 e10 : Option DV) : b__law_right_L2 m [e0, some (.int n), some (.str t), some (steps n t), e4, some (vals n t), some (.int 8), some (.lst [er8 n t, er8 n t]), e8, e9, e10] W = some (.nx [e0, some (.int n), some (.str t), some (steps n t), e4, some (vals n t), some (.int 8), some (.lst [er8 n t, er8 n t]), some bs8, some (er8 n t), e10], W) := by
  have r := row8 n t W W.length e0 e4 (some (.lst [er8 n t, er8 n t])) e10
  have hd : eLst (aC (eO oLt (eV 6) (eC (.int 4))) (aC (eCh oLt oLt (eC (.int 3)) (eV 6) (eC (.int 9))) (aC (eO oEq (eV 6) (eC (.int 9))) (aC (eC (.bl false)) (aC (eC (.bl false)) aN))))) [e0, some (.int n), some (.str t), some (steps n t), e4, some (vals n t), some (.int 8), some (.lst [er8 n t, er8 n t]), e8, e9, e10] W = some (bs8, W) := by kernel_rfl
  unfold b__law_right_L2
  rw [r_sSeq, r_sAsg, hd]
  simp [r, itL]
theorem turn9 (m : Nat) (e0 e4 e8 e9 e10 : Option DV) : b__law_right_L2 m [e0, some (.int n), some (.str t), some (steps n t), e4, some (vals n t), some (.int 9), some (.lst [er9 n t, er9 n t]), e8, e9, e10] W = some (.nx [e0, some (.int n), some (.str t), some (steps n t), e4, some (vals n t), some (.int 9), some (.lst [er9 n t, er9 n t]), some bs9, some (er9 n t), e10], W) := by
  have r := row9 n t W W.length e0 e4 (some (.lst [er9 n t, er9 n t])) e10
  have hd : eLst (aC (eO oLt (eV 6) (eC (.int 4))) (aC (eCh oLt oLt (eC (.int 3)) (eV 6) (eC (.int 9))) (aC (eO oEq (eV 6) (eC (.int 9))) (aC (eC (.bl false)) (aC (eC (.bl false)) aN))))) [e0, some (.int n), some (.str t), some (steps n t), e4, some (vals n t), some (.int 9), some (.lst [er9 n t, er9 n t]), e8, e9, e10] W = some (bs9, W) := by kernel_rfl
  unfold b__law_right_L2
  rw [r_sSeq, r_sAsg, hd]
  simp [r, itL]
end K01
end L2

set_option maxRecDepth 100000
namespace L2
namespace K01
open PySem PySem.Spec PyProof.Rows DL
theorem line3 (a b c : DV) : lineOk [a, b, c] = true := by unfold lineOk; rw [sizeLine_eq]; rfl
theorem line10 (a b c d e f g h i j : DV) : lineOk [a, b, c, d, e, f, g, h, i, j] = true := by unfold lineOk; rw [sizeLine_eq]; rfl
theorem line0 : lineOk [] = true := by unfold lineOk; rw [sizeLine_eq]; rfl
theorem p1 (x : DV) : perm [0] [x] = [x] := rfl
theorem p2 (x y : DV) : perm [1, 0] [x, y] = [y, x] := rfl
theorem z5 : (5 : Nat) ≤ sizeLine := by rw [sizeLine_eq]; decide
theorem z7 : (7 : Nat) ≤ sizeLine := by rw [sizeLine_eq]; decide
theorem z10 : (10 : Nat) ≤ sizeLine := by rw [sizeLine_eq]; decide
section
variable (n : Int) (t : Str) (W : Wd)
abbrev items : List DV := [.tup [.int 0, .lst [er0 n t, er0 n t]], .tup [.int 1, .lst [er1 n t, er1 n t]], .tup [.int 2, .lst [er2 n t, er2 n t]], .tup [.int 3, .lst [er3 n t, er3 n t]], .tup [.int 4, .lst [er4 n t, er4 n t]],
  .tup [.int 5, .lst [er5 n t, er5 n t]], .tup [.int 6, .lst [er6 n t, er6 n t]], .tup [.int 7, .lst [er7 n t, er7 n t]], .tup [.int 8, .lst [er8 n t, er8 n t]], .tup [.int 9, .lst [er9 n t, er9 n t]]]
theorem enum_ok (e0 e1 e2 e3 e5 e6 e7 e8 e9 e10 : Option DV) : iE (aC (eV 4) aN) [e0, e1, e2, e3, some (rows n t), e5, e6, e7, e8, e9, e10] W = some (items n t, W) := by kernel_rfl
theorem step_ok (i : Int) (p : DV) (e0 e1 e2 e3 e4 e5 e6 e7 e8 e9 e10 : Option DV) : gQ 2 (gsC (gN 6) (gsC (gN 7) gsN)) (.tup [.int i, p]) [e0, e1, e2, e3, e4, e5, e6, e7, e8, e9, e10] W = some ([e0, e1, e2, e3, e4, e5, some (.int i), some p, e8, e9, e10], W) := by kernel_rfl
theorem loop_ok (m : Nat) (e0 e6 e7 e8 e9 e10 : Option DV) : ∃ env, sLoop (gQ 2 (gsC (gN 6) (gsC (gN 7) gsN))) b__law_right_L2 m (items n t) [e0, some (.int n), some (.str t), some (steps n t), some (rows n t), some (vals n t), e6, e7, e8, e9, e10] W = some (.nx env, W) := by
  simp only [items, r_sLoop, step_ok, Option.bind_some, loopK_nx, turn0, turn1, turn2, turn3, turn4, turn5, turn6, turn7, turn8, turn9, r_sLoop0]
  exact ⟨_, rfl⟩
theorem val_ok (e0 e4 e5 e6 e7 e8 e9 e10 : Option DV) : eLst (aC (eLst (aC (eV 2) aN)) (aC (eLst aN) (aC (eLst (aC (eV 1) aN)) (aC (eLst (aC (eV 1) aN)) (aC (eLst (aC (eV 2) aN)) (aC (eLst (aC (eV 1) aN)) (aC (eLst (aC (eV 2) (aC (eV 1) aN))) (aC (eLst (aC (eV 1) aN)) (aC (eLst (aC (eV 1) aN)) (aC (eLst (aC (eV 3) aN)) aN))))))))))
    [e0, some (.int n), some (.str t), some (steps n t), e4, e5, e6, e7, e8, e9, e10] W = some (vals n t, W) := by kernel_rfl
end
theorem right_spec {W : Wd} {b : Nat} {c : Int} (hb : Box W b c) (hc : c < 1000000) : ∃ W', f__law_right [.loc b] W = some (.bl true, W') ∧ Box W' b (c + 2) ∧ Sm W W' b := by
  obtain ⟨n, W1, e1, n0, n1, b1, m1⟩ := take_spec (n := 1000000) hb (by decide) (by decide) (by omega)
  obtain ⟨x, W2, e2, hx, b2, m2⟩ := of_spec (xs := [.str "a", .str "zz", .str "abcdefgh"]) b1 (by decide) (by decide) (by omega)
  have ht : ∃ t : Str, x = .str t ∧ t.length ≤ 8 := by
    simp only [List.mem_cons, List.not_mem_nil, or_false] at hx
    rcases hx with rfl | rfl | rfl <;> exact ⟨_, rfl, by decide⟩
  obtain ⟨t, rfl, hl⟩ := ht
  have pw : oPow (.int 10) (.int 6) W = some (.int 1000000, W) := by kernel_rfl
  refine ⟨W2, runF_rt ?_ (m2.len.trans m1.len), by rw [show c + 2 = c + 1 + 1 by omega]; exact b2, m1.trans m2⟩
  have sI := fun (nm f t' : Str) (h : t'.length ≤ 100) => exI (nm := nm) (f := f) h n0 n1 W2
  have sS := fun (nm f t' : Str) (h : t'.length ≤ 100) => exS (nm := nm) (f := f) h hl W2
  have k0 : kExc "Known" ["name"] as_Known [.str t] W2 = some (er0 n t, W2) := exS (by decide) hl W2
  have k1 : kExc "BadText" [] as_BadText [] W2 = some (er1 n t, W2) := exC0 W2
  have k2 : kExc "BadLine" ["number"] as_BadLine [.int n] W2 = some (er2 n t, W2) := exI (by decide) n0 n1 W2
  have k3 : kExc "Unexplained" ["index"] as_Unexplained [.int n] W2 = some (er3 n t, W2) := exI (by decide) n0 n1 W2
  have k4 : kExc "NoFile" ["name"] as_NoFile [.str t] W2 = some (er4 n t, W2) := exS (by decide) hl W2
  have k5 : kExc "NoBlock" ["block"] as_NoBlock [.int n] W2 = some (er5 n t, W2) := exI (by decide) n0 n1 W2
  have k6 : kExc "NoPromise" ["name", "block"] as_NoPromise [.str t, .int n] W2 = some (er6 n t, W2) := exS2 (by decide) hl _ W2
  have k7 : kExc "NoItem" ["number"] as_NoItem [.int n] W2 = some (er7 n t, W2) := exI (by decide) n0 n1 W2
  have k8 : kExc "NoStep" ["index"] as_NoStep [.int n] W2 = some (er8 n t, W2) := exI (by decide) n0 n1 W2
  have k9 : kExc "Full" ["order"] as_Full [steps n t] W2 = some (er9 n t, W2) := exC1 _ W2
  obtain ⟨env, lp⟩ := loop_ok n t W2 W2.length (some (.loc b)) none none none none none
  have vo := val_ok n t W2 (some (.loc b)) (some (rows n t)) none none none none none none
  have en := enum_ok n t W2 (some (.loc b)) (some (.int n)) (some (.str t)) (some (steps n t)) (some (vals n t)) none none none none none
  unfold b__law_right
  simp only [List.map_cons, List.map_nil, List.cons_append, List.nil_append, List.length_cons, List.length_nil, Nat.reduceSub, Nat.reduceAdd, List.replicate_succ, List.replicate_zero]
  simp [e1, e2, pw, k0, k1, k2, k3, k4, k5, k6, k7, k8, k9, line1, line2, line3, line10, line0, p1, p2, oAdd, dAdd, z5, z7, z10, en, vo, lp]
end K01
end L2

set_option maxRecDepth 100000
namespace L2
namespace K01
open PySem PySem.Spec PyProof.Rows DL
theorem runF_any {nN : Nat} {S : SS} {xs : List DV} {W W' : Wd} {x : DV} (h : S W.length (xs.map some ++ List.replicate (nN - xs.length) none) W = some (.rt x, W')) : ∃ W'', runF nN S xs W = some (x, W'') := by
  unfold runF
  rw [h]
  show ∃ W'', fin W.length x W' = some (x, W'')
  unfold fin
  split
  · exact ⟨_, rfl⟩
  · split
    · exact ⟨_, rfl⟩
    · exact ⟨_, rfl⟩
theorem last_get (W : Wd) (c : Cell) : (W ++ [c])[W.length]? = some c := by rw [List.getElem?_append_right (Nat.le_refl _)]; simp
theorem z0 : 0 < sizeLine := by rw [sizeLine_eq]; decide
theorem up1 : upFrom 0 1 = [.int 0] := rfl
theorem turn_ok (ns : List Int) (k : Nat) (hk : k ≤ 100) (n : Nat) (W : Wd) (e2 e3 : Option DV) :
    ∃ W', b_law_L1 n [some (.scr ns), some (.int (k : Nat)), e2, e3] W = some (.nx [some (.scr ns), some (.int (k : Nat)), some (.loc W.length), e3], W') := by
  obtain ⟨x0, x1, eb, p0, p1, p2⟩ := box_spec ns k W hk
  have b0 : Box (W ++ [.lst [.int x0, .int x1, .int 0]]) W.length 0 := ⟨x0, x1, 0, last_get _ _, p0, p1, p2, by decide, by decide⟩
  obtain ⟨W1, e1, b1, s1⟩ := right_spec b0 (by decide)
  refine ⟨W1, ?_⟩
  have r1 : rngOk 1 = true := by decide
  have ka : ∀ W, kAll [.lst [.bl true]] W = some (.bl true, W) := fun W => rfl
  simp [b_law_L1, eb, r1, up1, wipeD, e1, z0, ka]
theorem turns_ok (ns : List Int) (n : Nat) : ∀ (ks : List Nat), (∀ k ∈ ks, k ≤ 100) → ∀ (W : Wd), ∀ (e1 e2 e3 : Option DV),
    ∃ x1 x2 x3 W', sLoop (gN 1) b_law_L1 n (ks.map fun k => DV.int (k : Nat)) [some (.scr ns), e1, e2, e3] W = some (.nx [some (.scr ns), x1, x2, x3], W')
  | [], _, W, e1, e2, e3 => ⟨e1, e2, e3, W, rfl⟩
  | k :: ks, hk, W, e1, e2, e3 => by
    obtain ⟨W1, h1⟩ := turn_ok ns k (hk k List.mem_cons_self) n W e2 e3
    obtain ⟨x1, x2, x3, W', e⟩ := turns_ok ns n ks (fun j hj => hk j (List.mem_cons_of_mem _ hj)) W1 (some (.int (k : Nat))) (some (.loc W.length)) e3
    refine ⟨x1, x2, x3, W', ?_⟩
    rw [List.map_cons, r_sLoop, r_gN, Option.bind_some]
    simp only [List.set_cons_succ, List.set_cons_zero]
    rw [h1, Option.bind_some, loopK_nx, e]
theorem law_true (ns : List Int) (hn : ns.length ≤ 63) : ∃ W', f_law [.scr ns] [] = some (.bl true, W') := by
  obtain ⟨m, hm⟩ : ∃ m : Int, (if (ns.length : Int) < 2 then (ns.length : Int) else 2) = m := ⟨_, rfl⟩
  have m0 : 0 ≤ m ∧ m ≤ 2 := by rw [← hm]; split <;> omega
  have rg : rngOk (1 + m) = true := by
    unfold rngOk
    have : (2 : Int) ^ 62 = 4611686018427387904 := by decide
    exact decide_eq_true ⟨by omega, by omega⟩
  obtain ⟨x1, x2, x3, W', e⟩ := turns_ok ns 0 (List.range (1 + m).toNat) (fun k hk => by
    have := List.mem_range.mp hk
    omega) [] none none none
  have up : upFrom 0 (1 + m).toNat = (List.range (1 + m).toNat).map fun k => DV.int (k : Nat) := by
    unfold upFrom
    simp
  rw [← up] at e
  refine runF_any (W' := W') ?_
  have km : ∀ W, kMin2 [.int 2, .int (ns.length : Int)] W = some (.int m, W) := fun W => by
    simp [kMin2, hm]
  have kl : ∀ W, kLen [.scr ns] W = some (.int (ns.length : Int), W) := fun W => by simp [kLen, itemsOf]
  simp [b_law, kl, km, rg, e]
end K01
end L2

set_option maxRecDepth 100000
/-! k01: the walk (printed by gen.py). -/
namespace L2
namespace K01
open PySem PySem.Spec PyProof.Rows DL
def top (i : Nat) : Stmt := PySem.Challenge.pw_neverfull_k01_errors.main.body.getD i (.Pass ⟨0, 0, 0, 0⟩)
abbrev s__law_cell_at : Stmt := top 12
abbrev s__law_box : Stmt := top 13
abbrev s__law_take : Stmt := top 14
abbrev s__law_of : Stmt := top 15
abbrev s__law_same : Stmt := top 16
abbrev s__law_sorts : Stmt := top 17
abbrev s__law_bases : Stmt := top 18
abbrev s__law_kept : Stmt := top 19
abbrev s__law_right : Stmt := top 20
abbrev s_law : Stmt := top 21
def ini (i : Nat) : Stmt := match top i with
  | .ClassDef _ _ _ b .. => b.headD (.Pass ⟨0, 0, 0, 0⟩)
  | st => st
abbrev i_Known : Stmt := ini 1
abbrev nf_Known (ad : Nat → Addr) : NdefX.NF := { name := "__init__", qual := "Known.__init__", params := defArgs i_Known, body := defBody i_Known, scope := defScope i_Known, cl := [("__class__", ad 2001)], c := ad 3001 }
abbrev i_BadText : Stmt := ini 2
abbrev nf_BadText (ad : Nat → Addr) : NdefX.NF := { name := "__init__", qual := "BadText.__init__", params := defArgs i_BadText, body := defBody i_BadText, scope := defScope i_BadText, cl := [("__class__", ad 2002)], c := ad 3002 }
abbrev i_BadLine : Stmt := ini 3
abbrev nf_BadLine (ad : Nat → Addr) : NdefX.NF := { name := "__init__", qual := "BadLine.__init__", params := defArgs i_BadLine, body := defBody i_BadLine, scope := defScope i_BadLine, cl := [("__class__", ad 2003)], c := ad 3003 }
abbrev i_Unexplained : Stmt := ini 4
abbrev nf_Unexplained (ad : Nat → Addr) : NdefX.NF := { name := "__init__", qual := "Unexplained.__init__", params := defArgs i_Unexplained, body := defBody i_Unexplained, scope := defScope i_Unexplained, cl := [("__class__", ad 2004)], c := ad 3004 }
abbrev i_NoFile : Stmt := ini 5
abbrev nf_NoFile (ad : Nat → Addr) : NdefX.NF := { name := "__init__", qual := "NoFile.__init__", params := defArgs i_NoFile, body := defBody i_NoFile, scope := defScope i_NoFile, cl := [("__class__", ad 2005)], c := ad 3005 }
abbrev i_NoBlock : Stmt := ini 6
abbrev nf_NoBlock (ad : Nat → Addr) : NdefX.NF := { name := "__init__", qual := "NoBlock.__init__", params := defArgs i_NoBlock, body := defBody i_NoBlock, scope := defScope i_NoBlock, cl := [("__class__", ad 2006)], c := ad 3006 }
abbrev i_NoPromise : Stmt := ini 7
abbrev nf_NoPromise (ad : Nat → Addr) : NdefX.NF := { name := "__init__", qual := "NoPromise.__init__", params := defArgs i_NoPromise, body := defBody i_NoPromise, scope := defScope i_NoPromise, cl := [("__class__", ad 2007)], c := ad 3007 }
abbrev i_NoItem : Stmt := ini 8
abbrev nf_NoItem (ad : Nat → Addr) : NdefX.NF := { name := "__init__", qual := "NoItem.__init__", params := defArgs i_NoItem, body := defBody i_NoItem, scope := defScope i_NoItem, cl := [("__class__", ad 2008)], c := ad 3008 }
abbrev i_NoStep : Stmt := ini 9
abbrev nf_NoStep (ad : Nat → Addr) : NdefX.NF := { name := "__init__", qual := "NoStep.__init__", params := defArgs i_NoStep, body := defBody i_NoStep, scope := defScope i_NoStep, cl := [("__class__", ad 2009)], c := ad 3009 }
abbrev i_Full : Stmt := ini 10
abbrev nf_Full (ad : Nat → Addr) : NdefX.NF := { name := "__init__", qual := "Full.__init__", params := defArgs i_Full, body := defBody i_Full, scope := defScope i_Full, cl := [("__class__", ad 2010)], c := ad 3010 }
/-- what the top has written -/
structure Txt (P : Program) (K : PySem.W.Frag) (mg : Str → Option Value) (ad : Nat → Addr) (fd : Nat → FuncData) (tk : Nat → Tok) : Prop where
  xg_Known : mg "Known" = some (.ref (ad 1))
  xc_Known : XC K "Known" (ad 1) "ValueError" "ValueError.__new__" "ValueError.__init__" ((xBases "Known").map Value.type)
  xi_Known : XI P K (ad 1) (ad 1001) (nf_Known ad) "ValueError.__init__" (fd 1001)
  xe_Known : ExcC K (ad 1)
  xn_Known_name : PySem.W.findIn K (.ref (ad 1)) "name" = some none
  xg_BadText : mg "BadText" = some (.ref (ad 2))
  xc_BadText : XC K "BadText" (ad 2) "ValueError" "ValueError.__new__" "ValueError.__init__" ((xBases "BadText").map Value.type)
  xi_BadText : XI P K (ad 2) (ad 1002) (nf_BadText ad) "ValueError.__init__" (fd 1002)
  xe_BadText : ExcC K (ad 2)
  xg_BadLine : mg "BadLine" = some (.ref (ad 3))
  xc_BadLine : XC K "BadLine" (ad 3) "ValueError" "ValueError.__new__" "ValueError.__init__" ((xBases "BadLine").map Value.type)
  xi_BadLine : XI P K (ad 3) (ad 1003) (nf_BadLine ad) "ValueError.__init__" (fd 1003)
  xe_BadLine : ExcC K (ad 3)
  xn_BadLine_number : PySem.W.findIn K (.ref (ad 3)) "number" = some none
  xg_Unexplained : mg "Unexplained" = some (.ref (ad 4))
  xc_Unexplained : XC K "Unexplained" (ad 4) "ValueError" "ValueError.__new__" "ValueError.__init__" ((xBases "Unexplained").map Value.type)
  xi_Unexplained : XI P K (ad 4) (ad 1004) (nf_Unexplained ad) "ValueError.__init__" (fd 1004)
  xe_Unexplained : ExcC K (ad 4)
  xn_Unexplained_index : PySem.W.findIn K (.ref (ad 4)) "index" = some none
  xg_NoFile : mg "NoFile" = some (.ref (ad 5))
  xc_NoFile : XC K "NoFile" (ad 5) "LookupError" "LookupError.__new__" "LookupError.__init__" ((xBases "NoFile").map Value.type)
  xi_NoFile : XI P K (ad 5) (ad 1005) (nf_NoFile ad) "LookupError.__init__" (fd 1005)
  xe_NoFile : ExcC K (ad 5)
  xn_NoFile_name : PySem.W.findIn K (.ref (ad 5)) "name" = some none
  xg_NoBlock : mg "NoBlock" = some (.ref (ad 6))
  xc_NoBlock : XC K "NoBlock" (ad 6) "LookupError" "LookupError.__new__" "LookupError.__init__" ((xBases "NoBlock").map Value.type)
  xi_NoBlock : XI P K (ad 6) (ad 1006) (nf_NoBlock ad) "LookupError.__init__" (fd 1006)
  xe_NoBlock : ExcC K (ad 6)
  xn_NoBlock_block : PySem.W.findIn K (.ref (ad 6)) "block" = some none
  xg_NoPromise : mg "NoPromise" = some (.ref (ad 7))
  xc_NoPromise : XC K "NoPromise" (ad 7) "LookupError" "LookupError.__new__" "LookupError.__init__" ((xBases "NoPromise").map Value.type)
  xi_NoPromise : XI P K (ad 7) (ad 1007) (nf_NoPromise ad) "LookupError.__init__" (fd 1007)
  xe_NoPromise : ExcC K (ad 7)
  xn_NoPromise_name : PySem.W.findIn K (.ref (ad 7)) "name" = some none
  xn_NoPromise_block : PySem.W.findIn K (.ref (ad 7)) "block" = some none
  xg_NoItem : mg "NoItem" = some (.ref (ad 8))
  xc_NoItem : XC K "NoItem" (ad 8) "LookupError" "LookupError.__new__" "LookupError.__init__" ((xBases "NoItem").map Value.type)
  xi_NoItem : XI P K (ad 8) (ad 1008) (nf_NoItem ad) "LookupError.__init__" (fd 1008)
  xe_NoItem : ExcC K (ad 8)
  xn_NoItem_number : PySem.W.findIn K (.ref (ad 8)) "number" = some none
  xg_NoStep : mg "NoStep" = some (.ref (ad 9))
  xc_NoStep : XC K "NoStep" (ad 9) "LookupError" "LookupError.__new__" "LookupError.__init__" ((xBases "NoStep").map Value.type)
  xi_NoStep : XI P K (ad 9) (ad 1009) (nf_NoStep ad) "LookupError.__init__" (fd 1009)
  xe_NoStep : ExcC K (ad 9)
  xn_NoStep_index : PySem.W.findIn K (.ref (ad 9)) "index" = some none
  xg_Full : mg "Full" = some (.ref (ad 10))
  xc_Full : XC K "Full" (ad 10) "RuntimeError" "RuntimeError.__new__" "RuntimeError.__init__" ((xBases "Full").map Value.type)
  xi_Full : XI P K (ad 10) (ad 1010) (nf_Full ad) "RuntimeError.__init__" (fd 1010)
  xe_Full : ExcC K (ad 10)
  xn_Full_order : PySem.W.findIn K (.ref (ad 10)) "order" = some none
  g__law_cell_at : mg "_law_cell_at" = some (.ref (ad 12))
  F__law_cell_at : Fun K "_law_cell_at" "_law_cell_at" s__law_cell_at (ad 12) (fd 12)
  g__law_box : mg "_law_box" = some (.ref (ad 13))
  F__law_box : Fun K "_law_box" "_law_box" s__law_box (ad 13) (fd 13)
  g__law_take : mg "_law_take" = some (.ref (ad 14))
  F__law_take : Fun K "_law_take" "_law_take" s__law_take (ad 14) (fd 14)
  g__law_of : mg "_law_of" = some (.ref (ad 15))
  F__law_of : Fun K "_law_of" "_law_of" s__law_of (ad 15) (fd 15)
  g__law_same : mg "_law_same" = some (.ref (ad 16))
  F__law_same : Fun K "_law_same" "_law_same" s__law_same (ad 16) (fd 16)
  g__law_sorts : mg "_law_sorts" = some (.ref (ad 17))
  F__law_sorts : Fun K "_law_sorts" "_law_sorts" s__law_sorts (ad 17) (fd 17)
  g__law_bases : mg "_law_bases" = some (.ref (ad 18))
  F__law_bases : Fun K "_law_bases" "_law_bases" s__law_bases (ad 18) (fd 18)
  g__law_kept : mg "_law_kept" = some (.ref (ad 19))
  F__law_kept : Fun K "_law_kept" "_law_kept" s__law_kept (ad 19) (fd 19)
  g__law_right : mg "_law_right" = some (.ref (ad 20))
  F__law_right : Fun K "_law_right" "_law_right" s__law_right (ad 20) (fd 20)
  g_law : mg "law" = some (.ref (ad 21))
  F_law : Fun K "law" "law" s_law (ad 21) (fd 21)
  n_IndexError : mg "IndexError" = none
  n_KeyError : mg "KeyError" = none
  n_LookupError : mg "LookupError" = none
  n_RuntimeError : mg "RuntimeError" = none
  n_ValueError : mg "ValueError" = none
  n_abs : mg "abs" = none
  n_all : mg "all" = none
  n_bool : mg "bool" = none
  n_enumerate : mg "enumerate" = none
  n_int : mg "int" = none
  n_isinstance : mg "isinstance" = none
  n_len : mg "len" = none
  n_list : mg "list" = none
  n_min : mg "min" = none
  n_range : mg "range" = none
  n_str : mg "str" = none
  n_super : mg "super" = none
  n_tuple : mg "tuple" = none
  n_zip : mg "zip" = none
section
variable {P : Program} {w : PySem.World} {K : PySem.W.Frag} {mg : Str → Option Value} {base : Heap} {ad : Nat → Addr} {fd : Nat → FuncData} {tk : Nat → Tok}
set_option maxHeartbeats 4000000 in
theorem in_Known (T : Txt P K mg ad fd tk) : IniOk P w K mg base 1 (ad 1) (ad 1001) (fd 1001) ["name"] as_Known :=
  ini_ok (k := 0) T.xc_Known T.xi_Known (NdefX.nscope_by (show NdefX.nscB (nmI ["name"]) (psI ["name"]) ["__class__"] (defScope i_Known) = true by decide +kernel)) rfl rfl rfl rfl T.n_super (fun A out s H E => (da_cons (de_add de_str (dv 1)) da_nil))
    (fun A out s H E => (pss_one (ps_st (pe_var (i := 0) rfl (Or.inl rfl)) (pe_var (i := 1) rfl (Or.inl rfl))))) (fun L => rfl) (fun L => rfl) (fun L => rfl) (fun L => rfl) (tl1 T.xc_Known T.xn_Known_name)
theorem bx_Known (T : Txt P K mg ad fd tk) : BindsI K (fd 1001) ["name"] := by
  obtain ⟨_, _, _, doc, pm, ct, e, _⟩ := T.xi_Known.fn
  intro s a us _ hl
  rw [e]
  match us, hl with
  | [_], _ => exact .of_eq rfl
set_option maxHeartbeats 4000000 in
theorem in_BadText (T : Txt P K mg ad fd tk) : IniOk P w K mg base 1 (ad 2) (ad 1002) (fd 1002) [] as_BadText :=
  ini_ok (k := 0) T.xc_BadText T.xi_BadText (NdefX.nscope_by (show NdefX.nscB (nmI []) (psI []) ["__class__"] (defScope i_BadText) = true by decide +kernel)) rfl rfl rfl rfl T.n_super (fun A out s H E => (da_cons de_str da_nil))
    (fun A out s H E => pss_nil) (fun L => rfl) (fun L => rfl) (fun L => rfl) (fun L => rfl) tl0
theorem bx_BadText (T : Txt P K mg ad fd tk) : BindsI K (fd 1002) [] := by
  obtain ⟨_, _, _, doc, pm, ct, e, _⟩ := T.xi_BadText.fn
  intro s a us _ hl
  rw [e]
  match us, hl with
  | [], _ => exact .of_eq rfl
set_option maxHeartbeats 4000000 in
theorem in_BadLine (T : Txt P K mg ad fd tk) : IniOk P w K mg base 1 (ad 3) (ad 1003) (fd 1003) ["number"] as_BadLine :=
  ini_ok (k := 0) T.xc_BadLine T.xi_BadLine (NdefX.nscope_by (show NdefX.nscB (nmI ["number"]) (psI ["number"]) ["__class__"] (defScope i_BadLine) = true by decide +kernel)) rfl rfl rfl rfl T.n_super (fun A out s H E => (da_cons (de_add de_str (de_t b_strI (by rfl) T.n_str (da_cons (dv 1) da_nil))) da_nil))
    (fun A out s H E => (pss_one (ps_st (pe_var (i := 0) rfl (Or.inl rfl)) (pe_var (i := 1) rfl (Or.inl rfl))))) (fun L => rfl) (fun L => rfl) (fun L => rfl) (fun L => rfl) (tl1 T.xc_BadLine T.xn_BadLine_number)
theorem bx_BadLine (T : Txt P K mg ad fd tk) : BindsI K (fd 1003) ["number"] := by
  obtain ⟨_, _, _, doc, pm, ct, e, _⟩ := T.xi_BadLine.fn
  intro s a us _ hl
  rw [e]
  match us, hl with
  | [_], _ => exact .of_eq rfl
set_option maxHeartbeats 4000000 in
theorem in_Unexplained (T : Txt P K mg ad fd tk) : IniOk P w K mg base 1 (ad 4) (ad 1004) (fd 1004) ["index"] as_Unexplained :=
  ini_ok (k := 0) T.xc_Unexplained T.xi_Unexplained (NdefX.nscope_by (show NdefX.nscB (nmI ["index"]) (psI ["index"]) ["__class__"] (defScope i_Unexplained) = true by decide +kernel)) rfl rfl rfl rfl T.n_super (fun A out s H E => (da_cons (de_add de_str (de_t b_strI (by rfl) T.n_str (da_cons (dv 1) da_nil))) da_nil))
    (fun A out s H E => (pss_one (ps_st (pe_var (i := 0) rfl (Or.inl rfl)) (pe_var (i := 1) rfl (Or.inl rfl))))) (fun L => rfl) (fun L => rfl) (fun L => rfl) (fun L => rfl) (tl1 T.xc_Unexplained T.xn_Unexplained_index)
theorem bx_Unexplained (T : Txt P K mg ad fd tk) : BindsI K (fd 1004) ["index"] := by
  obtain ⟨_, _, _, doc, pm, ct, e, _⟩ := T.xi_Unexplained.fn
  intro s a us _ hl
  rw [e]
  match us, hl with
  | [_], _ => exact .of_eq rfl
set_option maxHeartbeats 4000000 in
theorem in_NoFile (T : Txt P K mg ad fd tk) : IniOk P w K mg base 1 (ad 5) (ad 1005) (fd 1005) ["name"] as_NoFile :=
  ini_ok (k := 0) T.xc_NoFile T.xi_NoFile (NdefX.nscope_by (show NdefX.nscB (nmI ["name"]) (psI ["name"]) ["__class__"] (defScope i_NoFile) = true by decide +kernel)) rfl rfl rfl rfl T.n_super (fun A out s H E => (da_cons (de_add de_str (dv 1)) da_nil))
    (fun A out s H E => (pss_one (ps_st (pe_var (i := 0) rfl (Or.inl rfl)) (pe_var (i := 1) rfl (Or.inl rfl))))) (fun L => rfl) (fun L => rfl) (fun L => rfl) (fun L => rfl) (tl1 T.xc_NoFile T.xn_NoFile_name)
theorem bx_NoFile (T : Txt P K mg ad fd tk) : BindsI K (fd 1005) ["name"] := by
  obtain ⟨_, _, _, doc, pm, ct, e, _⟩ := T.xi_NoFile.fn
  intro s a us _ hl
  rw [e]
  match us, hl with
  | [_], _ => exact .of_eq rfl
set_option maxHeartbeats 4000000 in
theorem in_NoBlock (T : Txt P K mg ad fd tk) : IniOk P w K mg base 1 (ad 6) (ad 1006) (fd 1006) ["block"] as_NoBlock :=
  ini_ok (k := 0) T.xc_NoBlock T.xi_NoBlock (NdefX.nscope_by (show NdefX.nscB (nmI ["block"]) (psI ["block"]) ["__class__"] (defScope i_NoBlock) = true by decide +kernel)) rfl rfl rfl rfl T.n_super (fun A out s H E => (da_cons (de_add de_str (de_t b_strI (by rfl) T.n_str (da_cons (dv 1) da_nil))) da_nil))
    (fun A out s H E => (pss_one (ps_st (pe_var (i := 0) rfl (Or.inl rfl)) (pe_var (i := 1) rfl (Or.inl rfl))))) (fun L => rfl) (fun L => rfl) (fun L => rfl) (fun L => rfl) (tl1 T.xc_NoBlock T.xn_NoBlock_block)
theorem bx_NoBlock (T : Txt P K mg ad fd tk) : BindsI K (fd 1006) ["block"] := by
  obtain ⟨_, _, _, doc, pm, ct, e, _⟩ := T.xi_NoBlock.fn
  intro s a us _ hl
  rw [e]
  match us, hl with
  | [_], _ => exact .of_eq rfl
set_option maxHeartbeats 4000000 in
theorem in_NoPromise (T : Txt P K mg ad fd tk) : IniOk P w K mg base 1 (ad 7) (ad 1007) (fd 1007) ["name", "block"] as_NoPromise :=
  ini_ok (k := 0) T.xc_NoPromise T.xi_NoPromise (NdefX.nscope_by (show NdefX.nscB (nmI ["name", "block"]) (psI ["name", "block"]) ["__class__"] (defScope i_NoPromise) = true by decide +kernel)) rfl rfl rfl rfl T.n_super (fun A out s H E => (da_cons (de_add de_str (dv 1)) da_nil))
    (fun A out s H E => (pss_cons (ps_st (pe_var (i := 0) rfl (Or.inl rfl)) (pe_var (i := 1) rfl (Or.inl rfl))) (pss_one (ps_st (pe_var (i := 0) rfl (Or.inl rfl)) (pe_var (i := 2) rfl (Or.inl rfl)))))) (fun L => rfl) (fun L => rfl) (fun L => rfl) (fun L => rfl) (tl2 T.xc_NoPromise T.xn_NoPromise_name T.xn_NoPromise_block (by decide))
theorem bx_NoPromise (T : Txt P K mg ad fd tk) : BindsI K (fd 1007) ["name", "block"] := by
  obtain ⟨_, _, _, doc, pm, ct, e, _⟩ := T.xi_NoPromise.fn
  intro s a us _ hl
  rw [e]
  match us, hl with
  | [_, _], _ => exact .of_eq rfl
set_option maxHeartbeats 4000000 in
theorem in_NoItem (T : Txt P K mg ad fd tk) : IniOk P w K mg base 1 (ad 8) (ad 1008) (fd 1008) ["number"] as_NoItem :=
  ini_ok (k := 0) T.xc_NoItem T.xi_NoItem (NdefX.nscope_by (show NdefX.nscB (nmI ["number"]) (psI ["number"]) ["__class__"] (defScope i_NoItem) = true by decide +kernel)) rfl rfl rfl rfl T.n_super (fun A out s H E => (da_cons (de_add de_str (de_t b_strI (by rfl) T.n_str (da_cons (dv 1) da_nil))) da_nil))
    (fun A out s H E => (pss_one (ps_st (pe_var (i := 0) rfl (Or.inl rfl)) (pe_var (i := 1) rfl (Or.inl rfl))))) (fun L => rfl) (fun L => rfl) (fun L => rfl) (fun L => rfl) (tl1 T.xc_NoItem T.xn_NoItem_number)
theorem bx_NoItem (T : Txt P K mg ad fd tk) : BindsI K (fd 1008) ["number"] := by
  obtain ⟨_, _, _, doc, pm, ct, e, _⟩ := T.xi_NoItem.fn
  intro s a us _ hl
  rw [e]
  match us, hl with
  | [_], _ => exact .of_eq rfl
set_option maxHeartbeats 4000000 in
theorem in_NoStep (T : Txt P K mg ad fd tk) : IniOk P w K mg base 1 (ad 9) (ad 1009) (fd 1009) ["index"] as_NoStep :=
  ini_ok (k := 0) T.xc_NoStep T.xi_NoStep (NdefX.nscope_by (show NdefX.nscB (nmI ["index"]) (psI ["index"]) ["__class__"] (defScope i_NoStep) = true by decide +kernel)) rfl rfl rfl rfl T.n_super (fun A out s H E => (da_cons (de_add de_str (de_t b_strI (by rfl) T.n_str (da_cons (dv 1) da_nil))) da_nil))
    (fun A out s H E => (pss_one (ps_st (pe_var (i := 0) rfl (Or.inl rfl)) (pe_var (i := 1) rfl (Or.inl rfl))))) (fun L => rfl) (fun L => rfl) (fun L => rfl) (fun L => rfl) (tl1 T.xc_NoStep T.xn_NoStep_index)
theorem bx_NoStep (T : Txt P K mg ad fd tk) : BindsI K (fd 1009) ["index"] := by
  obtain ⟨_, _, _, doc, pm, ct, e, _⟩ := T.xi_NoStep.fn
  intro s a us _ hl
  rw [e]
  match us, hl with
  | [_], _ => exact .of_eq rfl
set_option maxHeartbeats 4000000 in
theorem in_Full (T : Txt P K mg ad fd tk) : IniOk P w K mg base 1 (ad 10) (ad 1010) (fd 1010) ["order"] as_Full :=
  ini_ok (k := 0) T.xc_Full T.xi_Full (NdefX.nscope_by (show NdefX.nscB (nmI ["order"]) (psI ["order"]) ["__class__"] (defScope i_Full) = true by decide +kernel)) rfl rfl rfl rfl T.n_super (fun A out s H E => (da_cons de_str da_nil))
    (fun A out s H E => (pss_one (ps_st (pe_var (i := 0) rfl (Or.inl rfl)) (pe_var (i := 1) rfl (Or.inl rfl))))) (fun L => rfl) (fun L => rfl) (fun L => rfl) (fun L => rfl) (tl1 T.xc_Full T.xn_Full_order)
theorem bx_Full (T : Txt P K mg ad fd tk) : BindsI K (fd 1010) ["order"] := by
  obtain ⟨_, _, _, doc, pm, ct, e, _⟩ := T.xi_Full.fn
  intro s a us _ hl
  rw [e]
  match us, hl with
  | [_], _ => exact .of_eq rfl
theorem xt (T : Txt P K mg ad fd tk) : XTab K nms := by
  intro nm hn
  simp only [nms, List.mem_cons, List.not_mem_nil, or_false] at hn
  rcases hn with rfl | rfl | rfl | rfl | rfl | rfl | rfl | rfl | rfl | rfl
  · exact ⟨_, _, _, _, T.xc_Known, T.xe_Known, fun f hf => (by obtain rfl := List.mem_singleton.mp hf; exact T.xn_Known_name)⟩
  · exact ⟨_, _, _, _, T.xc_BadText, T.xe_BadText, fun f hf => (by cases hf)⟩
  · exact ⟨_, _, _, _, T.xc_BadLine, T.xe_BadLine, fun f hf => (by obtain rfl := List.mem_singleton.mp hf; exact T.xn_BadLine_number)⟩
  · exact ⟨_, _, _, _, T.xc_Unexplained, T.xe_Unexplained, fun f hf => (by obtain rfl := List.mem_singleton.mp hf; exact T.xn_Unexplained_index)⟩
  · exact ⟨_, _, _, _, T.xc_NoFile, T.xe_NoFile, fun f hf => (by obtain rfl := List.mem_singleton.mp hf; exact T.xn_NoFile_name)⟩
  · exact ⟨_, _, _, _, T.xc_NoBlock, T.xe_NoBlock, fun f hf => (by obtain rfl := List.mem_singleton.mp hf; exact T.xn_NoBlock_block)⟩
  · exact ⟨_, _, _, _, T.xc_NoPromise, T.xe_NoPromise, fun f hf => (by rcases List.mem_cons.mp hf with rfl | hf; exact T.xn_NoPromise_name; (obtain rfl := List.mem_singleton.mp hf; exact T.xn_NoPromise_block))⟩
  · exact ⟨_, _, _, _, T.xc_NoItem, T.xe_NoItem, fun f hf => (by obtain rfl := List.mem_singleton.mp hf; exact T.xn_NoItem_number)⟩
  · exact ⟨_, _, _, _, T.xc_NoStep, T.xe_NoStep, fun f hf => (by obtain rfl := List.mem_singleton.mp hf; exact T.xn_NoStep_index)⟩
  · exact ⟨_, _, _, _, T.xc_Full, T.xe_Full, fun f hf => (by obtain rfl := List.mem_singleton.mp hf; exact T.xn_Full_order)⟩
theorem kx_BadLine_number (T : Txt P K mg ad fd tk) : KwI K (fd 1003) ["number"] ["number"] [0] := by
  obtain ⟨_, _, _, doc, pm, ct, e, _⟩ := T.xi_BadLine.fn
  intro s a us _ hl
  rw [e]
  match us, hl with
  | [_], _ => exact .of_eq rfl
theorem kx_Full_order (T : Txt P K mg ad fd tk) : KwI K (fd 1010) ["order"] ["order"] [0] := by
  obtain ⟨_, _, _, doc, pm, ct, e, _⟩ := T.xi_Full.fn
  intro s a us _ hl
  rw [e]
  match us, hl with
  | [_], _ => exact .of_eq rfl
theorem kx_Known_name (T : Txt P K mg ad fd tk) : KwI K (fd 1001) ["name"] ["name"] [0] := by
  obtain ⟨_, _, _, doc, pm, ct, e, _⟩ := T.xi_Known.fn
  intro s a us _ hl
  rw [e]
  match us, hl with
  | [_], _ => exact .of_eq rfl
theorem kx_NoBlock_block (T : Txt P K mg ad fd tk) : KwI K (fd 1006) ["block"] ["block"] [0] := by
  obtain ⟨_, _, _, doc, pm, ct, e, _⟩ := T.xi_NoBlock.fn
  intro s a us _ hl
  rw [e]
  match us, hl with
  | [_], _ => exact .of_eq rfl
theorem kx_NoFile_name (T : Txt P K mg ad fd tk) : KwI K (fd 1005) ["name"] ["name"] [0] := by
  obtain ⟨_, _, _, doc, pm, ct, e, _⟩ := T.xi_NoFile.fn
  intro s a us _ hl
  rw [e]
  match us, hl with
  | [_], _ => exact .of_eq rfl
theorem kx_NoItem_number (T : Txt P K mg ad fd tk) : KwI K (fd 1008) ["number"] ["number"] [0] := by
  obtain ⟨_, _, _, doc, pm, ct, e, _⟩ := T.xi_NoItem.fn
  intro s a us _ hl
  rw [e]
  match us, hl with
  | [_], _ => exact .of_eq rfl
theorem kx_NoPromise_block_name (T : Txt P K mg ad fd tk) : KwI K (fd 1007) ["name", "block"] ["block", "name"] [1, 0] := by
  obtain ⟨_, _, _, doc, pm, ct, e, _⟩ := T.xi_NoPromise.fn
  intro s a us _ hl
  rw [e]
  match us, hl with
  | [_, _], _ => exact .of_eq rfl
theorem kx_NoStep_index (T : Txt P K mg ad fd tk) : KwI K (fd 1009) ["index"] ["index"] [0] := by
  obtain ⟨_, _, _, doc, pm, ct, e, _⟩ := T.xi_NoStep.fn
  intro s a us _ hl
  rw [e]
  match us, hl with
  | [_], _ => exact .of_eq rfl
theorem kx_Unexplained_index (T : Txt P K mg ad fd tk) : KwI K (fd 1004) ["index"] ["index"] [0] := by
  obtain ⟨_, _, _, doc, pm, ct, e, _⟩ := T.xi_Unexplained.fn
  intro s a us _ hl
  rw [e]
  match us, hl with
  | [_], _ => exact .of_eq rfl
abbrev N__law_cell_at : List Str := ["_law_script", "_law_k"]
theorem sc__law_cell_at : FnScope N__law_cell_at ["_law_script", "_law_k"] (defScope s__law_cell_at) := ⟨rfl, rfl, rfl, by decide +kernel, rfl, by decide +kernel, by decide +kernel⟩
theorem bi__law_cell_at (T : Txt P K mg ad fd tk) : Binds K (fd 12) ["_law_script", "_law_k"] [] := T.F__law_cell_at.binds (ps := ["_law_script", "_law_k"]) fun _ _ _ _ _ _ us hl => match us, hl with | [_, _], _ => rfl
set_option maxHeartbeats 4000000 in
theorem ok__law_cell_at (T : Txt P K mg ad fd tk) : FnG P w K mg base CX0 1 (ad 12) (fd 12) ["_law_script", "_law_k"] (spD K 2 f__law_cell_at) := by
  refine fnD (k := 0) T.F__law_cell_at sc__law_cell_at fun cdv A out s H E hr => ?_
  exact (dss_one (ds_ret (de_if (dt_c c_lt (dv 1) (de_b b_len (by rfl) T.n_len (da_cons (dv 0) da_nil))) (de_at (dv 0) (dv 1)) de_int)))
abbrev N__law_box : List Str := ["_law_script", "_law_k", "_law_cell", "_law_rest"]
theorem sc__law_box : FnScope N__law_box ["_law_script", "_law_k"] (defScope s__law_box) := ⟨rfl, rfl, rfl, by decide +kernel, rfl, by decide +kernel, by decide +kernel⟩
theorem bi__law_box (T : Txt P K mg ad fd tk) : Binds K (fd 13) ["_law_script", "_law_k"] [] := T.F__law_box.binds (ps := ["_law_script", "_law_k"]) fun _ _ _ _ _ _ us hl => match us, hl with | [_, _], _ => rfl
set_option maxHeartbeats 4000000 in
theorem ok__law_box (T : Txt P K mg ad fd tk) : FnG P w K mg base CX0 2 (ad 13) (fd 13) ["_law_script", "_law_k"] (spD K 2 f__law_box) := by
  refine fnD (k := 1) T.F__law_box sc__law_box fun cdv A out s H E hr => ?_
  exact (dss_cons (ds_set (i := 2) sc__law_box.nd rfl (by first | exact Or.inl rfl | exact Or.inr rfl) (de_call (ok__law_cell_at T) (hr.le (by decide)) (by rfl) T.g__law_cell_at T.F__law_cell_at.kp (bi__law_cell_at T) (da_cons (dv 0) (da_cons (dv 1) da_nil)))) (dss_cons (ds_set (i := 3) sc__law_box.nd rfl (by first | exact Or.inl rfl | exact Or.inr rfl) (de_add (de_add (de_mod (de_t b_int (by rfl) T.n_int (da_cons (dv 2) da_nil)) de_int) (de_mul de_int (dv 1))) de_int)) (dss_one (ds_ret (de_new (da_cons (de_mul (de_b b_abs (by rfl) T.n_abs (da_cons (dv 2) da_nil)) (de_t b_int (by rfl) T.n_int (da_cons (de_c c_ge (de_b b_abs (by rfl) T.n_abs (da_cons (dv 2) da_nil)) (de_pow de_int de_int)) da_nil))) (da_cons (dv 3) (da_cons de_int da_nil))))))))
abbrev N__law_take : List Str := ["_law_box_here", "_law_below_so", "_law_drawn", "_law_once", "_law_far_so", "_law_twice"]
theorem sc__law_take : FnScope N__law_take ["_law_box_here", "_law_below_so"] (defScope s__law_take) := ⟨rfl, rfl, rfl, by decide +kernel, rfl, by decide +kernel, by decide +kernel⟩
theorem bi__law_take (T : Txt P K mg ad fd tk) : Binds K (fd 14) ["_law_box_here", "_law_below_so"] [] := T.F__law_take.binds (ps := ["_law_box_here", "_law_below_so"]) fun _ _ _ _ _ _ us hl => match us, hl with | [_, _], _ => rfl
set_option maxHeartbeats 4000000 in
theorem ok__law_take (T : Txt P K mg ad fd tk) : FnG P w K mg base CX0 1 (ad 14) (fd 14) ["_law_box_here", "_law_below_so"] (spD K 2 f__law_take) := by
  refine fnD (k := 0) T.F__law_take sc__law_take fun cdv A out s H E hr => ?_
  exact (dss_cons (ds_if (dt_c c_gt (de_at (dv 0) de_int) de_int) (dss_cons (ds_set (i := 2) sc__law_take.nd rfl (by first | exact Or.inl rfl | exact Or.inr rfl) (de_mod (de_t b_int (by rfl) T.n_int (da_cons (de_at (dv 0) de_int) da_nil)) (dv 1))) (dss_cons (ds_asg (ss := [0]) (de_div (de_at (dv 0) de_int) (dv 1)) (dg_set (dv 0) de_int)) (dss_one (ds_ret (dv 2))))) dss_nil) (dss_cons (ds_asg (ss := [0]) (de_add (de_at (dv 0) de_int) de_int) (dg_set (dv 0) de_int)) (dss_cons (ds_set (i := 3) sc__law_take.nd rfl (by first | exact Or.inl rfl | exact Or.inr rfl) (de_mod (de_t b_int (by rfl) T.n_int (da_cons (de_mul (de_add (de_at (dv 0) de_int) (de_mul de_int (de_at (dv 0) de_int))) (de_add de_int (de_at (dv 0) de_int))) da_nil)) de_int)) (dss_cons (ds_set (i := 4) sc__law_take.nd rfl (by first | exact Or.inl rfl | exact Or.inr rfl) (de_add (de_mod (de_t b_int (by rfl) T.n_int (da_cons (dv 3) da_nil)) de_int) de_int)) (dss_cons (ds_set (i := 5) sc__law_take.nd rfl (by first | exact Or.inl rfl | exact Or.inr rfl) (de_mod (de_t b_int (by rfl) T.n_int (da_cons (de_mul (de_add (de_add (dv 3) (de_at (dv 0) de_int)) (de_div (de_at (dv 0) de_int) de_int)) (dv 4)) da_nil)) de_int)) (dss_one (ds_ret (de_mod (de_t b_int (by rfl) T.n_int (da_cons (de_div (de_mod (de_t b_int (by rfl) T.n_int (da_cons (de_add (de_mul (dv 5) de_int) (dv 3)) da_nil)) de_int) de_int) da_nil)) (dv 1)))))))))
abbrev N__law_of : List Str := ["_law_box_here", "_law_some"]
theorem sc__law_of : FnScope N__law_of ["_law_box_here", "_law_some"] (defScope s__law_of) := ⟨rfl, rfl, rfl, by decide +kernel, rfl, by decide +kernel, by decide +kernel⟩
theorem bi__law_of (T : Txt P K mg ad fd tk) : Binds K (fd 15) ["_law_box_here", "_law_some"] [] := T.F__law_of.binds (ps := ["_law_box_here", "_law_some"]) fun _ _ _ _ _ _ us hl => match us, hl with | [_, _], _ => rfl
set_option maxHeartbeats 4000000 in
theorem ok__law_of (T : Txt P K mg ad fd tk) : FnG P w K mg base CX0 2 (ad 15) (fd 15) ["_law_box_here", "_law_some"] (spD K 2 f__law_of) := by
  refine fnD (k := 1) T.F__law_of sc__law_of fun cdv A out s H E hr => ?_
  exact (dss_one (ds_ret (de_at (dv 1) (de_call (ok__law_take T) (hr.le (by decide)) (by rfl) T.g__law_take T.F__law_take.kp (bi__law_take T) (da_cons (dv 0) (da_cons (de_b b_len (by rfl) T.n_len (da_cons (dv 1) da_nil)) da_nil))))))
abbrev N__law_same : List Str := ["_law_found", "_law_due", "_law_mine", "_law_its"]
theorem sc__law_same : FnScope N__law_same ["_law_found", "_law_due"] (defScope s__law_same) := ⟨rfl, rfl, rfl, by decide +kernel, rfl, by decide +kernel, by decide +kernel⟩
theorem bi__law_same (T : Txt P K mg ad fd tk) : Binds K (fd 16) ["_law_found", "_law_due"] [] := T.F__law_same.binds (ps := ["_law_found", "_law_due"]) fun _ _ _ _ _ _ us hl => match us, hl with | [_, _], _ => rfl
set_option maxHeartbeats 4000000 in
theorem body__law_same (T : Txt P K mg ad fd tk) {k : Nat} {fn : List DV → M DV} (R : FnG P w K mg base CX0 k (ad 16) (fd 16) ["_law_found", "_law_due"] (spD K 2 fn)) (hk : 0 ≤ k) (cdv : Value) (A : Around) (out : List Env) (s : Shared) (H : Hp) (E : XK) (hr : Rm k (A.deeper (envOfC "_law_same" (defScope s__law_same) s.heap.objs.size (ad 16) cdv))) :
    DSs (cxOf CX0 P w K mg base N__law_same "_law_same" (defScope s__law_same) (ad 16) cdv A out s H E).nox (defBody s__law_same) (b__law_same fn) := by
  exact (dss_cons (ds_if (dt_val (de_b (b_isx (xt T)) (by rfl) T.n_isinstance (da_cons (dv 1) (da_cons (de_tup (da_cons (de_ty (by rfl) T.n_list (by decide +kernel)) (da_cons (de_ty (by rfl) T.n_tuple (by decide +kernel)) da_nil))) da_nil)))) (dss_cons (ds_if (PW.pt (dw_or (dt_c (c_ne hr) (de_b (b_isx (xt T)) (by rfl) T.n_isinstance (da_cons (dv 0) (da_cons (de_ty (by rfl) T.n_list (by decide +kernel)) da_nil))) (de_b (b_isx (xt T)) (by rfl) T.n_isinstance (da_cons (dv 1) (da_cons (de_ty (by rfl) T.n_list (by decide +kernel)) da_nil)))) (dw_or1 (dt_c (c_ne hr) (de_b (b_isx (xt T)) (by rfl) T.n_isinstance (da_cons (dv 0) (da_cons (de_ty (by rfl) T.n_tuple (by decide +kernel)) da_nil))) (de_b (b_isx (xt T)) (by rfl) T.n_isinstance (da_cons (dv 1) (da_cons (de_ty (by rfl) T.n_tuple (by decide +kernel)) da_nil))))))) (dss_one (ds_ret de_bl)) dss_nil) (dss_one (ds_ret (de_and (de_c (c_eq hr) (de_b b_len (by rfl) T.n_len (da_cons (dv 0) da_nil)) (de_b b_len (by rfl) T.n_len (da_cons (dv 1) da_nil))) (de_one (de_b b_all (by rfl) T.n_all (da_cons (de_comp (own := [("_law_mine", 2), ("_law_its", 3)]) rfl sc__law_same.nd  (di_zip (by rfl) T.n_zip (da_cons (dv 0) (da_cons (dv 1) da_nil))) (blkOk_by (own := [("_law_mine", 2), ("_law_its", 3)]) (N := N__law_same) (sc := defScope s__law_same) (by decide +kernel)) (fun _ _ _ _ _ => (dg_seq rfl (dgs_cons (dg_name (i := 2) sc__law_same.nd rfl (by first | exact Or.inl rfl | exact Or.inr rfl)) (dgs_cons (dg_name (i := 3) sc__law_same.nd rfl (by first | exact Or.inl rfl | exact Or.inr rfl)) dgs_nil)))) (fun _ _ _ _ _ => dts_nil) (fun _ _ _ _ _ => (de_call R (hr.le (by omega)) (by rfl) T.g__law_same T.F__law_same.kp (bi__law_same T) (da_cons (dv 2) (da_cons (dv 3) da_nil))))) da_nil))))))) dss_nil) (dss_cons (ds_if (PW.pt (dw_or (dt_c c_is (dv 1) de_non) (dw_or1 (dt_val (de_b (b_isx (xt T)) (by rfl) T.n_isinstance (da_cons (dv 1) (da_cons (de_tup (da_cons (de_ty (by rfl) T.n_str (by decide +kernel)) (da_cons (de_ty (by rfl) T.n_bool (by decide +kernel)) da_nil))) da_nil))))))) (dss_one (ds_ret (de_and (de_c (c_eq hr) (dv 0) (dv 1)) (de_and (de_c (c_eq hr) (de_b (b_isx (xt T)) (by rfl) T.n_isinstance (da_cons (dv 0) (da_cons (de_ty (by rfl) T.n_bool (by decide +kernel)) da_nil))) (de_b (b_isx (xt T)) (by rfl) T.n_isinstance (da_cons (dv 1) (da_cons (de_ty (by rfl) T.n_bool (by decide +kernel)) da_nil)))) (de_one (de_c (c_eq hr) (de_c c_is (dv 0) de_non) (de_c c_is (dv 1) de_non))))))) dss_nil) (dss_one (ds_ret (de_and (de_b (b_isx (xt T)) (by rfl) T.n_isinstance (da_cons (dv 0) (da_cons (de_ty (by rfl) T.n_int (by decide +kernel)) da_nil))) (de_and (de_not (de_b (b_isx (xt T)) (by rfl) T.n_isinstance (da_cons (dv 0) (da_cons (de_ty (by rfl) T.n_bool (by decide +kernel)) da_nil)))) (de_one (de_c (c_eq hr) (dv 0) (dv 1)))))))))
theorem ok__law_same (T : Txt P K mg ad fd tk) : ∀ d : Nat, FnG P w K mg base CX0 (1 + d) (ad 16) (fd 16) ["_law_found", "_law_due"] (spD K 2 (f__law_same d))
  | 0 => ⟨fun vs H Q E h => by obtain ⟨_, _, xs, l, _, rs, _⟩ := h; rw [← rs.length]; exact l, fun _ _ _ _ _ _ _ _ _ _ _ _ _ h => by obtain ⟨_, _, _, _, _, _, _, _, e, _⟩ := h; cases e⟩
  | d + 1 => fnD (k := 1 + d) T.F__law_same sc__law_same fun cdv A out s H E hr => body__law_same T (ok__law_same T d) (by omega) cdv A out s H E hr
abbrev N__law_sorts : List Str := ["_law_error", "_law_found"]
theorem sc__law_sorts : FnScope N__law_sorts ["_law_error"] (defScope s__law_sorts) := ⟨rfl, rfl, rfl, by decide +kernel, rfl, by decide +kernel, by decide +kernel⟩
theorem bi__law_sorts (T : Txt P K mg ad fd tk) : Binds K (fd 17) ["_law_error"] [] := T.F__law_sorts.binds (ps := ["_law_error"]) fun _ _ _ _ _ _ us hl => match us, hl with | [_], _ => rfl
set_option maxHeartbeats 4000000 in
theorem ok__law_sorts (T : Txt P K mg ad fd tk) : FnG P w K mg base CX0 1 (ad 17) (fd 17) ["_law_error"] (spD K 1 f__law_sorts) := by
  refine fnD (k := 0) T.F__law_sorts sc__law_sorts fun cdv A out s H E hr => ?_
  exact (dss_cons (ds_set (i := 1) sc__law_sorts.nd rfl (by first | exact Or.inl rfl | exact Or.inr rfl) (de_lst (da_cons (de_b (b_isx (xt T)) (by rfl) T.n_isinstance (da_cons (dv 0) (da_cons (de_gl (by rfl) T.xg_Known T.xc_Known.gl) da_nil))) (da_cons (de_b (b_isx (xt T)) (by rfl) T.n_isinstance (da_cons (dv 0) (da_cons (de_gl (by rfl) T.xg_BadText T.xc_BadText.gl) da_nil))) (da_cons (de_b (b_isx (xt T)) (by rfl) T.n_isinstance (da_cons (dv 0) (da_cons (de_gl (by rfl) T.xg_BadLine T.xc_BadLine.gl) da_nil))) da_nil))))) (dss_cons (ds_set (i := 1) sc__law_sorts.nd rfl (by first | exact Or.inl rfl | exact Or.inr rfl) (de_add (dv 1) (de_lst (da_cons (de_b (b_isx (xt T)) (by rfl) T.n_isinstance (da_cons (dv 0) (da_cons (de_gl (by rfl) T.xg_Unexplained T.xc_Unexplained.gl) da_nil))) (da_cons (de_b (b_isx (xt T)) (by rfl) T.n_isinstance (da_cons (dv 0) (da_cons (de_gl (by rfl) T.xg_NoFile T.xc_NoFile.gl) da_nil))) (da_cons (de_b (b_isx (xt T)) (by rfl) T.n_isinstance (da_cons (dv 0) (da_cons (de_gl (by rfl) T.xg_NoBlock T.xc_NoBlock.gl) da_nil))) da_nil)))))) (dss_cons (ds_set (i := 1) sc__law_sorts.nd rfl (by first | exact Or.inl rfl | exact Or.inr rfl) (de_add (dv 1) (de_lst (da_cons (de_b (b_isx (xt T)) (by rfl) T.n_isinstance (da_cons (dv 0) (da_cons (de_gl (by rfl) T.xg_NoPromise T.xc_NoPromise.gl) da_nil))) (da_cons (de_b (b_isx (xt T)) (by rfl) T.n_isinstance (da_cons (dv 0) (da_cons (de_gl (by rfl) T.xg_NoItem T.xc_NoItem.gl) da_nil))) (da_cons (de_b (b_isx (xt T)) (by rfl) T.n_isinstance (da_cons (dv 0) (da_cons (de_gl (by rfl) T.xg_NoStep T.xc_NoStep.gl) da_nil))) da_nil)))))) (dss_one (ds_ret (de_add (dv 1) (de_lst (da_cons (de_b (b_isx (xt T)) (by rfl) T.n_isinstance (da_cons (dv 0) (da_cons (de_gl (by rfl) T.xg_Full T.xc_Full.gl) da_nil))) da_nil))))))))
abbrev N__law_bases : List Str := ["_law_error", "_law_found"]
theorem sc__law_bases : FnScope N__law_bases ["_law_error"] (defScope s__law_bases) := ⟨rfl, rfl, rfl, by decide +kernel, rfl, by decide +kernel, by decide +kernel⟩
theorem bi__law_bases (T : Txt P K mg ad fd tk) : Binds K (fd 18) ["_law_error"] [] := T.F__law_bases.binds (ps := ["_law_error"]) fun _ _ _ _ _ _ us hl => match us, hl with | [_], _ => rfl
set_option maxHeartbeats 4000000 in
theorem ok__law_bases (T : Txt P K mg ad fd tk) : FnG P w K mg base CX0 1 (ad 18) (fd 18) ["_law_error"] (spD K 1 f__law_bases) := by
  refine fnD (k := 0) T.F__law_bases sc__law_bases fun cdv A out s H E hr => ?_
  exact (dss_cons (ds_set (i := 1) sc__law_bases.nd rfl (by first | exact Or.inl rfl | exact Or.inr rfl) (de_lst (da_cons (de_b (b_isx (xt T)) (by rfl) T.n_isinstance (da_cons (dv 0) (da_cons (de_ty (by rfl) T.n_ValueError (by decide +kernel)) da_nil))) (da_cons (de_b (b_isx (xt T)) (by rfl) T.n_isinstance (da_cons (dv 0) (da_cons (de_ty (by rfl) T.n_LookupError (by decide +kernel)) da_nil))) (da_cons (de_b (b_isx (xt T)) (by rfl) T.n_isinstance (da_cons (dv 0) (da_cons (de_ty (by rfl) T.n_RuntimeError (by decide +kernel)) da_nil))) da_nil))))) (dss_one (ds_ret (de_add (dv 1) (de_lst (da_cons (de_b (b_isx (xt T)) (by rfl) T.n_isinstance (da_cons (dv 0) (da_cons (de_ty (by rfl) T.n_KeyError (by decide +kernel)) da_nil))) (da_cons (de_b (b_isx (xt T)) (by rfl) T.n_isinstance (da_cons (dv 0) (da_cons (de_ty (by rfl) T.n_IndexError (by decide +kernel)) da_nil))) da_nil)))))))
abbrev N__law_kept : List Str := ["_law_error", "_law_at"]
theorem sc__law_kept : FnScope N__law_kept ["_law_error", "_law_at"] (defScope s__law_kept) := ⟨rfl, rfl, rfl, by decide +kernel, rfl, by decide +kernel, by decide +kernel⟩
theorem bi__law_kept (T : Txt P K mg ad fd tk) : Binds K (fd 19) ["_law_error", "_law_at"] [] := T.F__law_kept.binds (ps := ["_law_error", "_law_at"]) fun _ _ _ _ _ _ us hl => match us, hl with | [_, _], _ => rfl
set_option maxHeartbeats 4000000 in
theorem ok__law_kept (T : Txt P K mg ad fd tk) : FnG P w K mg base CX0 1 (ad 19) (fd 19) ["_law_error", "_law_at"] (spD K 2 f__law_kept) := by
  refine fnD (k := 0) T.F__law_kept sc__law_kept fun cdv A out s H E hr => ?_
  exact (dss_cons (ds_if (dt_c c_in (dv 1) (de_tup (da_cons de_int (da_cons de_int da_nil)))) (dss_one (ds_ret (de_lst (da_cons (de_xf (xt T) (dv 0)) da_nil)))) dss_nil) (dss_cons (ds_if (dt_c (c_eq hr) (dv 1) de_int) (dss_one (ds_ret (de_lst da_nil))) dss_nil) (dss_cons (ds_if (dt_c c_in (dv 1) (de_tup (da_cons de_int (da_cons de_int da_nil)))) (dss_one (ds_ret (de_lst (da_cons (de_xf (xt T) (dv 0)) da_nil)))) dss_nil) (dss_cons (ds_if (dt_c c_in (dv 1) (de_tup (da_cons de_int (da_cons de_int da_nil)))) (dss_one (ds_ret (de_lst (da_cons (de_xf (xt T) (dv 0)) da_nil)))) dss_nil) (dss_cons (ds_if (dt_c (c_eq hr) (dv 1) de_int) (dss_one (ds_ret (de_lst (da_cons (de_xf (xt T) (dv 0)) da_nil)))) dss_nil) (dss_one (ds_ret (de_if (dt_c (c_eq hr) (dv 1) de_int) (de_lst (da_cons (de_xf (xt T) (dv 0)) (da_cons (de_xf (xt T) (dv 0)) da_nil))) (de_lst (da_cons (de_xf (xt T) (dv 0)) da_nil))))))))))
abbrev N__law_right : List Str := ["_law_box_here", "_law_n", "_law_title", "_law_steps_so", "_law_rows", "_law_values", "_law_at", "_law_pair", "_law_bases_here", "_law_error", "_law_k"]
theorem sc__law_right : FnScope N__law_right ["_law_box_here"] (defScope s__law_right) := ⟨rfl, rfl, rfl, by decide +kernel, rfl, by decide +kernel, by decide +kernel⟩
theorem bi__law_right (T : Txt P K mg ad fd tk) : Binds K (fd 20) ["_law_box_here"] [] := T.F__law_right.binds (ps := ["_law_box_here"]) fun _ _ _ _ _ _ us hl => match us, hl with | [_], _ => rfl
set_option maxHeartbeats 4000000 in
theorem ok__law_right (T : Txt P K mg ad fd tk) : FnG P w K mg base CX0 6 (ad 20) (fd 20) ["_law_box_here"] (spD K 1 f__law_right) := by
  refine fnD (k := 5) T.F__law_right sc__law_right fun cdv A out s H E hr => ?_
  exact (dss_cons (ds_two (i := 1) (j := 2) rfl sc__law_right.nd rfl rfl (by decide) rfl rfl (da_cons (de_call (ok__law_take T) (hr.le (by decide)) (by rfl) T.g__law_take T.F__law_take.kp (bi__law_take T) (da_cons (dv 0) (da_cons (de_pow de_int de_int) da_nil))) (da_cons (de_call (ok__law_of T) (hr.le (by decide)) (by rfl) T.g__law_of T.F__law_of.kp (bi__law_of T) (da_cons (dv 0) (da_cons (de_lst (da_cons de_str (da_cons de_str (da_cons de_str da_nil)))) da_nil))) da_nil)) rfl) (dss_cons (ds_set (i := 3) sc__law_right.nd rfl (by first | exact Or.inl rfl | exact Or.inr rfl) (de_tup (da_cons (de_tup (da_cons de_str (da_cons (dv 2) (da_cons (dv 1) da_nil)))) (da_cons (de_tup (da_cons de_str da_nil)) da_nil)))) (dss_cons (ds_set (i := 4) sc__law_right.nd rfl (by first | exact Or.inl rfl | exact Or.inr rfl) (de_lst (da_cons (de_lst (da_cons (de_xc T.xc_Known T.xi_Known (in_Known T) (hr.le (by decide)).1 (by rfl) T.xg_Known (bx_Known T) (da_cons (dv 2) da_nil)) (da_cons (de_xcK T.xc_Known T.xi_Known (in_Known T) (hr.le (by decide)).1 (by rfl) T.xg_Known (kx_Known_name T) (dk_cons (dv 2) dk_nil)) da_nil))) (da_cons (de_lst (da_cons (de_xc0 T.xc_BadText T.xi_BadText (in_BadText T) (hr.le (by decide)).1 (by rfl) T.xg_BadText (bx_BadText T)) (da_cons (de_xc0 T.xc_BadText T.xi_BadText (in_BadText T) (hr.le (by decide)).1 (by rfl) T.xg_BadText (bx_BadText T)) da_nil))) (da_cons (de_lst (da_cons (de_xc T.xc_BadLine T.xi_BadLine (in_BadLine T) (hr.le (by decide)).1 (by rfl) T.xg_BadLine (bx_BadLine T) (da_cons (dv 1) da_nil)) (da_cons (de_xcK T.xc_BadLine T.xi_BadLine (in_BadLine T) (hr.le (by decide)).1 (by rfl) T.xg_BadLine (kx_BadLine_number T) (dk_cons (dv 1) dk_nil)) da_nil))) da_nil))))) (dss_cons (ds_set (i := 4) sc__law_right.nd rfl (by first | exact Or.inl rfl | exact Or.inr rfl) (de_add (dv 4) (de_lst (da_cons (de_lst (da_cons (de_xc T.xc_Unexplained T.xi_Unexplained (in_Unexplained T) (hr.le (by decide)).1 (by rfl) T.xg_Unexplained (bx_Unexplained T) (da_cons (dv 1) da_nil)) (da_cons (de_xcK T.xc_Unexplained T.xi_Unexplained (in_Unexplained T) (hr.le (by decide)).1 (by rfl) T.xg_Unexplained (kx_Unexplained_index T) (dk_cons (dv 1) dk_nil)) da_nil))) (da_cons (de_lst (da_cons (de_xc T.xc_NoFile T.xi_NoFile (in_NoFile T) (hr.le (by decide)).1 (by rfl) T.xg_NoFile (bx_NoFile T) (da_cons (dv 2) da_nil)) (da_cons (de_xcK T.xc_NoFile T.xi_NoFile (in_NoFile T) (hr.le (by decide)).1 (by rfl) T.xg_NoFile (kx_NoFile_name T) (dk_cons (dv 2) dk_nil)) da_nil))) da_nil))))) (dss_cons (ds_set (i := 4) sc__law_right.nd rfl (by first | exact Or.inl rfl | exact Or.inr rfl) (de_add (dv 4) (de_lst (da_cons (de_lst (da_cons (de_xc T.xc_NoBlock T.xi_NoBlock (in_NoBlock T) (hr.le (by decide)).1 (by rfl) T.xg_NoBlock (bx_NoBlock T) (da_cons (dv 1) da_nil)) (da_cons (de_xcK T.xc_NoBlock T.xi_NoBlock (in_NoBlock T) (hr.le (by decide)).1 (by rfl) T.xg_NoBlock (kx_NoBlock_block T) (dk_cons (dv 1) dk_nil)) da_nil))) (da_cons (de_lst (da_cons (de_xc T.xc_NoPromise T.xi_NoPromise (in_NoPromise T) (hr.le (by decide)).1 (by rfl) T.xg_NoPromise (bx_NoPromise T) (da_cons (dv 2) (da_cons (dv 1) da_nil))) (da_cons (de_xcK T.xc_NoPromise T.xi_NoPromise (in_NoPromise T) (hr.le (by decide)).1 (by rfl) T.xg_NoPromise (kx_NoPromise_block_name T) (dk_cons (dv 1) (dk_cons (dv 2) dk_nil))) da_nil))) da_nil))))) (dss_cons (ds_set (i := 4) sc__law_right.nd rfl (by first | exact Or.inl rfl | exact Or.inr rfl) (de_add (dv 4) (de_lst (da_cons (de_lst (da_cons (de_xc T.xc_NoItem T.xi_NoItem (in_NoItem T) (hr.le (by decide)).1 (by rfl) T.xg_NoItem (bx_NoItem T) (da_cons (dv 1) da_nil)) (da_cons (de_xcK T.xc_NoItem T.xi_NoItem (in_NoItem T) (hr.le (by decide)).1 (by rfl) T.xg_NoItem (kx_NoItem_number T) (dk_cons (dv 1) dk_nil)) da_nil))) (da_cons (de_lst (da_cons (de_xc T.xc_NoStep T.xi_NoStep (in_NoStep T) (hr.le (by decide)).1 (by rfl) T.xg_NoStep (bx_NoStep T) (da_cons (dv 1) da_nil)) (da_cons (de_xcK T.xc_NoStep T.xi_NoStep (in_NoStep T) (hr.le (by decide)).1 (by rfl) T.xg_NoStep (kx_NoStep_index T) (dk_cons (dv 1) dk_nil)) da_nil))) (da_cons (de_lst (da_cons (de_xc T.xc_Full T.xi_Full (in_Full T) (hr.le (by decide)).1 (by rfl) T.xg_Full (bx_Full T) (da_cons (dv 3) da_nil)) (da_cons (de_xcK T.xc_Full T.xi_Full (in_Full T) (hr.le (by decide)).1 (by rfl) T.xg_Full (kx_Full_order T) (dk_cons (dv 3) dk_nil)) da_nil))) da_nil)))))) (dss_cons (ds_set (i := 5) sc__law_right.nd rfl (by first | exact Or.inl rfl | exact Or.inr rfl) (de_lst (da_cons (de_lst (da_cons (dv 2) da_nil)) (da_cons (de_lst da_nil) (da_cons (de_lst (da_cons (dv 1) da_nil)) (da_cons (de_lst (da_cons (dv 1) da_nil)) (da_cons (de_lst (da_cons (dv 2) da_nil)) (da_cons (de_lst (da_cons (dv 1) da_nil)) (da_cons (de_lst (da_cons (dv 2) (da_cons (dv 1) da_nil))) (da_cons (de_lst (da_cons (dv 1) da_nil)) (da_cons (de_lst (da_cons (dv 1) da_nil)) (da_cons (de_lst (da_cons (dv 3) da_nil)) da_nil)))))))))))) (dss_cons (ds_for (ss := [6, 7]) PassesOwn.never rfl (di_enum (by rfl) T.n_enumerate (da_cons (dv 4) da_nil)) (dg_seq rfl (dgs_cons (dg_name (i := 6) sc__law_right.nd rfl (by first | exact Or.inl rfl | exact Or.inr rfl)) (dgs_cons (dg_name (i := 7) sc__law_right.nd rfl (by first | exact Or.inl rfl | exact Or.inr rfl)) dgs_nil))) (dss_cons (ds_set (i := 8) sc__law_right.nd rfl (by first | exact Or.inl rfl | exact Or.inr rfl) (de_lst (da_cons (de_c c_lt (dv 6) de_int) (da_cons (de_ch c_lt c_lt de_int (dv 6) de_int) (da_cons (de_c (c_eq hr) (dv 6) de_int) (da_cons de_bl (da_cons de_bl da_nil))))))) (dss_one (ds_for (ss := [9]) PassesOwn.never rfl (di_list (dv 7)) (dg_name (i := 9) sc__law_right.nd rfl (by first | exact Or.inl rfl | exact Or.inr rfl)) (dss_cons (ds_if (PW.pt (dw_or (dt_not (dt_val (de_call (ok__law_same T 4) (hr.le (by decide)) (by rfl) T.g__law_same T.F__law_same.kp (bi__law_same T) (da_cons (de_call (ok__law_kept T) (hr.le (by decide)) (by rfl) T.g__law_kept T.F__law_kept.kp (bi__law_kept T) (da_cons (dv 9) (da_cons (dv 6) da_nil))) (da_cons (de_at (dv 5) (dv 6)) da_nil))))) (dw_or1 (dt_c (c_ne hr) (de_call (ok__law_bases T) (hr.le (by decide)) (by rfl) T.g__law_bases T.F__law_bases.kp (bi__law_bases T) (da_cons (dv 9) da_nil)) (dv 8))))) (dss_one (ds_ret de_bl)) dss_nil) (dss_one (ds_if (dt_c (c_ne hr) (de_call (ok__law_sorts T) (hr.le (by decide)) (by rfl) T.g__law_sorts T.F__law_sorts.kp (bi__law_sorts T) (da_cons (dv 9) da_nil)) (de_comp (own := [("_law_k", 10)]) rfl sc__law_right.nd  (di_r1 (by rfl) T.n_range (da_cons de_int da_nil)) (blkOk_by (own := [("_law_k", 10)]) (N := N__law_right) (sc := defScope s__law_right) (by decide +kernel)) (fun _ _ _ _ _ => (dg_name (i := 10) sc__law_right.nd rfl (by first | exact Or.inl rfl | exact Or.inr rfl))) (fun _ _ _ _ _ => dts_nil) (fun _ _ _ _ _ => (de_c (c_eq hr) (dv 10) (dv 6))))) (dss_one (ds_ret de_bl)) dss_nil))))))) (dss_one (ds_ret de_bl))))))))))
abbrev N_law : List Str := ["_law_script", "_law_k", "_law_box_here", "_law_turn"]
theorem sc_law : FnScope N_law ["_law_script"] (defScope s_law) := ⟨rfl, rfl, rfl, by decide +kernel, rfl, by decide +kernel, by decide +kernel⟩
theorem bi_law (T : Txt P K mg ad fd tk) : Binds K (fd 21) ["_law_script"] [] := T.F_law.binds (ps := ["_law_script"]) fun _ _ _ _ _ _ us hl => match us, hl with | [_], _ => rfl
set_option maxHeartbeats 4000000 in
theorem ok_law (T : Txt P K mg ad fd tk) : FnG P w K mg base CX0 7 (ad 21) (fd 21) ["_law_script"] (spD K 1 f_law) := by
  refine fnD (k := 6) T.F_law sc_law fun cdv A out s H E hr => ?_
  exact (dss_cons (ds_for (ss := [1]) PassesOwn.never rfl (di_r1 (by rfl) T.n_range (da_cons (de_add de_int (de_b b_min2 (by rfl) T.n_min (da_cons de_int (da_cons (de_b b_len (by rfl) T.n_len (da_cons (dv 0) da_nil)) da_nil)))) da_nil)) (dg_name (i := 1) sc_law.nd rfl (by first | exact Or.inl rfl | exact Or.inr rfl)) (dss_cons (ds_set (i := 2) sc_law.nd rfl (by first | exact Or.inl rfl | exact Or.inr rfl) (de_call (ok__law_box T) (hr.le (by decide)) (by rfl) T.g__law_box T.F__law_box.kp (bi__law_box T) (da_cons (dv 0) (da_cons (dv 1) da_nil)))) (dss_one (ds_if (dt_not (dt_val (de_b b_all (by rfl) T.n_all (da_cons (de_comp (own := [("_law_turn", 3)]) rfl sc_law.nd  (di_r1 (by rfl) T.n_range (da_cons de_int da_nil)) (blkOk_by (own := [("_law_turn", 3)]) (N := N_law) (sc := defScope s_law) (by decide +kernel)) (fun _ _ _ _ _ => (dg_name (i := 3) sc_law.nd rfl (by first | exact Or.inl rfl | exact Or.inr rfl))) (fun _ _ _ _ _ => dts_nil) (fun _ _ _ _ _ => (de_call (ok__law_right T) (hr.le (by decide)) (by rfl) T.g__law_right T.F__law_right.kp (bi__law_right T) (da_cons (dv 2) da_nil)))) da_nil)))) (dss_one (ds_ret de_bl)) dss_nil)))) (dss_one (ds_ret de_bl)))
end
end K01
end L2

set_option maxRecDepth 100000
namespace L2
namespace K01
open PySem PySem.Spec PyProof.Rows DL
theorem all_mk {P : Program} {w : PySem.World} {K : PySem.W.Frag} {h : Heap} {mg : Str → Option Value} {fa : Addr} (X : K.In h) (G : h.Ns mainGlobals mg) (hfa : mg "law" = some (.ref fa))
    {f12 : Addr} {od12 an12 : Option Addr} {sl12 : Array (Option Value)} {oc12 kV12 dc12 pm12 cd12 ct12 : Value}
    {f13 : Addr} {od13 an13 : Option Addr} {sl13 : Array (Option Value)} {oc13 kV13 dc13 pm13 cd13 ct13 : Value}
    {f14 : Addr} {od14 an14 : Option Addr} {sl14 : Array (Option Value)} {oc14 kV14 dc14 pm14 cd14 ct14 : Value}
    {f15 : Addr} {od15 an15 : Option Addr} {sl15 : Array (Option Value)} {oc15 kV15 dc15 pm15 cd15 ct15 : Value}
    {f16 : Addr} {od16 an16 : Option Addr} {sl16 : Array (Option Value)} {oc16 kV16 dc16 pm16 cd16 ct16 : Value}
    {f17 : Addr} {od17 an17 : Option Addr} {sl17 : Array (Option Value)} {oc17 kV17 dc17 pm17 cd17 ct17 : Value}
    {f18 : Addr} {od18 an18 : Option Addr} {sl18 : Array (Option Value)} {oc18 kV18 dc18 pm18 cd18 ct18 : Value}
    {f19 : Addr} {od19 an19 : Option Addr} {sl19 : Array (Option Value)} {oc19 kV19 dc19 pm19 cd19 ct19 : Value}
    {f20 : Addr} {od20 an20 : Option Addr} {sl20 : Array (Option Value)} {oc20 kV20 dc20 pm20 cd20 ct20 : Value}
    {f21 : Addr} {od21 an21 : Option Addr} {sl21 : Array (Option Value)} {oc21 kV21 dc21 pm21 cd21 ct21 : Value}
    {f1 g1 q1 cd1 : Addr} {xQ1 : Str} {xN1 : Addr} {xb1 xs1 : List Value} {xsn1 : List Str} {xab1 : Bool} {xco1 : Option Bool} {xd1 : Option Addr} {x0_1 x1_1 x2_1 x3_1 x5_1 : Option Value}
    {yo1 yd1 yp1 yc1 ro1 eo1 : Value} {yod1 rod1 eod1 : Option Addr} {ysl1 rsl1 esl1 : Array (Option Value)} {rv1 : Array Value} {fl1 : Str} {tf1 : Tok}
    {f2 g2 q2 cd2 : Addr} {xQ2 : Str} {xN2 : Addr} {xb2 xs2 : List Value} {xsn2 : List Str} {xab2 : Bool} {xco2 : Option Bool} {xd2 : Option Addr} {x0_2 x1_2 x2_2 x3_2 x5_2 : Option Value}
    {yo2 yd2 yp2 yc2 ro2 eo2 : Value} {yod2 rod2 eod2 : Option Addr} {ysl2 rsl2 esl2 : Array (Option Value)} {rv2 : Array Value} {fl2 : Str} {tf2 : Tok}
    {f3 g3 q3 cd3 : Addr} {xQ3 : Str} {xN3 : Addr} {xb3 xs3 : List Value} {xsn3 : List Str} {xab3 : Bool} {xco3 : Option Bool} {xd3 : Option Addr} {x0_3 x1_3 x2_3 x3_3 x5_3 : Option Value}
    {yo3 yd3 yp3 yc3 ro3 eo3 : Value} {yod3 rod3 eod3 : Option Addr} {ysl3 rsl3 esl3 : Array (Option Value)} {rv3 : Array Value} {fl3 : Str} {tf3 : Tok}
    {f4 g4 q4 cd4 : Addr} {xQ4 : Str} {xN4 : Addr} {xb4 xs4 : List Value} {xsn4 : List Str} {xab4 : Bool} {xco4 : Option Bool} {xd4 : Option Addr} {x0_4 x1_4 x2_4 x3_4 x5_4 : Option Value}
    {yo4 yd4 yp4 yc4 ro4 eo4 : Value} {yod4 rod4 eod4 : Option Addr} {ysl4 rsl4 esl4 : Array (Option Value)} {rv4 : Array Value} {fl4 : Str} {tf4 : Tok}
    {f5 g5 q5 cd5 : Addr} {xQ5 : Str} {xN5 : Addr} {xb5 xs5 : List Value} {xsn5 : List Str} {xab5 : Bool} {xco5 : Option Bool} {xd5 : Option Addr} {x0_5 x1_5 x2_5 x3_5 x5_5 : Option Value}
    {yo5 yd5 yp5 yc5 ro5 eo5 : Value} {yod5 rod5 eod5 : Option Addr} {ysl5 rsl5 esl5 : Array (Option Value)} {rv5 : Array Value} {fl5 : Str} {tf5 : Tok}
    {f6 g6 q6 cd6 : Addr} {xQ6 : Str} {xN6 : Addr} {xb6 xs6 : List Value} {xsn6 : List Str} {xab6 : Bool} {xco6 : Option Bool} {xd6 : Option Addr} {x0_6 x1_6 x2_6 x3_6 x5_6 : Option Value}
    {yo6 yd6 yp6 yc6 ro6 eo6 : Value} {yod6 rod6 eod6 : Option Addr} {ysl6 rsl6 esl6 : Array (Option Value)} {rv6 : Array Value} {fl6 : Str} {tf6 : Tok}
    {f7 g7 q7 cd7 : Addr} {xQ7 : Str} {xN7 : Addr} {xb7 xs7 : List Value} {xsn7 : List Str} {xab7 : Bool} {xco7 : Option Bool} {xd7 : Option Addr} {x0_7 x1_7 x2_7 x3_7 x5_7 : Option Value}
    {yo7 yd7 yp7 yc7 ro7 eo7 : Value} {yod7 rod7 eod7 : Option Addr} {ysl7 rsl7 esl7 : Array (Option Value)} {rv7 : Array Value} {fl7 : Str} {tf7 : Tok}
    {f8 g8 q8 cd8 : Addr} {xQ8 : Str} {xN8 : Addr} {xb8 xs8 : List Value} {xsn8 : List Str} {xab8 : Bool} {xco8 : Option Bool} {xd8 : Option Addr} {x0_8 x1_8 x2_8 x3_8 x5_8 : Option Value}
    {yo8 yd8 yp8 yc8 ro8 eo8 : Value} {yod8 rod8 eod8 : Option Addr} {ysl8 rsl8 esl8 : Array (Option Value)} {rv8 : Array Value} {fl8 : Str} {tf8 : Tok}
    {f9 g9 q9 cd9 : Addr} {xQ9 : Str} {xN9 : Addr} {xb9 xs9 : List Value} {xsn9 : List Str} {xab9 : Bool} {xco9 : Option Bool} {xd9 : Option Addr} {x0_9 x1_9 x2_9 x3_9 x5_9 : Option Value}
    {yo9 yd9 yp9 yc9 ro9 eo9 : Value} {yod9 rod9 eod9 : Option Addr} {ysl9 rsl9 esl9 : Array (Option Value)} {rv9 : Array Value} {fl9 : Str} {tf9 : Tok}
    {f10 g10 q10 cd10 : Addr} {xQ10 : Str} {xN10 : Addr} {xb10 xs10 : List Value} {xsn10 : List Str} {xab10 : Bool} {xco10 : Option Bool} {xd10 : Option Addr} {x0_10 x1_10 x2_10 x3_10 x5_10 : Option Value}
    {yo10 yd10 yp10 yc10 ro10 eo10 : Value} {yod10 rod10 eod10 : Option Addr} {ysl10 rsl10 esl10 : Array (Option Value)} {rv10 : Array Value} {fl10 : Str} {tf10 : Tok}
    (a12 : PySem.W.nsIn K mainGlobals "_law_cell_at" = some (some (.ref f12))) (l12 : K.lookup f12 = some ⟨oc12, od12, .func (PySem.W.fnOf "_law_cell_at" "_law_cell_at" (defArgs s__law_cell_at) (defBody s__law_cell_at) (defScope s__law_cell_at) .none kV12 dc12 pm12 an12 cd12 ct12), sl12⟩) (c12 : PySem.W.codeIn K cd12 "_law_cell_at" = true) (k12 : PySem.W.keepIn K (.ref f12) = true)
    (a13 : PySem.W.nsIn K mainGlobals "_law_box" = some (some (.ref f13))) (l13 : K.lookup f13 = some ⟨oc13, od13, .func (PySem.W.fnOf "_law_box" "_law_box" (defArgs s__law_box) (defBody s__law_box) (defScope s__law_box) .none kV13 dc13 pm13 an13 cd13 ct13), sl13⟩) (c13 : PySem.W.codeIn K cd13 "_law_box" = true) (k13 : PySem.W.keepIn K (.ref f13) = true)
    (a14 : PySem.W.nsIn K mainGlobals "_law_take" = some (some (.ref f14))) (l14 : K.lookup f14 = some ⟨oc14, od14, .func (PySem.W.fnOf "_law_take" "_law_take" (defArgs s__law_take) (defBody s__law_take) (defScope s__law_take) .none kV14 dc14 pm14 an14 cd14 ct14), sl14⟩) (c14 : PySem.W.codeIn K cd14 "_law_take" = true) (k14 : PySem.W.keepIn K (.ref f14) = true)
    (a15 : PySem.W.nsIn K mainGlobals "_law_of" = some (some (.ref f15))) (l15 : K.lookup f15 = some ⟨oc15, od15, .func (PySem.W.fnOf "_law_of" "_law_of" (defArgs s__law_of) (defBody s__law_of) (defScope s__law_of) .none kV15 dc15 pm15 an15 cd15 ct15), sl15⟩) (c15 : PySem.W.codeIn K cd15 "_law_of" = true) (k15 : PySem.W.keepIn K (.ref f15) = true)
    (a16 : PySem.W.nsIn K mainGlobals "_law_same" = some (some (.ref f16))) (l16 : K.lookup f16 = some ⟨oc16, od16, .func (PySem.W.fnOf "_law_same" "_law_same" (defArgs s__law_same) (defBody s__law_same) (defScope s__law_same) .none kV16 dc16 pm16 an16 cd16 ct16), sl16⟩) (c16 : PySem.W.codeIn K cd16 "_law_same" = true) (k16 : PySem.W.keepIn K (.ref f16) = true)
    (a17 : PySem.W.nsIn K mainGlobals "_law_sorts" = some (some (.ref f17))) (l17 : K.lookup f17 = some ⟨oc17, od17, .func (PySem.W.fnOf "_law_sorts" "_law_sorts" (defArgs s__law_sorts) (defBody s__law_sorts) (defScope s__law_sorts) .none kV17 dc17 pm17 an17 cd17 ct17), sl17⟩) (c17 : PySem.W.codeIn K cd17 "_law_sorts" = true) (k17 : PySem.W.keepIn K (.ref f17) = true)
    (a18 : PySem.W.nsIn K mainGlobals "_law_bases" = some (some (.ref f18))) (l18 : K.lookup f18 = some ⟨oc18, od18, .func (PySem.W.fnOf "_law_bases" "_law_bases" (defArgs s__law_bases) (defBody s__law_bases) (defScope s__law_bases) .none kV18 dc18 pm18 an18 cd18 ct18), sl18⟩) (c18 : PySem.W.codeIn K cd18 "_law_bases" = true) (k18 : PySem.W.keepIn K (.ref f18) = true)
    (a19 : PySem.W.nsIn K mainGlobals "_law_kept" = some (some (.ref f19))) (l19 : K.lookup f19 = some ⟨oc19, od19, .func (PySem.W.fnOf "_law_kept" "_law_kept" (defArgs s__law_kept) (defBody s__law_kept) (defScope s__law_kept) .none kV19 dc19 pm19 an19 cd19 ct19), sl19⟩) (c19 : PySem.W.codeIn K cd19 "_law_kept" = true) (k19 : PySem.W.keepIn K (.ref f19) = true)
    (a20 : PySem.W.nsIn K mainGlobals "_law_right" = some (some (.ref f20))) (l20 : K.lookup f20 = some ⟨oc20, od20, .func (PySem.W.fnOf "_law_right" "_law_right" (defArgs s__law_right) (defBody s__law_right) (defScope s__law_right) .none kV20 dc20 pm20 an20 cd20 ct20), sl20⟩) (c20 : PySem.W.codeIn K cd20 "_law_right" = true) (k20 : PySem.W.keepIn K (.ref f20) = true)
    (a21 : PySem.W.nsIn K mainGlobals "law" = some (some (.ref f21))) (l21 : K.lookup f21 = some ⟨oc21, od21, .func (PySem.W.fnOf "law" "law" (defArgs s_law) (defBody s_law) (defScope s_law) .none kV21 dc21 pm21 an21 cd21 ct21), sl21⟩) (c21 : PySem.W.codeIn K cd21 "law" = true) (k21 : PySem.W.keepIn K (.ref f21) = true)
    (xa1 : PySem.W.nsIn K mainGlobals "Known" = some (some (.ref f1)))
    (xl1 : K.lookup f1 = some (DXE.exC "Known" xQ1 f1 xN1 xb1 ((xBases "Known").map Value.type) true xsn1 xs1 xab1 xco1 xd1 x0_1 x1_1 x2_1 x3_1 x5_1 "ValueError.__new__"))
    (xs1 : PySem.W.findIn K (.ref f1) "__setattr__" = some (some (.builtin "object.__setattr__")))
    (xu1 : PySem.W.subIn K (.ref f1) (.type "ValueError") = some true)
    (xk1 : PySem.W.keepIn K (.ref f1) = true)
    (xi1 : PySem.W.findIn K (.ref f1) "__init__" = some (some (.ref g1)))
    (xt1 : PySem.W.typeIn K (.ref g1) = some (.type "function"))
    (xf1 : K.lookup g1 = some ⟨yo1, yod1, .func (PySem.W.fnX "__init__" "Known.__init__" (defArgs i_Known) (defBody i_Known) (defScope i_Known) [("__class__", q1)] .none .none yd1 yp1 none (.ref cd1) yc1), ysl1⟩)
    (xc1 : PySem.W.codeIn K (.ref cd1) "Known.__init__" = true)
    (xr1 : K.lookup cd1 = some ⟨ro1, rod1, .fields rv1, rsl1⟩)
    (xv1 : rv1[2]? = some (.str fl1 tf1))
    (xw1 : ((P.main.file : Str) == fl1) = true)
    (xe1 : K.lookup q1 = some ⟨eo1, eod1, .cell (some (.ref f1)), esl1⟩)
    (xp1 : PySem.W.ks_superIn K f1 f1 "__init__" = some (some (.builtin "ValueError.__init__")))
    (xm1 : PySem.W.mroIn K f1 (.ref f1) = some true)
    (y1_1 : PySem.W.findIn K (.ref f1) "__getattribute__" = some (some (.builtin "BaseException.__getattribute__")))
    (y2_1 : PySem.W.findIn K (.ref f1) "__getattr__" = some none)
    (y3_1 : PySem.W.subIn K (.ref f1) (.type "BaseException") = some true)
    (y4_1 : PySem.W.hasDictIn K f1 = true)
    (y5_1 : PySem.W.findIn K (.ref f1) "__class__" = some (some (.builtin "object.__class__")))
    (y6_1 : PySem.W.specialIn K (.builtin "object.__class__") "__get__" = some (some (.builtin "getset_descriptor.__get__")))
    (y7_1 : PySem.W.takesIn K (.builtin "object.__class__") = some true)
    (y8_1 : PySem.W.mroIn K f1 (.type "object") = some true)
    (xn_name_1 : PySem.W.findIn K (.ref f1) "name" = some none)
    (xa2 : PySem.W.nsIn K mainGlobals "BadText" = some (some (.ref f2)))
    (xl2 : K.lookup f2 = some (DXE.exC "BadText" xQ2 f2 xN2 xb2 ((xBases "BadText").map Value.type) true xsn2 xs2 xab2 xco2 xd2 x0_2 x1_2 x2_2 x3_2 x5_2 "ValueError.__new__"))
    (xs2 : PySem.W.findIn K (.ref f2) "__setattr__" = some (some (.builtin "object.__setattr__")))
    (xu2 : PySem.W.subIn K (.ref f2) (.type "ValueError") = some true)
    (xk2 : PySem.W.keepIn K (.ref f2) = true)
    (xi2 : PySem.W.findIn K (.ref f2) "__init__" = some (some (.ref g2)))
    (xt2 : PySem.W.typeIn K (.ref g2) = some (.type "function"))
    (xf2 : K.lookup g2 = some ⟨yo2, yod2, .func (PySem.W.fnX "__init__" "BadText.__init__" (defArgs i_BadText) (defBody i_BadText) (defScope i_BadText) [("__class__", q2)] .none .none yd2 yp2 none (.ref cd2) yc2), ysl2⟩)
    (xc2 : PySem.W.codeIn K (.ref cd2) "BadText.__init__" = true)
    (xr2 : K.lookup cd2 = some ⟨ro2, rod2, .fields rv2, rsl2⟩)
    (xv2 : rv2[2]? = some (.str fl2 tf2))
    (xw2 : ((P.main.file : Str) == fl2) = true)
    (xe2 : K.lookup q2 = some ⟨eo2, eod2, .cell (some (.ref f2)), esl2⟩)
    (xp2 : PySem.W.ks_superIn K f2 f2 "__init__" = some (some (.builtin "ValueError.__init__")))
    (xm2 : PySem.W.mroIn K f2 (.ref f2) = some true)
    (y1_2 : PySem.W.findIn K (.ref f2) "__getattribute__" = some (some (.builtin "BaseException.__getattribute__")))
    (y2_2 : PySem.W.findIn K (.ref f2) "__getattr__" = some none)
    (y3_2 : PySem.W.subIn K (.ref f2) (.type "BaseException") = some true)
    (y4_2 : PySem.W.hasDictIn K f2 = true)
    (y5_2 : PySem.W.findIn K (.ref f2) "__class__" = some (some (.builtin "object.__class__")))
    (y6_2 : PySem.W.specialIn K (.builtin "object.__class__") "__get__" = some (some (.builtin "getset_descriptor.__get__")))
    (y7_2 : PySem.W.takesIn K (.builtin "object.__class__") = some true)
    (y8_2 : PySem.W.mroIn K f2 (.type "object") = some true)
    (xa3 : PySem.W.nsIn K mainGlobals "BadLine" = some (some (.ref f3)))
    (xl3 : K.lookup f3 = some (DXE.exC "BadLine" xQ3 f3 xN3 xb3 ((xBases "BadLine").map Value.type) true xsn3 xs3 xab3 xco3 xd3 x0_3 x1_3 x2_3 x3_3 x5_3 "ValueError.__new__"))
    (xs3 : PySem.W.findIn K (.ref f3) "__setattr__" = some (some (.builtin "object.__setattr__")))
    (xu3 : PySem.W.subIn K (.ref f3) (.type "ValueError") = some true)
    (xk3 : PySem.W.keepIn K (.ref f3) = true)
    (xi3 : PySem.W.findIn K (.ref f3) "__init__" = some (some (.ref g3)))
    (xt3 : PySem.W.typeIn K (.ref g3) = some (.type "function"))
    (xf3 : K.lookup g3 = some ⟨yo3, yod3, .func (PySem.W.fnX "__init__" "BadLine.__init__" (defArgs i_BadLine) (defBody i_BadLine) (defScope i_BadLine) [("__class__", q3)] .none .none yd3 yp3 none (.ref cd3) yc3), ysl3⟩)
    (xc3 : PySem.W.codeIn K (.ref cd3) "BadLine.__init__" = true)
    (xr3 : K.lookup cd3 = some ⟨ro3, rod3, .fields rv3, rsl3⟩)
    (xv3 : rv3[2]? = some (.str fl3 tf3))
    (xw3 : ((P.main.file : Str) == fl3) = true)
    (xe3 : K.lookup q3 = some ⟨eo3, eod3, .cell (some (.ref f3)), esl3⟩)
    (xp3 : PySem.W.ks_superIn K f3 f3 "__init__" = some (some (.builtin "ValueError.__init__")))
    (xm3 : PySem.W.mroIn K f3 (.ref f3) = some true)
    (y1_3 : PySem.W.findIn K (.ref f3) "__getattribute__" = some (some (.builtin "BaseException.__getattribute__")))
    (y2_3 : PySem.W.findIn K (.ref f3) "__getattr__" = some none)
    (y3_3 : PySem.W.subIn K (.ref f3) (.type "BaseException") = some true)
    (y4_3 : PySem.W.hasDictIn K f3 = true)
    (y5_3 : PySem.W.findIn K (.ref f3) "__class__" = some (some (.builtin "object.__class__")))
    (y6_3 : PySem.W.specialIn K (.builtin "object.__class__") "__get__" = some (some (.builtin "getset_descriptor.__get__")))
    (y7_3 : PySem.W.takesIn K (.builtin "object.__class__") = some true)
    (y8_3 : PySem.W.mroIn K f3 (.type "object") = some true)
    (xn_number_3 : PySem.W.findIn K (.ref f3) "number" = some none)
    (xa4 : PySem.W.nsIn K mainGlobals "Unexplained" = some (some (.ref f4)))
    (xl4 : K.lookup f4 = some (DXE.exC "Unexplained" xQ4 f4 xN4 xb4 ((xBases "Unexplained").map Value.type) true xsn4 xs4 xab4 xco4 xd4 x0_4 x1_4 x2_4 x3_4 x5_4 "ValueError.__new__"))
    (xs4 : PySem.W.findIn K (.ref f4) "__setattr__" = some (some (.builtin "object.__setattr__")))
    (xu4 : PySem.W.subIn K (.ref f4) (.type "ValueError") = some true)
    (xk4 : PySem.W.keepIn K (.ref f4) = true)
    (xi4 : PySem.W.findIn K (.ref f4) "__init__" = some (some (.ref g4)))
    (xt4 : PySem.W.typeIn K (.ref g4) = some (.type "function"))
    (xf4 : K.lookup g4 = some ⟨yo4, yod4, .func (PySem.W.fnX "__init__" "Unexplained.__init__" (defArgs i_Unexplained) (defBody i_Unexplained) (defScope i_Unexplained) [("__class__", q4)] .none .none yd4 yp4 none (.ref cd4) yc4), ysl4⟩)
    (xc4 : PySem.W.codeIn K (.ref cd4) "Unexplained.__init__" = true)
    (xr4 : K.lookup cd4 = some ⟨ro4, rod4, .fields rv4, rsl4⟩)
    (xv4 : rv4[2]? = some (.str fl4 tf4))
    (xw4 : ((P.main.file : Str) == fl4) = true)
    (xe4 : K.lookup q4 = some ⟨eo4, eod4, .cell (some (.ref f4)), esl4⟩)
    (xp4 : PySem.W.ks_superIn K f4 f4 "__init__" = some (some (.builtin "ValueError.__init__")))
    (xm4 : PySem.W.mroIn K f4 (.ref f4) = some true)
    (y1_4 : PySem.W.findIn K (.ref f4) "__getattribute__" = some (some (.builtin "BaseException.__getattribute__")))
    (y2_4 : PySem.W.findIn K (.ref f4) "__getattr__" = some none)
    (y3_4 : PySem.W.subIn K (.ref f4) (.type "BaseException") = some true)
    (y4_4 : PySem.W.hasDictIn K f4 = true)
    (y5_4 : PySem.W.findIn K (.ref f4) "__class__" = some (some (.builtin "object.__class__")))
    (y6_4 : PySem.W.specialIn K (.builtin "object.__class__") "__get__" = some (some (.builtin "getset_descriptor.__get__")))
    (y7_4 : PySem.W.takesIn K (.builtin "object.__class__") = some true)
    (y8_4 : PySem.W.mroIn K f4 (.type "object") = some true)
    (xn_index_4 : PySem.W.findIn K (.ref f4) "index" = some none)
    (xa5 : PySem.W.nsIn K mainGlobals "NoFile" = some (some (.ref f5)))
    (xl5 : K.lookup f5 = some (DXE.exC "NoFile" xQ5 f5 xN5 xb5 ((xBases "NoFile").map Value.type) true xsn5 xs5 xab5 xco5 xd5 x0_5 x1_5 x2_5 x3_5 x5_5 "LookupError.__new__"))
    (xs5 : PySem.W.findIn K (.ref f5) "__setattr__" = some (some (.builtin "object.__setattr__")))
    (xu5 : PySem.W.subIn K (.ref f5) (.type "LookupError") = some true)
    (xk5 : PySem.W.keepIn K (.ref f5) = true)
    (xi5 : PySem.W.findIn K (.ref f5) "__init__" = some (some (.ref g5)))
    (xt5 : PySem.W.typeIn K (.ref g5) = some (.type "function"))
    (xf5 : K.lookup g5 = some ⟨yo5, yod5, .func (PySem.W.fnX "__init__" "NoFile.__init__" (defArgs i_NoFile) (defBody i_NoFile) (defScope i_NoFile) [("__class__", q5)] .none .none yd5 yp5 none (.ref cd5) yc5), ysl5⟩)
    (xc5 : PySem.W.codeIn K (.ref cd5) "NoFile.__init__" = true)
    (xr5 : K.lookup cd5 = some ⟨ro5, rod5, .fields rv5, rsl5⟩)
    (xv5 : rv5[2]? = some (.str fl5 tf5))
    (xw5 : ((P.main.file : Str) == fl5) = true)
    (xe5 : K.lookup q5 = some ⟨eo5, eod5, .cell (some (.ref f5)), esl5⟩)
    (xp5 : PySem.W.ks_superIn K f5 f5 "__init__" = some (some (.builtin "LookupError.__init__")))
    (xm5 : PySem.W.mroIn K f5 (.ref f5) = some true)
    (y1_5 : PySem.W.findIn K (.ref f5) "__getattribute__" = some (some (.builtin "BaseException.__getattribute__")))
    (y2_5 : PySem.W.findIn K (.ref f5) "__getattr__" = some none)
    (y3_5 : PySem.W.subIn K (.ref f5) (.type "BaseException") = some true)
    (y4_5 : PySem.W.hasDictIn K f5 = true)
    (y5_5 : PySem.W.findIn K (.ref f5) "__class__" = some (some (.builtin "object.__class__")))
    (y6_5 : PySem.W.specialIn K (.builtin "object.__class__") "__get__" = some (some (.builtin "getset_descriptor.__get__")))
    (y7_5 : PySem.W.takesIn K (.builtin "object.__class__") = some true)
    (y8_5 : PySem.W.mroIn K f5 (.type "object") = some true)
    (xn_name_5 : PySem.W.findIn K (.ref f5) "name" = some none)
    (xa6 : PySem.W.nsIn K mainGlobals "NoBlock" = some (some (.ref f6)))
    (xl6 : K.lookup f6 = some (DXE.exC "NoBlock" xQ6 f6 xN6 xb6 ((xBases "NoBlock").map Value.type) true xsn6 xs6 xab6 xco6 xd6 x0_6 x1_6 x2_6 x3_6 x5_6 "LookupError.__new__"))
    (xs6 : PySem.W.findIn K (.ref f6) "__setattr__" = some (some (.builtin "object.__setattr__")))
    (xu6 : PySem.W.subIn K (.ref f6) (.type "LookupError") = some true)
    (xk6 : PySem.W.keepIn K (.ref f6) = true)
    (xi6 : PySem.W.findIn K (.ref f6) "__init__" = some (some (.ref g6)))
    (xt6 : PySem.W.typeIn K (.ref g6) = some (.type "function"))
    (xf6 : K.lookup g6 = some ⟨yo6, yod6, .func (PySem.W.fnX "__init__" "NoBlock.__init__" (defArgs i_NoBlock) (defBody i_NoBlock) (defScope i_NoBlock) [("__class__", q6)] .none .none yd6 yp6 none (.ref cd6) yc6), ysl6⟩)
    (xc6 : PySem.W.codeIn K (.ref cd6) "NoBlock.__init__" = true)
    (xr6 : K.lookup cd6 = some ⟨ro6, rod6, .fields rv6, rsl6⟩)
    (xv6 : rv6[2]? = some (.str fl6 tf6))
    (xw6 : ((P.main.file : Str) == fl6) = true)
    (xe6 : K.lookup q6 = some ⟨eo6, eod6, .cell (some (.ref f6)), esl6⟩)
    (xp6 : PySem.W.ks_superIn K f6 f6 "__init__" = some (some (.builtin "LookupError.__init__")))
    (xm6 : PySem.W.mroIn K f6 (.ref f6) = some true)
    (y1_6 : PySem.W.findIn K (.ref f6) "__getattribute__" = some (some (.builtin "BaseException.__getattribute__")))
    (y2_6 : PySem.W.findIn K (.ref f6) "__getattr__" = some none)
    (y3_6 : PySem.W.subIn K (.ref f6) (.type "BaseException") = some true)
    (y4_6 : PySem.W.hasDictIn K f6 = true)
    (y5_6 : PySem.W.findIn K (.ref f6) "__class__" = some (some (.builtin "object.__class__")))
    (y6_6 : PySem.W.specialIn K (.builtin "object.__class__") "__get__" = some (some (.builtin "getset_descriptor.__get__")))
    (y7_6 : PySem.W.takesIn K (.builtin "object.__class__") = some true)
    (y8_6 : PySem.W.mroIn K f6 (.type "object") = some true)
    (xn_block_6 : PySem.W.findIn K (.ref f6) "block" = some none)
    (xa7 : PySem.W.nsIn K mainGlobals "NoPromise" = some (some (.ref f7)))
    (xl7 : K.lookup f7 = some (DXE.exC "NoPromise" xQ7 f7 xN7 xb7 ((xBases "NoPromise").map Value.type) true xsn7 xs7 xab7 xco7 xd7 x0_7 x1_7 x2_7 x3_7 x5_7 "LookupError.__new__"))
    (xs7 : PySem.W.findIn K (.ref f7) "__setattr__" = some (some (.builtin "object.__setattr__")))
    (xu7 : PySem.W.subIn K (.ref f7) (.type "LookupError") = some true)
    (xk7 : PySem.W.keepIn K (.ref f7) = true)
    (xi7 : PySem.W.findIn K (.ref f7) "__init__" = some (some (.ref g7)))
    (xt7 : PySem.W.typeIn K (.ref g7) = some (.type "function"))
    (xf7 : K.lookup g7 = some ⟨yo7, yod7, .func (PySem.W.fnX "__init__" "NoPromise.__init__" (defArgs i_NoPromise) (defBody i_NoPromise) (defScope i_NoPromise) [("__class__", q7)] .none .none yd7 yp7 none (.ref cd7) yc7), ysl7⟩)
    (xc7 : PySem.W.codeIn K (.ref cd7) "NoPromise.__init__" = true)
    (xr7 : K.lookup cd7 = some ⟨ro7, rod7, .fields rv7, rsl7⟩)
    (xv7 : rv7[2]? = some (.str fl7 tf7))
    (xw7 : ((P.main.file : Str) == fl7) = true)
    (xe7 : K.lookup q7 = some ⟨eo7, eod7, .cell (some (.ref f7)), esl7⟩)
    (xp7 : PySem.W.ks_superIn K f7 f7 "__init__" = some (some (.builtin "LookupError.__init__")))
    (xm7 : PySem.W.mroIn K f7 (.ref f7) = some true)
    (y1_7 : PySem.W.findIn K (.ref f7) "__getattribute__" = some (some (.builtin "BaseException.__getattribute__")))
    (y2_7 : PySem.W.findIn K (.ref f7) "__getattr__" = some none)
    (y3_7 : PySem.W.subIn K (.ref f7) (.type "BaseException") = some true)
    (y4_7 : PySem.W.hasDictIn K f7 = true)
    (y5_7 : PySem.W.findIn K (.ref f7) "__class__" = some (some (.builtin "object.__class__")))
    (y6_7 : PySem.W.specialIn K (.builtin "object.__class__") "__get__" = some (some (.builtin "getset_descriptor.__get__")))
    (y7_7 : PySem.W.takesIn K (.builtin "object.__class__") = some true)
    (y8_7 : PySem.W.mroIn K f7 (.type "object") = some true)
    (xn_name_7 : PySem.W.findIn K (.ref f7) "name" = some none)
    (xn_block_7 : PySem.W.findIn K (.ref f7) "block" = some none)
    (xa8 : PySem.W.nsIn K mainGlobals "NoItem" = some (some (.ref f8)))
    (xl8 : K.lookup f8 = some (DXE.exC "NoItem" xQ8 f8 xN8 xb8 ((xBases "NoItem").map Value.type) true xsn8 xs8 xab8 xco8 xd8 x0_8 x1_8 x2_8 x3_8 x5_8 "LookupError.__new__"))
    (xs8 : PySem.W.findIn K (.ref f8) "__setattr__" = some (some (.builtin "object.__setattr__")))
    (xu8 : PySem.W.subIn K (.ref f8) (.type "LookupError") = some true)
    (xk8 : PySem.W.keepIn K (.ref f8) = true)
    (xi8 : PySem.W.findIn K (.ref f8) "__init__" = some (some (.ref g8)))
    (xt8 : PySem.W.typeIn K (.ref g8) = some (.type "function"))
    (xf8 : K.lookup g8 = some ⟨yo8, yod8, .func (PySem.W.fnX "__init__" "NoItem.__init__" (defArgs i_NoItem) (defBody i_NoItem) (defScope i_NoItem) [("__class__", q8)] .none .none yd8 yp8 none (.ref cd8) yc8), ysl8⟩)
    (xc8 : PySem.W.codeIn K (.ref cd8) "NoItem.__init__" = true)
    (xr8 : K.lookup cd8 = some ⟨ro8, rod8, .fields rv8, rsl8⟩)
    (xv8 : rv8[2]? = some (.str fl8 tf8))
    (xw8 : ((P.main.file : Str) == fl8) = true)
    (xe8 : K.lookup q8 = some ⟨eo8, eod8, .cell (some (.ref f8)), esl8⟩)
    (xp8 : PySem.W.ks_superIn K f8 f8 "__init__" = some (some (.builtin "LookupError.__init__")))
    (xm8 : PySem.W.mroIn K f8 (.ref f8) = some true)
    (y1_8 : PySem.W.findIn K (.ref f8) "__getattribute__" = some (some (.builtin "BaseException.__getattribute__")))
    (y2_8 : PySem.W.findIn K (.ref f8) "__getattr__" = some none)
    (y3_8 : PySem.W.subIn K (.ref f8) (.type "BaseException") = some true)
    (y4_8 : PySem.W.hasDictIn K f8 = true)
    (y5_8 : PySem.W.findIn K (.ref f8) "__class__" = some (some (.builtin "object.__class__")))
    (y6_8 : PySem.W.specialIn K (.builtin "object.__class__") "__get__" = some (some (.builtin "getset_descriptor.__get__")))
    (y7_8 : PySem.W.takesIn K (.builtin "object.__class__") = some true)
    (y8_8 : PySem.W.mroIn K f8 (.type "object") = some true)
    (xn_number_8 : PySem.W.findIn K (.ref f8) "number" = some none)
    (xa9 : PySem.W.nsIn K mainGlobals "NoStep" = some (some (.ref f9)))
    (xl9 : K.lookup f9 = some (DXE.exC "NoStep" xQ9 f9 xN9 xb9 ((xBases "NoStep").map Value.type) true xsn9 xs9 xab9 xco9 xd9 x0_9 x1_9 x2_9 x3_9 x5_9 "LookupError.__new__"))
    (xs9 : PySem.W.findIn K (.ref f9) "__setattr__" = some (some (.builtin "object.__setattr__")))
    (xu9 : PySem.W.subIn K (.ref f9) (.type "LookupError") = some true)
    (xk9 : PySem.W.keepIn K (.ref f9) = true)
    (xi9 : PySem.W.findIn K (.ref f9) "__init__" = some (some (.ref g9)))
    (xt9 : PySem.W.typeIn K (.ref g9) = some (.type "function"))
    (xf9 : K.lookup g9 = some ⟨yo9, yod9, .func (PySem.W.fnX "__init__" "NoStep.__init__" (defArgs i_NoStep) (defBody i_NoStep) (defScope i_NoStep) [("__class__", q9)] .none .none yd9 yp9 none (.ref cd9) yc9), ysl9⟩)
    (xc9 : PySem.W.codeIn K (.ref cd9) "NoStep.__init__" = true)
    (xr9 : K.lookup cd9 = some ⟨ro9, rod9, .fields rv9, rsl9⟩)
    (xv9 : rv9[2]? = some (.str fl9 tf9))
    (xw9 : ((P.main.file : Str) == fl9) = true)
    (xe9 : K.lookup q9 = some ⟨eo9, eod9, .cell (some (.ref f9)), esl9⟩)
    (xp9 : PySem.W.ks_superIn K f9 f9 "__init__" = some (some (.builtin "LookupError.__init__")))
    (xm9 : PySem.W.mroIn K f9 (.ref f9) = some true)
    (y1_9 : PySem.W.findIn K (.ref f9) "__getattribute__" = some (some (.builtin "BaseException.__getattribute__")))
    (y2_9 : PySem.W.findIn K (.ref f9) "__getattr__" = some none)
    (y3_9 : PySem.W.subIn K (.ref f9) (.type "BaseException") = some true)
    (y4_9 : PySem.W.hasDictIn K f9 = true)
    (y5_9 : PySem.W.findIn K (.ref f9) "__class__" = some (some (.builtin "object.__class__")))
    (y6_9 : PySem.W.specialIn K (.builtin "object.__class__") "__get__" = some (some (.builtin "getset_descriptor.__get__")))
    (y7_9 : PySem.W.takesIn K (.builtin "object.__class__") = some true)
    (y8_9 : PySem.W.mroIn K f9 (.type "object") = some true)
    (xn_index_9 : PySem.W.findIn K (.ref f9) "index" = some none)
    (xa10 : PySem.W.nsIn K mainGlobals "Full" = some (some (.ref f10)))
    (xl10 : K.lookup f10 = some (DXE.exC "Full" xQ10 f10 xN10 xb10 ((xBases "Full").map Value.type) true xsn10 xs10 xab10 xco10 xd10 x0_10 x1_10 x2_10 x3_10 x5_10 "RuntimeError.__new__"))
    (xs10 : PySem.W.findIn K (.ref f10) "__setattr__" = some (some (.builtin "object.__setattr__")))
    (xu10 : PySem.W.subIn K (.ref f10) (.type "RuntimeError") = some true)
    (xk10 : PySem.W.keepIn K (.ref f10) = true)
    (xi10 : PySem.W.findIn K (.ref f10) "__init__" = some (some (.ref g10)))
    (xt10 : PySem.W.typeIn K (.ref g10) = some (.type "function"))
    (xf10 : K.lookup g10 = some ⟨yo10, yod10, .func (PySem.W.fnX "__init__" "Full.__init__" (defArgs i_Full) (defBody i_Full) (defScope i_Full) [("__class__", q10)] .none .none yd10 yp10 none (.ref cd10) yc10), ysl10⟩)
    (xc10 : PySem.W.codeIn K (.ref cd10) "Full.__init__" = true)
    (xr10 : K.lookup cd10 = some ⟨ro10, rod10, .fields rv10, rsl10⟩)
    (xv10 : rv10[2]? = some (.str fl10 tf10))
    (xw10 : ((P.main.file : Str) == fl10) = true)
    (xe10 : K.lookup q10 = some ⟨eo10, eod10, .cell (some (.ref f10)), esl10⟩)
    (xp10 : PySem.W.ks_superIn K f10 f10 "__init__" = some (some (.builtin "RuntimeError.__init__")))
    (xm10 : PySem.W.mroIn K f10 (.ref f10) = some true)
    (y1_10 : PySem.W.findIn K (.ref f10) "__getattribute__" = some (some (.builtin "BaseException.__getattribute__")))
    (y2_10 : PySem.W.findIn K (.ref f10) "__getattr__" = some none)
    (y3_10 : PySem.W.subIn K (.ref f10) (.type "BaseException") = some true)
    (y4_10 : PySem.W.hasDictIn K f10 = true)
    (y5_10 : PySem.W.findIn K (.ref f10) "__class__" = some (some (.builtin "object.__class__")))
    (y6_10 : PySem.W.specialIn K (.builtin "object.__class__") "__get__" = some (some (.builtin "getset_descriptor.__get__")))
    (y7_10 : PySem.W.takesIn K (.builtin "object.__class__") = some true)
    (y8_10 : PySem.W.mroIn K f10 (.type "object") = some true)
    (xn_order_10 : PySem.W.findIn K (.ref f10) "order" = some none)
    (xo : PySem.W.nsIn K cStatics "thirdparty.any" = some none) (xq : (P.main.scope.names.lookup ("super" : Str)).isSome = false)
    (z_IndexError : PySem.W.nsIn K mainGlobals "IndexError" = some none)
    (z_KeyError : PySem.W.nsIn K mainGlobals "KeyError" = some none)
    (z_LookupError : PySem.W.nsIn K mainGlobals "LookupError" = some none)
    (z_RuntimeError : PySem.W.nsIn K mainGlobals "RuntimeError" = some none)
    (z_ValueError : PySem.W.nsIn K mainGlobals "ValueError" = some none)
    (z_abs : PySem.W.nsIn K mainGlobals "abs" = some none)
    (z_all : PySem.W.nsIn K mainGlobals "all" = some none)
    (z_bool : PySem.W.nsIn K mainGlobals "bool" = some none)
    (z_enumerate : PySem.W.nsIn K mainGlobals "enumerate" = some none)
    (z_int : PySem.W.nsIn K mainGlobals "int" = some none)
    (z_isinstance : PySem.W.nsIn K mainGlobals "isinstance" = some none)
    (z_len : PySem.W.nsIn K mainGlobals "len" = some none)
    (z_list : PySem.W.nsIn K mainGlobals "list" = some none)
    (z_min : PySem.W.nsIn K mainGlobals "min" = some none)
    (z_range : PySem.W.nsIn K mainGlobals "range" = some none)
    (z_str : PySem.W.nsIn K mainGlobals "str" = some none)
    (z_super : PySem.W.nsIn K mainGlobals "super" = some none)
    (z_tuple : PySem.W.nsIn K mainGlobals "tuple" = some none)
    (z_zip : PySem.W.nsIn K mainGlobals "zip" = some none) :
    ∃ fd : FuncData, (∀ (s : Shared) (u : Value), BindsTo s fd ⟨[u], []⟩ [("_law_script", u)]) ∧ ∀ base : Heap, K.In base → base.Ns mainGlobals mg → FnG P w K mg base CX0 7 fa fd ["_law_script"] (spD K 1 f_law) := by
  have e := hfa.symm.trans (PySem.W.mg_of X G a21)
  cases e
  have T : Txt P K mg (fun i => match i with | 12 => f12 | 13 => f13 | 14 => f14 | 15 => f15 | 16 => f16 | 17 => f17 | 18 => f18 | 19 => f19 | 20 => f20 | 21 => fa | 1 => f1 | 1001 => g1 | 2001 => q1 | 3001 => cd1 | 2 => f2 | 1002 => g2 | 2002 => q2 | 3002 => cd2 | 3 => f3 | 1003 => g3 | 2003 => q3 | 3003 => cd3 | 4 => f4 | 1004 => g4 | 2004 => q4 | 3004 => cd4 | 5 => f5 | 1005 => g5 | 2005 => q5 | 3005 => cd5 | 6 => f6 | 1006 => g6 | 2006 => q6 | 3006 => cd6 | 7 => f7 | 1007 => g7 | 2007 => q7 | 3007 => cd7 | 8 => f8 | 1008 => g8 | 2008 => q8 | 3008 => cd8 | 9 => f9 | 1009 => g9 | 2009 => q9 | 3009 => cd9 | 10 => f10 | 1010 => g10 | 2010 => q10 | 3010 => cd10 | _ => 0)
      (fun i => match i with | 1001 => (PySem.W.fnX "__init__" "Known.__init__" (defArgs i_Known) (defBody i_Known) (defScope i_Known) [("__class__", q1)] .none .none yd1 yp1 none (.ref cd1) yc1) | 1002 => (PySem.W.fnX "__init__" "BadText.__init__" (defArgs i_BadText) (defBody i_BadText) (defScope i_BadText) [("__class__", q2)] .none .none yd2 yp2 none (.ref cd2) yc2) | 1003 => (PySem.W.fnX "__init__" "BadLine.__init__" (defArgs i_BadLine) (defBody i_BadLine) (defScope i_BadLine) [("__class__", q3)] .none .none yd3 yp3 none (.ref cd3) yc3) | 1004 => (PySem.W.fnX "__init__" "Unexplained.__init__" (defArgs i_Unexplained) (defBody i_Unexplained) (defScope i_Unexplained) [("__class__", q4)] .none .none yd4 yp4 none (.ref cd4) yc4) | 1005 => (PySem.W.fnX "__init__" "NoFile.__init__" (defArgs i_NoFile) (defBody i_NoFile) (defScope i_NoFile) [("__class__", q5)] .none .none yd5 yp5 none (.ref cd5) yc5) | 1006 => (PySem.W.fnX "__init__" "NoBlock.__init__" (defArgs i_NoBlock) (defBody i_NoBlock) (defScope i_NoBlock) [("__class__", q6)] .none .none yd6 yp6 none (.ref cd6) yc6) | 1007 => (PySem.W.fnX "__init__" "NoPromise.__init__" (defArgs i_NoPromise) (defBody i_NoPromise) (defScope i_NoPromise) [("__class__", q7)] .none .none yd7 yp7 none (.ref cd7) yc7) | 1008 => (PySem.W.fnX "__init__" "NoItem.__init__" (defArgs i_NoItem) (defBody i_NoItem) (defScope i_NoItem) [("__class__", q8)] .none .none yd8 yp8 none (.ref cd8) yc8) | 1009 => (PySem.W.fnX "__init__" "NoStep.__init__" (defArgs i_NoStep) (defBody i_NoStep) (defScope i_NoStep) [("__class__", q9)] .none .none yd9 yp9 none (.ref cd9) yc9) | 1010 => (PySem.W.fnX "__init__" "Full.__init__" (defArgs i_Full) (defBody i_Full) (defScope i_Full) [("__class__", q10)] .none .none yd10 yp10 none (.ref cd10) yc10) | 12 => (PySem.W.fnOf "_law_cell_at" "_law_cell_at" (defArgs s__law_cell_at) (defBody s__law_cell_at) (defScope s__law_cell_at) .none kV12 dc12 pm12 an12 cd12 ct12) | 13 => (PySem.W.fnOf "_law_box" "_law_box" (defArgs s__law_box) (defBody s__law_box) (defScope s__law_box) .none kV13 dc13 pm13 an13 cd13 ct13) | 14 => (PySem.W.fnOf "_law_take" "_law_take" (defArgs s__law_take) (defBody s__law_take) (defScope s__law_take) .none kV14 dc14 pm14 an14 cd14 ct14) | 15 => (PySem.W.fnOf "_law_of" "_law_of" (defArgs s__law_of) (defBody s__law_of) (defScope s__law_of) .none kV15 dc15 pm15 an15 cd15 ct15) | 16 => (PySem.W.fnOf "_law_same" "_law_same" (defArgs s__law_same) (defBody s__law_same) (defScope s__law_same) .none kV16 dc16 pm16 an16 cd16 ct16) | 17 => (PySem.W.fnOf "_law_sorts" "_law_sorts" (defArgs s__law_sorts) (defBody s__law_sorts) (defScope s__law_sorts) .none kV17 dc17 pm17 an17 cd17 ct17) | 18 => (PySem.W.fnOf "_law_bases" "_law_bases" (defArgs s__law_bases) (defBody s__law_bases) (defScope s__law_bases) .none kV18 dc18 pm18 an18 cd18 ct18) | 19 => (PySem.W.fnOf "_law_kept" "_law_kept" (defArgs s__law_kept) (defBody s__law_kept) (defScope s__law_kept) .none kV19 dc19 pm19 an19 cd19 ct19) | 20 => (PySem.W.fnOf "_law_right" "_law_right" (defArgs s__law_right) (defBody s__law_right) (defScope s__law_right) .none kV20 dc20 pm20 an20 cd20 ct20) | 21 => (PySem.W.fnOf "law" "law" (defArgs s_law) (defBody s_law) (defScope s_law) .none kV21 dc21 pm21 an21 cd21 ct21) | _ => (PySem.W.fnX "__init__" "Known.__init__" (defArgs i_Known) (defBody i_Known) (defScope i_Known) [("__class__", q1)] .none .none yd1 yp1 none (.ref cd1) yc1))
      (fun i => match i with  | _ => 0) :=
    { xg_Known := PySem.W.mg_of X G xa1,
      xc_Known := ⟨F.excBase_ValueError, PySem.W.kxs_ValueError, F.store_ValueError, xa1, ⟨_, _, _, _, _, _, _, _, _, _, _, _, _, xl1⟩, xs1, xu1, xk1⟩,
      xi_Known := ⟨xi1, xt1, ⟨_, _, _, _, _, _, rfl, xf1⟩, xc1, ⟨_, _, _, _, _, _, xr1, xv1, xw1⟩, ⟨_, _, _, _, rfl, xe1⟩, xo, xp1, xm1, xq⟩,
      xe_Known := ⟨y1_1, y2_1, y3_1, y4_1, y5_1, y6_1, y7_1, y8_1⟩,
      xn_Known_name := xn_name_1,
      xg_BadText := PySem.W.mg_of X G xa2,
      xc_BadText := ⟨F.excBase_ValueError, PySem.W.kxs_ValueError, F.store_ValueError, xa2, ⟨_, _, _, _, _, _, _, _, _, _, _, _, _, xl2⟩, xs2, xu2, xk2⟩,
      xi_BadText := ⟨xi2, xt2, ⟨_, _, _, _, _, _, rfl, xf2⟩, xc2, ⟨_, _, _, _, _, _, xr2, xv2, xw2⟩, ⟨_, _, _, _, rfl, xe2⟩, xo, xp2, xm2, xq⟩,
      xe_BadText := ⟨y1_2, y2_2, y3_2, y4_2, y5_2, y6_2, y7_2, y8_2⟩,
      xg_BadLine := PySem.W.mg_of X G xa3,
      xc_BadLine := ⟨F.excBase_ValueError, PySem.W.kxs_ValueError, F.store_ValueError, xa3, ⟨_, _, _, _, _, _, _, _, _, _, _, _, _, xl3⟩, xs3, xu3, xk3⟩,
      xi_BadLine := ⟨xi3, xt3, ⟨_, _, _, _, _, _, rfl, xf3⟩, xc3, ⟨_, _, _, _, _, _, xr3, xv3, xw3⟩, ⟨_, _, _, _, rfl, xe3⟩, xo, xp3, xm3, xq⟩,
      xe_BadLine := ⟨y1_3, y2_3, y3_3, y4_3, y5_3, y6_3, y7_3, y8_3⟩,
      xn_BadLine_number := xn_number_3,
      xg_Unexplained := PySem.W.mg_of X G xa4,
      xc_Unexplained := ⟨F.excBase_ValueError, PySem.W.kxs_ValueError, F.store_ValueError, xa4, ⟨_, _, _, _, _, _, _, _, _, _, _, _, _, xl4⟩, xs4, xu4, xk4⟩,
      xi_Unexplained := ⟨xi4, xt4, ⟨_, _, _, _, _, _, rfl, xf4⟩, xc4, ⟨_, _, _, _, _, _, xr4, xv4, xw4⟩, ⟨_, _, _, _, rfl, xe4⟩, xo, xp4, xm4, xq⟩,
      xe_Unexplained := ⟨y1_4, y2_4, y3_4, y4_4, y5_4, y6_4, y7_4, y8_4⟩,
      xn_Unexplained_index := xn_index_4,
      xg_NoFile := PySem.W.mg_of X G xa5,
      xc_NoFile := ⟨F.excBase_LookupError, PySem.W.kxs_LookupError, F.store_LookupError, xa5, ⟨_, _, _, _, _, _, _, _, _, _, _, _, _, xl5⟩, xs5, xu5, xk5⟩,
      xi_NoFile := ⟨xi5, xt5, ⟨_, _, _, _, _, _, rfl, xf5⟩, xc5, ⟨_, _, _, _, _, _, xr5, xv5, xw5⟩, ⟨_, _, _, _, rfl, xe5⟩, xo, xp5, xm5, xq⟩,
      xe_NoFile := ⟨y1_5, y2_5, y3_5, y4_5, y5_5, y6_5, y7_5, y8_5⟩,
      xn_NoFile_name := xn_name_5,
      xg_NoBlock := PySem.W.mg_of X G xa6,
      xc_NoBlock := ⟨F.excBase_LookupError, PySem.W.kxs_LookupError, F.store_LookupError, xa6, ⟨_, _, _, _, _, _, _, _, _, _, _, _, _, xl6⟩, xs6, xu6, xk6⟩,
      xi_NoBlock := ⟨xi6, xt6, ⟨_, _, _, _, _, _, rfl, xf6⟩, xc6, ⟨_, _, _, _, _, _, xr6, xv6, xw6⟩, ⟨_, _, _, _, rfl, xe6⟩, xo, xp6, xm6, xq⟩,
      xe_NoBlock := ⟨y1_6, y2_6, y3_6, y4_6, y5_6, y6_6, y7_6, y8_6⟩,
      xn_NoBlock_block := xn_block_6,
      xg_NoPromise := PySem.W.mg_of X G xa7,
      xc_NoPromise := ⟨F.excBase_LookupError, PySem.W.kxs_LookupError, F.store_LookupError, xa7, ⟨_, _, _, _, _, _, _, _, _, _, _, _, _, xl7⟩, xs7, xu7, xk7⟩,
      xi_NoPromise := ⟨xi7, xt7, ⟨_, _, _, _, _, _, rfl, xf7⟩, xc7, ⟨_, _, _, _, _, _, xr7, xv7, xw7⟩, ⟨_, _, _, _, rfl, xe7⟩, xo, xp7, xm7, xq⟩,
      xe_NoPromise := ⟨y1_7, y2_7, y3_7, y4_7, y5_7, y6_7, y7_7, y8_7⟩,
      xn_NoPromise_name := xn_name_7,
      xn_NoPromise_block := xn_block_7,
      xg_NoItem := PySem.W.mg_of X G xa8,
      xc_NoItem := ⟨F.excBase_LookupError, PySem.W.kxs_LookupError, F.store_LookupError, xa8, ⟨_, _, _, _, _, _, _, _, _, _, _, _, _, xl8⟩, xs8, xu8, xk8⟩,
      xi_NoItem := ⟨xi8, xt8, ⟨_, _, _, _, _, _, rfl, xf8⟩, xc8, ⟨_, _, _, _, _, _, xr8, xv8, xw8⟩, ⟨_, _, _, _, rfl, xe8⟩, xo, xp8, xm8, xq⟩,
      xe_NoItem := ⟨y1_8, y2_8, y3_8, y4_8, y5_8, y6_8, y7_8, y8_8⟩,
      xn_NoItem_number := xn_number_8,
      xg_NoStep := PySem.W.mg_of X G xa9,
      xc_NoStep := ⟨F.excBase_LookupError, PySem.W.kxs_LookupError, F.store_LookupError, xa9, ⟨_, _, _, _, _, _, _, _, _, _, _, _, _, xl9⟩, xs9, xu9, xk9⟩,
      xi_NoStep := ⟨xi9, xt9, ⟨_, _, _, _, _, _, rfl, xf9⟩, xc9, ⟨_, _, _, _, _, _, xr9, xv9, xw9⟩, ⟨_, _, _, _, rfl, xe9⟩, xo, xp9, xm9, xq⟩,
      xe_NoStep := ⟨y1_9, y2_9, y3_9, y4_9, y5_9, y6_9, y7_9, y8_9⟩,
      xn_NoStep_index := xn_index_9,
      xg_Full := PySem.W.mg_of X G xa10,
      xc_Full := ⟨F.excBase_RuntimeError, PySem.W.kxs_RuntimeError, F.store_RuntimeError, xa10, ⟨_, _, _, _, _, _, _, _, _, _, _, _, _, xl10⟩, xs10, xu10, xk10⟩,
      xi_Full := ⟨xi10, xt10, ⟨_, _, _, _, _, _, rfl, xf10⟩, xc10, ⟨_, _, _, _, _, _, xr10, xv10, xw10⟩, ⟨_, _, _, _, rfl, xe10⟩, xo, xp10, xm10, xq⟩,
      xe_Full := ⟨y1_10, y2_10, y3_10, y4_10, y5_10, y6_10, y7_10, y8_10⟩,
      xn_Full_order := xn_order_10,
      g__law_cell_at := PySem.W.mg_of X G a12,
      F__law_cell_at := fun_mk (st := s__law_cell_at) l12 c12 k12,
      g__law_box := PySem.W.mg_of X G a13,
      F__law_box := fun_mk (st := s__law_box) l13 c13 k13,
      g__law_take := PySem.W.mg_of X G a14,
      F__law_take := fun_mk (st := s__law_take) l14 c14 k14,
      g__law_of := PySem.W.mg_of X G a15,
      F__law_of := fun_mk (st := s__law_of) l15 c15 k15,
      g__law_same := PySem.W.mg_of X G a16,
      F__law_same := fun_mk (st := s__law_same) l16 c16 k16,
      g__law_sorts := PySem.W.mg_of X G a17,
      F__law_sorts := fun_mk (st := s__law_sorts) l17 c17 k17,
      g__law_bases := PySem.W.mg_of X G a18,
      F__law_bases := fun_mk (st := s__law_bases) l18 c18 k18,
      g__law_kept := PySem.W.mg_of X G a19,
      F__law_kept := fun_mk (st := s__law_kept) l19 c19 k19,
      g__law_right := PySem.W.mg_of X G a20,
      F__law_right := fun_mk (st := s__law_right) l20 c20 k20,
      g_law := PySem.W.mg_of X G a21,
      F_law := fun_mk (st := s_law) l21 c21 k21,
      n_IndexError := PySem.W.mg_none_of X G z_IndexError,
      n_KeyError := PySem.W.mg_none_of X G z_KeyError,
      n_LookupError := PySem.W.mg_none_of X G z_LookupError,
      n_RuntimeError := PySem.W.mg_none_of X G z_RuntimeError,
      n_ValueError := PySem.W.mg_none_of X G z_ValueError,
      n_abs := PySem.W.mg_none_of X G z_abs,
      n_all := PySem.W.mg_none_of X G z_all,
      n_bool := PySem.W.mg_none_of X G z_bool,
      n_enumerate := PySem.W.mg_none_of X G z_enumerate,
      n_int := PySem.W.mg_none_of X G z_int,
      n_isinstance := PySem.W.mg_none_of X G z_isinstance,
      n_len := PySem.W.mg_none_of X G z_len,
      n_list := PySem.W.mg_none_of X G z_list,
      n_min := PySem.W.mg_none_of X G z_min,
      n_range := PySem.W.mg_none_of X G z_range,
      n_str := PySem.W.mg_none_of X G z_str,
      n_super := PySem.W.mg_none_of X G z_super,
      n_tuple := PySem.W.mg_none_of X G z_tuple,
      n_zip := PySem.W.mg_none_of X G z_zip }
  exact ⟨_, fun s u => .of_eq rfl, fun base _ _ => ok_law T⟩
end K01
end L2
open PySem PySem.W PyProof.Rows
set_option maxHeartbeats 0 in
theorem PySem.Challenge.cw_neverfull_k01_errors_holds : PySem.Challenge.rw_neverfull_k01_errors.Holds := by
  w_on; o_law; k_head; (case hw => w_witness2)
  k_fill
  refine L2.DL.end_law (l := PySem.Challenge.rw_neverfull_k01_errors) (n := 63) (k := 7) (x := "_law_script") (fn := L2.K01.f_law) rfl (by decide) rfl ⟨rfl, by decide, by decide⟩ (fun w h Y => PySem.W.kIn_of Y) ?F L2.K01.law_true
  case F =>
    intro w mg fa h KX G hmg
    refine' L2.K01.all_mk KX G hmg ?a12 ?l12 ?c12 ?k12 ?a13 ?l13 ?c13 ?k13 ?a14 ?l14 ?c14 ?k14 ?a15 ?l15 ?c15 ?k15 ?a16 ?l16 ?c16 ?k16 ?a17 ?l17 ?c17 ?k17 ?a18 ?l18 ?c18 ?k18 ?a19 ?l19 ?c19 ?k19 ?a20 ?l20 ?c20 ?k20 ?a21 ?l21 ?c21 ?k21 ?xa1 ?xl1 ?xs1 ?xu1 ?xk1 ?xi1 ?xt1 ?xf1 ?xc1 ?xr1 ?xv1 ?xw1 ?xe1 ?xp1 ?xm1 ?y1_1 ?y2_1 ?y3_1 ?y4_1 ?y5_1 ?y6_1 ?y7_1 ?y8_1 ?xn_name_1 ?xa2 ?xl2 ?xs2 ?xu2 ?xk2 ?xi2 ?xt2 ?xf2 ?xc2 ?xr2 ?xv2 ?xw2 ?xe2 ?xp2 ?xm2 ?y1_2 ?y2_2 ?y3_2 ?y4_2 ?y5_2 ?y6_2 ?y7_2 ?y8_2 ?xa3 ?xl3 ?xs3 ?xu3 ?xk3 ?xi3 ?xt3 ?xf3 ?xc3 ?xr3 ?xv3 ?xw3 ?xe3 ?xp3 ?xm3 ?y1_3 ?y2_3 ?y3_3 ?y4_3 ?y5_3 ?y6_3 ?y7_3 ?y8_3 ?xn_number_3 ?xa4 ?xl4 ?xs4 ?xu4 ?xk4 ?xi4 ?xt4 ?xf4 ?xc4 ?xr4 ?xv4 ?xw4 ?xe4 ?xp4 ?xm4 ?y1_4 ?y2_4 ?y3_4 ?y4_4 ?y5_4 ?y6_4 ?y7_4 ?y8_4 ?xn_index_4 ?xa5 ?xl5 ?xs5 ?xu5 ?xk5 ?xi5 ?xt5 ?xf5 ?xc5 ?xr5 ?xv5 ?xw5 ?xe5 ?xp5 ?xm5 ?y1_5 ?y2_5 ?y3_5 ?y4_5 ?y5_5 ?y6_5 ?y7_5 ?y8_5 ?xn_name_5 ?xa6 ?xl6 ?xs6 ?xu6 ?xk6 ?xi6 ?xt6 ?xf6 ?xc6 ?xr6 ?xv6 ?xw6 ?xe6 ?xp6 ?xm6 ?y1_6 ?y2_6 ?y3_6 ?y4_6 ?y5_6 ?y6_6 ?y7_6 ?y8_6 ?xn_block_6 ?xa7 ?xl7 ?xs7 ?xu7 ?xk7 ?xi7 ?xt7 ?xf7 ?xc7 ?xr7 ?xv7 ?xw7 ?xe7 ?xp7 ?xm7 ?y1_7 ?y2_7 ?y3_7 ?y4_7 ?y5_7 ?y6_7 ?y7_7 ?y8_7 ?xn_name_7 ?xn_block_7 ?xa8 ?xl8 ?xs8 ?xu8 ?xk8 ?xi8 ?xt8 ?xf8 ?xc8 ?xr8 ?xv8 ?xw8 ?xe8 ?xp8 ?xm8 ?y1_8 ?y2_8 ?y3_8 ?y4_8 ?y5_8 ?y6_8 ?y7_8 ?y8_8 ?xn_number_8 ?xa9 ?xl9 ?xs9 ?xu9 ?xk9 ?xi9 ?xt9 ?xf9 ?xc9 ?xr9 ?xv9 ?xw9 ?xe9 ?xp9 ?xm9 ?y1_9 ?y2_9 ?y3_9 ?y4_9 ?y5_9 ?y6_9 ?y7_9 ?y8_9 ?xn_index_9 ?xa10 ?xl10 ?xs10 ?xu10 ?xk10 ?xi10 ?xt10 ?xf10 ?xc10 ?xr10 ?xv10 ?xw10 ?xe10 ?xp10 ?xm10 ?y1_10 ?y2_10 ?y3_10 ?y4_10 ?y5_10 ?y6_10 ?y7_10 ?y8_10 ?xn_order_10 ?xo ?xq ?z_IndexError ?z_KeyError ?z_LookupError ?z_RuntimeError ?z_ValueError ?z_abs ?z_all ?z_bool ?z_enumerate ?z_int ?z_isinstance ?z_len ?z_list ?z_min ?z_range ?z_str ?z_super ?z_tuple ?z_zip
    (case a12 => first | k_is | rfl)
    (case l12 => first | k_is | rfl)
    (case c12 => first | k_is | rfl)
    (case k12 => first | k_is | rfl)
    (case a13 => first | k_is | rfl)
    (case l13 => first | k_is | rfl)
    (case c13 => first | k_is | rfl)
    (case k13 => first | k_is | rfl)
    (case a14 => first | k_is | rfl)
    (case l14 => first | k_is | rfl)
    (case c14 => first | k_is | rfl)
    (case k14 => first | k_is | rfl)
    (case a15 => first | k_is | rfl)
    (case l15 => first | k_is | rfl)
    (case c15 => first | k_is | rfl)
    (case k15 => first | k_is | rfl)
    (case a16 => first | k_is | rfl)
    (case l16 => first | k_is | rfl)
    (case c16 => first | k_is | rfl)
    (case k16 => first | k_is | rfl)
    (case a17 => first | k_is | rfl)
    (case l17 => first | k_is | rfl)
    (case c17 => first | k_is | rfl)
    (case k17 => first | k_is | rfl)
    (case a18 => first | k_is | rfl)
    (case l18 => first | k_is | rfl)
    (case c18 => first | k_is | rfl)
    (case k18 => first | k_is | rfl)
    (case a19 => first | k_is | rfl)
    (case l19 => first | k_is | rfl)
    (case c19 => first | k_is | rfl)
    (case k19 => first | k_is | rfl)
    (case a20 => first | k_is | rfl)
    (case l20 => first | k_is | rfl)
    (case c20 => first | k_is | rfl)
    (case k20 => first | k_is | rfl)
    (case a21 => first | k_is | rfl)
    (case l21 => first | k_is | rfl)
    (case c21 => first | k_is | rfl)
    (case k21 => first | k_is | rfl)
    (case xa1 => first | k_is | ks_is | rfl | kernel_rfl | decide)
    (case xl1 => first | k_is | ks_is | rfl | kernel_rfl | decide)
    (case xs1 => first | k_is | ks_is | rfl | kernel_rfl | decide)
    (case xu1 => first | k_is | ks_is | rfl | kernel_rfl | decide)
    (case xk1 => first | k_is | ks_is | rfl | kernel_rfl | decide)
    (case xi1 => first | k_is | ks_is | rfl | kernel_rfl | decide)
    (case xt1 => first | k_is | ks_is | rfl | kernel_rfl | decide)
    (case xf1 => first | k_is | ks_is | rfl | kernel_rfl | decide)
    (case xc1 => first | k_is | ks_is | rfl | kernel_rfl | decide)
    (case xr1 => first | k_is | ks_is | rfl | kernel_rfl | decide)
    (case xv1 => first | k_is | ks_is | rfl | kernel_rfl | decide)
    (case xw1 => first | k_is | ks_is | rfl | kernel_rfl | decide)
    (case xe1 => first | k_is | ks_is | rfl | kernel_rfl | decide)
    (case xp1 => first | k_is | ks_is | rfl | kernel_rfl | decide)
    (case xm1 => first | k_is | ks_is | rfl | kernel_rfl | decide)
    (case y1_1 => first | k_is | ks_is | rfl | kernel_rfl | decide)
    (case y2_1 => first | k_is | ks_is | rfl | kernel_rfl | decide)
    (case y3_1 => first | k_is | ks_is | rfl | kernel_rfl | decide)
    (case y4_1 => first | k_is | ks_is | rfl | kernel_rfl | decide)
    (case y5_1 => first | k_is | ks_is | rfl | kernel_rfl | decide)
    (case y6_1 => first | k_is | ks_is | rfl | kernel_rfl | decide)
    (case y7_1 => first | k_is | ks_is | rfl | kernel_rfl | decide)
    (case y8_1 => first | k_is | ks_is | rfl | kernel_rfl | decide)
    (case xn_name_1 => first | k_is | ks_is | rfl | kernel_rfl | decide)
    (case xa2 => first | k_is | ks_is | rfl | kernel_rfl | decide)
    (case xl2 => first | k_is | ks_is | rfl | kernel_rfl | decide)
    (case xs2 => first | k_is | ks_is | rfl | kernel_rfl | decide)
    (case xu2 => first | k_is | ks_is | rfl | kernel_rfl | decide)
    (case xk2 => first | k_is | ks_is | rfl | kernel_rfl | decide)
    (case xi2 => first | k_is | ks_is | rfl | kernel_rfl | decide)
    (case xt2 => first | k_is | ks_is | rfl | kernel_rfl | decide)
    (case xf2 => first | k_is | ks_is | rfl | kernel_rfl | decide)
    (case xc2 => first | k_is | ks_is | rfl | kernel_rfl | decide)
    (case xr2 => first | k_is | ks_is | rfl | kernel_rfl | decide)
    (case xv2 => first | k_is | ks_is | rfl | kernel_rfl | decide)
    (case xw2 => first | k_is | ks_is | rfl | kernel_rfl | decide)
    (case xe2 => first | k_is | ks_is | rfl | kernel_rfl | decide)
    (case xp2 => first | k_is | ks_is | rfl | kernel_rfl | decide)
    (case xm2 => first | k_is | ks_is | rfl | kernel_rfl | decide)
    (case y1_2 => first | k_is | ks_is | rfl | kernel_rfl | decide)
    (case y2_2 => first | k_is | ks_is | rfl | kernel_rfl | decide)
    (case y3_2 => first | k_is | ks_is | rfl | kernel_rfl | decide)
    (case y4_2 => first | k_is | ks_is | rfl | kernel_rfl | decide)
    (case y5_2 => first | k_is | ks_is | rfl | kernel_rfl | decide)
    (case y6_2 => first | k_is | ks_is | rfl | kernel_rfl | decide)
    (case y7_2 => first | k_is | ks_is | rfl | kernel_rfl | decide)
    (case y8_2 => first | k_is | ks_is | rfl | kernel_rfl | decide)
    (case xa3 => first | k_is | ks_is | rfl | kernel_rfl | decide)
    (case xl3 => first | k_is | ks_is | rfl | kernel_rfl | decide)
    (case xs3 => first | k_is | ks_is | rfl | kernel_rfl | decide)
    (case xu3 => first | k_is | ks_is | rfl | kernel_rfl | decide)
    (case xk3 => first | k_is | ks_is | rfl | kernel_rfl | decide)
    (case xi3 => first | k_is | ks_is | rfl | kernel_rfl | decide)
    (case xt3 => first | k_is | ks_is | rfl | kernel_rfl | decide)
    (case xf3 => first | k_is | ks_is | rfl | kernel_rfl | decide)
    (case xc3 => first | k_is | ks_is | rfl | kernel_rfl | decide)
    (case xr3 => first | k_is | ks_is | rfl | kernel_rfl | decide)
    (case xv3 => first | k_is | ks_is | rfl | kernel_rfl | decide)
    (case xw3 => first | k_is | ks_is | rfl | kernel_rfl | decide)
    (case xe3 => first | k_is | ks_is | rfl | kernel_rfl | decide)
    (case xp3 => first | k_is | ks_is | rfl | kernel_rfl | decide)
    (case xm3 => first | k_is | ks_is | rfl | kernel_rfl | decide)
    (case y1_3 => first | k_is | ks_is | rfl | kernel_rfl | decide)
    (case y2_3 => first | k_is | ks_is | rfl | kernel_rfl | decide)
    (case y3_3 => first | k_is | ks_is | rfl | kernel_rfl | decide)
    (case y4_3 => first | k_is | ks_is | rfl | kernel_rfl | decide)
    (case y5_3 => first | k_is | ks_is | rfl | kernel_rfl | decide)
    (case y6_3 => first | k_is | ks_is | rfl | kernel_rfl | decide)
    (case y7_3 => first | k_is | ks_is | rfl | kernel_rfl | decide)
    (case y8_3 => first | k_is | ks_is | rfl | kernel_rfl | decide)
    (case xn_number_3 => first | k_is | ks_is | rfl | kernel_rfl | decide)
    (case xa4 => first | k_is | ks_is | rfl | kernel_rfl | decide)
    (case xl4 => first | k_is | ks_is | rfl | kernel_rfl | decide)
    (case xs4 => first | k_is | ks_is | rfl | kernel_rfl | decide)
    (case xu4 => first | k_is | ks_is | rfl | kernel_rfl | decide)
    (case xk4 => first | k_is | ks_is | rfl | kernel_rfl | decide)
    (case xi4 => first | k_is | ks_is | rfl | kernel_rfl | decide)
    (case xt4 => first | k_is | ks_is | rfl | kernel_rfl | decide)
    (case xf4 => first | k_is | ks_is | rfl | kernel_rfl | decide)
    (case xc4 => first | k_is | ks_is | rfl | kernel_rfl | decide)
    (case xr4 => first | k_is | ks_is | rfl | kernel_rfl | decide)
    (case xv4 => first | k_is | ks_is | rfl | kernel_rfl | decide)
    (case xw4 => first | k_is | ks_is | rfl | kernel_rfl | decide)
    (case xe4 => first | k_is | ks_is | rfl | kernel_rfl | decide)
    (case xp4 => first | k_is | ks_is | rfl | kernel_rfl | decide)
    (case xm4 => first | k_is | ks_is | rfl | kernel_rfl | decide)
    (case y1_4 => first | k_is | ks_is | rfl | kernel_rfl | decide)
    (case y2_4 => first | k_is | ks_is | rfl | kernel_rfl | decide)
    (case y3_4 => first | k_is | ks_is | rfl | kernel_rfl | decide)
    (case y4_4 => first | k_is | ks_is | rfl | kernel_rfl | decide)
    (case y5_4 => first | k_is | ks_is | rfl | kernel_rfl | decide)
    (case y6_4 => first | k_is | ks_is | rfl | kernel_rfl | decide)
    (case y7_4 => first | k_is | ks_is | rfl | kernel_rfl | decide)
    (case y8_4 => first | k_is | ks_is | rfl | kernel_rfl | decide)
    (case xn_index_4 => first | k_is | ks_is | rfl | kernel_rfl | decide)
    (case xa5 => first | k_is | ks_is | rfl | kernel_rfl | decide)
    (case xl5 => first | k_is | ks_is | rfl | kernel_rfl | decide)
    (case xs5 => first | k_is | ks_is | rfl | kernel_rfl | decide)
    (case xu5 => first | k_is | ks_is | rfl | kernel_rfl | decide)
    (case xk5 => first | k_is | ks_is | rfl | kernel_rfl | decide)
    (case xi5 => first | k_is | ks_is | rfl | kernel_rfl | decide)
    (case xt5 => first | k_is | ks_is | rfl | kernel_rfl | decide)
    (case xf5 => first | k_is | ks_is | rfl | kernel_rfl | decide)
    (case xc5 => first | k_is | ks_is | rfl | kernel_rfl | decide)
    (case xr5 => first | k_is | ks_is | rfl | kernel_rfl | decide)
    (case xv5 => first | k_is | ks_is | rfl | kernel_rfl | decide)
    (case xw5 => first | k_is | ks_is | rfl | kernel_rfl | decide)
    (case xe5 => first | k_is | ks_is | rfl | kernel_rfl | decide)
    (case xp5 => first | k_is | ks_is | rfl | kernel_rfl | decide)
    (case xm5 => first | k_is | ks_is | rfl | kernel_rfl | decide)
    (case y1_5 => first | k_is | ks_is | rfl | kernel_rfl | decide)
    (case y2_5 => first | k_is | ks_is | rfl | kernel_rfl | decide)
    (case y3_5 => first | k_is | ks_is | rfl | kernel_rfl | decide)
    (case y4_5 => first | k_is | ks_is | rfl | kernel_rfl | decide)
    (case y5_5 => first | k_is | ks_is | rfl | kernel_rfl | decide)
    (case y6_5 => first | k_is | ks_is | rfl | kernel_rfl | decide)
    (case y7_5 => first | k_is | ks_is | rfl | kernel_rfl | decide)
    (case y8_5 => first | k_is | ks_is | rfl | kernel_rfl | decide)
    (case xn_name_5 => first | k_is | ks_is | rfl | kernel_rfl | decide)
    (case xa6 => first | k_is | ks_is | rfl | kernel_rfl | decide)
    (case xl6 => first | k_is | ks_is | rfl | kernel_rfl | decide)
    (case xs6 => first | k_is | ks_is | rfl | kernel_rfl | decide)
    (case xu6 => first | k_is | ks_is | rfl | kernel_rfl | decide)
    (case xk6 => first | k_is | ks_is | rfl | kernel_rfl | decide)
    (case xi6 => first | k_is | ks_is | rfl | kernel_rfl | decide)
    (case xt6 => first | k_is | ks_is | rfl | kernel_rfl | decide)
    (case xf6 => first | k_is | ks_is | rfl | kernel_rfl | decide)
    (case xc6 => first | k_is | ks_is | rfl | kernel_rfl | decide)
    (case xr6 => first | k_is | ks_is | rfl | kernel_rfl | decide)
    (case xv6 => first | k_is | ks_is | rfl | kernel_rfl | decide)
    (case xw6 => first | k_is | ks_is | rfl | kernel_rfl | decide)
    (case xe6 => first | k_is | ks_is | rfl | kernel_rfl | decide)
    (case xp6 => first | k_is | ks_is | rfl | kernel_rfl | decide)
    (case xm6 => first | k_is | ks_is | rfl | kernel_rfl | decide)
    (case y1_6 => first | k_is | ks_is | rfl | kernel_rfl | decide)
    (case y2_6 => first | k_is | ks_is | rfl | kernel_rfl | decide)
    (case y3_6 => first | k_is | ks_is | rfl | kernel_rfl | decide)
    (case y4_6 => first | k_is | ks_is | rfl | kernel_rfl | decide)
    (case y5_6 => first | k_is | ks_is | rfl | kernel_rfl | decide)
    (case y6_6 => first | k_is | ks_is | rfl | kernel_rfl | decide)
    (case y7_6 => first | k_is | ks_is | rfl | kernel_rfl | decide)
    (case y8_6 => first | k_is | ks_is | rfl | kernel_rfl | decide)
    (case xn_block_6 => first | k_is | ks_is | rfl | kernel_rfl | decide)
    (case xa7 => first | k_is | ks_is | rfl | kernel_rfl | decide)
    (case xl7 => first | k_is | ks_is | rfl | kernel_rfl | decide)
    (case xs7 => first | k_is | ks_is | rfl | kernel_rfl | decide)
    (case xu7 => first | k_is | ks_is | rfl | kernel_rfl | decide)
    (case xk7 => first | k_is | ks_is | rfl | kernel_rfl | decide)
    (case xi7 => first | k_is | ks_is | rfl | kernel_rfl | decide)
    (case xt7 => first | k_is | ks_is | rfl | kernel_rfl | decide)
    (case xf7 => first | k_is | ks_is | rfl | kernel_rfl | decide)
    (case xc7 => first | k_is | ks_is | rfl | kernel_rfl | decide)
    (case xr7 => first | k_is | ks_is | rfl | kernel_rfl | decide)
    (case xv7 => first | k_is | ks_is | rfl | kernel_rfl | decide)
    (case xw7 => first | k_is | ks_is | rfl | kernel_rfl | decide)
    (case xe7 => first | k_is | ks_is | rfl | kernel_rfl | decide)
    (case xp7 => first | k_is | ks_is | rfl | kernel_rfl | decide)
    (case xm7 => first | k_is | ks_is | rfl | kernel_rfl | decide)
    (case y1_7 => first | k_is | ks_is | rfl | kernel_rfl | decide)
    (case y2_7 => first | k_is | ks_is | rfl | kernel_rfl | decide)
    (case y3_7 => first | k_is | ks_is | rfl | kernel_rfl | decide)
    (case y4_7 => first | k_is | ks_is | rfl | kernel_rfl | decide)
    (case y5_7 => first | k_is | ks_is | rfl | kernel_rfl | decide)
    (case y6_7 => first | k_is | ks_is | rfl | kernel_rfl | decide)
    (case y7_7 => first | k_is | ks_is | rfl | kernel_rfl | decide)
    (case y8_7 => first | k_is | ks_is | rfl | kernel_rfl | decide)
    (case xn_name_7 => first | k_is | ks_is | rfl | kernel_rfl | decide)
    (case xn_block_7 => first | k_is | ks_is | rfl | kernel_rfl | decide)
    (case xa8 => first | k_is | ks_is | rfl | kernel_rfl | decide)
    (case xl8 => first | k_is | ks_is | rfl | kernel_rfl | decide)
    (case xs8 => first | k_is | ks_is | rfl | kernel_rfl | decide)
    (case xu8 => first | k_is | ks_is | rfl | kernel_rfl | decide)
    (case xk8 => first | k_is | ks_is | rfl | kernel_rfl | decide)
    (case xi8 => first | k_is | ks_is | rfl | kernel_rfl | decide)
    (case xt8 => first | k_is | ks_is | rfl | kernel_rfl | decide)
    (case xf8 => first | k_is | ks_is | rfl | kernel_rfl | decide)
    (case xc8 => first | k_is | ks_is | rfl | kernel_rfl | decide)
    (case xr8 => first | k_is | ks_is | rfl | kernel_rfl | decide)
    (case xv8 => first | k_is | ks_is | rfl | kernel_rfl | decide)
    (case xw8 => first | k_is | ks_is | rfl | kernel_rfl | decide)
    (case xe8 => first | k_is | ks_is | rfl | kernel_rfl | decide)
    (case xp8 => first | k_is | ks_is | rfl | kernel_rfl | decide)
    (case xm8 => first | k_is | ks_is | rfl | kernel_rfl | decide)
    (case y1_8 => first | k_is | ks_is | rfl | kernel_rfl | decide)
    (case y2_8 => first | k_is | ks_is | rfl | kernel_rfl | decide)
    (case y3_8 => first | k_is | ks_is | rfl | kernel_rfl | decide)
    (case y4_8 => first | k_is | ks_is | rfl | kernel_rfl | decide)
    (case y5_8 => first | k_is | ks_is | rfl | kernel_rfl | decide)
    (case y6_8 => first | k_is | ks_is | rfl | kernel_rfl | decide)
    (case y7_8 => first | k_is | ks_is | rfl | kernel_rfl | decide)
    (case y8_8 => first | k_is | ks_is | rfl | kernel_rfl | decide)
    (case xn_number_8 => first | k_is | ks_is | rfl | kernel_rfl | decide)
    (case xa9 => first | k_is | ks_is | rfl | kernel_rfl | decide)
    (case xl9 => first | k_is | ks_is | rfl | kernel_rfl | decide)
    (case xs9 => first | k_is | ks_is | rfl | kernel_rfl | decide)
    (case xu9 => first | k_is | ks_is | rfl | kernel_rfl | decide)
    (case xk9 => first | k_is | ks_is | rfl | kernel_rfl | decide)
    (case xi9 => first | k_is | ks_is | rfl | kernel_rfl | decide)
    (case xt9 => first | k_is | ks_is | rfl | kernel_rfl | decide)
    (case xf9 => first | k_is | ks_is | rfl | kernel_rfl | decide)
    (case xc9 => first | k_is | ks_is | rfl | kernel_rfl | decide)
    (case xr9 => first | k_is | ks_is | rfl | kernel_rfl | decide)
    (case xv9 => first | k_is | ks_is | rfl | kernel_rfl | decide)
    (case xw9 => first | k_is | ks_is | rfl | kernel_rfl | decide)
    (case xe9 => first | k_is | ks_is | rfl | kernel_rfl | decide)
    (case xp9 => first | k_is | ks_is | rfl | kernel_rfl | decide)
    (case xm9 => first | k_is | ks_is | rfl | kernel_rfl | decide)
    (case y1_9 => first | k_is | ks_is | rfl | kernel_rfl | decide)
    (case y2_9 => first | k_is | ks_is | rfl | kernel_rfl | decide)
    (case y3_9 => first | k_is | ks_is | rfl | kernel_rfl | decide)
    (case y4_9 => first | k_is | ks_is | rfl | kernel_rfl | decide)
    (case y5_9 => first | k_is | ks_is | rfl | kernel_rfl | decide)
    (case y6_9 => first | k_is | ks_is | rfl | kernel_rfl | decide)
    (case y7_9 => first | k_is | ks_is | rfl | kernel_rfl | decide)
    (case y8_9 => first | k_is | ks_is | rfl | kernel_rfl | decide)
    (case xn_index_9 => first | k_is | ks_is | rfl | kernel_rfl | decide)
    (case xa10 => first | k_is | ks_is | rfl | kernel_rfl | decide)
    (case xl10 => first | k_is | ks_is | rfl | kernel_rfl | decide)
    (case xs10 => first | k_is | ks_is | rfl | kernel_rfl | decide)
    (case xu10 => first | k_is | ks_is | rfl | kernel_rfl | decide)
    (case xk10 => first | k_is | ks_is | rfl | kernel_rfl | decide)
    (case xi10 => first | k_is | ks_is | rfl | kernel_rfl | decide)
    (case xt10 => first | k_is | ks_is | rfl | kernel_rfl | decide)
    (case xf10 => first | k_is | ks_is | rfl | kernel_rfl | decide)
    (case xc10 => first | k_is | ks_is | rfl | kernel_rfl | decide)
    (case xr10 => first | k_is | ks_is | rfl | kernel_rfl | decide)
    (case xv10 => first | k_is | ks_is | rfl | kernel_rfl | decide)
    (case xw10 => first | k_is | ks_is | rfl | kernel_rfl | decide)
    (case xe10 => first | k_is | ks_is | rfl | kernel_rfl | decide)
    (case xp10 => first | k_is | ks_is | rfl | kernel_rfl | decide)
    (case xm10 => first | k_is | ks_is | rfl | kernel_rfl | decide)
    (case y1_10 => first | k_is | ks_is | rfl | kernel_rfl | decide)
    (case y2_10 => first | k_is | ks_is | rfl | kernel_rfl | decide)
    (case y3_10 => first | k_is | ks_is | rfl | kernel_rfl | decide)
    (case y4_10 => first | k_is | ks_is | rfl | kernel_rfl | decide)
    (case y5_10 => first | k_is | ks_is | rfl | kernel_rfl | decide)
    (case y6_10 => first | k_is | ks_is | rfl | kernel_rfl | decide)
    (case y7_10 => first | k_is | ks_is | rfl | kernel_rfl | decide)
    (case y8_10 => first | k_is | ks_is | rfl | kernel_rfl | decide)
    (case xn_order_10 => first | k_is | ks_is | rfl | kernel_rfl | decide)
    (case xo => first | k_is | ks_is | rfl | kernel_rfl | decide)
    (case xq => first | k_is | ks_is | rfl | kernel_rfl | decide)
    (case z_IndexError => first | k_is | rfl)
    (case z_KeyError => first | k_is | rfl)
    (case z_LookupError => first | k_is | rfl)
    (case z_RuntimeError => first | k_is | rfl)
    (case z_ValueError => first | k_is | rfl)
    (case z_abs => first | k_is | rfl)
    (case z_all => first | k_is | rfl)
    (case z_bool => first | k_is | rfl)
    (case z_enumerate => first | k_is | rfl)
    (case z_int => first | k_is | rfl)
    (case z_isinstance => first | k_is | rfl)
    (case z_len => first | k_is | rfl)
    (case z_list => first | k_is | rfl)
    (case z_min => first | k_is | rfl)
    (case z_range => first | k_is | rfl)
    (case z_str => first | k_is | rfl)
    (case z_super => first | k_is | rfl)
    (case z_tuple => first | k_is | rfl)
    (case z_zip => first | k_is | rfl)
