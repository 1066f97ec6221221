import PyProof.Rows.All
import Wide.All
import OpenK.AllK
import Wide.FinOn
import HandS.ForMost
import HandS.ExcInit
import HandS.Defaults
import HandS.IsInst
import HandS.Zip
import HandS.NoneIn
import KE.KExcSuper
import KE.KExcInit
import KE.KExcIs
import HandS.Nested
import HandS.ExcIs
import HandS.ExcField
import HandS.TryMany
import HandS.Text
import HandS.RaiseMore
import KE.GoesZip
import KE.GoesMore
import PyProof.EnumMake
import HandS.Deep
import HandS.Star
import HandS.HeadHook3
import KE.IntTextLaws
import PyProof.Rows.StrItems
import PySem.Challenge.RW_neverfull_k26_events_as_texts
set_option Elab.async false
set_option linter.all false
set_option maxRecDepth 100000
/-! DLa: deep values over the hand layer. A value of Python is a tree DV; what is changed in place stands in a world W (cells by number), everything else is a plain tree. -/
namespace L2
namespace DL
open PySem PySem.Spec PyProof.Rows

inductive DV where
  | non | bl (b : Bool) | int (i : Int) | str (s : Str) | tup (xs : List DV) | lst (xs : List DV) | loc (i : Nat) | cst (v : V) | scr (ns : List Int) | gl (nm : Str) | exc (nm : Str) (fs : List Str) (xs : List DV)

/-- where the cells stand (none: a cell that is no more), and objects that no datum speaks of -/
structure Rh where
  rho : List (Option Addr)
  hid : List Addr
def Rh.out (r : Rh) (a : Addr) : Prop := some a ∉ r.rho ∧ a ∉ r.hid

/-- a tuple -/
def TQ (K : PySem.W.Frag) (r : Rh) (H : Hp) (a : Addr) (vs : List V) : Prop :=
  (r.out a ∧ H a = some (.tup vs)) ∨ ∃ (o : Obj) (its : Array Value) (n : Nat), K.lookup a = some o ∧ o.cls = .type "tuple" ∧ o.data = .seq its n ∧ its.size ≤ sizeLine ∧ Vals vs its.toList
theorem TQ.sq {K : PySem.W.Frag} {r : Rh} {H : Hp} {a : Addr} {vs : List V} (h : TQ K r H a vs) : SqT K H a vs := by
  rcases h with h | h
  · exact .of h.2
  · exact .inr h
/-- the script: never changed -/
def SQ (K : PySem.W.Frag) (r : Rh) (H : Hp) (a : Addr) (vs : List V) : Prop :=
  (r.out a ∧ Rd H a (.lst vs)) ∨ ∃ (o : Obj) (its : Array Value) (n : Nat), K.lookup a = some o ∧ o.cls = .type "list" ∧ o.dict = none ∧ o.data = .seq its n ∧ its.size ≤ sizeLine ∧ Vals vs its.toList
theorem SQ.sq {K : PySem.W.Frag} {r : Rh} {H : Hp} {a : Addr} {vs : List V} (h : SQ K r H a vs) : SqL K H a vs := by
  rcases h with h | h
  · exact .inl h.2
  · exact .inr h

/-- at a: an exception of the class at C, its dict (none | at d); what it says, where it came from is not told -/
def exv (a C : Addr) (d : Option Addr) : HO := .ext fun h => ∃ (o : Obj) (vs : Array Value), h.get? a = some o ∧ o.cls = .ref C ∧ o.dict = d ∧ o.data = .fields vs
mutual
inductive Rv (K : PySem.W.Frag) (r : Rh) (H : Hp) : DV → V → Prop
  | non : Rv K r H .non .non
  | bl (b : Bool) : Rv K r H (.bl b) (.bl b)
  | int (i : Int) : Rv K r H (.int i) (.int i)
  | str (s : Str) : Rv K r H (.str s) (.str s)
  | cst (v : V) : Rv K r H (.cst v) v
  | loc {i : Nat} {a : Addr} : r.rho[i]? = some (some a) → Rv K r H (.loc i) (.ref a)
  | scr {ns : List Int} {a : Addr} : SQ K r H a (ns.map V.int) → Rv K r H (.scr ns) (.ref a)
  | tup {a : Addr} {vs : List V} {xs : List DV} : TQ K r H a vs → Rvs K r H xs vs → Rv K r H (.tup xs) (.ref a)
  | lst {a : Addr} {vs : List V} {xs : List DV} : r.out a → H a = some (.lst vs) → Rvs K r H xs vs → Rv K r H (.lst xs) (.ref a)
  | gl {nm : Str} {C : Addr} : PySem.W.nsIn K mainGlobals nm = some (some (.ref C)) → Rv K r H (.gl nm) (.ref C)
  | exc0 {nm : Str} {a C : Addr} : PySem.W.nsIn K mainGlobals nm = some (some (.ref C)) → r.out a → H a = some (exv a C none) → Rv K r H (.exc nm [] []) (.ref a)
  | excD {nm : Str} {a C d : Addr} {fs : List Str} {vs : List V} {xs : List DV} : PySem.W.nsIn K mainGlobals nm = some (some (.ref C)) → r.out a → H a = some (exv a C (some d)) → r.out d → H d = some (.xd (fs.zip vs)) → fs.length = vs.length → Rvs K r H xs vs → Rv K r H (.exc nm fs xs) (.ref a)
inductive Rvs (K : PySem.W.Frag) (r : Rh) (H : Hp) : List DV → List V → Prop
  | nil : Rvs K r H [] []
  | cons {x : DV} {v : V} {xs : List DV} {vs : List V} : Rv K r H x v → Rvs K r H xs vs → Rvs K r H (x :: xs) (v :: vs)
end

/-- from one moment to a later one: the cells that are there keep their places, new ones are new, all else that was there stays -/
structure Ext (r : Rh) (H : Hp) (r' : Rh) (H' : Hp) : Prop where
  hid : r'.hid = r.hid
  get : ∀ (i : Nat) (a : Addr), r.rho[i]? = some (some a) → r'.rho[i]? = some (some a)
  len : r.rho.length ≤ r'.rho.length
  new : ∀ a, some a ∈ r'.rho → some a ∉ r.rho → H a = none
  keep : ∀ a o, some a ∉ r.rho → H a = some o → H' a = some o
theorem Ext.refl (r : Rh) (H : Hp) : Ext r H r H := ⟨rfl, fun _ _ h => h, Nat.le_refl _, fun a h n => absurd h n, fun a o _ h => h⟩
theorem Ext.notin {r r' : Rh} {H H' : Hp} (e : Ext r H r' H') {a : Addr} {o : HO} (h : H a = some o) (n : some a ∉ r.rho) : some a ∉ r'.rho := fun m => by
  have z := e.new a m n
  rw [h] at z; cases z
theorem Ext.out {r r' : Rh} {H H' : Hp} (e : Ext r H r' H') {a : Addr} {o : HO} (h : H a = some o) (n : r.out a) : r'.out a := ⟨e.notin h n.1, by rw [e.hid]; exact n.2⟩
theorem Ext.trans {r0 r1 r2 : Rh} {H0 H1 H2 : Hp} (a : Ext r0 H0 r1 H1) (b : Ext r1 H1 r2 H2) : Ext r0 H0 r2 H2 where
  hid := b.hid.trans a.hid
  get := fun i c h => b.get i c (a.get i c h)
  len := Nat.le_trans a.len b.len
  new := fun c h n => by
    by_cases m : some c ∈ r1.rho
    · exact a.new c m n
    · cases q : H0 c with
      | none => rfl
      | some o =>
        have z := b.new c h m
        rw [a.keep c o n q] at z; cases z
  keep := fun c o n h => b.keep c o (a.notin h n) (a.keep c o n h)
/-- nothing but a new object outside the cells -/
theorem Ext.laid {r : Rh} {H : Hp} {p : Addr} {o : HO} (hp : H p = none) : Ext r H r (upd H p o) :=
  ⟨rfl, fun _ _ h => h, Nat.le_refl _, fun a h n => absurd h n, fun a u _ h => by rw [upd_ne (ne_of_none h hp)]; exact h⟩
theorem Ext.of_same {r : Rh} {H H' : Hp} (h : Same H H') : Ext r H r H' := ⟨rfl, fun _ _ h => h, Nat.le_refl _, fun a h n => absurd h n, fun a o _ q => h a o q⟩

/-- the same where more may be hidden -/
structure Exw (r : Rh) (H : Hp) (r' : Rh) (H' : Hp) : Prop where
  get : ∀ (i : Nat) (a : Addr), r.rho[i]? = some (some a) → r'.rho[i]? = some (some a)
  new : ∀ a, some a ∈ r'.rho → some a ∉ r.rho → H a = none
  newh : ∀ a, a ∈ r'.hid → a ∉ r.hid → H a = none
  keep : ∀ a o, some a ∉ r.rho → H a = some o → H' a = some o
theorem Ext.w {r r' : Rh} {H H' : Hp} (e : Ext r H r' H') : Exw r H r' H' := ⟨e.get, e.new, fun a m n => absurd (by rw [← e.hid]; exact m) n, e.keep⟩
theorem Exw.notin {r r' : Rh} {H H' : Hp} (e : Exw r H r' H') {a : Addr} {o : HO} (h : H a = some o) (n : some a ∉ r.rho) : some a ∉ r'.rho := fun m => by
  have z := e.new a m n
  rw [h] at z; cases z
theorem Exw.out {r r' : Rh} {H H' : Hp} (e : Exw r H r' H') {a : Addr} {o : HO} (h : H a = some o) (n : r.out a) : r'.out a := ⟨e.notin h n.1, fun m => by
  have z := e.newh a m n.2
  rw [h] at z; cases z⟩
theorem Exw.trans {r0 r1 r2 : Rh} {H0 H1 H2 : Hp} (a : Exw r0 H0 r1 H1) (b : Exw r1 H1 r2 H2) (dj : ∀ c, c ∈ r2.hid → c ∉ r1.hid → c ∉ r0.hid → some c ∉ r0.rho) : Exw r0 H0 r2 H2 where
  get := fun i c h => b.get i c (a.get i c h)
  new := fun c h n => by
    by_cases m : some c ∈ r1.rho
    · exact a.new c m n
    · cases q : H0 c with
      | none => rfl
      | some o =>
        have z := b.new c h m
        rw [a.keep c o n q] at z; cases z
  newh := fun c h n => by
    by_cases m : c ∈ r1.hid
    · exact a.newh c m n
    · cases q : H0 c with
      | none => rfl
      | some o =>
        have z := b.newh c h m
        rw [a.keep c o (dj c h m n) q] at z; cases z
  keep := fun c o n h => b.keep c o (a.notin h n) (a.keep c o n h)

section
variable {K : PySem.W.Frag} {r r' : Rh} {H H' : Hp}
theorem Rd.extw {a : Addr} {u : HO} (e : Exw r H r' H') (n : r.out a) (h : Rd H a u) : r'.out a ∧ Rd H' a u := by
  rcases h with h | ⟨o, h⟩
  · exact ⟨e.out h n, .inl (e.keep _ _ n.1 h)⟩
  · exact ⟨e.out h n, .inr ⟨o, e.keep _ _ n.1 h⟩⟩
theorem TQ.extw {a : Addr} {vs : List V} (e : Exw r H r' H') (h : TQ K r H a vs) : TQ K r' H' a vs := by
  rcases h with ⟨n, h⟩ | h
  · exact .inl ⟨e.out h n, e.keep _ _ n.1 h⟩
  · exact .inr h
theorem SQ.extw {a : Addr} {vs : List V} (e : Exw r H r' H') (h : SQ K r H a vs) : SQ K r' H' a vs := by
  rcases h with ⟨n, h⟩ | h
  · exact .inl (Rd.extw e n h)
  · exact .inr h
mutual
theorem Rv.extw (e : Exw r H r' H') : ∀ {x : DV} {v : V}, Rv K r H x v → Rv K r' H' x v
  | _, _, .non => .non
  | _, _, .bl b => .bl b
  | _, _, .int i => .int i
  | _, _, .str s => .str s
  | _, _, .cst v => .cst v
  | _, _, .loc h => .loc (e.get _ _ h)
  | _, _, .scr h => .scr (h.extw e)
  | _, _, .tup h q => .tup (h.extw e) (Rvs.extw e q)
  | _, _, .lst n h q => .lst (e.out h n) (e.keep _ _ n.1 h) (Rvs.extw e q)
  | _, _, .gl c => .gl c
  | _, _, .exc0 c n h => .exc0 c (e.out h n) (e.keep _ _ n.1 h)
  | _, _, .excD c n h m g l q => .excD c (e.out h n) (e.keep _ _ n.1 h) (e.out g m) (e.keep _ _ m.1 g) l (Rvs.extw e q)
theorem Rvs.extw (e : Exw r H r' H') : ∀ {xs : List DV} {vs : List V}, Rvs K r H xs vs → Rvs K r' H' xs vs
  | _, _, .nil => .nil
  | _, _, .cons h q => .cons (Rv.extw e h) (Rvs.extw e q)
end
theorem Rd.ext {a : Addr} {u : HO} (e : Ext r H r' H') (n : r.out a) (h : Rd H a u) : r'.out a ∧ Rd H' a u := by
  rcases h with h | ⟨o, h⟩
  · exact ⟨e.out h n, .inl (e.keep _ _ n.1 h)⟩
  · exact ⟨e.out h n, .inr ⟨o, e.keep _ _ n.1 h⟩⟩
theorem TQ.ext {a : Addr} {vs : List V} (e : Ext r H r' H') (h : TQ K r H a vs) : TQ K r' H' a vs := by
  rcases h with ⟨n, h⟩ | h
  · exact .inl ⟨e.out h n, e.keep _ _ n.1 h⟩
  · exact .inr h
theorem SQ.ext {a : Addr} {vs : List V} (e : Ext r H r' H') (h : SQ K r H a vs) : SQ K r' H' a vs := by
  rcases h with ⟨n, h⟩ | h
  · exact .inl (Rd.ext e n h)
  · exact .inr h
mutual
theorem Rv.ext (e : Ext r H r' H') : ∀ {x : DV} {v : V}, Rv K r H x v → Rv K r' H' x v
  | _, _, .non => .non
  | _, _, .bl b => .bl b
  | _, _, .int i => .int i
  | _, _, .str s => .str s
  | _, _, .cst v => .cst v
  | _, _, .loc h => .loc (e.get _ _ h)
  | _, _, .scr h => .scr (h.ext e)
  | _, _, .tup h q => .tup (h.ext e) (Rvs.ext e q)
  | _, _, .lst n h q => .lst (e.out h n) (e.keep _ _ n.1 h) (Rvs.ext e q)
  | _, _, .gl c => .gl c
  | _, _, .exc0 c n h => .exc0 c (e.out h n) (e.keep _ _ n.1 h)
  | _, _, .excD c n h m g l q => .excD c (e.out h n) (e.keep _ _ n.1 h) (e.out g m) (e.keep _ _ m.1 g) l (Rvs.ext e q)
theorem Rvs.ext (e : Ext r H r' H') : ∀ {xs : List DV} {vs : List V}, Rvs K r H xs vs → Rvs K r' H' xs vs
  | _, _, .nil => .nil
  | _, _, .cons h q => .cons (Rv.ext e h) (Rvs.ext e q)
end
theorem Rvs.length : ∀ {xs : List DV} {vs : List V}, Rvs K r H xs vs → xs.length = vs.length
  | _, _, .nil => rfl
  | _, _, .cons _ q => by rw [List.length_cons, List.length_cons, Rvs.length q]
theorem Rvs.get : ∀ {xs : List DV} {vs : List V} {i : Nat} {x : DV}, Rvs K r H xs vs → xs[i]? = some x → ∃ v, vs[i]? = some v ∧ Rv K r H x v
  | _, _, _, _, .nil, e => by simp at e
  | _, _, 0, _, .cons q _, e => by simp at e; subst e; exact ⟨_, rfl, q⟩
  | _, _, i + 1, x, .cons _ t, e => by
    obtain ⟨v, h1, h2⟩ := Rvs.get (i := i) (x := x) t (by simpa using e)
    exact ⟨v, by simpa using h1, h2⟩
theorem Rvs.append : ∀ {xs ys : List DV} {vs us : List V}, Rvs K r H xs vs → Rvs K r H ys us → Rvs K r H (xs ++ ys) (vs ++ us)
  | _, _, _, _, .nil, s => s
  | _, _, _, _, .cons q t, s => .cons q (Rvs.append t s)
theorem Rvs.take : ∀ {xs : List DV} {vs : List V} (n : Nat), Rvs K r H xs vs → Rvs K r H (xs.take n) (vs.take n)
  | _, _, 0, _ => .nil
  | _, _, _ + 1, .nil => .nil
  | _, _, n + 1, .cons q t => .cons q (Rvs.take n t)
theorem Rvs.drop : ∀ {xs : List DV} {vs : List V} (n : Nat), Rvs K r H xs vs → Rvs K r H (xs.drop n) (vs.drop n)
  | _, _, 0, q => q
  | _, _, _ + 1, .nil => .nil
  | _, _, n + 1, .cons _ t => Rvs.drop n t
theorem Rvs.set {x : DV} {v : V} (q : Rv K r H x v) : ∀ {xs : List DV} {vs : List V} (n : Nat), Rvs K r H xs vs → Rvs K r H (xs.set n x) (vs.set n v)
  | _, _, _, .nil => .nil
  | _, _, 0, .cons _ t => .cons q t
  | _, _, n + 1, .cons z t => .cons z (Rvs.set q n t)
theorem Rvs.getD {xs : List DV} {vs : List V} (h : Rvs K r H xs vs) {i : Nat} {v : V} (e : vs[i]? = some v) : ∃ x, xs[i]? = some x ∧ Rv K r H x v := by
  obtain ⟨l, _⟩ := List.getElem?_eq_some_iff.mp e
  have l' : i < xs.length := by rw [h.length]; exact l
  obtain ⟨v', e', q⟩ := h.get (List.getElem?_eq_getElem l')
  rw [e] at e'; cases e'
  exact ⟨_, List.getElem?_eq_getElem l', q⟩
end

/-! ### the world -/
inductive Cell where
  | dead
  | lst (xs : List DV)
  /-- a dict whose keys are ints and texts -/
  | dK (kvs : List (Key × DV))
  /-- an instance of the class with the global name nm -/
  | ins (nm : Str) (fs : List (Str × DV))
abbrev Wd := List Cell
def Cell.vals : Cell → List DV
  | .dead => []
  | .lst xs => xs
  | .dK kvs => kvs.map (·.2)
  | .ins _ fs => fs.map (·.2)
def Cell.obj (K : PySem.W.Frag) : Cell → List V → HO → Prop
  | .dead, _, _ => False
  | .lst _, vs, o => o = .lst vs
  | .dK kvs, vs, o => o = .dK ((kvs.map (·.1)).zip vs)
  | .ins nm fs, vs, o => ∃ C dx, PySem.W.nsIn K mainGlobals nm = some (some (.ref C)) ∧ o = .ins C dx ((fs.map (·.1)).zip vs)
def CellOk (K : PySem.W.Frag) (r : Rh) (H : Hp) (a : Addr) : Cell → Prop
  | .dead => False
  | .lst xs => ∃ vs, H a = some (.lst vs) ∧ Rvs K r H xs vs
  | .dK kvs => ∃ vs o, H a = some o ∧ (Cell.dK kvs).obj K vs o ∧ Rvs K r H (Cell.dK kvs).vals vs
  | .ins nm fs => ∃ vs o, H a = some o ∧ (Cell.ins nm fs).obj K vs o ∧ Rvs K r H (Cell.ins nm fs).vals vs
theorem CellOk.iff {K : PySem.W.Frag} {r : Rh} {H : Hp} {a : Addr} {c : Cell} : CellOk K r H a c ↔ ∃ vs o, H a = some o ∧ c.obj K vs o ∧ Rvs K r H c.vals vs := by
  cases c with
  | dead => exact ⟨fun h => h.elim, fun ⟨_, _, _, h, _⟩ => h⟩
  | lst xs => exact ⟨fun ⟨vs, h, q⟩ => ⟨vs, _, h, rfl, q⟩, fun ⟨vs, o, h, e, q⟩ => ⟨vs, by rw [h, show o = HO.lst vs from e], q⟩⟩
  | dK kvs => exact Iff.rfl
  | ins nm fs => exact Iff.rfl
structure Hw (K : PySem.W.Frag) (r : Rh) (H : Hp) (W : Wd) : Prop where
  len : r.rho.length = W.length
  nd : ∀ (i j : Nat) (a : Addr), r.rho[i]? = some (some a) → r.rho[j]? = some (some a) → i = j
  ok : ∀ (i : Nat) (a : Addr) (c : Cell), r.rho[i]? = some (some a) → W[i]? = some c → CellOk K r H a c
  live : ∀ (i : Nat) (c : Cell), W[i]? = some c → c ≠ .dead → ∃ a, r.rho[i]? = some (some a)
  hd : ∀ a ∈ r.hid, ∃ o, H a = some o
  sep : ∀ a, some a ∈ r.rho → a ∉ r.hid
section
variable {K : PySem.W.Frag} {r r' : Rh} {H H' : Hp} {W : Wd}
theorem CellOk.there {a : Addr} {c : Cell} (h : CellOk K r H a c) : ∃ o, H a = some o := by
  obtain ⟨vs, o, e, _⟩ := CellOk.iff.mp h
  exact ⟨o, e⟩
theorem mem_of {α : Type} {l : List α} {i : Nat} {a : α} (h : l[i]? = some a) : a ∈ l := by
  obtain ⟨k, q⟩ := List.getElem?_eq_some_iff.mp h
  exact q ▸ List.getElem_mem k
theorem Hw.there (h : Hw K r H W) {a : Addr} (m : some a ∈ r.rho) : ∃ o, H a = some o := by
  obtain ⟨i, l, e⟩ := List.mem_iff_getElem.mp m
  have l' : i < W.length := by rw [← h.len]; exact l
  exact (h.ok i a W[i] (by rw [List.getElem?_eq_getElem l, e]) (List.getElem?_eq_getElem l')).there
theorem Hw.notin (h : Hw K r H W) {p : Addr} (hp : H p = none) : some p ∉ r.rho := fun m => by
  obtain ⟨o, e⟩ := h.there m
  rw [hp] at e; cases e
theorem Hw.fresh (h : Hw K r H W) {p : Addr} (hp : H p = none) : r.out p := ⟨h.notin hp, fun m => by
  obtain ⟨o, e⟩ := h.hd p m
  rw [hp] at e; cases e⟩
theorem CellOk.move {a : Addr} {c : Cell} (h : CellOk K r H a c) (e : Ext r H r' H') (k : H' a = H a) : CellOk K r' H' a c := by
  obtain ⟨vs, o, q, b, z⟩ := CellOk.iff.mp h
  exact CellOk.iff.mpr ⟨vs, o, k.trans q, b, z.ext e⟩
/-- nothing is changed, new objects come outside the cells -/
theorem Hw.same (h : Hw K r H W) (s : Same H H') : Hw K r H' W where
  len := h.len
  nd := h.nd
  live := h.live
  sep := h.sep
  hd := fun a m => by
    obtain ⟨o, q⟩ := h.hd a m
    exact ⟨o, s a o q⟩
  ok := fun i a c e1 e2 => (h.ok i a c e1 e2).move (Ext.of_same s) (by
    obtain ⟨o, q⟩ := (h.ok i a c e1 e2).there
    rw [s a o q, q])
theorem same_laid {p : Addr} {o : HO} (hp : H p = none) : Same H (upd H p o) := fun b u q => by rw [upd_ne (ne_of_none q hp)]; exact q
theorem Hw.laid (h : Hw K r H W) {p : Addr} {o : HO} (hp : H p = none) : Hw K r (upd H p o) W := h.same (same_laid hp)
/-- a new cell -/
theorem Hw.cell (h : Hw K r H W) {p : Addr} {o : HO} {c : Cell} (hp : H p = none) (nc : c ≠ .dead) (hc : CellOk K ⟨r.rho ++ [some p], r.hid⟩ (upd H p o) p c) :
    Ext r H ⟨r.rho ++ [some p], r.hid⟩ (upd H p o) ∧ Hw K ⟨r.rho ++ [some p], r.hid⟩ (upd H p o) (W ++ [c]) := by
  have np := h.notin hp
  have get : ∀ (i : Nat) (a : Addr), r.rho[i]? = some (some a) → (r.rho ++ [some p])[i]? = some (some a) := fun i a q => by
    obtain ⟨l, _⟩ := List.getElem?_eq_some_iff.mp q
    rw [List.getElem?_append_left l]; exact q
  have e : Ext r H ⟨r.rho ++ [some p], r.hid⟩ (upd H p o) := ⟨rfl, get, by simp, fun a m n => by
      rcases List.mem_append.mp m with m | m
      · exact absurd m n
      · have z := List.mem_singleton.mp m
        cases z; exact hp, fun a u _ q => by rw [upd_ne (ne_of_none q hp)]; exact q⟩
  have last : ∀ (i : Nat) (x : Option Addr), ¬ i < r.rho.length → (r.rho ++ [some p])[i]? = some x → i = r.rho.length ∧ x = some p := fun i x hi q => by
    obtain ⟨l, _⟩ := List.getElem?_eq_some_iff.mp q
    have i0 : i = r.rho.length := by rw [List.length_append] at l; simp at l; omega
    subst i0
    rw [List.getElem?_append_right (Nat.le_refl _)] at q
    simp at q
    exact ⟨rfl, q.symm⟩
  refine ⟨e, ?_, ?_, ?_, ?_, ?_, ?_⟩
  · show (r.rho ++ [some p]).length = _
    rw [List.length_append, List.length_append, h.len]; rfl
  · intro i j a e1 e2
    by_cases hi : i < r.rho.length
    · have e1' : r.rho[i]? = some (some a) := by rw [← List.getElem?_append_left hi (l₂ := [some p])]; exact e1
      by_cases hj : j < r.rho.length
      · have e2' : r.rho[j]? = some (some a) := by rw [← List.getElem?_append_left hj (l₂ := [some p])]; exact e2
        exact h.nd i j a e1' e2'
      · obtain ⟨_, z⟩ := last j _ hj e2
        cases z
        exact absurd (mem_of e1') np
    · obtain ⟨i0, z⟩ := last i _ hi e1
      cases z
      by_cases hj : j < r.rho.length
      · have e2' : r.rho[j]? = some (some p) := by rw [← List.getElem?_append_left hj (l₂ := [some p])]; exact e2
        exact absurd (mem_of e2') np
      · obtain ⟨j0, _⟩ := last j _ hj e2
        rw [i0, j0]
  · intro i a d e1 e2
    by_cases hi : i < r.rho.length
    · have e1' : r.rho[i]? = some (some a) := by rw [← List.getElem?_append_left hi (l₂ := [some p])]; exact e1
      rw [List.getElem?_append_left (by rw [← h.len]; exact hi)] at e2
      refine (h.ok i a d e1' e2).move e ?_
      obtain ⟨o', q⟩ := (h.ok i a d e1' e2).there
      rw [upd_ne (ne_of_none q hp)]
    · obtain ⟨i0, z⟩ := last i _ hi e1
      cases z
      subst i0
      rw [h.len, List.getElem?_append_right (Nat.le_refl _)] at e2
      simp at e2
      subst e2
      exact hc
  · intro i d e2 nd
    by_cases hi : i < W.length
    · rw [List.getElem?_append_left hi] at e2
      obtain ⟨a, q⟩ := h.live i d e2 nd
      exact ⟨a, get i a q⟩
    · obtain ⟨l, _⟩ := List.getElem?_eq_some_iff.mp e2
      have i0 : i = W.length := by rw [List.length_append] at l; simp at l; omega
      subst i0
      exact ⟨p, by show (r.rho ++ [some p])[W.length]? = _; rw [← h.len, List.getElem?_append_right (Nat.le_refl _)]; simp⟩
  · intro a m
    obtain ⟨u, q⟩ := h.hd a m
    exact ⟨u, by rw [upd_ne (ne_of_none q hp)]; exact q⟩
  · intro a m
    rcases List.mem_append.mp m with m | m
    · exact h.sep a m
    · have z := List.mem_singleton.mp m
      cases z
      exact (h.fresh hp).2
/-- a cell is changed -/
theorem Hw.put (h : Hw K r H W) {i : Nat} {a : Addr} {o : HO} {c : Cell} (hi : r.rho[i]? = some (some a)) (hc : CellOk K r (upd H a o) a c) : Ext r H r (upd H a o) ∧ Hw K r (upd H a o) (W.set i c) := by
  have m : some a ∈ r.rho := mem_of hi
  have e : Ext r H r (upd H a o) := ⟨rfl, fun _ _ q => q, Nat.le_refl _, fun b mb n => absurd mb n, fun b u n q => by rw [upd_ne (fun z => n (by rw [z]; exact m))]; exact q⟩
  have hh : a ∉ r.hid := h.sep a m
  refine ⟨e, ?_, h.nd, ?_, ?_, ?_, h.sep⟩
  · rw [List.length_set]; exact h.len
  · intro j b d e1 e2
    by_cases hj : j = i
    · subst hj
      rw [hi] at e1; cases e1
      rw [List.getElem?_set] at e2
      split at e2
      · split at e2
        · cases e2; exact hc
        · cases e2
      · rename_i z; exact absurd rfl z
    · rw [List.getElem?_set_ne (Ne.symm hj)] at e2
      refine (h.ok j b d e1 e2).move e ?_
      have nb : b ≠ a := fun z => by
        subst z
        exact hj (h.nd j i b e1 hi)
      rw [upd_ne nb]
  · intro j d e2 nd
    by_cases hj : j = i
    · subst hj; exact ⟨a, hi⟩
    · rw [List.getElem?_set_ne (Ne.symm hj)] at e2
      exact h.live j d e2 nd
  · intro b mb
    obtain ⟨u, q⟩ := h.hd b mb
    exact ⟨u, by rw [upd_ne (fun z => hh (by rw [← z]; exact mb))]; exact q⟩
end

/-! ### slots -/
abbrev DEnv := List (Option DV)
def RelE (K : PySem.W.Frag) (r : Rh) (H : Hp) (env : DEnv) (sg : St) : Prop := env.length = sg.length ∧ ∀ (i : Nat) (x : DV), env[i]? = some (some x) → ∃ v, sg[i]? = some (some v) ∧ Rv K r H x v
section
variable {K : PySem.W.Frag} {r r' : Rh} {H H' : Hp} {W : Wd} {env : DEnv} {sg : St}
theorem RelE.ext (e : Ext r H r' H') (h : RelE K r H env sg) : RelE K r' H' env sg := ⟨h.1, fun i x q => by
  obtain ⟨v, a, z⟩ := h.2 i x q
  exact ⟨v, a, z.ext e⟩⟩
theorem RelE.set (h : RelE K r H env sg) {i : Nat} {x : DV} {v : V} (z : Rv K r H x v) : RelE K r H (env.set i (some x)) (sg.set i (some v)) := ⟨by rw [List.length_set, List.length_set]; exact h.1, fun j y q => by
  by_cases hj : j = i
  · subst hj
    rw [List.getElem?_set] at q
    split at q
    · split at q
      · rename_i l
        have q' := Option.some.inj (Option.some.inj q)
        subst q'
        refine ⟨v, ?_, z⟩
        rw [List.getElem?_set, if_pos rfl, if_pos (by rw [← h.1]; exact l)]
      · cases q
    · rename_i z; exact absurd rfl z
  · rw [List.getElem?_set_ne (Ne.symm hj)] at q
    obtain ⟨u, a, ru⟩ := h.2 j y q
    exact ⟨u, by rw [List.getElem?_set_ne (Ne.symm hj)]; exact a, ru⟩⟩
end
end DL
end L2

set_option maxRecDepth 100000
/-! DLb: the judgements and the general rules. -/
namespace L2
namespace DL
open PySem PySem.Spec PyProof.Rows

abbrev M (α : Type) := Wd → Option (α × Wd)
def mb {α β : Type} (m : M α) (k : α → M β) : M β := fun W => match m W with
  | some (a, W') => k a W'
  | none => none
def mr {α : Type} (a : α) : M α := fun W => some (a, W)
def mo {α : Type} (o : Option α) : M α := fun W => match o with
  | some a => some (a, W)
  | none => none
abbrev ES := DEnv → M DV
abbrev EB := DEnv → M Bool
abbrev EA := DEnv → M (List DV)
theorem mb_inv {α β : Type} {m : M α} {k : α → M β} {W : Wd} {b : β} {W' : Wd} (h : mb m k W = some (b, W')) : ∃ a W1, m W = some (a, W1) ∧ k a W1 = some (b, W') := by
  unfold mb at h
  split at h
  · rename_i a W1 e; exact ⟨a, W1, e, h⟩
  · cases h
theorem mo_inv {α : Type} {o : Option α} {W : Wd} {b : α} {W' : Wd} (h : mo o W = some (b, W')) : o = some b ∧ W' = W := by
  unfold mo at h
  split at h
  · cases h; exact ⟨rfl, rfl⟩
  · cases h
theorem mr_inv {α : Type} {a : α} {W : Wd} {b : α} {W' : Wd} (h : mr a W = some (b, W')) : b = a ∧ W' = W := by
  cases h; exact ⟨rfl, rfl⟩

/-- what an expression does, as a reading of the hand layer -/
def tX (K : PySem.W.Frag) (F : ES) : TE := fun sg H Q => ∃ r env W, RelE K r H env sg ∧ Hw K r H W ∧ ∃ x W', F env W = some (x, W') ∧
  ∀ r' H' v, Ext r H r' H' → Hw K r' H' W' → Rv K r' H' x v → Q v H'
def tXB (K : PySem.W.Frag) (F : EB) : TT := fun sg H Q => ∃ r env W, RelE K r H env sg ∧ Hw K r H W ∧ ∃ x W', F env W = some (x, W') ∧
  ∀ r' H', Ext r H r' H' → Hw K r' H' W' → Q x H'
def tXA (K : PySem.W.Frag) (F : EA) : TA := fun sg H Q => ∃ r env W, RelE K r H env sg ∧ Hw K r H W ∧ ∃ xs W', F env W = some (xs, W') ∧
  ∀ r' H' vs, Ext r H r' H' → Hw K r' H' W' → Rvs K r' H' xs vs → Q vs H'
abbrev DE (X : Cx) (e : Expr) (F : ES) : Prop := PE X e (tX X.K F)
abbrev DT (X : Cx) (e : Expr) (F : EB) : Prop := PT X e (tXB X.K F)
abbrev DW (X : Cx) (e : Expr) (F : EB) : Prop := PW X e (tXB X.K F)
abbrev DA (X : Cx) (es : List Expr) (F : EA) : Prop := PA X es (tXA X.K F)
theorem pe_imp {X : Cx} {e : Expr} {t t' : TE} (h : PE X e t) (i : ∀ sg H Q, t' sg H Q → t sg H Q) : PE X e t' := ⟨fun pins s sg H Q I w => h.run pins s sg H Q I (i sg H Q w)⟩
theorem pt_imp {X : Cx} {e : Expr} {t t' : TT} (h : PT X e t) (i : ∀ sg H Q, t' sg H Q → t sg H Q) : PT X e t' := ⟨fun pins s sg H Q I w => h.run pins s sg H Q I (i sg H Q w)⟩
theorem pw_imp {X : Cx} {e : Expr} {t t' : TT} (h : PW X e t) (i : ∀ sg H Q, t' sg H Q → t sg H Q) : PW X e t' := ⟨fun wh pins s sg H Q I w => h.run wh pins s sg H Q I (i sg H Q w)⟩
theorem pa_imp {X : Cx} {e : List Expr} {t t' : TA} (h : PA X e t) (i : ∀ sg H Q, t' sg H Q → t sg H Q) : PA X e t' := ⟨fun pos pins s sg H Q I w => h.run pos pins s sg H Q I (i sg H Q w)⟩
theorem ps_imp {X : Cx} {e : Stmt} {t t' : TS} (h : PS X e t) (i : ∀ D sg H, t' D sg H → t D sg H) : PS X e t' := ⟨fun pins s sg H D I w => h.run pins s sg H D I (i D sg H w)⟩
theorem pss_imp {X : Cx} {e : List Stmt} {t t' : TS} (h : PSs X e t) (i : ∀ D sg H, t' D sg H → t D sg H) : PSs X e t' := ⟨fun pins s sg H D I w => h.run pins s sg H D I (i D sg H w)⟩

section
variable {X : Cx}

/-! ### names and constants -/
def eV (i : Nat) : ES := fun env => mo (env[i]?.join)
theorem of_var {K : PySem.W.Frag} {i : Nat} : ∀ sg H Q, tX K (eV i) sg H Q → tVar i sg H Q := by
  rintro sg H Q ⟨r, env, W, he, hw, x, W', e, q⟩
  obtain ⟨e1, rfl⟩ := mo_inv e
  have e2 : env[i]? = some (some x) := by
    cases h : env[i]? with
    | none => rw [h] at e1; cases e1
    | some o => rw [h] at e1; exact congrArg some e1
  obtain ⟨v, h1, h2⟩ := he.2 i x e2
  exact ⟨v, h1, q r H v (Ext.refl r H) hw h2⟩
theorem dv (i : Nat) {x : Str} {pos : Pos} (hN : X.N[i]? = some x := by rfl) (hv : Vis X.env.scope x := by first | exact Or.inl rfl | exact Or.inr (Or.inl rfl) | exact Or.inr (Or.inr rfl)) (hd : (x == ("__debug__" : Str)) = false := by decide)
    (hcd : (x == ("__classdict__" : Str)) = false := by decide) : DE X (.Name x pos) (eV i) := pe_imp (pv i hN hv hd hcd) of_var
/-- a constant -/
def eC (d : DV) : ES := fun _ => mr d
theorem of_con {K : PySem.W.Frag} {d : DV} {v : V} (c : ∀ r H, Rv K r H d v) : ∀ sg H Q, tX K (eC d) sg H Q → tC v sg H Q := by
  rintro sg H Q ⟨r, env, W, he, hw, x, W', e, q⟩
  obtain ⟨rfl, rfl⟩ := mr_inv e
  exact q r H v (Ext.refl r H) hw (c r H)
theorem de_int {i j pos} : DE X (.Constant (.int i) j pos) (eC (.int i)) := pe_imp pe_int (of_con fun _ _ => .int i)
theorem de_bl {i j pos} : DE X (.Constant (.bool i) j pos) (eC (.bl i)) := pe_imp pe_bl (of_con fun _ _ => .bl i)
theorem de_non {j pos} : DE X (.Constant .none j pos) (eC .non) := pe_imp pe_non (of_con fun _ _ => .non)
theorem de_str {i j pos} : DE X (.Constant (.str i) j pos) (eC (.str i)) := pe_imp pe_str (of_con fun _ _ => .str i)
theorem de_glob {x : Str} {d : DV} {v : V} {u : Value} {pos : Pos} (hg : Gl X x) (hm : X.mg x = some u) (rl : RelV v u) (c : ∀ r H, Rv X.K r H d v) (hd : (x == ("__debug__" : Str)) = false := by decide) : DE X (.Name x pos) (eC d) :=
  pe_imp (pe_glob hg hm rl hd) (of_con c)
theorem de_ty {x : Str} {n : String} {pos : Pos} (hg : Gl X x) (hm : X.mg x = none) (hv : bootBuiltins x = some (.type n)) (hn : x ≠ "__name__" := by decide) (hd : (x == ("__debug__" : Str)) = false := by decide) : DE X (.Name x pos) (eC (.cst (.ty n))) :=
  pe_imp (pe_bltn hg hm hv (v := .ty n) rfl hn hd) (of_con fun _ _ => .cst _)

/-! ### operators -/
/-- a rule of the hand layer for two values serves a function of two data -/
def OpD (K : PySem.W.Frag) (r2 : R2) (G : DV → DV → M DV) : Prop := ∀ r H W x y z W' v w Q, Hw K r H W → G x y W = some (z, W') → Rv K r H x v → Rv K r H y w →
  (∀ r' H' u, Ext r H r' H' → Hw K r' H' W' → Rv K r' H' z u → Q u H') → r2 v w H Q
def eO (G : DV → DV → M DV) (F F' : ES) : ES := fun env => mb (F env) fun x => mb (F' env) fun y => G x y
theorem of_op {K : PySem.W.Frag} {r2 : R2} {G : DV → DV → M DV} {F F' : ES} (g : OpD K r2 G) : ∀ sg H Q, tX K (eO G F F') sg H Q → tOp r2 (tX K F) (tX K F') sg H Q := by
  rintro sg H Q ⟨r, env, W, he, hw, z, W', e, q⟩
  obtain ⟨x, W1, e1, e⟩ := mb_inv e
  obtain ⟨y, W2, e2, e⟩ := mb_inv e
  refine ⟨r, env, W, he, hw, x, W1, e1, fun r1 H1 v x1 w1 rx => ?_⟩
  refine ⟨r1, env, W1, he.ext x1, w1, y, W2, e2, fun r2 H2 w x2 w2 ry => ?_⟩
  exact g r2 H2 W2 x y z W' v w Q w2 e (rx.ext x2) ry fun r3 H3 u x3 w3 rz => q r3 H3 u ((x1.trans x2).trans x3) w3 rz
theorem de_op {op : Operator} {r2 : R2} {G : DV → DV → M DV} {a b : Expr} {F F' : ES} {pos : Pos} (ho : OpR X (binaryOp op) r2) (g : OpD X.K r2 G) (ha : DE X a F) (hb : DE X b F') : DE X (.BinOp a op b pos) (eO G F F') :=
  pe_imp (pe_op ho ha hb) (of_op g)
theorem de_cmp {op : CmpOp} {r2 : R2} {G : DV → DV → M DV} {a b : Expr} {F F' : ES} {pos : Pos} (ho : OpR X (compareOp op) r2) (g : OpD X.K r2 G) (ha : DE X a F) (hb : DE X b F') (hm : behindInMarks op b = false) : DE X (.Compare a [op] [b] pos) (eO G F F') :=
  pe_imp (pe_cmpR ho ha hb hm) (of_op g)
theorem de_ix {r2 : R2} {G : DV → DV → M DV} {a b : Expr} {F F' : ES} {pos : Pos} (ho : IxR X r2) (g : OpD X.K r2 G) (ha : DE X a F) (hb : DE X b F') (hs : PlainIx b := by exact fun _ _ => rfl) : DE X (.Subscript a b pos) (eO G F F') :=
  pe_imp (pe_ix ho ha hb hs) (of_op g)
theorem OpD.or {K : PySem.W.Frag} {r2 r2' : R2} {G G' : DV → DV → M DV} (h : OpD K r2 G) (h' : OpD K r2' G') : OpD K (fun x y H Q => r2 x y H Q ∨ r2' x y H Q) (fun x y W => match G x y W with | some z => some z | none => G' x y W) := by
  intro r H W x y z W' v w Q hw e rx ry q
  dsimp only at e
  cases h1 : G x y W with
  | some p =>
    rw [h1] at e
    dsimp only at e
    exact .inl (h r H W x y z W' v w Q hw (h1.trans e) rx ry q)
  | none =>
    rw [h1] at e
    exact .inr (h' r H W x y z W' v w Q hw e rx ry q)
/-- only the result is a bool -/
def mB (d : DV) : M Bool := fun W => match d with
  | .bl b => some (b, W)
  | _ => none
theorem mB_inv {d : DV} {W : Wd} {b : Bool} {W' : Wd} (h : mB d W = some (b, W')) : d = .bl b ∧ W' = W := by
  unfold mB at h
  split at h
  · cases h; exact ⟨rfl, rfl⟩
  · cases h
theorem Rv.bl_inv {K : PySem.W.Frag} {r : Rh} {H : Hp} {b : Bool} {v : V} (h : Rv K r H (.bl b) v) : v = .bl b := by cases h; rfl
theorem Rv.int_inv {K : PySem.W.Frag} {r : Rh} {H : Hp} {b : Int} {v : V} (h : Rv K r H (.int b) v) : v = .int b := by cases h; rfl
theorem Rv.str_inv {K : PySem.W.Frag} {r : Rh} {H : Hp} {b : Str} {v : V} (h : Rv K r H (.str b) v) : v = .str b := by cases h; rfl
theorem Rv.non_inv {K : PySem.W.Frag} {r : Rh} {H : Hp} {v : V} (h : Rv K r H .non v) : v = .non := by cases h; rfl
theorem Rv.cst_inv {K : PySem.W.Frag} {r : Rh} {H : Hp} {v w : V} (h : Rv K r H (.cst w) v) : v = w := by cases h; rfl
/-- a test by its value -/
def bT (F : ES) : EB := fun env => mb (F env) mB
theorem of_test {K : PySem.W.Frag} {t : TE} {F : ES} (i : ∀ sg H Q, tX K F sg H Q → t sg H Q) : ∀ sg H Q, tXB K (bT F) sg H Q → tTest t sg H Q := by
  rintro sg H Q ⟨r, env, W, he, hw, b, W', e, q⟩
  obtain ⟨d, W1, e1, e⟩ := mb_inv e
  obtain ⟨rfl, rfl⟩ := mB_inv e
  refine i sg H _ ⟨r, env, W, he, hw, .bl b, W', e1, fun r' H' v x w rz => ?_⟩
  exact ⟨b, rz.bl_inv, q r' H' x w⟩
theorem dt_cmp {op : CmpOp} {r2 : R2} {G : DV → DV → M DV} {a b : Expr} {F F' : ES} {pos : Pos} (ho : OpR X (compareOp op) r2) (g : OpD X.K r2 G) (ha : DE X a F) (hb : DE X b F') (hm : behindInMarks op b = false) : DT X (.Compare a [op] [b] pos) (bT (eO G F F')) :=
  pt_imp (pt_cmpR ho ha hb hm) (of_test (of_op g))
theorem dt_val {e : Expr} {F : ES} (h : DE X e F) (he : ∀ whole, isTrue e X.env whole = (do let v ← whole; standAt e.pos; holding [v] (truthy v)) := by intro _; rfl) : DT X e (bT F) := by
  refine pt_imp (pt_val h he) ?_
  rintro sg H Q ⟨r, env, W, hE, hw, b, W', e, q⟩
  obtain ⟨d, W1, e1, e⟩ := mb_inv e
  obtain ⟨rfl, rfl⟩ := mB_inv e
  exact ⟨r, env, W, hE, hw, .bl b, W', e1, fun r' H' v x w rz => ⟨b, rz.bl_inv, q r' H' x w⟩⟩
/-- a chain of two comparisons -/
def eCh (G G' : DV → DV → M DV) (F F1 F2 : ES) : ES := fun env => mb (F env) fun x => mb (F1 env) fun y => mb (G x y) fun c => mb (mB c) fun b => if b = true then mb (F2 env) fun z => G' y z else mr (.bl false)
def bNot (F : EB) : EB := fun env => mb (F env) fun b => mr (!b)
def bAnd (F F' : EB) : EB := fun env => mb (F env) fun b => if b = true then F' env else mr false
def bOr (F F' : EB) : EB := fun env => mb (F env) fun b => if b = true then mr true else F' env
theorem dt_not {a : Expr} {F : EB} {pos : Pos} (h : DT X a F) : DT X (.UnaryOp .Not a pos) (bNot F) := by
  refine pt_imp (pt_not h) ?_
  rintro sg H Q ⟨r, env, W, hE, hw, b, W', e, q⟩
  obtain ⟨c, W1, e1, e⟩ := mb_inv e
  obtain ⟨rfl, rfl⟩ := mr_inv e
  exact ⟨r, env, W, hE, hw, c, _, e1, fun r' H' x w => q r' H' x w⟩
theorem of_and {K : PySem.W.Frag} {F F' : EB} : ∀ sg H Q, tXB K (bAnd F F') sg H Q → tAnd (tXB K F) (tXB K F') sg H Q := by
  rintro sg H Q ⟨r, env, W, hE, hw, b, W', e, q⟩
  obtain ⟨c, W1, e1, e⟩ := mb_inv e
  refine ⟨r, env, W, hE, hw, c, _, e1, fun r' H' x w => ?_⟩
  cases c with
  | true => exact iteT ⟨r', env, W1, hE.ext x, w, b, W', e, fun r2 H2 x2 w2 => q r2 H2 (x.trans x2) w2⟩
  | false =>
    obtain ⟨rfl, rfl⟩ := mr_inv (show mr false W1 = some (b, W') from e)
    exact iteF (q r' H' x w)
theorem of_or {K : PySem.W.Frag} {F F' : EB} : ∀ sg H Q, tXB K (bOr F F') sg H Q → tOr (tXB K F) (tXB K F') sg H Q := by
  rintro sg H Q ⟨r, env, W, hE, hw, b, W', e, q⟩
  obtain ⟨c, W1, e1, e⟩ := mb_inv e
  refine ⟨r, env, W, hE, hw, c, _, e1, fun r' H' x w => ?_⟩
  cases c with
  | false => exact iteF ⟨r', env, W1, hE.ext x, w, b, W', e, fun r2 H2 x2 w2 => q r2 H2 (x.trans x2) w2⟩
  | true =>
    obtain ⟨rfl, rfl⟩ := mr_inv (show mr true W1 = some (b, W') from e)
    exact iteT (q r' H' x w)
theorem dw_and1 {a : Expr} {F : EB} {pos : Pos} (h : DT X a F) : DW X (.BoolOp .And [a] pos) F := pw_and1 h
theorem dw_or1 {a : Expr} {F : EB} {pos : Pos} (h : DT X a F) : DW X (.BoolOp .Or [a] pos) F := pw_or1 h
theorem dw_and {a b : Expr} {rest : List Expr} {F F' : EB} {pos : Pos} (h : DT X a F) (h' : DW X (.BoolOp .And (b :: rest) pos) F') : DW X (.BoolOp .And (a :: b :: rest) pos) (bAnd F F') := pw_imp (pw_and h h') of_and
theorem dw_or {a b : Expr} {rest : List Expr} {F F' : EB} {pos : Pos} (h : DT X a F) (h' : DW X (.BoolOp .Or (b :: rest) pos) F') : DW X (.BoolOp .Or (a :: b :: rest) pos) (bOr F F') := pw_imp (pw_or h h') of_or
/-- and, or, not as values: all but the last are bools -/
def eAnd (F F' : ES) : ES := fun env => mb (F env) fun c => mb (mB c) fun b => if b = true then F' env else mr (.bl false)
def eOr (F F' : ES) : ES := fun env => mb (F env) fun c => mb (mB c) fun b => if b = true then mr (.bl true) else F' env
def eNot (F : ES) : ES := fun env => mb (F env) fun c => mb (mB c) fun b => mr (.bl (!b))
theorem de_one {op} {a : Expr} {F : ES} {pos : Pos} (h : DE X a F) : DE X (.BoolOp op [a] pos) F := pe_one h
theorem de_and {a b : Expr} {rest : List Expr} {F F' : ES} {pos : Pos} (h : DE X a F) (h' : DE X (.BoolOp .And (b :: rest) pos) F') : DE X (.BoolOp .And (a :: b :: rest) pos) (eAnd F F') := by
  refine pe_imp (pe_and h h') ?_
  rintro sg H Q ⟨r, env, W, hE, hw, z, W', e, q⟩
  obtain ⟨c, W1, e1, e⟩ := mb_inv e
  obtain ⟨b, W2, e2, e⟩ := mb_inv e
  obtain ⟨rfl, rfl⟩ := mB_inv e2
  refine ⟨r, env, W, hE, hw, _, _, e1, fun r' H' v x w rv => ⟨b, rv.bl_inv, ?_⟩⟩
  cases b with
  | true => exact iteT ⟨r', env, W2, hE.ext x, w, z, W', e, fun r2 H2 v x2 w2 => q r2 H2 v (x.trans x2) w2⟩
  | false =>
    obtain ⟨rfl, rfl⟩ := mr_inv (show mr (DV.bl false) W2 = some (z, W') from e)
    exact iteF (q r' H' _ x w (.bl _))
theorem de_or {a b : Expr} {rest : List Expr} {F F' : ES} {pos : Pos} (h : DE X a F) (h' : DE X (.BoolOp .Or (b :: rest) pos) F') : DE X (.BoolOp .Or (a :: b :: rest) pos) (eOr F F') := by
  refine pe_imp (pe_or h h') ?_
  rintro sg H Q ⟨r, env, W, hE, hw, z, W', e, q⟩
  obtain ⟨c, W1, e1, e⟩ := mb_inv e
  obtain ⟨b, W2, e2, e⟩ := mb_inv e
  obtain ⟨rfl, rfl⟩ := mB_inv e2
  refine ⟨r, env, W, hE, hw, _, _, e1, fun r' H' v x w rv => ⟨b, rv.bl_inv, ?_⟩⟩
  cases b with
  | false => exact iteF ⟨r', env, W2, hE.ext x, w, z, W', e, fun r2 H2 v x2 w2 => q r2 H2 v (x.trans x2) w2⟩
  | true =>
    obtain ⟨rfl, rfl⟩ := mr_inv (show mr (DV.bl true) W2 = some (z, W') from e)
    exact iteT (q r' H' _ x w (.bl _))
theorem de_not {a : Expr} {F : ES} {pos : Pos} (h : DE X a F) : DE X (.UnaryOp .Not a pos) (eNot F) := by
  refine pe_imp (pe_not h) ?_
  rintro sg H Q ⟨r, env, W, hE, hw, z, W', e, q⟩
  obtain ⟨c, W1, e1, e⟩ := mb_inv e
  obtain ⟨b, W2, e2, e⟩ := mb_inv e
  obtain ⟨rfl, rfl⟩ := mB_inv e2
  obtain ⟨rfl, rfl⟩ := mr_inv e
  exact ⟨r, env, W, hE, hw, _, _, e1, fun r' H' v x w rv => ⟨b, rv.bl_inv, q r' H' _ x w (.bl _)⟩⟩
def eIf (B : EB) (F F' : ES) : ES := fun env => mb (B env) fun b => if b = true then F env else F' env
theorem de_if {c a b : Expr} {B : EB} {F F' : ES} {pos : Pos} (hc : DT X c B) (ha : DE X a F) (hb : DE X b F') : DE X (.IfExp c a b pos) (eIf B F F') := by
  refine pe_imp (pe_ifExp hc ha hb) ?_
  rintro sg H Q ⟨r, env, W, hE, hw, z, W', e, q⟩
  obtain ⟨c, W1, e1, e⟩ := mb_inv e
  refine ⟨r, env, W, hE, hw, _, _, e1, fun r' H' x w => ?_⟩
  cases c with
  | true => exact iteT ⟨r', env, W1, hE.ext x, w, z, W', e, fun r2 H2 v x2 w2 => q r2 H2 v (x.trans x2) w2⟩
  | false => exact iteF ⟨r', env, W1, hE.ext x, w, z, W', e, fun r2 H2 v x2 w2 => q r2 H2 v (x.trans x2) w2⟩

/-! ### arguments -/
def aN : EA := fun _ => mr []
def aC (F : ES) (A : EA) : EA := fun env => mb (F env) fun x => mb (A env) fun xs => mr (x :: xs)
theorem da_nil : DA X [] aN := by
  refine pa_imp pa_nil ?_
  rintro sg H Q ⟨r, env, W, hE, hw, z, W', e, q⟩
  obtain ⟨rfl, rfl⟩ := mr_inv e
  exact q r H [] (Ext.refl _ _) hw .nil
theorem of_cons {K : PySem.W.Frag} {F : ES} {A : EA} : ∀ sg H Q, tXA K (aC F A) sg H Q → tCons (tX K F) (tXA K A) sg H Q := by
  rintro sg H Q ⟨r, env, W, hE, hw, z, W', e, q⟩
  obtain ⟨x, W1, e1, e⟩ := mb_inv e
  obtain ⟨xs, W2, e2, e⟩ := mb_inv e
  obtain ⟨rfl, rfl⟩ := mr_inv e
  refine ⟨r, env, W, hE, hw, _, _, e1, fun r1 H1 v x1 w1 rx => ?_⟩
  exact ⟨r1, env, W1, hE.ext x1, w1, _, _, e2, fun r2 H2 vs x2 w2 rs => q r2 H2 _ (x1.trans x2) w2 (.cons (rx.ext x2) rs)⟩
theorem da_cons {a : Expr} {es : List Expr} {F : ES} {A : EA} (ha : DE X a F) (hr : DA X es A) (hs : starEach (a :: es) X.env = (false, eval a X.env) :: starEach es X.env := by rfl) : DA X (a :: es) (aC F A) :=
  pa_imp (pa_cons ha hr hs) of_cons
/-- a tuple, a list -/
def lineOk (xs : List DV) : Bool := decide (xs.length ≤ sizeLine)
def eTup (A : EA) : ES := fun env => mb (A env) fun xs => mo (if lineOk xs = true then some (.tup xs) else none)
def eLst (A : EA) : ES := fun env => mb (A env) fun xs => mo (if lineOk xs = true then some (.lst xs) else none)
theorem if_inv {α : Type} {c : Bool} {a b : α} (h : (if c = true then some a else none) = some b) : c = true ∧ a = b := by
  cases c with
  | true => exact ⟨rfl, Option.some.inj h⟩
  | false => cases h
theorem Rv.newTup {K : PySem.W.Frag} {r : Rh} {H : Hp} {W : Wd} {xs : List DV} {vs : List V} {p : Addr} (hw : Hw K r H W) (q : Rvs K r H xs vs) (hp : H p = none) : Rv K r (upd H p (.tup vs)) (.tup xs) (.ref p) :=
  .tup (.inl ⟨hw.fresh hp, upd_same⟩) (q.ext (Ext.laid hp))
theorem Rv.newLst {K : PySem.W.Frag} {r : Rh} {H : Hp} {W : Wd} {xs : List DV} {vs : List V} {p : Addr} (hw : Hw K r H W) (q : Rvs K r H xs vs) (hp : H p = none) : Rv K r (upd H p (.lst vs)) (.lst xs) (.ref p) :=
  .lst (hw.fresh hp) upd_same (q.ext (Ext.laid hp))
theorem de_tup {es : List Expr} {A : EA} {x1 pos} (h : DA X es A) : DE X (.Tuple es x1 pos) (eTup A) := by
  refine pe_imp (pe_tup h) ?_
  rintro sg H Q ⟨r, env, W, hE, hw, z, W', e, q⟩
  obtain ⟨xs, W1, e1, e⟩ := mb_inv e
  obtain ⟨e2, rfl⟩ := mo_inv e
  obtain ⟨l, rfl⟩ := if_inv e2
  refine ⟨r, env, W, hE, hw, _, _, e1, fun r1 H1 vs x1 w1 rs => ⟨by rw [← rs.length]; exact of_decide_eq_true l, fun p hp => ?_⟩⟩
  exact q r1 _ _ (x1.trans (Ext.laid hp)) (w1.laid hp) (Rv.newTup w1 rs hp)
theorem de_lst {es : List Expr} {A : EA} {pos} (h : DA X es A) : DE X (.List es pos) (eLst A) := by
  refine pe_imp (pe_lst h) ?_
  rintro sg H Q ⟨r, env, W, hE, hw, z, W', e, q⟩
  obtain ⟨xs, W1, e1, e⟩ := mb_inv e
  obtain ⟨e2, rfl⟩ := mo_inv e
  obtain ⟨l, rfl⟩ := if_inv e2
  refine ⟨r, env, W, hE, hw, _, _, e1, fun r1 H1 vs x1 w1 rs => ⟨by rw [← rs.length]; exact of_decide_eq_true l, fun p hp => ?_⟩⟩
  exact q r1 _ _ (x1.trans (Ext.laid hp)) (w1.laid hp) (Rv.newLst w1 rs hp)
/-- a list that will be changed: a cell -/
def eNew (A : EA) : ES := fun env => mb (A env) fun xs W => if lineOk xs = true then some (.loc W.length, W ++ [.lst xs]) else none
theorem de_new {es : List Expr} {A : EA} {pos} (h : DA X es A) : DE X (.List es pos) (eNew A) := by
  refine pe_imp (pe_lst h) ?_
  rintro sg H Q ⟨r, env, W, hE, hw, z, W', e, q⟩
  obtain ⟨xs, W1, e1, e⟩ := mb_inv e
  obtain ⟨l, e2⟩ := if_inv e
  cases e2
  refine ⟨r, env, W, hE, hw, _, _, e1, fun r1 H1 vs x1 w1 rs => ⟨by rw [← rs.length]; exact of_decide_eq_true l, fun p hp => ?_⟩⟩
  obtain ⟨y, z⟩ := w1.cell (c := .lst xs) (o := .lst vs) hp (fun z => nomatch z) ⟨vs, upd_same, rs.ext (by
    exact ⟨rfl, fun i a q => by
      obtain ⟨l, _⟩ := List.getElem?_eq_some_iff.mp q
      show (r1.rho ++ [some p])[i]? = _
      rw [List.getElem?_append_left l]; exact q, by simp, fun a m n => by
      rcases List.mem_append.mp m with m | m
      · exact absurd m n
      · have z := List.mem_singleton.mp m
        cases z; exact hp, fun a u _ q => by rw [upd_ne (ne_of_none q hp)]; exact q⟩)⟩
  exact q _ _ _ (x1.trans y) z (.loc (by show (r1.rho ++ [some p])[W1.length]? = _; rw [← w1.len, List.getElem?_append_right (Nat.le_refl _)]; simp))

/-! ### built-ins -/
def CallD (K : PySem.W.Frag) (rc : List V → Hp → VK → Prop) (G : List DV → M DV) : Prop := ∀ r H W xs z W' vs Q, Hw K r H W → G xs W = some (z, W') → Rvs K r H xs vs →
  (∀ r' H' u, Ext r H r' H' → Hw K r' H' W' → Rv K r' H' z u → Q u H') → rc vs H Q
def eK (G : List DV → M DV) (A : EA) : ES := fun env => mb (A env) G
theorem of_cb {K : PySem.W.Frag} {rc : List V → Hp → VK → Prop} {G : List DV → M DV} {A : EA} (g : CallD K rc G) : ∀ sg H Q, tX K (eK G A) sg H Q → tCB rc (tXA K A) sg H Q := by
  rintro sg H Q ⟨r, env, W, hE, hw, z, W', e, q⟩
  obtain ⟨xs, W1, e1, e⟩ := mb_inv e
  exact ⟨r, env, W, hE, hw, _, _, e1, fun r1 H1 vs x1 w1 rs => g r1 H1 W1 xs z W' vs Q w1 e rs fun r2 H2 u x2 w2 ru => q r2 H2 u (x1.trans x2) w2 ru⟩
end
end DL
end L2

set_option maxRecDepth 100000
/-! DLg: promises of defs that are called while no repr is under way (guards = some []): what repr of lists and tuples asks. -/
namespace L2
namespace DL
open PySem PySem.Spec PyProof.Rows

/-- the def at f keeps the promise sp when it is called with nothing under way -/
structure FnG (P : Program) (w : PySem.World) (K : PySem.W.Frag) (mg : Str → Option Value) (base : Heap) (CX : CXT) (k : Nat) (f : Addr) (fd : FuncData) (ps : List Str) (sp : Sp) : Prop where
  many : ∀ vs H Q E, sp vs H Q E → vs.length = ps.length
  go : ∀ (A : Around) (out : List Env) (s : Shared) (H : Hp) (ar : Args) (us : List Value) (vs : List V) (Q : VK) (E : XK), Room k A ∧ A.guards = some [] → Env0 P w K mg base A out s H → BindsTo s fd ar (ps.zip us) → Vals vs us → sp vs H Q E →
    codeAny (model P w) A (.call (.ref f) ar) (CR CX out P w H s Q E) s
section
variable {P : Program} {w : PySem.World} {K : PySem.W.Frag} {mg : Str → Option Value} {base : Heap} {CX : CXT} {j k : Nat} {f : Addr} {fd : FuncData} {ps : List Str} {sp sp' : Sp}
theorem FnG.up (F : FnG P w K mg base CX j f fd ps sp) (h : j ≤ k) : FnG P w K mg base CX k f fd ps sp := ⟨F.many, fun A out s H ar us vs Q E hr => F.go A out s H ar us vs Q E ⟨hr.1.mono h, hr.2⟩⟩
theorem FnG.weak (F : FnG P w K mg base CX k f fd ps sp) (h : ∀ vs H Q E, sp' vs H Q E → sp vs H Q E) : FnG P w K mg base CX k f fd ps sp' :=
  ⟨fun vs H Q E q => F.many vs H Q E (h _ _ _ _ q), fun A out s H ar us vs Q E hr he hb hv hs => F.go A out s H ar us vs Q E hr he hb hv (h _ _ _ _ hs)⟩
end
/-- a call comes back to the caller -/
theorem back_call {X : Cx} {CX : CXT} {pins : List (Addr × Obj)} {sg : St} {H : Hp} {s : Shared} {Q : VK} {E : XK} (I : Inv X pins sg H s) (hx : ∀ e s', CX X.stack H s E e s' → X.xe e s') {c : Code} (h : codeAny (model X.prog X.w) X.A c (CR CX X.stack X.prog X.w H s Q E) s) :
    codeAny (model X.prog X.w) X.A c (fun r s' => match r with
      | .ok (.ret u) => EP X pins sg Q u s'
      | .ok _ => False
      | .error e => X.xe e s') s := by
  refine codeAny_mono h fun r s' hq => ?_
  match r, hq with
  | .error e, hq => exact hx e s' hq
  | .ok (.ret u), hq => exact I.after hq
theorem call_back {X : Cx} {pins : List (Addr × Obj)} {sg : St} {Q : VK} {s : Shared} {g : Value} {us : List Value} {kw : List (Str × Value)}
    (h : codeAny (model X.prog X.w) X.A (.call g ⟨us, kw⟩) (fun r s' => match r with
      | .ok (.ret u) => EP X pins sg Q u s'
      | .ok _ => False
      | .error e => X.xe e s') s) : wpAny (model X.prog X.w) X.A (call g us kw) (EP X pins sg Q) X.xe s := by
  refine wpAny_call (codeAny_mono h fun r s' hq => ?_)
  match r, hq with
  | .error e, hq => exact hq
  | .ok (.ret u), hq => exact hq
section
variable {X : Cx} {CX : CXT} {k : Nat} {f : Addr} {fd : FuncData} {ps : List Str} {sp : Sp} {ds : List Value} {dvs : List V} {E : XK} {x : Str} {p pos : Pos} {e : Expr} {es : List Expr} {t : TA}
/-- room for calls, and nothing under way -/
def Rm (k : Nat) (A : Around) : Prop := Room k A ∧ A.guards = some []
theorem Rm.le {j k : Nat} {A : Around} (h : Rm k A) (l : j ≤ k) : Rm j A := ⟨h.1.mono l, h.2⟩
theorem FnG.at {pins : List (Addr × Obj)} {sg : St} {H : Hp} {s : Shared} {Q : VK} {us : List Value} {vs : List V} (F : FnG X.prog X.w X.K X.mg X.base CX k f fd ps sp) (hr : Rm k X.A) (hb : Binds X.K fd ps ds) (hd : Vals dvs ds) (hx : Passes CX X E)
    (I : Inv X pins sg H s) (rl : Vals vs us) (h : sp (vs ++ dvs) H Q E) : wpAny (model X.prog X.w) X.A (call (.ref f) us) (EP X pins sg Q) X.xe s := by
  have both : Vals (vs ++ dvs) (us ++ ds) := rl.append hd
  exact call_back (back_call I (fun e s' => hx pins sg H s e s' I) (F.go X.A X.stack s H ⟨us, []⟩ (us ++ ds) (vs ++ dvs) Q E hr I.env0 (hb s us I.kIn (by rw [← both.length]; exact F.many _ _ _ _ h)) both h))
theorem pe_callG (F : FnG X.prog X.w X.K X.mg X.base CX k f fd ps sp) (hr : Rm k X.A) (gl : Gl X x) (gm : X.mg x = some (.ref f)) (kp : PySem.W.keepIn X.K (.ref f) = true) (hb : Binds X.K fd ps ds) (hd : Vals dvs ds) (hx : Passes CX X E)
    (ha : PA X (e :: es) t) (nodb : (x == ("__debug__" : Str)) = false) (st : starEach (e :: es) X.env = (false, eval e X.env) :: starEach es X.env) (pl : (backTo pos (starEach es X.env)).any (·.1) = false) :
    PE X (.Call (.Name x p) (e :: es) [] pos) (tCall sp dvs E t) :=
  ⟨fun pins s sg H Q I h => wpAny_Call_Name_kw (ld_glob I gl gm (PySem.W.callWith_K (h₀ := X.base) I.ok.mod.kin kp (thn (ha.run pos pins s sg H _ I h) fun us s1 ⟨vs, H1, I1, rl, q⟩ => ⟨I1.kIn, F.at hr hb hd hx I1 rl q⟩) st pl) nodb)⟩
theorem pe_callG0 (F : FnG X.prog X.w X.K X.mg X.base CX k f fd ps sp) (hr : Rm k X.A) (gl : Gl X x) (gm : X.mg x = some (.ref f)) (kp : PySem.W.keepIn X.K (.ref f) = true) (hb : Binds X.K fd ps ds) (hd : Vals dvs ds) (hx : Passes CX X E)
    (nodb : (x == ("__debug__" : Str)) = false) : PE X (.Call (.Name x p) [] [] pos) (tCall sp dvs E tNil) :=
  ⟨fun pins s sg H Q I h => wpAny_Call_Name_kw (ld_glob I gl gm (PySem.W.callWith_K0 I.kIn kp (F.at (us := []) hr hb hd hx I .nil h)) nodb)⟩
end
/-- a def's body keeps its promise -/
theorem fnG_of {CX : CXT} {P : Program} {w : PySem.World} {K : PySem.W.Frag} {mg : Str → Option Value} {base : Heap} {k : Nat} {x qual : Str} {st : Stmt} {f : Addr} {fd : FuncData} {N ps : List Str} {sp : Sp} (F : Fun K x qual st f fd) (Sc : FnScope N ps (defScope st))
    (many : ∀ vs H Q E, sp vs H Q E → vs.length = ps.length)
    (body : ∀ (cdv : Value) (A : Around) (out : List Env) (s : Shared) (H : Hp) (vs : List V) (Q : VK) (E : XK), Rm k (A.deeper (envOfC qual (defScope st) s.heap.objs.size f cdv)) → sp vs H Q E →
      ∃ t, PSs (cxOf CX P w K mg base N qual (defScope st) f cdv A out s H E) (defBody st) t ∧ t { nx := fun _ H' => Q .non H', rt := Q } (start N vs) H) :
    FnG P w K mg base CX (k + 1) f fd ps sp := by
  obtain ⟨oc, od, kV, doc, pm, an, cdv, ct, osl, rfl, lk, hcd⟩ := F.ex
  refine ⟨many, fun A out s H ar us vs Q E hr e0 hb rl hsp => ?_⟩
  have old : ∀ b o, base.get? b = some o → s.heap.get? b = some o := fun b o q => (e0.bs b o q).1
  have KX : K.In s.heap := e0.mod.kin.keeps old
  refine codeAny_call_function hr.1.depth (KX _ _ lk) rfl Sc.co Sc.gen rfl (PySem.W.codeRec_of KX hcd) (hb _ _ _ _ (wpAny_newFunctionEnv_cells Sc.kind (fun y hy => ?_) fun env he s1 z => ?_))
  · rcases Sc.par y.1 (List.of_mem_zip (a := y.1) (b := y.2) hy).1 with q | q
    · exact .inl q
    · exact .inr ⟨q, PySem.W.cellsFrom_some _ _ _ (.inl q)⟩
  · subst he
    obtain ⟨t, ht, hq⟩ := body cdv A out s H vs Q E ⟨hr.1.deeper _, hr.2⟩ hsp
    refine ⟨(e0.mod.nolimit.keeps old).keeps z.toInCall.keep, codeAny_func (wpAny_mono (ht.run [] s1 (start N vs) H _ (inv_start Sc hr.1.hd e0 (many _ _ _ _ hsp) rl z) hq) (fun fl s' hs => ?_) fun _ _ q => q)⟩
    match fl, hs with
    | .ret u, ⟨v, _, H', J, rv, q⟩ => exact ⟨v, H', J.os, J.bare, J.base, J.hok, rv, q⟩
    | .next, ⟨_, H', J, q⟩ => exact ⟨.non, H', J.os, J.bare, J.base, J.hok, rfl, q⟩
    | .brk, ⟨_, _, _, q⟩ => exact q.elim
    | .cont, ⟨_, _, _, q⟩ => exact q.elim
end DL
end L2

set_option maxRecDepth 100000
/-! DLc: calls, targets, statements, loops, comprehensions, a def. -/
namespace L2
namespace DL
open PySem PySem.Spec PyProof.Rows

/-! ### what a def does -/
def spD (K : PySem.W.Frag) (n : Nat) (fn : List DV → M DV) : Sp := fun vs H Q _ => ∃ r W xs, xs.length = n ∧ Hw K r H W ∧ Rvs K r H xs vs ∧ ∃ x W', fn xs W = some (x, W') ∧
  ∀ r' H' v, Ext r H r' H' → Hw K r' H' W' → Rv K r' H' x v → Q v H'
def eF (n : Nat) (fn : List DV → M DV) (A : EA) : ES := fun env => mb (A env) fun xs => if (xs.length == n) = true then fn xs else fun _ => none
theorem len_inv {n : Nat} {xs : List DV} {fn : List DV → M DV} {W : Wd} {z : DV × Wd} (e : (if (xs.length == n) = true then fn xs else fun _ => none) W = some z) : xs.length = n ∧ fn xs W = some z := by
  by_cases c : (xs.length == n) = true
  · rw [if_pos c] at e
    exact ⟨by simpa using c, e⟩
  · rw [if_neg c] at e; cases e
section
variable {X : Cx} {k : Nat} {f : Addr} {fd : FuncData} {ps : List Str} {fn : List DV → M DV} {x : Str} {p pos : Pos} {e : Expr} {es : List Expr} {A : EA} {n : Nat}
theorem de_callB {id : String} {rc : List V → Hp → VK → Prop} {G : List DV → M DV} (hc : CallR X (.builtin id) rc) (g : CallD X.K rc G) (hg : Gl X x) (hm : X.mg x = none) (hv : bootBuiltins x = some (.builtin id)) (ha : DA X (e :: es) A) (hn : x ≠ "__name__" := by decide) (hdb : (x == ("__debug__" : Str)) = false := by decide)
    (he : starEach (e :: es) X.env = (false, eval e X.env) :: starEach es X.env := by rfl) (hpl : (backTo pos (starEach es X.env)).any (·.1) = false := by rfl) : DE X (.Call (.Name x p) (e :: es) [] pos) (eK G A) := pe_imp (pe_callB hc hg hm hv ha hn hdb he hpl) (of_cb g)
theorem de_callTy {T : String} {rc : List V → Hp → VK → Prop} {G : List DV → M DV} (hc : CallR X (.type T) rc) (g : CallD X.K rc G) (hg : Gl X x) (hm : X.mg x = none) (hv : bootBuiltins x = some (.type T)) (ha : DA X (e :: es) A) (hn : x ≠ "__name__" := by decide) (hdb : (x == ("__debug__" : Str)) = false := by decide)
    (he : starEach (e :: es) X.env = (false, eval e X.env) :: starEach es X.env := by rfl) (hpl : (backTo pos (starEach es X.env)).any (·.1) = false := by rfl) : DE X (.Call (.Name x p) (e :: es) [] pos) (eK G A) := pe_imp (pe_callTy hc hg hm hv ha hn hdb he hpl) (of_cb g)
theorem de_call (F : FnG X.prog X.w X.K X.mg X.base CX0 k f fd ps (spD X.K n fn)) (hr : Rm k X.A) (hg : Gl X x) (hm : X.mg x = some (.ref f)) (hk : PySem.W.keepIn X.K (.ref f) = true) (hb : Binds X.K fd ps [])
    (ha : DA X (e :: es) A) (hdb : (x == ("__debug__" : Str)) = false := by decide) (he : starEach (e :: es) X.env = (false, eval e X.env) :: starEach es X.env := by rfl) (hpl : (backTo pos (starEach es X.env)).any (·.1) = false := by rfl) :
    DE X (.Call (.Name x p) (e :: es) [] pos) (eF n fn A) := by
  refine pe_imp (pe_callG F hr hg hm hk hb .nil pass0 ha hdb he hpl) ?_
  rintro sg H Q ⟨r, env, W, hE, hw, z, W', e, q⟩
  obtain ⟨xs, W1, e1, e⟩ := mb_inv e
  obtain ⟨l, e⟩ := len_inv e
  refine ⟨r, env, W, hE, hw, _, _, e1, fun r1 H1 vs x1 w1 rs => ?_⟩
  refine ⟨r1, W1, xs, l, w1, by rw [List.append_nil]; exact rs, z, W', e, fun r2 H2 u x2 w2 ru => q r2 H2 u (x1.trans x2) w2 ru⟩
theorem de_call0 (F : FnG X.prog X.w X.K X.mg X.base CX0 k f fd ps (spD X.K 0 fn)) (hr : Rm k X.A) (hg : Gl X x) (hm : X.mg x = some (.ref f)) (hk : PySem.W.keepIn X.K (.ref f) = true) (hb : Binds X.K fd ps [])
    (hdb : (x == ("__debug__" : Str)) = false := by decide) : DE X (.Call (.Name x p) [] [] pos) (fun _ => fn []) := by
  refine pe_imp (pe_callG0 F hr hg hm hk hb .nil pass0 hdb) ?_
  rintro sg H Q ⟨r, env, W, hE, hw, z, W', e, q⟩
  exact ⟨r, W, [], rfl, hw, .nil, z, W', e, q⟩
end

/-! ### keywords -/
abbrev DK (X : Cx) (kws : List Keyword) (F : EA) : Prop := PK X kws (tXA X.K F)
theorem pk_imp {X : Cx} {e : List Keyword} {t t' : TA} (h : PK X e t) (i : ∀ sg H Q, t' sg H Q → t sg H Q) : PK X e t' := ⟨fun pos pins s sg H Q I w => h.run pos pins s sg H Q I (i sg H Q w)⟩
def perm {α : Type} (ix : List Nat) (l : List α) : List α := ix.filterMap (l[·]?)
theorem Vals.perm {vs : List V} {us : List Value} (h : Vals vs us) : ∀ ix : List Nat, Vals (perm ix vs) (perm ix us)
  | [] => .nil
  | i :: ix => by
    have t := Vals.perm h ix
    cases q : vs[i]? with
    | none =>
      have q' := h.none_of q
      show Vals ((i :: ix).filterMap (vs[·]?)) ((i :: ix).filterMap (us[·]?))
      rw [List.filterMap_cons, List.filterMap_cons, q, q']
      exact t
    | some v =>
      obtain ⟨u, q', rl⟩ := h.get q
      show Vals ((i :: ix).filterMap (vs[·]?)) ((i :: ix).filterMap (us[·]?))
      rw [List.filterMap_cons, List.filterMap_cons, q, q']
      exact .cons rl t
theorem Rvs.none_of {K : PySem.W.Frag} {r : Rh} {H : Hp} {xs : List DV} {vs : List V} {i : Nat} (h : Rvs K r H xs vs) (e : xs[i]? = none) : vs[i]? = none := by
  have h2 := List.getElem?_eq_none_iff.mp e
  exact List.getElem?_eq_none_iff.mpr (by rw [← h.length]; exact h2)
theorem Rvs.perm {K : PySem.W.Frag} {r : Rh} {H : Hp} {xs : List DV} {vs : List V} (h : Rvs K r H xs vs) : ∀ ix : List Nat, Rvs K r H (perm ix xs) (perm ix vs)
  | [] => .nil
  | i :: ix => by
    have t := Rvs.perm h ix
    cases q : xs[i]? with
    | none =>
      have q' := h.none_of q
      show Rvs K r H ((i :: ix).filterMap (xs[·]?)) ((i :: ix).filterMap (vs[·]?))
      rw [List.filterMap_cons, List.filterMap_cons, q, q']
      exact t
    | some v =>
      obtain ⟨u, q', rl⟩ := h.get q
      show Rvs K r H ((i :: ix).filterMap (xs[·]?)) ((i :: ix).filterMap (vs[·]?))
      rw [List.filterMap_cons, List.filterMap_cons, q, q']
      exact .cons rl t
/-- m keywords ks, no positional values: they come to the parameters in the order ix -/
def KwOk (K : PySem.W.Frag) (fd : FuncData) (ps ks : List Str) (ix : List Nat) : Prop := ∀ (s : Shared) (ws : List Value), K.In s.heap → ws.length = ks.length → BindsTo s fd ⟨[], ks.zip ws⟩ (ps.zip (perm ix ws))
theorem Fun.kw {K : PySem.W.Frag} {x qual : Str} {st : Stmt} {f : Addr} {fd : FuncData} {ps ks : List Str} {ix : List Nat} (F : Fun K x qual st f fd)
    (h : ∀ (kV doc pm : Value) (an : Option Addr) (cdv ct : Value) (ws : List Value), ws.length = ks.length → bindArgs (PySem.W.fnOf x qual (defArgs st) (defBody st) (defScope st) .none kV doc pm an cdv ct) ⟨[], ks.zip ws⟩ = pure (ps.zip (perm ix ws))) : KwOk K fd ps ks ix := by
  obtain ⟨oc, od, kV, doc, pm, an, cdv, ct, osl, rfl, lk, hcd⟩ := F.ex
  exact fun s ws _ hl => .of_eq (h kV doc pm an cdv ct ws hl)
def eFK (n m : Nat) (ix : List Nat) (fn : List DV → M DV) (A : EA) : ES := fun env => mb (A env) fun xs => if (xs.length == m) = true then (if ((perm ix xs).length == n) = true then fn (perm ix xs) else fun _ => none) else fun _ => none
section
variable {X : Cx} {k : Nat} {f : Addr} {fd : FuncData} {ps ks : List Str} {ix : List Nat} {fn : List DV → M DV} {x : Str} {p pos : Pos} {e : Expr} {nm : Str} {kpos : Pos} {kws : List Keyword} {F : ES} {A : EA} {n : Nat}
theorem dk_nil : DK X [] aN := by
  refine pk_imp pk_nil ?_
  rintro sg H Q ⟨r, env, W, hE, hw, z, W', e, q⟩
  obtain ⟨rfl, rfl⟩ := mr_inv e
  exact q r H [] (Ext.refl _ _) hw .nil
theorem dk_cons (ha : DE X e F) (hr : DK X kws A) : DK X (⟨nm, e, kpos⟩ :: kws) (aC F A) := pk_imp (pk_cons ha hr) of_cons
theorem de_callK0 (F : FnG X.prog X.w X.K X.mg X.base CX0 k f fd ps (spD X.K n fn)) (hr : Rm k X.A) (hg : Gl X x) (hm : X.mg x = some (.ref f)) (hk : PySem.W.keepIn X.K (.ref f) = true) (hb : KwOk X.K fd ps ks ix)
    (hkw : DK X kws A) (hall : (backToKw pos (keywordEach kws X.env)).all (·.1.isSome) = true := by rfl) (hks : (backToKw pos (keywordEach kws X.env)).filterMap (·.1) = ks := by rfl)
    (hdb : (x == ("__debug__" : Str)) = false := by decide) (hpl : ((backTo pos (starEach [] X.env)).any (·.1) || (backToKw pos (keywordEach kws X.env)).any (·.1.isNone)) = false := by rfl) :
    DE X (.Call (.Name x p) [] kws pos) (eFK n ks.length ix fn A) := by
  refine ⟨fun pins s sg H Q I h => ?_⟩
  refine wpAny_Call_Name_kw (ld_glob I hg hm ?_ hdb)
  refine PySem.W.callWith_KW0 (h₀ := X.base) I.ok.mod.kin hk hall (thn (hkw.run pos pins s sg H (fun vs H1 => vs.length = ks.length ∧ spD X.K n fn (perm ix vs) H1 Q (fun _ _ _ => False)) I ?_) fun ws s2 ⟨zs, H2, I2, rz, l2, q2⟩ => ⟨I2.kIn, ?_⟩) hpl
  · obtain ⟨r, env, W, hE, hw, z, W', e, q⟩ := h
    obtain ⟨xs, W1, e1, e⟩ := mb_inv e
    obtain ⟨lm, e⟩ := len_inv (fn := fun xs => if ((perm ix xs).length == n) = true then fn (perm ix xs) else fun _ => none) e
    obtain ⟨l, e⟩ := len_inv (xs := perm ix xs) e
    refine ⟨r, env, W, hE, hw, _, _, e1, fun r1 H1 vs x1 w1 rs => ⟨by rw [← rs.length]; exact lm, ?_⟩⟩
    exact ⟨r1, W1, perm ix xs, l, w1, rs.perm ix, z, W', e, fun r2 H2 u x2 w2 ru => q r2 H2 u (x1.trans x2) w2 ru⟩
  · rw [hks]
    exact call_back (back_call I2 (fun e s' q => False.elim q) (F.go X.A X.stack s2 H2 ⟨[], ks.zip ws⟩ (perm ix ws) (perm ix zs) Q (fun _ _ _ => False) hr I2.env0 (hb s2 ws I2.kIn (rz.length.symm.trans l2)) (Vals.perm rz ix) q2))
end

/-! ### targets -/
abbrev GS := DV → DEnv → M DEnv
def tXG (K : PySem.W.Frag) (ss : List Nat) (G : GS) : TG := fun v sg H Q => ∃ r env W x, RelE K r H env sg ∧ Hw K r H W ∧ Rv K r H x v ∧ ∃ env' W', G x env W = some (env', W') ∧
  ∀ r' H' sg', Ext r H r' H' → Hw K r' H' W' → RelE K r' H' env' sg' → wipe sg' ss = wipe sg ss → Q sg' H'
abbrev GSs := List DV → DEnv → M DEnv
def tXGs (K : PySem.W.Frag) (ss : List Nat) (G : GSs) : TGs := fun vs sg H Q => ∃ r env W xs, RelE K r H env sg ∧ Hw K r H W ∧ Rvs K r H xs vs ∧ ∃ env' W', G xs env W = some (env', W') ∧
  ∀ r' H' sg', Ext r H r' H' → Hw K r' H' W' → RelE K r' H' env' sg' → wipe sg' ss = wipe sg ss → Q sg' H'
abbrev DG (X : Cx) (ss : List Nat) (tg : Expr) (G : GS) : Prop := PG X tg (tXG X.K ss G)
abbrev DGs (X : Cx) (ss : List Nat) (tg : List Expr) (G : GSs) : Prop := PGs X tg (tXGs X.K ss G)
theorem pg_imp {X : Cx} {e : Expr} {t t' : TG} (h : PG X e t) (i : ∀ v sg H Q, t' v sg H Q → t v sg H Q) : PG X e t' := ⟨fun pins s sg H v u Q I rl w => h.run pins s sg H v u Q I rl (i v sg H Q w)⟩
theorem pgs_imp {X : Cx} {e : List Expr} {t t' : TGs} (h : PGs X e t) (i : ∀ v sg H Q, t' v sg H Q → t v sg H Q) : PGs X e t' := ⟨fun pins s sg H v u Q I rl w => h.run pins s sg H v u Q I rl (i v sg H Q w)⟩
theorem set_set_ne {α : Type} (l : List α) {i j : Nat} (a b : α) (h : i ≠ j) : (l.set i a).set j b = (l.set j b).set i a := List.set_comm a b h
theorem wipe_set {sg : St} {i : Nat} {x : Option V} : ∀ {ss : List Nat}, i ∈ ss → wipe (sg.set i x) ss = wipe sg ss
  | [], h => by cases h
  | v :: ss, h => by
    show (wipe (sg.set i x) ss).set v none = (wipe sg ss).set v none
    by_cases m : i ∈ ss
    · rw [wipe_set m]
    · have e : i = v := by
        rcases List.mem_cons.mp h with z | z
        · exact z
        · exact absurd z m
      subst e
      have w : ∀ (ss : List Nat), i ∉ ss → wipe (sg.set i x) ss = (wipe sg ss).set i x := by
        intro ss
        induction ss with
        | nil => intro _; rfl
        | cons u us ih =>
          intro n
          show (wipe (sg.set i x) us).set u none = ((wipe sg us).set u none).set i x
          rw [ih (fun z => n (List.mem_cons_of_mem _ z))]
          exact List.set_comm _ _ (fun z => n (by rw [z]; exact List.mem_cons_self))
      rw [w ss m, List.set_set]
def gN (i : Nat) : GS := fun x env => mr (env.set i (some x))
section
variable {X : Cx} {ss : List Nat}
theorem of_gname {K : PySem.W.Frag} {i : Nat} (hs : i ∈ ss) : ∀ v sg H Q, tXG K ss (gN i) v sg H Q → gName i v sg H Q := by
  rintro v sg H Q ⟨r, env, W, x, hE, hw, rx, env', W', e, q⟩
  obtain ⟨rfl, rfl⟩ := mr_inv e
  exact q r H _ (Ext.refl _ _) hw (hE.set rx) (wipe_set hs)
theorem dg_name {i : Nat} {x : Str} {pos : Pos} (hN : X.N.Nodup) (hi : X.N[i]? = some x) (hx : Loc X.env.scope x) (hs : i ∈ ss := by decide) (hf : X.fn x = true ∨ X.env.scope.names.lookup x = some .local := by first | exact .inl rfl | exact .inr rfl | assumption) : DG X ss (.Name x pos) (gN i) :=
  pg_imp (pg_name hN hi hx hf) (of_gname hs)
def gsN : GSs := fun xs env => match xs with
  | [] => mr env
  | _ => fun _ => none
def gsC (G : GS) (Gs : GSs) : GSs := fun xs env => match xs with
  | x :: r => mb (G x env) fun env' => Gs r env'
  | [] => fun _ => none
theorem dgs_nil : DGs X ss [] gsN := by
  refine pgs_imp pgs_nil ?_
  rintro vs sg H Q ⟨r, env, W, xs, hE, hw, rx, env', W', e, q⟩
  cases rx with
  | nil =>
    obtain ⟨rfl, rfl⟩ := mr_inv (show mr env W = some (env', W') from e)
    exact ⟨rfl, q r H sg (Ext.refl _ _) hw hE rfl⟩
  | cons _ _ => cases (show none = some (env', W') from e)
theorem dgs_cons {e : Expr} {es : List Expr} {G : GS} {Gs : GSs} (h1 : DG X ss e G) (h2 : DGs X ss es Gs)
    (hs : (assignEach (e :: es) X.env).map (·.2) = assign e X.env :: (assignEach es X.env).map (·.2) := by rfl) : DGs X ss (e :: es) (gsC G Gs) := by
  refine pgs_imp (pgs_cons h1 h2 hs) ?_
  rintro vs sg H Q ⟨r, env, W, xs, hE, hw, rx, env', W', e, q⟩
  cases rx with
  | nil => cases (show none = some (env', W') from e)
  | @cons x v xs vs rx rs =>
    obtain ⟨env1, W1, e1, e⟩ := mb_inv (show mb (G x env) (fun env' => Gs xs env') W = some (env', W') from e)
    refine ⟨v, vs, rfl, r, env, W, x, hE, hw, rx, env1, W1, e1, fun r1 H1 sg1 x1 w1 hE1 hq1 => ?_⟩
    exact ⟨r1, env1, W1, xs, hE1, w1, rs.ext x1, env', W', e, fun r2 H2 sg2 x2 w2 hE2 hq2 => q r2 H2 sg2 (x1.trans x2) w2 hE2 (hq2.trans hq1)⟩
def gT (n : Nat) (Gs : GSs) : GS := fun x env => match x with
  | .tup xs => if (xs.length == n) = true then Gs xs env else fun _ => none
  | _ => fun _ => none
theorem dg_tup {es : List Expr} {k : Nat} {Gs : GSs} {n : Nat} {pos : Pos} (hc : X.calm = true) (h : DGs X ss es Gs)
    (hn : (assignEach es X.env).length = n := by rfl) (hst : (assignEach es X.env).findIdx? (·.1) = none := by rfl) : DG X ss (.Tuple es k pos) (gT n Gs) := by
  refine pg_imp (pg_tup hc h hn hst) ?_
  rintro v sg H Q ⟨r, env, W, x, hE, hw, rx, env', W', e, q⟩
  unfold gT at e
  split at e
  · rename_i xs
    cases rx with
    | @tup a vs _ hq rs =>
      by_cases c : (xs.length == n) = true
      · rw [if_pos c] at e
        exact ⟨a, vs, rfl, hq.sq, by rw [← rs.length]; simpa using c, r, env, W, xs, hE, hw, rs, env', W', e, q⟩
      · rw [if_neg c] at e; cases e
  · cases e
end

/-! ### statements -/
inductive Fl where
  | nx (env : DEnv) | rt (x : DV) | bk (env : DEnv) | ct (env : DEnv)
/-- n: how many cells there were when the def (or the loop) began -/
abbrev SS := Nat → DEnv → M Fl
def FlOk (K : PySem.W.Frag) (r : Rh) (H : Hp) (D : Ends) : Fl → Prop
  | .nx env => ∀ sg, RelE K r H env sg → D.nx sg H
  | .rt x => ∀ v, Rv K r H x v → D.rt v H
  | .bk env => ∀ sg, RelE K r H env sg → D.bk sg H
  | .ct env => ∀ sg, RelE K r H env sg → D.ct sg H
def tSS (K : PySem.W.Frag) (S : SS) : TS := fun D sg H => ∃ r0 H0 r env W, Ext r0 H0 r H ∧ RelE K r H env sg ∧ Hw K r H W ∧ ∃ f W', S r0.rho.length env W = some (f, W') ∧
  ∀ r' H', Ext r0 H0 r' H' → Hw K r' H' W' → FlOk K r' H' D f
abbrev DS (X : Cx) (st : Stmt) (S : SS) : Prop := PS X st (tSS X.K S)
abbrev DSs (X : Cx) (st : List Stmt) (S : SS) : Prop := PSs X st (tSS X.K S)
def sSeq (S T : SS) : SS := fun n env => mb (S n env) fun f => match f with
  | .nx env' => T n env'
  | .rt x => mr (.rt x)
  | .bk env' => mr (.bk env')
  | .ct env' => mr (.ct env')
def sNil : SS := fun _ env => mr (.nx env)
section
variable {X : Cx} {st : Stmt} {rest : List Stmt} {S T : SS} {pos : Pos}
theorem dss_nil : DSs X [] sNil := by
  refine pss_imp pss_nil ?_
  rintro D sg H ⟨r0, H0, r, env, W, x0, hE, hw, f, W', e, q⟩
  obtain ⟨rfl, rfl⟩ := mr_inv e
  exact q r H x0 hw sg hE
theorem dss_one (h : DS X st S) : DSs X [st] S := pss_one h
theorem dss_cons (h1 : DS X st S) (h2 : DSs X rest T) : DSs X (st :: rest) (sSeq S T) := by
  refine pss_imp (pss_cons h1 h2) ?_
  rintro D sg H ⟨r0, H0, r, env, W, x0, hE, hw, f, W', e, q⟩
  obtain ⟨g, W1, e1, e⟩ := mb_inv e
  refine ⟨r0, H0, r, env, W, x0, hE, hw, g, W1, e1, fun r1 H1 x1 w1 => ?_⟩
  cases g with
  | nx env1 => exact fun sg1 hE1 => ⟨r0, H0, r1, env1, W1, x1, hE1, w1, f, W', e, q⟩
  | rt x => obtain ⟨rfl, rfl⟩ := mr_inv e; exact q r1 H1 x1 w1
  | bk x => obtain ⟨rfl, rfl⟩ := mr_inv e; exact q r1 H1 x1 w1
  | ct x => obtain ⟨rfl, rfl⟩ := mr_inv e; exact q r1 H1 x1 w1
theorem ds_pass : DS X (.Pass pos) sNil := by
  refine ps_imp ps_pass ?_
  rintro D sg H ⟨r0, H0, r, env, W, x0, hE, hw, f, W', e, q⟩
  obtain ⟨rfl, rfl⟩ := mr_inv e
  exact q r H x0 hw sg hE
theorem ds_break : DS X (.Break pos) (fun _ env => mr (.bk env)) := by
  refine ps_imp ps_break ?_
  rintro D sg H ⟨r0, H0, r, env, W, x0, hE, hw, f, W', e, q⟩
  obtain ⟨rfl, rfl⟩ := mr_inv e
  exact q r H x0 hw sg hE
theorem ds_continue : DS X (.Continue pos) (fun _ env => mr (.ct env)) := by
  refine ps_imp ps_continue ?_
  rintro D sg H ⟨r0, H0, r, env, W, x0, hE, hw, f, W', e, q⟩
  obtain ⟨rfl, rfl⟩ := mr_inv e
  exact q r H x0 hw sg hE
def sExpr (F : ES) : SS := fun _ env => mb (F env) fun _ => mr (.nx env)
theorem ds_expr {e : Expr} {F : ES} (he : DE X e F) (hs : swapsWith e none pos.line X.env = pure false := by rfl) : DS X (.Expr e pos) (sExpr F) := by
  refine ps_imp (ps_expr he hs) ?_
  rintro D sg H ⟨r0, H0, r, env, W, x0, hE, hw, f, W', e, q⟩
  obtain ⟨x, W1, e1, e⟩ := mb_inv e
  obtain ⟨rfl, rfl⟩ := mr_inv e
  exact ⟨r, env, W, hE, hw, x, _, e1, fun r1 H1 v x1 w1 rv => q r1 H1 (x0.trans x1) w1 sg (hE.ext x1)⟩
def sRet (F : ES) : SS := fun _ env => mb (F env) fun x => mr (.rt x)
theorem ds_ret {e : Expr} {F : ES} (he : DE X e F) : DS X (.Return (some e) pos) (sRet F) := by
  refine ps_imp (ps_ret he) ?_
  rintro D sg H ⟨r0, H0, r, env, W, x0, hE, hw, f, W', e, q⟩
  obtain ⟨x, W1, e1, e⟩ := mb_inv e
  obtain ⟨rfl, rfl⟩ := mr_inv e
  exact ⟨r, env, W, hE, hw, x, _, e1, fun r1 H1 v x1 w1 rv => q r1 H1 (x0.trans x1) w1 v rv⟩
def sIf (B : EB) (S T : SS) : SS := fun n env => mb (B env) fun b => if b = true then S n env else T n env
theorem ds_if {c : Expr} {a b : List Stmt} {B : EB} (hc : DT X c B) (ha : DSs X a S) (hb : DSs X b T) : DS X (.If c a b pos) (sIf B S T) := by
  refine ps_imp (ps_if hc ha hb) ?_
  rintro D sg H ⟨r0, H0, r, env, W, x0, hE, hw, f, W', e, q⟩
  obtain ⟨c, W1, e1, e⟩ := mb_inv e
  refine ⟨r, env, W, hE, hw, c, W1, e1, fun r1 H1 x1 w1 => ?_⟩
  cases c with
  | true => exact iteT ⟨r0, H0, r1, env, W1, x0.trans x1, hE.ext x1, w1, f, W', e, q⟩
  | false => exact iteF ⟨r0, H0, r1, env, W1, x0.trans x1, hE.ext x1, w1, f, W', e, q⟩
def sAsg (F : ES) (G : GS) : SS := fun _ env => mb (F env) fun x => mb (G x env) fun env' => mr (.nx env')
theorem of_asg {K : PySem.W.Frag} {F : ES} {G : GS} {ss : List Nat} : ∀ D sg H, tSS K (sAsg F G) D sg H → tAsg (tX K F) (tXG K ss G) D sg H := by
  rintro D sg H ⟨r0, H0, r, env, W, x0, hE, hw, f, W', e, q⟩
  obtain ⟨x, W1, e1, e⟩ := mb_inv e
  obtain ⟨env', W2, e2, e⟩ := mb_inv e
  obtain ⟨rfl, rfl⟩ := mr_inv e
  refine ⟨r, env, W, hE, hw, x, _, e1, fun r1 H1 v x1 w1 rv => ?_⟩
  exact ⟨r1, env, W1, x, hE.ext x1, w1, rv, env', _, e2, fun r2 H2 sg2 x2 w2 hE2 _ => q r2 H2 ((x0.trans x1).trans x2) w2 sg2 hE2⟩
theorem ds_asg {tg e : Expr} {F : ES} {G : GS} {ss : List Nat} (he : DE X e F) (hg : DG X ss tg G) (hs : swapsWithSole [tg] e pos.line X.env = pure false := by rfl) (hw : swappedStores [tg] e X.env = pure none := by rfl)
    (h1 : (assignEach [tg] X.env).map (·.2) = [assign tg X.env] := by rfl) : DS X (.Assign [tg] e pos) (sAsg F G) := ps_imp (ps_asg he hg hs hw h1) of_asg
theorem ds_set {i : Nat} {x : Str} {e : Expr} {F : ES} {pos' : Pos} (hN : X.N.Nodup) (hi : X.N[i]? = some x) (hx : Loc X.env.scope x) (he : DE X e F) (hs : swapsWith e (some (.Name x pos')) pos.line X.env = pure false := by rfl) (hf : X.fn x = true ∨ X.env.scope.names.lookup x = some .local := by first | exact .inl rfl | exact .inr rfl | assumption) :
    DS X (.Assign [.Name x pos'] e pos) (sAsg F (gN i)) := by
  refine ps_imp (ps_set hN hi hx he hs hf) fun D sg H h => ?_
  have h2 := of_asg (ss := [i]) D sg H h
  obtain ⟨r, env, W, hE, hw, x, W', e, q⟩ := h2
  exact ⟨r, env, W, hE, hw, x, W', e, fun r' H' v x' w' rv => of_gname (ss := [i]) (List.mem_singleton.mpr rfl) _ _ _ _ (q r' H' v x' w' rv)⟩
/-- a, b = x, y -/
def sPar (i j : Nat) (A : EA) : SS := fun _ env => mb (A env) fun xs => match xs with
  | [x, y] => mr (.nx ((env.set i (some x)).set j (some y)))
  | _ => fun _ => none
theorem ds_par {i j : Nat} {x y : Str} {a b : Expr} {A : EA} {px py pt : Pos} {kt k2 pt2} (hc : X.calm = true) (hN : X.N.Nodup) (hi : X.N[i]? = some x) (hj : X.N[j]? = some y) (hij : i ≠ j)
    (hx : X.env.scope.names.lookup x = some .local) (hy : X.env.scope.names.lookup y = some .local) (ha : DA X [a, b] A) (h : PS X (.Assign [.Tuple [.Name x px, .Name y py] kt pt] (.Tuple [a, b] k2 pt2) pos) (tPar i j (tXA X.K A))) :
    DS X (.Assign [.Tuple [.Name x px, .Name y py] kt pt] (.Tuple [a, b] k2 pt2) pos) (sPar i j A) := by
  refine ps_imp h ?_
  rintro D sg H ⟨r0, H0, r, env, W, x0, hE, hw, f, W', e, q⟩
  obtain ⟨xs, W1, e1, e⟩ := mb_inv e
  refine ⟨r, env, W, hE, hw, xs, W1, e1, fun r1 H1 vs x1 w1 rs => ?_⟩
  cases rs with
  | nil => cases (show none = some (f, W') from e)
  | cons r1' rs =>
    cases rs with
    | nil => cases (show none = some (f, W') from e)
    | cons r2' rs =>
      cases rs with
      | cons _ _ => cases (show none = some (f, W') from e)
      | nil =>
        obtain ⟨rfl, rfl⟩ := mr_inv (show mr _ W1 = some (f, W') from e)
        exact ⟨_, _, rfl, q r1 H1 (x0.trans x1) w1 _ (((hE.ext x1).set r1').set r2')⟩
/-- x op= e -/
def sAug (i : Nat) (F : ES) (G : DV → DV → M DV) : SS := fun _ env => mb (eV i env) fun x => mb (F env) fun y => mb (G x y) fun z => mr (.nx (env.set i (some z)))
theorem ds_aug {i : Nat} {x : Str} {e : Expr} {F : ES} {op : Operator} {ti : TIp} {G : DV → DV → M DV} {pos' : Pos} (h : PS X (.AugAssign (.Name x pos') op e pos) (tAug i (tX X.K F) ti)) (g : OpD X.K ti G) : DS X (.AugAssign (.Name x pos') op e pos) (sAug i F G) := by
  refine ps_imp h ?_
  rintro D sg H ⟨r0, H0, r, env, W, x0, hE, hw, f, W', e, q⟩
  obtain ⟨x, W1, e1, e⟩ := mb_inv e
  obtain ⟨y, W2, e2, e⟩ := mb_inv e
  obtain ⟨z, W3, e3, e⟩ := mb_inv e
  obtain ⟨rfl, rfl⟩ := mr_inv e
  obtain ⟨v, hv, r1, env1, W1', hE1, hw1, hrest⟩ : ∃ v, sg[i]? = some (some v) ∧ ∃ r1 env1 W1', RelE X.K r1 H env1 sg ∧ Hw X.K r1 H W1' ∧ (r1 = r ∧ env1 = env ∧ W1' = W1 ∧ Rv X.K r H x v) := by
    obtain ⟨h1, rfl⟩ := mo_inv e1
    have e2 : env[i]? = some (some x) := by
      cases h : env[i]? with
      | none => rw [h] at h1; cases h1
      | some o => rw [h] at h1; exact congrArg some h1
    obtain ⟨v, a1, a2⟩ := hE.2 i x e2
    exact ⟨v, a1, r, env, _, hE, hw, rfl, rfl, rfl, a2⟩
  obtain ⟨rfl, rfl, rfl, rv⟩ := hrest
  refine ⟨v, hv, r1, env1, W1', hE, hw1, y, W2, e2, fun r2 H2 w x2 w2 rw' => ?_⟩
  refine g r2 H2 W2 x y z _ v w _ w2 e3 (rv.ext x2) rw' fun r3 H3 u x3 w3 ru => ?_
  exact q r3 H3 ((x0.trans x2).trans x3) w3 _ ((hE.ext (x2.trans x3)).set ru)
end

/-! ### what is walked -/
abbrev IS := DEnv → M (List DV)
def ItD (K : PySem.W.Frag) (xs : List DV) (r : Rh) (H : Hp) (J : It) : Prop := ∀ r2 H2 W2, Exw r H r2 H2 → Hw K r2 H2 W2 →
  (∀ (i : Nat) (x : DV), xs[i]? = some x → J.go i H2 ∧ ∀ v H3, J.yld i H2 v H3 → Same H2 H3 ∧ Rv K r2 H3 x v) ∧ (∀ i : Nat, xs.length ≤ i → J.stop i H2)
def tXI (K : PySem.W.Frag) (I : IS) : TI := fun sg H R => ∃ r env W, RelE K r H env sg ∧ Hw K r H W ∧ ∃ xs W', I env W = some (xs, W') ∧
  ∀ r' H' J, Ext r H r' H' → Hw K r' H' W' → ItD K xs r' H' J → R J H'
abbrev DI (X : Cx) (tg iter : Expr) (I : IS) : Prop := PI X tg iter (tXI X.K I)
theorem pi_imp {X : Cx} {tg e : Expr} {t t' : TI} (h : PI X tg e t) (i : ∀ sg H Q, t' sg H Q → t sg H Q) : PI X tg e t' := ⟨fun pins s sg H Q I w => h.run pins s sg H Q I (i sg H Q w)⟩
def iD (F : ES) : IS := fun env => mb (F env) fun x => match x with
  | .lst xs => mr xs
  | .scr ns => mr (ns.map DV.int)
  | _ => fun _ => none
def iT (F : ES) : IS := fun env => mb (F env) fun x => match x with
  | .tup xs => mr xs
  | _ => fun _ => none
theorem map_ints {K : PySem.W.Frag} {r : Rh} {H : Hp} : ∀ ns : List Int, Rvs K r H (ns.map DV.int) (ns.map V.int)
  | [] => .nil
  | n :: ns => .cons (.int n) (map_ints ns)
/-- a list that stands still -/
theorem itd_list {K : PySem.W.Frag} {r : Rh} {H : Hp} {a : Addr} {xs : List DV} {vs : List V} (hq : ∀ r' H', Exw r H r' H' → SqL K H' a vs) (rs : Rvs K r H xs vs) : ItD K xs r H (Itl K a) := fun r2 H2 W2 e w =>
  ⟨fun i x ex => by
    obtain ⟨v, ev, rv⟩ := rs.get ex
    refine ⟨⟨vs, v, hq r2 H2 e, ev⟩, fun u H3 y => ?_⟩
    obtain ⟨rfl, y⟩ := y
    have := y vs (hq r2 _ e)
    rw [ev] at this; cases this
    exact ⟨Same.refl _, rv.extw e⟩,
  fun i l => ⟨vs, hq r2 H2 e, by rw [← rs.length]; exact l⟩⟩
theorem itd_tup {K : PySem.W.Frag} {r : Rh} {H : Hp} {a : Addr} {xs : List DV} {vs : List V} (hq : ∀ r' H', Exw r H r' H' → SqT K H' a vs) (rs : Rvs K r H xs vs) : ItD K xs r H (Itt K a) := fun r2 H2 W2 e w =>
  ⟨fun i x ex => by
    obtain ⟨v, ev, rv⟩ := rs.get ex
    refine ⟨⟨vs, v, hq r2 H2 e, ev⟩, fun u H3 y => ?_⟩
    obtain ⟨rfl, y⟩ := y
    have := y vs (hq r2 _ e)
    rw [ev] at this; cases this
    exact ⟨Same.refl _, rv.extw e⟩,
  fun i l => ⟨vs, hq r2 H2 e, by rw [← rs.length]; exact l⟩⟩
section
variable {X : Cx} {tg l : Expr} {F : ES}
theorem di_list (h : DE X l F) : DI X tg l (iD F) := by
  refine pi_imp (pi_list h) ?_
  rintro sg H R ⟨r, env, W, hE, hw, xs, W', e, q⟩
  obtain ⟨x, W1, e1, e⟩ := mb_inv e
  refine ⟨r, env, W, hE, hw, x, W1, e1, fun r1 H1 v x1 w1 rv => ?_⟩
  cases rv with
  | @lst a vs ys ho hl rs =>
    obtain ⟨rfl, rfl⟩ := mr_inv (show mr ys W1 = some (xs, W') from e)
    refine ⟨a, rfl, ⟨vs, .of hl⟩, q r1 H1 _ x1 w1 (itd_list (fun r' H' e' => .of (e'.keep _ _ ho.1 hl)) rs)⟩
  | @scr ns a hs =>
    obtain ⟨rfl, rfl⟩ := mr_inv (show mr (ns.map DV.int) W1 = some (xs, W') from e)
    exact ⟨a, rfl, ⟨_, hs.sq⟩, q r1 H1 _ x1 w1 (itd_list (fun r' H' e' => (hs.extw e').sq) (map_ints ns))⟩
  | _ => cases (show none = some (xs, W') from e)
theorem di_tup (h : DE X l F) : DI X tg l (iT F) := by
  refine pi_imp (pi_tup h) ?_
  rintro sg H R ⟨r, env, W, hE, hw, xs, W', e, q⟩
  obtain ⟨x, W1, e1, e⟩ := mb_inv e
  refine ⟨r, env, W, hE, hw, x, W1, e1, fun r1 H1 v x1 w1 rv => ?_⟩
  cases rv with
  | @tup a vs ys hq rs =>
    obtain ⟨rfl, rfl⟩ := mr_inv (show mr ys W1 = some (xs, W') from e)
    exact ⟨a, rfl, ⟨vs, hq.sq⟩, q r1 H1 _ x1 w1 (itd_tup (fun r' H' e' => (hq.extw e').sq) rs)⟩
  | _ => cases (show none = some (xs, W') from e)
end
/-- lo, lo + 1, .. -/
def upFrom (lo : Int) (n : Nat) : List DV := (List.range n).map fun i => DV.int (lo + (i : Nat))
theorem upFrom_get {lo : Int} {n i : Nat} {x : DV} (h : (upFrom lo n)[i]? = some x) : i < n ∧ x = .int (lo + (i : Nat)) := by
  unfold upFrom at h
  rw [List.getElem?_map] at h
  cases q : (List.range n)[i]? with
  | none => rw [q] at h; cases h
  | some j =>
    rw [q] at h
    obtain ⟨l, e⟩ := List.getElem?_eq_some_iff.mp q
    rw [List.getElem_range] at e
    rw [List.length_range] at l
    subst e
    exact ⟨l, (Option.some.inj h).symm⟩
theorem itd_range {K : PySem.W.Frag} {r : Rh} {H : Hp} {lo : Int} {n : Nat} : ItD K (upFrom lo n) r H (Itr lo n) := fun r2 H2 W2 e w =>
  ⟨fun i x ex => by
    obtain ⟨l, rfl⟩ := upFrom_get ex
    refine ⟨l, fun u H3 y => ?_⟩
    obtain ⟨rfl, rfl⟩ := y
    exact ⟨Same.refl _, .int _⟩,
  fun i l => by
    have z : (upFrom lo n).length = n := by unfold upFrom; rw [List.length_map, List.length_range]
    rw [z] at l; exact l⟩
def rngOk (i : Int) : Bool := decide (-(2 ^ 62) ≤ i ∧ i < 2 ^ 62)
def iR1 (A : EA) : IS := fun env => mb (A env) fun xs => match xs with
  | [.int j] => if rngOk j = true then mr (upFrom 0 j.toNat) else fun _ => none
  | _ => fun _ => none
def iR2 (A : EA) : IS := fun env => mb (A env) fun xs => match xs with
  | [.int i, .int j] => if (rngOk i && rngOk j) = true then mr (upFrom i (j - i).toNat) else fun _ => none
  | _ => fun _ => none
section
variable {X : Cx} {tg a b : Expr} {A : EA} {p pos : Pos}
theorem if_some {α : Type} {c : Bool} {m : M α} {W : Wd} {z : α × Wd} (h : (if c = true then m else fun _ => none) W = some z) : c = true ∧ m W = some z := by
  cases c with
  | true => exact ⟨rfl, h⟩
  | false => cases h
theorem di_range1 (hg : Gl X "range") (hm : X.mg "range" = none) (ha : DA X [a] A) (hs : starEach [a] X.env = [(false, eval a X.env)] := by rfl) (h : PI X tg (.Call (.Name "range" p) [a] [] pos) (iRng1 (tXA X.K A))) : DI X tg (.Call (.Name "range" p) [a] [] pos) (iR1 A) := by
  refine pi_imp h ?_
  rintro sg H R ⟨r, env, W, hE, hw, ys, W', e, q⟩
  obtain ⟨xs, W1, e1, e⟩ := mb_inv e
  refine ⟨r, env, W, hE, hw, xs, W1, e1, fun r1 H1 vs x1 w1 rs => ?_⟩
  try dsimp only at e
  split at e
  · rename_i j
    cases rs with
    | cons r1' rs =>
      cases rs
      obtain rfl := r1'.int_inv
      obtain ⟨c, e⟩ := if_some e
      obtain ⟨rfl, rfl⟩ := mr_inv e
      have c' := of_decide_eq_true c
      exact ⟨j, rfl, c'.1, c'.2, q r1 H1 _ x1 w1 itd_range⟩
  · cases e
theorem di_range2 (h : PI X tg (.Call (.Name "range" p) [a, b] [] pos) (iRng2 (tXA X.K A))) : DI X tg (.Call (.Name "range" p) [a, b] [] pos) (iR2 A) := by
  refine pi_imp h ?_
  rintro sg H R ⟨r, env, W, hE, hw, ys, W', e, q⟩
  obtain ⟨xs, W1, e1, e⟩ := mb_inv e
  refine ⟨r, env, W, hE, hw, xs, W1, e1, fun r1 H1 vs x1 w1 rs => ?_⟩
  try dsimp only at e
  split at e
  · rename_i i j
    cases rs with
    | cons r1' rs =>
      cases rs with
      | cons r2' rs =>
        cases rs
        obtain rfl := r1'.int_inv
        obtain rfl := r2'.int_inv
        obtain ⟨c, e⟩ := if_some e
        obtain ⟨rfl, rfl⟩ := mr_inv e
        rw [Bool.and_eq_true] at c
        have c1 := of_decide_eq_true c.1
        have c2 := of_decide_eq_true c.2
        exact ⟨i, j, rfl, ⟨c1.1, c1.2, c2.1, c2.2⟩, q r1 H1 _ x1 w1 itd_range⟩
  · cases e
end

/-! ### for -/
def sLoop (G : GS) (B : SS) (n : Nat) : List DV → DEnv → M Fl
  | [], env => mr (.nx env)
  | x :: xs, env => mb (G x env) fun env1 => mb (B n env1) fun f => match f with
    | .nx e => sLoop G B n xs e
    | .ct e => sLoop G B n xs e
    | .bk e => mr (.nx e)
    | .rt v => mr (.rt v)
def sFor (I : IS) (G : GS) (B : SS) : SS := fun _ env => mb (I env) fun xs W => sLoop G B W.length xs env W
theorem of_for {K : PySem.W.Frag} {I : IS} {G : GS} {B : SS} {ss : List Nat} : ∀ D sg H, tSS K (sFor I G B) D sg H → tFor (tXI K I) (tXG K ss G) (tSS K B) D sg H := by
  rintro D sg H ⟨r0, H0, r, env, W, x0, hE, hw, f, W', e, q⟩
  obtain ⟨xs, W1, e1, e⟩ := mb_inv e
  refine ⟨r, env, W, hE, hw, xs, W1, e1, fun r1 H1 J x1 w1 it => ?_⟩
  rw [← w1.len] at e
  refine ⟨fun i m sg2 H2 => m = xs.length - i ∧ i ≤ xs.length ∧ ∃ r2 env2 W2, Ext r1 H1 r2 H2 ∧ RelE K r2 H2 env2 sg2 ∧ Hw K r2 H2 W2 ∧ sLoop G B r1.rho.length (xs.drop i) env2 W2 = some (f, W'), ⟨xs.length, by simp, Nat.zero_le _, r1, env, W1, Ext.refl _ _, hE.ext x1, w1, e⟩, ?_⟩
  rintro i m sg2 H2 ⟨rfl, hi, r2, env2, W2, x2, hE2, w2, e2⟩
  obtain ⟨it1, it2⟩ := it r2 H2 W2 x2.w w2
  by_cases hlt : i < xs.length
  · refine .inr ⟨(it1 i xs[i] (List.getElem?_eq_getElem hlt)).1, fun sg3 H3 => i + 1 ≤ xs.length ∧ ∃ r3 env3 W3, Ext r1 H1 r3 H3 ∧ RelE K r3 H3 env3 sg3 ∧ Hw K r3 H3 W3 ∧ sLoop G B r1.rho.length (xs.drop (i + 1)) env3 W3 = some (f, W'), fun sg3 H3 z => ⟨xs.length - (i + 1), by omega, rfl, z.1, z.2⟩, fun v H3 y => ?_⟩
    obtain ⟨sm, rv⟩ := (it1 i xs[i] (List.getElem?_eq_getElem hlt)).2 v H3 y
    rw [List.drop_eq_getElem_cons hlt] at e2
    obtain ⟨env3, W3, e3, e2⟩ := mb_inv e2
    obtain ⟨g, W4, e4, e2⟩ := mb_inv e2
    refine ⟨r2, env2, W2, xs[i], hE2.ext (Ext.of_same sm), w2.same sm, rv, env3, W3, e3, fun r4 H4 sg4 x4 w4 hE4 _ => ?_⟩
    have x4' : Ext r1 H1 r4 H4 := (x2.trans (Ext.of_same sm)).trans x4
    refine ⟨r1, H1, r4, env3, W3, x4', hE4, w4, g, W4, e4, fun r5 H5 x5 w5 => ?_⟩
    cases g with
    | nx en => exact fun sg5 hE5 => ⟨hlt, r5, en, W4, x5, hE5, w5, e2⟩
    | ct en => exact fun sg5 hE5 => ⟨hlt, r5, en, W4, x5, hE5, w5, e2⟩
    | bk en =>
      obtain ⟨rfl, rfl⟩ := mr_inv e2
      exact q r5 H5 ((x0.trans x1).trans x5) w5
    | rt v =>
      obtain ⟨rfl, rfl⟩ := mr_inv e2
      exact q r5 H5 ((x0.trans x1).trans x5) w5
  · have ei : i = xs.length := by omega
    subst ei
    rw [List.drop_length] at e2
    obtain ⟨rfl, rfl⟩ := mr_inv e2
    exact .inl ⟨it2 _ (Nat.le_refl _), q r2 H2 ((x0.trans x1).trans x2) w2 sg2 hE2⟩
section
variable {X : Cx} {tg iter : Expr} {body : List Stmt} {I : IS} {G : GS} {B : SS} {pos : Pos} {ss : List Nat}
theorem ds_for (hp : PassesOwn (model X.prog X.w) X.A X.env X.xe) (hc : X.calm = true) (hi : DI X tg iter I) (hg : DG X ss tg G) (hb : DSs X body B) (hs : ∀ x, foldedSetIterable iter X.env x = pure x := by intro _; rfl) : DS X (.For tg iter body [] pos) (sFor I G B) :=
  ps_imp (ps_for hp hc hi hg hb hs) of_for
end

/-! ### list comprehensions -/
def wipeD (env : DEnv) : List Nat → DEnv
  | [] => env
  | v :: vs => (wipeD env vs).set v none
theorem RelE.wipe {K : PySem.W.Frag} {r : Rh} {H : Hp} {env : DEnv} {sg : St} (h : RelE K r H env sg) : ∀ ss : List Nat, RelE K r H (wipeD env ss) (wipe sg ss)
  | [] => h
  | v :: ss => by
    have t := RelE.wipe h ss
    refine ⟨by show ((wipeD env ss).set v none).length = ((L2.wipe sg ss).set v none).length; rw [List.length_set, List.length_set]; exact t.1, fun i x e => ?_⟩
    have e' : ((wipeD env ss).set v none)[i]? = some (some x) := e
    show ∃ u, ((L2.wipe sg ss).set v none)[i]? = some (some u) ∧ _
    by_cases hi : v = i
    · subst hi
      by_cases hv : v < (wipeD env ss).length
      · rw [List.getElem?_set_self hv] at e'; cases e'
      · rw [List.getElem?_eq_none (by simpa using hv)] at e'; cases e'
    · rw [List.getElem?_set_ne hi] at e' ⊢
      exact t.2 i x e'
/-- the items made so far are acc -/
def cLoop (G : GS) (B : EB) (F : ES) (env : DEnv) : List DV → List DV → M (List DV)
  | [], acc => mr acc
  | x :: xs, acc => mb (G x env) fun env1 => mb (B env1) fun b => if b = true then mb (F env1) fun y => if (acc.length < sizeLine) then cLoop G B F env xs (acc ++ [y]) else fun _ => none else cLoop G B F env xs acc
def eComp (ss : List Nat) (I : IS) (G : GS) (B : EB) (F : ES) : ES := fun env => mb (I env) fun xs => mb (cLoop G B F (wipeD env ss) xs []) fun ys => mr (.lst ys)
theorem wipe_wipe (sg : St) : ∀ ss : List Nat, wipe (wipe sg ss) ss = wipe sg ss := fun ss => by
  have : ∀ (us : List Nat), (∀ u ∈ us, u ∈ ss) → wipe (wipe sg us) ss = wipe sg ss := by
    intro us
    induction us with
    | nil => intro _; rfl
    | cons u us ih =>
      intro h
      show wipe ((wipe sg us).set u none) ss = wipe sg ss
      rw [wipe_set (h u List.mem_cons_self)]
      exact ih fun v hv => h v (List.mem_cons_of_mem _ hv)
  exact this ss fun u hu => hu
section
variable {K : PySem.W.Frag} {r : Rh} {H : Hp} {D a : Addr} {o u : HO} {vs : List V}
theorem Rd.unhid (z : (⟨r.rho, D :: r.hid⟩ : Rh).out a) (h : Rd H a u) : Rd (upd H D o) a u := by
  have ne : a ≠ D := fun e => z.2 (by rw [e]; exact List.mem_cons_self)
  rcases h with h | ⟨w, h⟩
  · exact .inl (by rw [upd_ne ne]; exact h)
  · exact .inr ⟨w, by rw [upd_ne ne]; exact h⟩
theorem SQ.unhid (h : SQ K ⟨r.rho, D :: r.hid⟩ H a vs) : SQ K ⟨r.rho, D :: r.hid⟩ (upd H D o) a vs := by
  rcases h with ⟨z, h⟩ | h
  · exact .inl ⟨z, Rd.unhid z h⟩
  · exact .inr h
theorem TQ.unhid (h : TQ K ⟨r.rho, D :: r.hid⟩ H a vs) : TQ K ⟨r.rho, D :: r.hid⟩ (upd H D o) a vs := by
  rcases h with ⟨z, h⟩ | h
  · exact .inl ⟨z, by rw [upd_ne (fun e => z.2 (by rw [e]; exact List.mem_cons_self))]; exact h⟩
  · exact .inr h
theorem Rd.hide (hD : H D = none) (z : r.out a) (h : Rd H a u) : (⟨r.rho, D :: r.hid⟩ : Rh).out a ∧ Rd (upd H D o) a u := by
  have ne : a ≠ D := by
    rcases h with h | ⟨w, h⟩
    · exact ne_of_none h hD
    · exact ne_of_none h hD
  refine ⟨⟨z.1, fun m => ?_⟩, ?_⟩
  · rcases List.mem_cons.mp m with e | e
    · exact ne e
    · exact z.2 e
  · rcases h with h | ⟨w, h⟩
    · exact .inl (by rw [upd_ne ne]; exact h)
    · exact .inr ⟨w, by rw [upd_ne ne]; exact h⟩
theorem SQ.hide (hD : H D = none) (h : SQ K r H a vs) : SQ K ⟨r.rho, D :: r.hid⟩ (upd H D o) a vs := by
  rcases h with ⟨z, h⟩ | h
  · exact .inl (Rd.hide hD z h)
  · exact .inr h
theorem TQ.hide (hD : H D = none) (h : TQ K r H a vs) : TQ K ⟨r.rho, D :: r.hid⟩ (upd H D o) a vs := by
  rcases h with ⟨z, h⟩ | h
  · exact .inl ⟨(Rd.hide (o := o) hD z (.inl h)).1, by rw [upd_ne (ne_of_none h hD)]; exact h⟩
  · exact .inr h
end
theorem out_hide {r : Rh} {H : Hp} {D a : Addr} {o : HO} (hD : H D = none) (z : r.out a) (h : H a = some o) : (⟨r.rho, D :: r.hid⟩ : Rh).out a := ⟨z.1, fun m => by
  rcases List.mem_cons.mp m with e | e
  · exact ne_of_none h hD e
  · exact z.2 e⟩
mutual
/-- data do not speak of a hidden object: it may be changed -/
theorem Rv.unhid {K : PySem.W.Frag} {r : Rh} {H : Hp} {D : Addr} {o : HO} (n : some D ∉ r.rho) : ∀ {x : DV} {v : V}, Rv K ⟨r.rho, D :: r.hid⟩ H x v → Rv K ⟨r.rho, D :: r.hid⟩ (upd H D o) x v
  | _, _, .non => .non
  | _, _, .bl b => .bl b
  | _, _, .int i => .int i
  | _, _, .str s => .str s
  | _, _, .cst v => .cst v
  | _, _, .loc h => .loc h
  | _, _, .scr h => .scr (SQ.unhid h)
  | _, _, .tup h q => .tup (TQ.unhid h) (Rvs.unhid n q)
  | _, _, .lst z h q => .lst z (by rw [upd_ne (fun e => z.2 (by rw [e]; exact List.mem_cons_self))]; exact h) (Rvs.unhid n q)
  | _, _, .gl c => .gl c
  | _, _, .exc0 c z h => .exc0 c z (by rw [upd_ne (fun e => z.2 (by rw [e]; exact List.mem_cons_self))]; exact h)
  | _, _, .excD c z h y g l q => .excD c z (by rw [upd_ne (fun e => z.2 (by rw [e]; exact List.mem_cons_self))]; exact h) y (by rw [upd_ne (fun e => y.2 (by rw [e]; exact List.mem_cons_self))]; exact g) l (Rvs.unhid n q)
theorem Rvs.unhid {K : PySem.W.Frag} {r : Rh} {H : Hp} {D : Addr} {o : HO} (n : some D ∉ r.rho) : ∀ {xs : List DV} {vs : List V}, Rvs K ⟨r.rho, D :: r.hid⟩ H xs vs → Rvs K ⟨r.rho, D :: r.hid⟩ (upd H D o) xs vs
  | _, _, .nil => .nil
  | _, _, .cons h q => .cons (Rv.unhid n h) (Rvs.unhid n q)
end
mutual
theorem Rv.hide {K : PySem.W.Frag} {r : Rh} {H : Hp} {D : Addr} {o : HO} (hD : H D = none) : ∀ {x : DV} {v : V}, Rv K r H x v → Rv K ⟨r.rho, D :: r.hid⟩ (upd H D o) x v
  | _, _, .non => .non
  | _, _, .bl b => .bl b
  | _, _, .int i => .int i
  | _, _, .str s => .str s
  | _, _, .cst v => .cst v
  | _, _, .loc h => .loc h
  | _, _, .scr h => .scr (SQ.hide hD h)
  | _, _, .tup h q => .tup (TQ.hide hD h) (Rvs.hide hD q)
  | _, _, .lst z h q => .lst ⟨z.1, fun m => by
        rcases List.mem_cons.mp m with e | e
        · exact ne_of_none h hD e
        · exact z.2 e⟩ (by rw [upd_ne (ne_of_none h hD)]; exact h) (Rvs.hide hD q)
  | _, _, .gl c => .gl c
  | _, _, .exc0 c z h => .exc0 c (out_hide hD z h) (by rw [upd_ne (ne_of_none h hD)]; exact h)
  | _, _, .excD c z h y g l q => .excD c (out_hide hD z h) (by rw [upd_ne (ne_of_none h hD)]; exact h) (out_hide hD y g) (by rw [upd_ne (ne_of_none g hD)]; exact g) l (Rvs.hide hD q)
theorem Rvs.hide {K : PySem.W.Frag} {r : Rh} {H : Hp} {D : Addr} {o : HO} (hD : H D = none) : ∀ {xs : List DV} {vs : List V}, Rvs K r H xs vs → Rvs K ⟨r.rho, D :: r.hid⟩ (upd H D o) xs vs
  | _, _, .nil => .nil
  | _, _, .cons h q => .cons (Rv.hide hD h) (Rvs.hide hD q)
end
mutual
theorem Rv.show {K : PySem.W.Frag} {r : Rh} {H : Hp} {D : Addr} : ∀ {x : DV} {v : V}, Rv K ⟨r.rho, D :: r.hid⟩ H x v → Rv K r H x v
  | _, _, .non => .non
  | _, _, .bl b => .bl b
  | _, _, .int i => .int i
  | _, _, .str s => .str s
  | _, _, .cst v => .cst v
  | _, _, .loc h => .loc h
  | _, _, .scr h => .scr (by
      rcases h with ⟨z, h⟩ | h
      · exact .inl ⟨⟨z.1, fun m => z.2 (List.mem_cons_of_mem _ m)⟩, h⟩
      · exact .inr h)
  | _, _, .tup h q => .tup (by
      rcases h with ⟨z, h⟩ | h
      · exact .inl ⟨⟨z.1, fun m => z.2 (List.mem_cons_of_mem _ m)⟩, h⟩
      · exact .inr h) (Rvs.show q)
  | _, _, .lst z h q => .lst ⟨z.1, fun m => z.2 (List.mem_cons_of_mem _ m)⟩ h (Rvs.show q)
  | _, _, .gl c => .gl c
  | _, _, .exc0 c z h => .exc0 c ⟨z.1, fun m => z.2 (List.mem_cons_of_mem _ m)⟩ h
  | _, _, .excD c z h y g l q => .excD c ⟨z.1, fun m => z.2 (List.mem_cons_of_mem _ m)⟩ h ⟨y.1, fun m => y.2 (List.mem_cons_of_mem _ m)⟩ g l (Rvs.show q)
theorem Rvs.show {K : PySem.W.Frag} {r : Rh} {H : Hp} {D : Addr} : ∀ {xs : List DV} {vs : List V}, Rvs K ⟨r.rho, D :: r.hid⟩ H xs vs → Rvs K r H xs vs
  | _, _, .nil => .nil
  | _, _, .cons h q => .cons (Rv.show h) (Rvs.show q)
end
end DL
end L2

set_option maxRecDepth 100000
/-! DLd: list comprehensions, a def's end, freezing. -/
namespace L2
namespace DL
open PySem PySem.Spec PyProof.Rows

section
variable {K : PySem.W.Frag} {rho : List (Option Addr)} {hid : List Addr} {H : Hp} {D : Addr} {o : HO} {W : Wd}
theorem CellOk.unhid {a : Addr} {c : Cell} (n : some D ∉ rho) (ne : a ≠ D) (h : CellOk K ⟨rho, D :: hid⟩ H a c) : CellOk K ⟨rho, D :: hid⟩ (upd H D o) a c := by
  obtain ⟨vs, o, q, b, z⟩ := CellOk.iff.mp h
  exact CellOk.iff.mpr ⟨vs, o, by rw [upd_ne ne]; exact q, b, Rvs.unhid (r := ⟨rho, hid⟩) n z⟩
theorem Hw.hidnot (h : Hw K ⟨rho, D :: hid⟩ H W) : some D ∉ rho := fun m => h.sep D m List.mem_cons_self
theorem Hw.unhid (h : Hw K ⟨rho, D :: hid⟩ H W) : Hw K ⟨rho, D :: hid⟩ (upd H D o) W where
  len := h.len
  nd := h.nd
  live := h.live
  sep := h.sep
  hd := fun a m => by
    by_cases e : a = D
    · subst e; exact ⟨o, upd_same⟩
    · obtain ⟨u, q⟩ := h.hd a m
      exact ⟨u, by rw [upd_ne e]; exact q⟩
  ok := fun i a c e1 e2 => CellOk.unhid h.hidnot (fun e => h.hidnot (by rw [← e]; exact mem_of e1)) (h.ok i a c e1 e2)
theorem CellOk.hide {a : Addr} {c : Cell} (hD : H D = none) (h : CellOk K ⟨rho, hid⟩ H a c) : CellOk K ⟨rho, D :: hid⟩ (upd H D o) a c := by
  obtain ⟨vs, o, q, b, z⟩ := CellOk.iff.mp h
  exact CellOk.iff.mpr ⟨vs, o, by rw [upd_ne (ne_of_none q hD)]; exact q, b, Rvs.hide (r := ⟨rho, hid⟩) hD z⟩
theorem Hw.hide (h : Hw K ⟨rho, hid⟩ H W) (hD : H D = none) : Hw K ⟨rho, D :: hid⟩ (upd H D o) W where
  len := h.len
  nd := h.nd
  live := h.live
  sep := fun a m => by
    intro z
    rcases List.mem_cons.mp z with e | e
    · exact h.notin hD (by rw [← e]; exact m)
    · exact h.sep a m e
  hd := fun a m => by
    rcases List.mem_cons.mp m with e | e
    · rw [e]; exact ⟨o, upd_same⟩
    · obtain ⟨u, q⟩ := h.hd a e
      exact ⟨u, by rw [upd_ne (ne_of_none q hD)]; exact q⟩
  ok := fun i a c e1 e2 => CellOk.hide hD (h.ok i a c e1 e2)
theorem CellOk.show {a : Addr} {c : Cell} (h : CellOk K ⟨rho, D :: hid⟩ H a c) : CellOk K ⟨rho, hid⟩ H a c := by
  obtain ⟨vs, o, q, b, z⟩ := CellOk.iff.mp h
  exact CellOk.iff.mpr ⟨vs, o, q, b, Rvs.show (r := ⟨rho, hid⟩) z⟩
theorem Hw.show (h : Hw K ⟨rho, D :: hid⟩ H W) : Hw K ⟨rho, hid⟩ H W where
  len := h.len
  nd := h.nd
  live := h.live
  sep := fun a m z => h.sep a m (List.mem_cons_of_mem _ z)
  hd := fun a m => h.hd a (List.mem_cons_of_mem _ m)
  ok := fun i a c e1 e2 => (h.ok i a c e1 e2).show
theorem RelE.unhid {env : DEnv} {sg : St} (n : some D ∉ rho) (h : RelE K ⟨rho, D :: hid⟩ H env sg) : RelE K ⟨rho, D :: hid⟩ (upd H D o) env sg := ⟨h.1, fun i x q => by
  obtain ⟨v, a, z⟩ := h.2 i x q
  exact ⟨v, a, Rv.unhid (r := ⟨rho, hid⟩) n z⟩⟩
theorem RelE.hide {env : DEnv} {sg : St} (hD : H D = none) (h : RelE K ⟨rho, hid⟩ H env sg) : RelE K ⟨rho, D :: hid⟩ (upd H D o) env sg := ⟨h.1, fun i x q => by
  obtain ⟨v, a, z⟩ := h.2 i x q
  exact ⟨v, a, Rv.hide (r := ⟨rho, hid⟩) hD z⟩⟩
end

/-- what stands between two turns of a comprehension whose list grows at D -/
structure CInv (K : PySem.W.Frag) (r1 : Rh) (H1 : Hp) (D : Addr) (env : DEnv) (sg : St) (acc : List DV) (rho : List (Option Addr)) (W : Wd) (H : Hp) : Prop where
  x : Ext r1 H1 ⟨rho, r1.hid⟩ H
  d : ∃ avs, H D = some (.lst avs) ∧ Rvs K ⟨rho, D :: r1.hid⟩ H acc avs
  e : RelE K ⟨rho, D :: r1.hid⟩ H env sg
  w : Hw K ⟨rho, D :: r1.hid⟩ H W
theorem of_comp {K : PySem.W.Frag} {I : IS} {G : GS} {B : EB} {F : ES} {ss : List Nat} : ∀ sg H Q, tX K (eComp ss I G B F) sg H Q → tLc (tXI K I) (tXG K ss G) (tXB K B) (tX K F) ss sg H Q := by
  rintro sg H Q ⟨r, env, W, hE, hw, z, W', e, q⟩
  obtain ⟨xs, W1, e1, e⟩ := mb_inv e
  obtain ⟨ys, W2, e2, e⟩ := mb_inv e
  obtain ⟨rfl, rfl⟩ := mr_inv e
  refine ⟨r, env, W, hE, hw, xs, W1, e1, fun r1 H1 J x1 w1 it D hD => ?_⟩
  refine ⟨fun i m H2 => m = xs.length - i ∧ i ≤ xs.length ∧ ∃ acc rho W2, CInv K r1 H1 D (wipeD env ss) (wipe sg ss) acc rho W2 H2 ∧ cLoop G B F (wipeD env ss) (xs.drop i) acc W2 = some (ys, W'),
    ⟨xs.length, by simp, Nat.zero_le _, [], r1.rho, W1, ⟨Ext.laid hD, ⟨[], upd_same, .nil⟩, RelE.hide hD ((hE.ext x1).wipe ss), Hw.hide w1 hD⟩, e2⟩, ?_⟩
  rintro i m H2 ⟨rfl, hi, acc, rho, W2, iv, e3⟩
  obtain ⟨avs, hDa, ra⟩ := iv.d
  have nD : some D ∉ rho := iv.w.hidnot
  have xw : Exw r1 H1 ⟨rho, D :: r1.hid⟩ H2 := ⟨iv.x.get, iv.x.new, fun a ma na => by
    rcases List.mem_cons.mp ma with z | z
    · rw [z]; exact hD
    · exact absurd z na, iv.x.keep⟩
  obtain ⟨it1, it2⟩ := it ⟨rho, D :: r1.hid⟩ H2 W2 xw iv.w
  by_cases hlt : i < xs.length
  · refine .inr ⟨(it1 i xs[i] (List.getElem?_eq_getElem hlt)).1, fun H3 => i + 1 ≤ xs.length ∧ ∃ acc rho W2, CInv K r1 H1 D (wipeD env ss) (wipe sg ss) acc rho W2 H3 ∧ cLoop G B F (wipeD env ss) (xs.drop (i + 1)) acc W2 = some (ys, W'), fun H3 z => ⟨xs.length - (i + 1), by omega, rfl, z.1, z.2⟩, fun v H3 y => ?_⟩
    obtain ⟨sm, rv⟩ := (it1 i xs[i] (List.getElem?_eq_getElem hlt)).2 v H3 y
    rw [List.drop_eq_getElem_cons hlt] at e3
    obtain ⟨env1, W3, e4, e3⟩ := mb_inv e3
    obtain ⟨b, W4, e5, e3⟩ := mb_inv e3
    have x0 : Ext (⟨rho, D :: r1.hid⟩ : Rh) H2 ⟨rho, D :: r1.hid⟩ H3 := Ext.of_same sm
    refine ⟨_, wipeD env ss, W2, xs[i], iv.e.ext x0, iv.w.same sm, rv, env1, W3, e4, fun r4 H4 sg4 x4 w4 hE4 hq4 => ⟨hq4.trans (wipe_wipe sg ss), ?_⟩⟩
    refine ⟨r4, env1, W3, hE4, w4, b, W4, e5, fun r5 H5 x5 w5 => ?_⟩
    -- back from a later state in which D is hidden
    have back : ∀ (r6 : Rh) (H6 : Hp), Ext (⟨rho, D :: r1.hid⟩ : Rh) H2 r6 H6 → r6 = ⟨r6.rho, D :: r1.hid⟩ ∧ Ext r1 H1 ⟨r6.rho, r1.hid⟩ H6 ∧ H6 D = some (.lst avs) ∧ Rvs K r6 H6 acc avs ∧ RelE K r6 H6 (wipeD env ss) (wipe sg ss) := fun r6 H6 x6 => by
      obtain ⟨rho6, hid6⟩ := r6
      obtain rfl : hid6 = D :: r1.hid := x6.hid
      refine ⟨rfl, ⟨rfl, fun j a q => x6.get j a (iv.x.get j a q), Nat.le_trans iv.x.len x6.len, fun a ma na => ?_, fun a u na qa => x6.keep a u (iv.x.notin qa na) (iv.x.keep a u na qa)⟩, x6.keep D _ nD hDa, ra.ext x6, iv.e.ext x6⟩
      by_cases mm : some a ∈ rho
      · exact iv.x.new a mm na
      · cases qa : H1 a with
        | none => rfl
        | some u =>
          have z := x6.new a ma mm
          rw [iv.x.keep a u na qa] at z; cases z
    cases b with
    | false =>
      refine iteF ?_
      obtain ⟨k1, k2, k3, k4, k5⟩ := back r5 H5 ((x0.trans x4).trans x5)
      rw [k1] at k4 k5 w5
      exact ⟨hlt, acc, r5.rho, W4, ⟨k2, ⟨avs, k3, k4⟩, k5, w5⟩, e3⟩
    | true =>
      refine iteT ?_
      obtain ⟨y', W5, e6, e3⟩ := mb_inv (show mb (F env1) _ W4 = some (ys, W') from e3)
      refine ⟨r5, env1, W4, hE4.ext x5, w5, y', W5, e6, fun r6 H6 u x6 w6 ru => ?_⟩
      obtain ⟨k1, k2, k3, k4, k5⟩ := back r6 H6 (((x0.trans x4).trans x5).trans x6)
      rw [k1] at k4 k5 w6 ru
      have n6 : some D ∉ r6.rho := w6.hidnot
      by_cases c : acc.length < sizeLine
      · rw [if_pos c] at e3
        refine ⟨avs, k3, by rw [← ra.length]; exact c, hlt, acc ++ [y'], r6.rho, W5, ⟨?_, ⟨avs ++ [u], upd_same, ?_⟩, RelE.unhid n6 k5, Hw.unhid w6⟩, e3⟩
        · exact ⟨rfl, k2.get, k2.len, k2.new, fun a o na qa => by rw [upd_ne (ne_of_none qa hD)]; exact k2.keep a o na qa⟩
        · exact (Rvs.unhid (r := ⟨r6.rho, r1.hid⟩) n6 k4).append (.cons (Rv.unhid (r := ⟨r6.rho, r1.hid⟩) n6 ru) .nil)
      · rw [if_neg c] at e3; cases e3
  · have ei : i = xs.length := by omega
    subst ei
    rw [List.drop_length] at e3
    obtain ⟨rfl, rfl⟩ := mr_inv e3
    refine .inl ⟨it2 _ (Nat.le_refl _), q ⟨rho, r1.hid⟩ H2 _ (x1.trans iv.x) (Hw.show iv.w) (.lst ⟨nD, fun m => ?_⟩ hDa (Rvs.show (r := ⟨rho, r1.hid⟩) ra))⟩
    obtain ⟨o, q⟩ := w1.hd D m
    rw [hD] at q; cases q
section
variable {X : Cx} {elt tg iter : Expr} {ifs : List Expr} {scope : Scope} {own : List (Str × Nat)} {pos : Pos} {I : IS} {G : GS} {B : EB} {F : ES}
abbrev DTs (X : Cx) (ifs : List Expr) (B : EB) : Prop := PTs X ifs (tXB X.K B)
def bYes : EB := fun _ => mr true
theorem dts_nil : DTs X [] bYes := ⟨fun _ _ _ H Q I h => wpAny_tests_nil ⟨H, I, by
  obtain ⟨r, env, W, hE, hw, b, W', e, q⟩ := h
  obtain ⟨rfl, rfl⟩ := mr_inv e
  exact q r H (Ext.refl _ _) hw⟩⟩
theorem dts_one {c : Expr} (h : DT X c B) : DTs X [c] B := pts_one h
theorem de_comp (hc : X.calm = true) (hN : X.N.Nodup) (hi : DI X tg iter I) (ok : BlkOk X.N X.env.scope scope own)
    (hg : ∀ (s : Shared) (H : Hp) (C : Addr) (cl : List (Str × Addr)) (fp : List Addr), DG (X.blk s H scope (compEnvC scope cl C X.env) fp) (own.map (·.2)) tg G) (ht : ∀ (s : Shared) (H : Hp) (C : Addr) (cl : List (Str × Addr)) (fp : List Addr), DTs (X.blk s H scope (compEnvC scope cl C X.env) fp) ifs B)
    (he : ∀ (s : Shared) (H : Hp) (C : Addr) (cl : List (Str × Addr)) (fp : List Addr), DE (X.blk s H scope (compEnvC scope cl C X.env) fp) elt F) (hs : ∀ x, foldedSetIterable iter X.env x = pure x := by intro _; rfl) :
    DE X (.ListComp elt [⟨tg, iter, ifs, 0⟩] scope pos) (eComp (own.map (·.2)) I G B F) := pe_imp (pe_lc hc hN hi ok hg ht he hs) of_comp
theorem ds_setLc {i : Nat} {y : Str} {py spos : Pos} (hc : X.calm = true) (hN : X.N.Nodup) (hy : X.N[i]? = some y) (hyl : X.env.scope.names.lookup y = some .local)
    (hsw : swapsWith (.ListComp elt [⟨tg, iter, ifs, 0⟩] scope pos) (some (.Name y py)) spos.line X.env = pure true) (hi : DI X tg iter I) (ok : BlkOk X.N X.env.scope scope own)
    (hg : ∀ (s : Shared) (H : Hp) (C : Addr) (cl : List (Str × Addr)) (fp : List Addr), DG (X.blk s H scope (compEnvC scope cl C X.env) fp) (own.map (·.2)) tg G) (ht : ∀ (s : Shared) (H : Hp) (C : Addr) (cl : List (Str × Addr)) (fp : List Addr), DTs (X.blk s H scope (compEnvC scope cl C X.env) fp) ifs B)
    (he : ∀ (s : Shared) (H : Hp) (C : Addr) (cl : List (Str × Addr)) (fp : List Addr), DE (X.blk s H scope (compEnvC scope cl C X.env) fp) elt F) (hs : ∀ x, foldedSetIterable iter X.env x = pure x := by intro _; rfl) :
    DS X (.Assign [.Name y py] (.ListComp elt [⟨tg, iter, ifs, 0⟩] scope pos) spos) (sAsg (eComp (own.map (·.2)) I G B F) (gN i)) := by
  refine ps_imp (ps_setLc (g := tXG X.K (own.map (·.2)) G) (tt := tXB X.K B) (te := tX X.K F) hc hN hy hyl hsw hi ok hg ht he hs) fun D sg H h => ?_
  obtain ⟨r, env, W, hE, hw, x, W', e, q⟩ := of_asg (ss := [i]) D sg H h
  refine of_comp sg H _ ⟨r, env, W, hE, hw, x, W', e, fun r' H' v x' w' rv => of_gname (ss := [i]) (List.mem_singleton.mpr rfl) _ _ _ _ (q r' H' v x' w' rv)⟩
end

/-! ### a def's end: cells of its own that nobody speaks of are dropped -/
mutual
def DV.lo (n : Nat) : DV → Bool
  | .loc i => decide (i < n)
  | .tup xs => DV.loL n xs
  | .lst xs => DV.loL n xs
  | .exc _ _ xs => DV.loL n xs
  | _ => true
def DV.loL (n : Nat) : List DV → Bool
  | [] => true
  | x :: xs => DV.lo n x && DV.loL n xs
end
def Cell.lo (n : Nat) : Cell → Bool
  | .dead => true
  | .lst xs => DV.loL n xs
  | .dK kvs => DV.loL n (kvs.map (·.2))
  | .ins _ fs => DV.loL n (fs.map (·.2))
theorem Cell.lo_eq (n : Nat) (c : Cell) : c.lo n = DV.loL n c.vals := by cases c <;> rfl
def fin (n : Nat) (x : DV) (W : Wd) : Option (DV × Wd) := if W.length = n then some (x, W) else if (x.lo n && (W.take n).all (Cell.lo n)) = true then some (x, W.take n) else some (x, W)
section
variable {K : PySem.W.Frag} {rho : List (Option Addr)} {hid : List Addr} {H : Hp} {n : Nat}
theorem out_take {a : Addr} (h : (⟨rho, hid⟩ : Rh).out a) : (⟨rho.take n, hid⟩ : Rh).out a := ⟨fun m => h.1 (List.mem_of_mem_take m), h.2⟩
mutual
theorem Rv.cut : ∀ {x : DV} {v : V}, x.lo n = true → Rv K ⟨rho, hid⟩ H x v → Rv K ⟨rho.take n, hid⟩ H x v
  | _, _, _, .non => .non
  | _, _, _, .bl b => .bl b
  | _, _, _, .int i => .int i
  | _, _, _, .str s => .str s
  | _, _, _, .cst v => .cst v
  | .loc i, _, b, .loc h => .loc (by
      have l : i < n := of_decide_eq_true b
      show (rho.take n)[i]? = _
      rw [List.getElem?_take]
      rw [if_pos l]; exact h)
  | _, _, _, .scr h => .scr (by
      rcases h with ⟨z, h⟩ | h
      · exact .inl ⟨out_take z, h⟩
      · exact .inr h)
  | .tup xs, _, b, .tup h q => .tup (by
      rcases h with ⟨z, h⟩ | h
      · exact .inl ⟨out_take z, h⟩
      · exact .inr h) (Rvs.cut (show DV.loL n xs = true from b) q)
  | .lst xs, _, b, .lst z h q => .lst (out_take z) h (Rvs.cut (show DV.loL n xs = true from b) q)
  | _, _, _, .gl c => .gl c
  | .exc _ _ _, _, _,  .exc0 c z h => .exc0 c (out_take z) h
  | .exc _ _ xs, _, b, .excD c z h y g l q => .excD c (out_take z) h (out_take y) g l (Rvs.cut (show DV.loL n xs = true from b) q)
theorem Rvs.cut : ∀ {xs : List DV} {vs : List V}, DV.loL n xs = true → Rvs K ⟨rho, hid⟩ H xs vs → Rvs K ⟨rho.take n, hid⟩ H xs vs
  | _, _, _, .nil => .nil
  | x :: xs, _, b, .cons h q => .cons (Rv.cut (Bool.and_eq_true_iff.mp (show (x.lo n && DV.loL n xs) = true from b)).1 h) (Rvs.cut (Bool.and_eq_true_iff.mp (show (x.lo n && DV.loL n xs) = true from b)).2 q)
end
theorem take_get {α : Type} {l : List α} {i : Nat} {a : α} (h : (l.take n)[i]? = some a) : l[i]? = some a ∧ i < n := by
  rw [List.getElem?_take] at h
  split at h
  · rename_i l; exact ⟨h, l⟩
  · cases h
theorem Hw.cut {W : Wd} (h : Hw K ⟨rho, hid⟩ H W) (b : (W.take n).all (Cell.lo n) = true) : Hw K ⟨rho.take n, hid⟩ H (W.take n) where
  len := by show (rho.take n).length = (W.take n).length; rw [List.length_take, List.length_take]; exact congrArg _ h.len
  nd := fun i j a e1 e2 => h.nd i j a (take_get e1).1 (take_get e2).1
  live := fun i c e nd => by
    obtain ⟨e', l⟩ := take_get e
    obtain ⟨a, q⟩ := h.live i c e' nd
    refine ⟨a, ?_⟩
    show (rho.take n)[i]? = _
    rw [List.getElem?_take, if_pos l]; exact q
  sep := fun a m => h.sep a (List.mem_of_mem_take m)
  hd := h.hd
  ok := fun i a c e1 e2 => by
    have k := h.ok i a c (take_get e1).1 (take_get e2).1
    have bc : c.lo n = true := List.all_eq_true.mp b c (mem_of e2)
    obtain ⟨vs, o, q, b, z⟩ := CellOk.iff.mp k
    exact CellOk.iff.mpr ⟨vs, o, q, b, Rvs.cut (by rw [← Cell.lo_eq]; exact bc) z⟩
theorem Ext.cut {r0 : Rh} {H0 : Hp} {r : Rh} (x : Ext r0 H0 r H) : Ext r0 H0 ⟨r.rho.take r0.rho.length, r.hid⟩ H where
  hid := x.hid
  get := fun i a q => by
    obtain ⟨l, _⟩ := List.getElem?_eq_some_iff.mp q
    show (r.rho.take r0.rho.length)[i]? = _
    rw [List.getElem?_take, if_pos l]; exact x.get i a q
  len := by
    show _ ≤ (r.rho.take _).length
    rw [List.length_take]
    exact Nat.le_min.mpr ⟨Nat.le_refl _, x.len⟩
  new := fun a m na => x.new a (List.mem_of_mem_take m) na
  keep := x.keep
end
theorem fin_ok {K : PySem.W.Frag} {r0 : Rh} {H0 : Hp} {r : Rh} {H : Hp} {W W' : Wd} {x y : DV} {v : V} (x0 : Ext r0 H0 r H) (w : Hw K r H W) (rv : Rv K r H x v) (e : fin r0.rho.length x W = some (y, W')) :
    ∃ r', Ext r0 H0 r' H ∧ Hw K r' H W' ∧ Rv K r' H y v := by
  obtain ⟨rho, hid⟩ := r
  unfold fin at e
  split at e
  · cases e; exact ⟨_, x0, w, rv⟩
  · split at e
    · rename_i c
      cases e
      rw [Bool.and_eq_true] at c
      exact ⟨⟨rho.take r0.rho.length, hid⟩, x0.cut, w.cut c.2, rv.cut c.1⟩
    · cases e; exact ⟨_, x0, w, rv⟩

/-! ### a def -/
def runF (nN : Nat) (S : SS) : List DV → M DV := fun xs W => match S W.length (xs.map some ++ List.replicate (nN - xs.length) none) W with
  | some (.rt x, W') => fin W.length x W'
  | some (.nx _, W') => fin W.length .non W'
  | _ => none
theorem rel_start {K : PySem.W.Frag} {r : Rh} {H : Hp} {N : List Str} {xs : List DV} {vs : List V} (h : Rvs K r H xs vs) : RelE K r H (xs.map some ++ List.replicate (N.length - xs.length) none) (start N vs) := by
  have l := h.length
  refine ⟨by unfold start; rw [List.length_append, List.length_append, List.length_map, List.length_map, List.length_replicate, List.length_replicate, l], fun i x e => ?_⟩
  unfold start
  by_cases hi : i < xs.length
  · rw [List.getElem?_append_left (by rw [List.length_map]; exact hi), List.getElem?_map] at e
    cases q : xs[i]? with
    | none => rw [q] at e; cases e
    | some y =>
      rw [q] at e
      have e' : y = x := Option.some.inj (Option.some.inj e)
      subst e'
      obtain ⟨v, e2, rv⟩ := h.get q
      exact ⟨v, by rw [List.getElem?_append_left (by rw [List.length_map, ← l]; exact hi), List.getElem?_map, e2]; rfl, rv⟩
  · rw [List.getElem?_append_right (by rw [List.length_map]; omega)] at e
    have m := mem_of e
    have := (List.mem_replicate.mp m).2
    cases this
theorem fnD {P : Program} {w : PySem.World} {K : PySem.W.Frag} {mg : Str → Option Value} {base : Heap} {x qual : Str} {st : Stmt} {f : Addr} {fd : FuncData} {N ps : List Str} {k : Nat} {S : SS} (F : Fun K x qual st f fd) (Sc : FnScope N ps (defScope st))
    (hb : ∀ (cdv : Value) (A : Around) (out : List Env) (s : Shared) (H : Hp) (E : XK), Rm k (A.deeper (envOfC qual (defScope st) s.heap.objs.size f cdv)) → DSs (cxOf CX0 P w K mg base N qual (defScope st) f cdv A out s H E).nox (defBody st) S) :
    FnG P w K mg base CX0 (k + 1) f fd ps (spD K ps.length (runF N.length S)) := by
  refine fnG_of F Sc (fun vs H Q E h => ?_) (fun cdv A out s H vs Q E hr h => ?_)
  · obtain ⟨r, W, xs, l, hw, rs, _⟩ := h
    rw [← rs.length]; exact l
  · obtain ⟨r, W, xs, l, hw, rs, z, W', e, q⟩ := h
    refine ⟨_, (hb cdv A out s H E hr).nox, ?_⟩
    unfold runF at e
    rw [← hw.len] at e
    refine ⟨r, H, r, _, W, Ext.refl _ _, rel_start rs, hw, ?_⟩
    split at e
    · rename_i y W1 e1
      refine ⟨_, _, e1, fun r1 H1 x1 w1 v rv => ?_⟩
      obtain ⟨r2, k1, k2, k3⟩ := fin_ok x1 w1 rv e
      exact q r2 H1 v k1 k2 k3
    · rename_i y W1 e1
      refine ⟨_, _, e1, fun r1 H1 x1 w1 sg hE => ?_⟩
      obtain ⟨r2, k1, k2, k3⟩ := fin_ok (x := .non) x1 w1 .non e
      exact q r2 H1 _ k1 k2 k3
    · cases e
/-- the same by another name of what it does -/
theorem FnG.say {P : Program} {w : PySem.World} {K : PySem.W.Frag} {mg : Str → Option Value} {base : Heap} {k n : Nat} {f : Addr} {fd : FuncData} {ps : List Str} {fn fn' : List DV → M DV} (F : FnG P w K mg base CX0 k f fd ps (spD K n fn))
    (h : ∀ xs W z, fn' xs W = some z → fn xs W = some z) : FnG P w K mg base CX0 k f fd ps (spD K n fn') :=
  F.weak fun vs H Q E ⟨r, W, xs, l, hw, rs, z, W', e, q⟩ => ⟨r, W, xs, l, hw, rs, z, W', h _ _ _ e, q⟩
end DL
end L2

set_option maxRecDepth 100000
/-! DLe: operators and built-ins upon data. -/
namespace L2
namespace DL
open PySem PySem.Spec PyProof.Rows

/-! ### data as the library's data -/
mutual
def toPy : DV → Option PyData
  | .non => some .none
  | .bl b => some (.bool b)
  | .int i => some (.int i)
  | .str s => some (.str s)
  | .tup xs => (toPys xs).map .tuple
  | .lst xs => (toPys xs).map .list
  | .scr ns => some (.list (ns.map .int))
  | .loc _ => none
  | .cst _ => none
  | .exc _ _ _ => none
  | .gl _ => none
def toPys : List DV → Option (List PyData)
  | [] => some []
  | x :: xs => (toPy x).bind fun d => (toPys xs).map fun ds => d :: ds
end
theorem dp_ints {K : PySem.W.Frag} {H : Hp} : ∀ ns : List Int, DpAll K H (ns.map V.int) (ns.map PyData.int)
  | [] => .nil
  | n :: ns => .cons (.int n) (dp_ints ns)
section
variable {K : PySem.W.Frag} {r : Rh} {H : Hp}
mutual
theorem Rv.dp : ∀ {x : DV} {v : V} {d : PyData}, Rv K r H x v → toPy x = some d → Dp K H v d
  | _, _, _, .non, e => by cases e; exact .non
  | _, _, _, .bl b, e => by cases e; exact .bl b
  | _, _, _, .int i, e => by cases e; exact .int i
  | _, _, _, .str s, e => by cases e; exact .str s
  | _, _, _, .cst v, e => by cases e
  | _, _, _, .loc h, e => by cases e
  | _, _, _, .gl _, e => by cases e
  | _, _, _, .exc0 _ _ _, e => by cases e
  | _, _, _, .excD _ _ _ _ _ _ _, e => by cases e
  | _, _, _, .scr h, e => by cases e; exact .lst h.sq (dp_ints _)
  | .tup xs, _, _, .tup h q, e => by
    obtain ⟨ds, e1, e2⟩ := Option.map_eq_some_iff.mp (show (toPys xs).map PyData.tuple = some _ from e)
    cases e2
    exact .tup h.sq (Rvs.dp q e1)
  | .lst xs, _, _, .lst z h q, e => by
    obtain ⟨ds, e1, e2⟩ := Option.map_eq_some_iff.mp (show (toPys xs).map PyData.list = some _ from e)
    cases e2
    exact .lst (.of h) (Rvs.dp q e1)
theorem Rvs.dp : ∀ {xs : List DV} {vs : List V} {ds : List PyData}, Rvs K r H xs vs → toPys xs = some ds → DpAll K H vs ds
  | _, _, _, .nil, e => by cases e; exact .nil
  | x :: xs, _, _, .cons h q, e => by
    obtain ⟨d, e1, e2⟩ := Option.bind_eq_some_iff.mp (show (toPy x).bind _ = some _ from e)
    obtain ⟨ds, e3, e4⟩ := Option.map_eq_some_iff.mp e2
    cases e4
    exact .cons (Rv.dp h e1) (Rvs.dp q e3)
end
end

/-! ### operators -/
def mz (o : Option DV) : M DV := mo o
/-- an answer without a new object -/
theorem done0 {K : PySem.W.Frag} {r : Rh} {H : Hp} {W : Wd} {z : DV} {u : V} {Q : VK} (hw : Hw K r H W) (rz : Rv K r H z u) (q : ∀ r' H' u, Ext r H r' H' → Hw K r' H' W → Rv K r' H' z u → Q u H') : Q u H := q r H u (Ext.refl _ _) hw rz
def dI (g : Int → Int → Option DV) (x y : DV) : Option DV := match x, y with
  | .int i, .int j => g i j
  | _, _ => none
theorem dI_inv {g : Int → Int → Option DV} {x y z : DV} (h : dI g x y = some z) : ∃ i j, x = .int i ∧ y = .int j ∧ g i j = some z := by
  unfold dI at h
  split at h
  · exact ⟨_, _, rfl, rfl, h⟩
  · cases h
def oI (g : Int → Int → Option DV) : DV → DV → M DV := fun x y => mo (dI g x y)
theorem od_i0 {K : PySem.W.Frag} {g : Int → Int → Int} : OpD K (rI0 fun i j => .int (g i j)) (oI fun i j => some (.int (g i j))) := by
  intro r H W x y z W' v w Q hw e rx ry q
  replace e := mo_inv e
  obtain ⟨e, rfl⟩ := e
  replace e := dI_inv e
  obtain ⟨i, j, rfl, rfl, e⟩ := e
  cases e
  obtain rfl := rx.int_inv
  obtain rfl := ry.int_inv
  exact ⟨i, j, rfl, rfl, done0 hw (.int _) q⟩
theorem od_b0 {K : PySem.W.Frag} {g : Int → Int → Bool} : OpD K (rI0 fun i j => .bl (g i j)) (oI fun i j => some (.bl (g i j))) := by
  intro r H W x y z W' v w Q hw e rx ry q
  replace e := mo_inv e
  obtain ⟨e, rfl⟩ := e
  replace e := dI_inv e
  obtain ⟨i, j, rfl, rfl, e⟩ := e
  cases e
  obtain rfl := rx.int_inv
  obtain rfl := ry.int_inv
  exact ⟨i, j, rfl, rfl, done0 hw (.bl _) q⟩
theorem od_i {K : PySem.W.Frag} {C : Int → Int → Prop} {c : Int → Int → Bool} {g : Int → Int → Int} (hc : ∀ i j, c i j = true → C i j) : OpD K (rI C fun i j => .int (g i j)) (oI fun i j => if c i j = true then some (.int (g i j)) else none) := by
  intro r H W x y z W' v w Q hw e rx ry q
  replace e := mo_inv e
  obtain ⟨e, rfl⟩ := e
  replace e := dI_inv e
  obtain ⟨i, j, rfl, rfl, e⟩ := e
  obtain ⟨c, rfl⟩ := if_inv e
  obtain rfl := rx.int_inv
  obtain rfl := ry.int_inv
  exact ⟨i, j, rfl, rfl, hc i j c, done0 hw (.int _) q⟩
def oSub := oI fun i j => some (.int (i - j))
def bound64 (i : Int) : Bool := decide (-(2 ^ 64) < i ∧ i < 2 ^ 64)
def oMul := oI fun i j => if (bound64 i || bound64 j) = true then some (.int (i * j)) else none
def oDiv := oI fun i j => if (decide (0 < j ∧ j < 1073741824)) = true then some (.int (i / j)) else none
def oMod := oI fun i j => if (decide (0 < j)) = true then some (.int (i % j)) else none
def oPow := oI fun i j => if (decide (0 ≤ j ∧ j ≤ 1000000 ∧ i.natAbs < 2 ^ 64)) = true then some (.int (i ^ j.toNat)) else none
def oLt := oI fun i j => some (.bl (decide (i < j)))
def oLe := oI fun i j => some (.bl (decide (i ≤ j)))
def oGt := oI fun i j => some (.bl (decide (j < i)))
def oGe := oI fun i j => some (.bl (decide (j ≤ i)))
theorem od_mul {K : PySem.W.Frag} : OpD K (rI CMul fun i j => .int (i * j)) oMul := od_i fun i j h => by
  rcases Bool.or_eq_true_iff.mp h with h | h
  · exact .inl (of_decide_eq_true h)
  · exact .inr (of_decide_eq_true h)
theorem od_div {K : PySem.W.Frag} : OpD K (rI CDiv fun i j => .int (i / j)) oDiv := od_i fun i j h => (of_decide_eq_true h : 0 < j ∧ j < 1073741824)
theorem od_mod {K : PySem.W.Frag} : OpD K (rI (fun _ j => 0 < j) fun i j => .int (i % j)) oMod := od_i fun i j h => of_decide_eq_true h
theorem od_pow {K : PySem.W.Frag} : OpD K (rI CPow fun i j => .int (i ^ j.toNat)) oPow := od_i fun i j h => (of_decide_eq_true h : 0 ≤ j ∧ j ≤ 1000000 ∧ i.natAbs < 2 ^ 64)
section
variable {X : Cx} {a b : Expr} {F F' : ES} {pos : Pos}
theorem de_sub (ha : DE X a F) (hb : DE X b F') : DE X (.BinOp a .Sub b pos) (eO oSub F F') := de_op op_sub od_i0 ha hb
theorem de_mul (ha : DE X a F) (hb : DE X b F') : DE X (.BinOp a .Mult b pos) (eO oMul F F') := de_op op_mul od_mul ha hb
theorem de_div (ha : DE X a F) (hb : DE X b F') : DE X (.BinOp a .FloorDiv b pos) (eO oDiv F F') := de_op op_fdiv od_div ha hb
theorem de_mod (ha : DE X a F) (hb : DE X b F') : DE X (.BinOp a .Mod b pos) (eO oMod F F') := de_op op_mod od_mod ha hb
theorem de_pow (ha : DE X a F) (hb : DE X b F') : DE X (.BinOp a .Pow b pos) (eO oPow F F') := de_op op_pow od_pow ha hb
end
/-- + : ints, texts, tuples, lists -/
def dAdd (x y : DV) : Option DV := match x, y with
  | .int i, .int j => some (.int (i + j))
  | .str i, .str j => if decide (i.length + j.length ≤ sizeLine) = true then some (.str (i ++ j)) else none
  | .lst xs, .lst ys => if decide (xs.length + ys.length ≤ sizeLine) = true then some (.lst (xs ++ ys)) else none
  | .tup xs, .tup ys => if (!xs.isEmpty && decide (xs.length + ys.length ≤ sizeLine)) = true then some (.tup (xs ++ ys)) else none
  | _, _ => none
def oAdd : DV → DV → M DV := fun x y => mo (dAdd x y)
abbrev rAddA (K : PySem.W.Frag) : R2 := fun x y H Q => rI0 (fun i j => .int (i + j)) x y H Q ∨ (∃ i j, x = .str i ∧ y = .str j ∧ i.length + j.length ≤ sizeLine ∧ Q (.str (i ++ j)) H) ∨ rCat x y H Q ∨ rCatT K x y H Q
theorem od_add {K : PySem.W.Frag} : OpD K (rAddA K) oAdd := by
  intro r H W x y z W' v w Q hw e rx ry q
  replace e := mo_inv e
  obtain ⟨e, rfl⟩ := e
  unfold dAdd at e
  split at e
  · cases e
    obtain rfl := rx.int_inv
    obtain rfl := ry.int_inv
    exact .inl ⟨_, _, rfl, rfl, done0 hw (.int _) q⟩
  · obtain ⟨c, rfl⟩ := if_inv e
    obtain rfl := rx.str_inv
    obtain rfl := ry.str_inv
    exact .inr (.inl ⟨_, _, rfl, rfl, of_decide_eq_true c, done0 hw (.str _) q⟩)
  · obtain ⟨c, rfl⟩ := if_inv e
    have l := of_decide_eq_true c
    cases rx with
    | lst z1 h1 q1 =>
      cases ry with
      | lst z2 h2 q2 =>
        refine .inr (.inr (.inl ⟨_, _, _, _, rfl, rfl, h1, h2, by rw [← q1.length, ← q2.length]; exact l, fun p hp => ?_⟩))
        exact q r _ _ (Ext.laid hp) (hw.laid hp) (Rv.newLst hw (q1.append q2) hp)
  · obtain ⟨c, rfl⟩ := if_inv e
    rw [Bool.and_eq_true] at c
    have l := of_decide_eq_true c.2
    cases rx with
    | @tup a1 vs1 xs1 h1 q1 =>
      cases ry with
      | @tup a2 vs2 xs2 h2 q2 =>
        refine .inr (.inr (.inr ⟨_, _, _, _, rfl, rfl, h1.sq, h2.sq, fun z => ?_, by rw [← q1.length, ← q2.length]; exact l, fun z => ?_, fun _ p hp => ?_⟩))
        · subst z
          cases q1
          exact absurd c.1 (by decide)
        · subst z
          cases q2
          rw [List.append_nil] at q
          exact done0 hw (.tup h1 q1) q
        · exact q r _ _ (Ext.laid hp) (hw.laid hp) (Rv.newTup hw (q1.append q2) hp)
  · cases e
/-- == -/
def dEqD (x y : DV) : Option Bool := (toPy x).bind fun d => (toPy y).bind fun e => if (SeqAt.shaped d && SeqAt.shaped e) = true then some (PyData.eqv d e) else none
def dEq (x y : DV) : Option Bool := match x, y with
  | .int i, .int j => some (decide (i = j))
  | .str i, .str j => some (decide (i = j))
  | .bl i, .bl j => some (decide (i = j))
  | _, _ => dEqD x y
def oEq : DV → DV → M DV := fun x y => mo ((dEq x y).map .bl)
def oNe : DV → DV → M DV := fun x y => mo ((dEq x y).map fun b => .bl (!b))
theorem dEqD_inv {x y : DV} {b : Bool} (h : dEqD x y = some b) : ∃ d e, toPy x = some d ∧ toPy y = some e ∧ SeqAt.shaped d = true ∧ SeqAt.shaped e = true ∧ PyData.eqv d e = b := by
  obtain ⟨d, e1, h⟩ := Option.bind_eq_some_iff.mp h
  obtain ⟨e, e2, h⟩ := Option.bind_eq_some_iff.mp h
  obtain ⟨c, h⟩ := if_inv h
  rw [Bool.and_eq_true] at c
  exact ⟨d, e, e1, e2, c.1, c.2, h⟩
theorem dEq_rel {K : PySem.W.Frag} {r : Rh} {H : Hp} {x y : DV} {v w : V} {b : Bool} (h : dEq x y = some b) (rx : Rv K r H x v) (ry : Rv K r H y w) :
    (scal v w = true ∧ b = decide (v = w)) ∨ ∃ d e, Dp K H v d ∧ Dp K H w e ∧ SeqAt.shaped d = true ∧ SeqAt.shaped e = true ∧ PyData.eqv d e = b := by
  unfold dEq at h
  split at h
  · obtain rfl := rx.int_inv
    obtain rfl := ry.int_inv
    cases h
    exact .inl ⟨rfl, by simp⟩
  · obtain rfl := rx.str_inv
    obtain rfl := ry.str_inv
    cases h
    exact .inl ⟨rfl, by simp⟩
  · obtain rfl := rx.bl_inv
    obtain rfl := ry.bl_inv
    cases h
    exact .inl ⟨rfl, by simp⟩
  · obtain ⟨d, e2, h1, h2, s1, s2, e⟩ := dEqD_inv h
    exact .inr ⟨d, e2, rx.dp h1, ry.dp h2, s1, s2, e⟩
theorem od_eq {K : PySem.W.Frag} : OpD K (fun x y H Q => rEq x y H Q ∨ rEqD K x y H Q) oEq := by
  intro r H W x y z W' v w Q hw e rx ry q
  replace e := mo_inv e
  obtain ⟨e, rfl⟩ := e
  replace e := Option.map_eq_some_iff.mp e
  obtain ⟨b, e, rfl⟩ := e
  rcases dEq_rel e rx ry with ⟨h1, rfl⟩ | ⟨d, e2, h1, h2, s1, s2, rfl⟩
  · exact .inl ⟨h1, done0 hw (.bl _) q⟩
  · exact .inr ⟨d, e2, h1, h2, s1, s2, done0 hw (.bl _) q⟩
theorem od_ne {K : PySem.W.Frag} : OpD K (fun x y H Q => rNe x y H Q ∨ rNeD K x y H Q) oNe := by
  intro r H W x y z W' v w Q hw e rx ry q
  replace e := mo_inv e
  obtain ⟨e, rfl⟩ := e
  replace e := Option.map_eq_some_iff.mp e
  obtain ⟨b, e, rfl⟩ := e
  rcases dEq_rel e rx ry with ⟨h1, rfl⟩ | ⟨d, e2, h1, h2, s1, s2, rfl⟩
  · exact .inl ⟨h1, done0 hw (.bl _) q⟩
  · exact .inr ⟨d, e2, h1, h2, s1, s2, done0 hw (.bl _) q⟩
/-- flat data -/
def flatD : DV → Option V
  | .non => some .non
  | .bl b => some (.bl b)
  | .int i => some (.int i)
  | .str s => some (.str s)
  | _ => none
def flatDs : List DV → Option (List V)
  | [] => some []
  | x :: xs => (flatD x).bind fun v => (flatDs xs).map fun vs => v :: vs
theorem Rv.flat {K : PySem.W.Frag} {r : Rh} {H : Hp} {x : DV} {v u : V} (h : Rv K r H x v) (e : flatD x = some u) : v = u ∧ flatV u = true := by
  cases h <;> first | (cases e; exact ⟨rfl, rfl⟩) | cases e
theorem Rvs.flat {K : PySem.W.Frag} {r : Rh} {H : Hp} : ∀ {xs : List DV} {vs us : List V}, Rvs K r H xs vs → flatDs xs = some us → vs = us ∧ us.all flatV = true
  | _, _, _, .nil, e => by cases e; exact ⟨rfl, rfl⟩
  | x :: xs, _, _, .cons h q, e => by
    obtain ⟨u, e1, e2⟩ := Option.bind_eq_some_iff.mp (show (flatD x).bind _ = some _ from e)
    obtain ⟨us, e3, e4⟩ := Option.map_eq_some_iff.mp e2
    cases e4
    obtain ⟨rfl, f1⟩ := h.flat e1
    obtain ⟨rfl, f2⟩ := Rvs.flat q e3
    exact ⟨rfl, by rw [List.all_cons, f1, f2]; rfl⟩
def signOf (s : Str) : Option Nat := match s.cps.toList with
  | [c] => some c
  | _ => none
theorem sign_inv {s : Str} {c : Nat} (h : signOf s = some c) : s = ⟨#[c]⟩ := by
  obtain ⟨⟨l⟩⟩ := s
  unfold signOf at h
  split at h
  · rename_i d e
    cases h
    have e' : l = [c] := e
    rw [e']
  · cases h
/-- in -/
def dIn (x y : DV) : Option Bool := match y with
  | .tup ys => (flatD x).bind fun v => (flatDs ys).map fun vs => inV v vs
  | .lst ys => (flatD x).bind fun v => (flatDs ys).map fun vs => inV v vs
  | .str t => match x with
    | .str s => (signOf s).map fun c => decide (c ∈ t.cps.toList)
    | _ => none
  | _ => none
def oIn : DV → DV → M DV := fun x y => mo ((dIn x y).map .bl)
def oNotIn : DV → DV → M DV := fun x y => mo ((dIn x y).map fun b => .bl (!b))
abbrev rInA (K : PySem.W.Frag) : R2 := fun x y H Q => rIn K false x y H Q ∨ ∃ (c : Nat) (z : Str), x = .str ⟨#[c]⟩ ∧ y = .str z ∧ Q (.bl (decide (c ∈ z.cps.toList))) H
abbrev rNotInA (K : PySem.W.Frag) : R2 := fun x y H Q => rIn K true x y H Q ∨ ∃ (c : Nat) (z : Str), x = .str ⟨#[c]⟩ ∧ y = .str z ∧ Q (.bl (!decide (c ∈ z.cps.toList))) H
theorem dIn_ok {K : PySem.W.Frag} {r : Rh} {H : Hp} {x y : DV} {v w : V} {b : Bool} (h : dIn x y = some b) (rx : Rv K r H x v) (ry : Rv K r H y w) :
    (∃ p xs, w = .ref p ∧ (SqL K H p xs ∨ SqT K H p xs) ∧ flatV v = true ∧ xs.all flatV = true ∧ b = inV v xs) ∨ ∃ (c : Nat) (z : Str), v = .str ⟨#[c]⟩ ∧ w = .str z ∧ b = decide (c ∈ z.cps.toList) := by
  unfold dIn at h
  split at h
  · obtain ⟨u, e1, h⟩ := Option.bind_eq_some_iff.mp h
    obtain ⟨us, e2, rfl⟩ := Option.map_eq_some_iff.mp h
    obtain ⟨rfl, f1⟩ := rx.flat e1
    cases ry with
    | tup hq qs =>
      obtain ⟨rfl, f2⟩ := qs.flat e2
      exact .inl ⟨_, _, rfl, .inr hq.sq, f1, f2, rfl⟩
  · obtain ⟨u, e1, h⟩ := Option.bind_eq_some_iff.mp h
    obtain ⟨us, e2, rfl⟩ := Option.map_eq_some_iff.mp h
    obtain ⟨rfl, f1⟩ := rx.flat e1
    cases ry with
    | lst z hq qs =>
      obtain ⟨rfl, f2⟩ := qs.flat e2
      exact .inl ⟨_, _, rfl, .inl (.of hq), f1, f2, rfl⟩
  · split at h
    · obtain ⟨c, e1, rfl⟩ := Option.map_eq_some_iff.mp h
      have e2 := sign_inv e1
      subst e2
      obtain rfl := rx.str_inv
      obtain rfl := ry.str_inv
      exact .inr ⟨c, _, rfl, rfl, rfl⟩
    · cases h
  · cases h
theorem od_in {K : PySem.W.Frag} : OpD K (rInA K) oIn := by
  intro r H W x y z W' v w Q hw e rx ry q
  replace e := mo_inv e
  obtain ⟨e, rfl⟩ := e
  replace e := Option.map_eq_some_iff.mp e
  obtain ⟨b, e, rfl⟩ := e
  rcases dIn_ok e rx ry with ⟨p, xs, rfl, h1, h2, h3, rfl⟩ | ⟨c, t, rfl, rfl, rfl⟩
  · exact .inl ⟨p, xs, rfl, h1, h2, h3, done0 hw (.bl _) q⟩
  · exact .inr ⟨c, t, rfl, rfl, done0 hw (.bl _) q⟩
theorem od_notIn {K : PySem.W.Frag} : OpD K (rNotInA K) oNotIn := by
  intro r H W x y z W' v w Q hw e rx ry q
  replace e := mo_inv e
  obtain ⟨e, rfl⟩ := e
  replace e := Option.map_eq_some_iff.mp e
  obtain ⟨b, e, rfl⟩ := e
  rcases dIn_ok e rx ry with ⟨p, xs, rfl, h1, h2, h3, rfl⟩ | ⟨c, t, rfl, rfl, rfl⟩
  · exact .inl ⟨p, xs, rfl, h1, h2, h3, done0 hw (.bl _) q⟩
  · exact .inr ⟨c, t, rfl, rfl, done0 hw (.bl _) q⟩
/-- is None -/
def isN : DV → Bool
  | .non => true
  | .cst v => decide (v = .non)
  | _ => false
theorem Rv.isN {K : PySem.W.Frag} {r : Rh} {H : Hp} {x : DV} {v : V} (h : Rv K r H x v) : decide (v = .non) = DL.isN x := by
  cases h <;> first | rfl | simp [DL.isN]
def oIs : DV → DV → M DV := fun x y => mo (match y with | .non => some (.bl (isN x)) | _ => none)
def oIsNot : DV → DV → M DV := fun x y => mo (match y with | .non => some (.bl (!isN x)) | _ => none)
theorem od_is {K : PySem.W.Frag} : OpD K (fun x y H Q => y = .non ∧ Q (.bl (decide (x = .non))) H) oIs := by
  intro r H W x y z W' v w Q hw e rx ry q
  replace e := mo_inv e
  obtain ⟨e, rfl⟩ := e
  split at e
  · cases e
    rw [rx.isN]
    exact ⟨ry.non_inv, done0 hw (.bl _) q⟩
  · cases e
theorem od_isNot {K : PySem.W.Frag} : OpD K (fun x y H Q => y = .non ∧ Q (.bl (!decide (x = .non))) H) oIsNot := by
  intro r H W x y z W' v w Q hw e rx ry q
  replace e := mo_inv e
  obtain ⟨e, rfl⟩ := e
  split at e
  · cases e
    rw [rx.isN]
    exact ⟨ry.non_inv, done0 hw (.bl _) q⟩
  · cases e
section
variable {X : Cx} {a b c : Expr} {F F' F2 : ES} {pos : Pos} {k : Nat}
theorem de_add (ha : DE X a F) (hb : DE X b F') : DE X (.BinOp a .Add b pos) (eO oAdd F F') := de_op (op_add.or (op_add_str.or (op_cat.or op_catT))) od_add ha hb
/-- the rule of a comparison -/
structure CmpR (X : Cx) (op : CmpOp) (G : DV → DV → M DV) : Prop where
  ex : ∃ r2 : R2, OpR X (compareOp op) r2 ∧ OpD X.K r2 G
theorem c_lt : CmpR X .Lt oLt := ⟨_, op_lt, od_b0⟩
theorem c_le : CmpR X .LtE oLe := ⟨_, op_le, od_b0⟩
theorem c_gt : CmpR X .Gt oGt := ⟨_, op_gt, od_b0⟩
theorem c_ge : CmpR X .GtE oGe := ⟨_, op_ge, od_b0⟩
theorem c_eq (hr : Rm k X.A) : CmpR X .Eq oEq := ⟨_, op_eq.or (op_eqD hr.1.units), od_eq⟩
theorem c_ne (hr : Rm k X.A) : CmpR X .NotEq oNe := ⟨_, op_ne.or (op_neD hr.1.units), od_ne⟩
theorem c_in : CmpR X .In oIn := ⟨_, op_in_seq.or op_in_sign, od_in⟩
theorem c_notIn : CmpR X .NotIn oNotIn := ⟨_, op_notIn_seq.or op_notIn_sign, od_notIn⟩
theorem c_is : CmpR X .Is oIs := ⟨_, op_isN, od_is⟩
theorem c_isNot : CmpR X .IsNot oIsNot := ⟨_, op_notN, od_isNot⟩
theorem de_c {op : CmpOp} {G : DV → DV → M DV} (h : CmpR X op G) (ha : DE X a F) (hb : DE X b F') (hm : behindInMarks op b = false := by rfl) : DE X (.Compare a [op] [b] pos) (eO G F F') := by
  obtain ⟨r2, h1, h2⟩ := h.ex
  exact de_cmp h1 h2 ha hb hm
theorem dt_c {op : CmpOp} {G : DV → DV → M DV} (h : CmpR X op G) (ha : DE X a F) (hb : DE X b F') (hm : behindInMarks op b = false := by rfl) : DT X (.Compare a [op] [b] pos) (bT (eO G F F')) := by
  obtain ⟨r2, h1, h2⟩ := h.ex
  exact dt_cmp h1 h2 ha hb hm
theorem of_chain {K : PySem.W.Frag} {r2 r2' : R2} {G G' : DV → DV → M DV} (g : OpD K r2 G) (g' : OpD K r2' G') : ∀ sg H Q, tX K (eCh G G' F F' F2) sg H Q → tChain r2 r2' (tX K F) (tX K F') (tX K F2) sg H Q := by
  rintro sg H Q ⟨r, env, W, hE, hw, z, W', e, q⟩
  obtain ⟨x, W1, e1, e⟩ := mb_inv e
  obtain ⟨y, W2, e2, e⟩ := mb_inv e
  obtain ⟨d, W3, e3, e⟩ := mb_inv e
  obtain ⟨b, W4, e4, e⟩ := mb_inv e
  obtain ⟨rfl, rfl⟩ := mB_inv e4
  refine ⟨r, env, W, hE, hw, x, W1, e1, fun r1 H1 v x1 w1 rx => ?_⟩
  refine ⟨r1, env, W1, hE.ext x1, w1, y, W2, e2, fun r2 H2 w x2 w2 ry => ?_⟩
  refine g r2 H2 W2 x y _ _ v w _ w2 e3 (rx.ext x2) ry fun r3 H3 u x3 w3 ru => ⟨b, ru.bl_inv, ?_⟩
  cases b with
  | true =>
    obtain ⟨z', W5, e5, e⟩ := mb_inv (show mb (F2 env) _ W4 = some (z, W') from e)
    refine iteT ⟨r3, env, W4, hE.ext ((x1.trans x2).trans x3), w3, z', W5, e5, fun r4 H4 u' x4 w4 rz => ?_⟩
    exact g' r4 H4 W5 y z' z W' w u' Q w4 e (ry.ext (x3.trans x4)) rz fun r5 H5 t x5 w5 rt => q r5 H5 t ((((x1.trans x2).trans x3).trans x4).trans x5) w5 rt
  | false =>
    obtain ⟨rfl, rfl⟩ := mr_inv (show mr (DV.bl false) W4 = some (z, W') from e)
    exact iteF (q r3 H3 _ ((x1.trans x2).trans x3) w3 (.bl _))
theorem de_ch {op op' : CmpOp} {G G' : DV → DV → M DV} (h : CmpR X op G) (h' : CmpR X op' G') (ha : DE X a F) (hb : DE X b F') (hc : DE X c F2) (hm : lastMarks [op, op'] [b, c] = false := by with_unfolding_all rfl) : DE X (.Compare a [op, op'] [b, c] pos) (eCh G G' F F' F2) := by
  obtain ⟨r2, h1, h2⟩ := h.ex
  obtain ⟨r2', h3, h4⟩ := h'.ex
  exact pe_imp (pe_chain h1 h3 ha hb hc hm) (of_chain h2 h4)
theorem dt_ch {op op' : CmpOp} {G G' : DV → DV → M DV} (h : CmpR X op G) (h' : CmpR X op' G') (ha : DE X a F) (hb : DE X b F') (hc : DE X c F2) (hm : lastMarks [op, op'] [b, c] = false := by with_unfolding_all rfl) : DT X (.Compare a [op, op'] [b, c] pos) (bT (eCh G G' F F' F2)) := by
  obtain ⟨r2, h1, h2⟩ := h.ex
  obtain ⟨r2', h3, h4⟩ := h'.ex
  exact pt_imp (pt_chain h1 h3 ha hb hc hm) (of_test (of_chain h2 h4))
end
end DL
end L2

set_option maxRecDepth 100000
/-! DLf: subscripts, slices, built-in functions, iterators, append. -/
namespace L2
namespace DL
open PySem PySem.Spec PyProof.Rows

/-! ### subscripts -/
/-- the items of what may be subscripted by a number -/
def itemsOf (W : Wd) : DV → Option (List DV)
  | .tup xs => some xs
  | .lst xs => some xs
  | .scr ns => some (ns.map DV.int)
  | .loc i => match W[i]? with
    | some (.lst xs) => some xs
    | _ => none
  | _ => none
theorem atI_rel {K : PySem.W.Frag} {r : Rh} {H : Hp} {xs : List DV} {vs : List V} {i : Int} {x : DV} (h : Rvs K r H xs vs) (e : atI xs i = some x) : ∃ v, atI vs i = some v ∧ Rv K r H x v := by
  unfold atI at e ⊢
  obtain ⟨j, e1, e2⟩ := Option.bind_eq_some_iff.mp e
  obtain ⟨v, e3, rv⟩ := h.get e2
  exact ⟨v, by rw [← h.length, e1]; exact e3, rv⟩
def oIx : DV → DV → M DV := fun x y W => match y with
  | .int i => match x with
    | .str s => if s.length ≤ sizeLine then ((atI s.cps.toList i).map fun c => DV.str ⟨#[c]⟩).map fun z => (z, W) else none
    | _ => ((itemsOf W x).bind fun xs => atI xs i).map fun z => (z, W)
  | _ => none
abbrev rIxA (K : PySem.W.Frag) : R2 := fun x y H Q => rIxL K x y H Q ∨ rIxT K x y H Q ∨ rIxS x y H Q
theorem items_rel {K : PySem.W.Frag} {r : Rh} {H : Hp} {W : Wd} {x : DV} {xs : List DV} {v : V} (hw : Hw K r H W) (rx : Rv K r H x v) (e : itemsOf W x = some xs) : ∃ a vs, v = .ref a ∧ (SqL K H a vs ∨ SqT K H a vs) ∧ Rvs K r H xs vs := by
  cases rx with
  | tup h q => cases e; exact ⟨_, _, rfl, .inr h.sq, q⟩
  | lst z h q => cases e; exact ⟨_, _, rfl, .inl (.of h), q⟩
  | scr h => cases e; exact ⟨_, _, rfl, .inl h.sq, map_ints _⟩
  | @loc i a h =>
    unfold itemsOf at e
    dsimp only at e
    cases q : W[i]? with
    | none => rw [q] at e; cases e
    | some c =>
      rw [q] at e
      cases c with
      | dead => cases e
      | dK _ => cases e
      | ins _ _ => cases e
      | lst ys =>
        cases e
        obtain ⟨vs, h1, h2⟩ := hw.ok i a _ h q
        exact ⟨a, vs, rfl, .inl (.of h1), h2⟩
  | _ => cases e
theorem od_ix {K : PySem.W.Frag} : OpD K (rIxA K) oIx := by
  intro r H W x y z W' v w Q hw e rx ry q
  unfold oIx at e
  split at e
  · rename_i i
    obtain rfl := ry.int_inv
    split at e
    · rename_i s
      obtain rfl := rx.str_inv
      by_cases l : s.length ≤ sizeLine
      · rw [if_pos l] at e
        obtain ⟨d, e3, e2⟩ := Option.map_eq_some_iff.mp e
        cases e2
        obtain ⟨c, e4, rfl⟩ := Option.map_eq_some_iff.mp e3
        exact .inr (.inr ⟨s, i, c, rfl, rfl, l, e4, done0 hw (.str _) q⟩)
      · rw [if_neg l] at e; cases e
    · obtain ⟨d, e4, e2⟩ := Option.map_eq_some_iff.mp e
      cases e2
      obtain ⟨xs, e1, e5⟩ := Option.bind_eq_some_iff.mp e4
      obtain ⟨a, vs, rfl, hs, rs⟩ := items_rel hw rx e1
      obtain ⟨u, e3, ru⟩ := atI_rel rs e5
      rcases hs with hs | hs
      · exact .inl ⟨a, vs, i, u, rfl, rfl, hs, e3, done0 hw ru q⟩
      · exact .inr (.inl ⟨a, vs, i, u, rfl, rfl, hs, e3, done0 hw ru q⟩)
  · cases e
section
variable {X : Cx} {a b : Expr} {F F' : ES} {pos : Pos}
theorem de_at (ha : DE X a F) (hb : DE X b F') (hs : PlainIx b := by exact fun _ _ => rfl) : DE X (.Subscript a b pos) (eO oIx F F') := de_ix (ix_list.or (ix_tup.or ix_str)) od_ix ha hb hs
end
/-! ### slices -/
def cutD (xs : List DV) (lo hi : Option Int) : List DV := (xs.drop (HT.sIx xs.length 0 lo)).take (HT.sIx xs.length xs.length hi - HT.sIx xs.length 0 lo)
theorem Rvs.cutD {K : PySem.W.Frag} {r : Rh} {H : Hp} {xs : List DV} {vs : List V} (h : Rvs K r H xs vs) (lo hi : Option Int) : Rvs K r H (DL.cutD xs lo hi) (cutV vs lo hi) := by
  unfold DL.cutD cutV
  rw [h.length]
  exact (h.drop _).take _
abbrev EO := DEnv → M (Option Int)
def tXO (K : PySem.W.Frag) (F : EO) : TO := fun sg H Q => ∃ r env W, RelE K r H env sg ∧ Hw K r H W ∧ ∃ x W', F env W = some (x, W') ∧ ∀ r' H', Ext r H r' H' → Hw K r' H' W' → Q x H'
abbrev DO (X : Cx) (e : Option Expr) (F : EO) : Prop := PO X e (tXO X.K F)
theorem po_imp {X : Cx} {e : Option Expr} {t t' : TO} (h : PO X e t) (i : ∀ sg H Q, t' sg H Q → t sg H Q) : PO X e t' := ⟨fun pins s sg H Q I w => h.run pins s sg H Q I (i sg H Q w)⟩
def oNone : EO := fun _ => mr none
def oSome (F : ES) : EO := fun env => mb (F env) fun x => match x with
  | .int i => mr (some i)
  | _ => fun _ => none
def dSl (x : DV) (lo hi : Option Int) : M DV := fun W => match x with
  | .str s => if s.length ≤ sizeLine then some (.str (cutS s lo hi), W) else none
  | .tup xs => if HT.sIx xs.length 0 lo = 0 ∧ HT.sIx xs.length xs.length hi = xs.length then none else some (.tup (cutD xs lo hi), W)
  | .lst xs => some (.lst (cutD xs lo hi), W)
  | .scr ns => some (.lst (cutD (ns.map DV.int) lo hi), W)
  | _ => none
def eSl (F : ES) (L U : EO) : ES := fun env => mb (F env) fun x => mb (L env) fun lo => mb (U env) fun hi => dSl x lo hi
section
variable {X : Cx} {a : Expr} {l u : Option Expr} {F : ES} {L U : EO} {pos p2 : Pos}
theorem do_none : DO X none oNone := by
  refine po_imp po_none ?_
  rintro sg H Q ⟨r, env, W, hE, hw, x, W', e, q⟩
  obtain ⟨rfl, rfl⟩ := mr_inv e
  exact q r H (Ext.refl _ _) hw
theorem do_some (h : DE X a F) : DO X (some a) (oSome F) := by
  refine po_imp (po_some h) ?_
  rintro sg H Q ⟨r, env, W, hE, hw, x, W', e, q⟩
  obtain ⟨y, W1, e1, e⟩ := mb_inv e
  refine ⟨r, env, W, hE, hw, y, W1, e1, fun r1 H1 v x1 w1 rv => ?_⟩
  cases rv with
  | int i =>
    obtain ⟨rfl, rfl⟩ := mr_inv (show mr (some i) W1 = some (x, W') from e)
    exact ⟨i, rfl, q r1 H1 x1 w1⟩
  | _ => cases (show none = some (x, W') from e)
theorem de_slice (he : DE X a F) (hl : DO X l L) (hu : DO X u U) : DE X (.Subscript a (.Slice l u none p2) pos) (eSl F L U) := by
  refine pe_imp (pe_slice (sl_list.or (sl_tup.or sl_str)) he hl hu) ?_
  rintro sg H Q ⟨r, env, W, hE, hw, z, W', e, q⟩
  obtain ⟨x, W1, e1, e⟩ := mb_inv e
  obtain ⟨lo, W2, e2, e⟩ := mb_inv e
  obtain ⟨hi, W3, e3, e⟩ := mb_inv e
  refine ⟨r, env, W, hE, hw, x, W1, e1, fun r1 H1 v x1 w1 rx => ?_⟩
  refine ⟨r1, env, W1, hE.ext x1, w1, lo, W2, e2, fun r2 H2 x2 w2 => ?_⟩
  refine ⟨r2, env, W2, (hE.ext x1).ext x2, w2, hi, W3, e3, fun r3 H3 x3 w3 => ?_⟩
  have x4 := (x1.trans x2).trans x3
  have rx' := rx.ext (x2.trans x3)
  cases rx' with
  | str s =>
    unfold dSl at e
    dsimp only at e
    by_cases c : s.length ≤ sizeLine
    · rw [if_pos c] at e; cases e
      exact .inr (.inr ⟨s, rfl, c, q r3 H3 _ x4 w3 (.str _)⟩)
    · rw [if_neg c] at e; cases e
  | @tup b vs xs h1 q1 =>
    unfold dSl at e
    dsimp only at e
    by_cases c : HT.sIx xs.length 0 lo = 0 ∧ HT.sIx xs.length xs.length hi = xs.length
    · rw [if_pos c] at e; cases e
    · rw [if_neg c] at e; cases e
      refine .inr (.inl ⟨b, vs, rfl, h1.sq, by rw [← q1.length]; exact c, fun p hp => ?_⟩)
      exact q r3 _ _ (x4.trans (Ext.laid hp)) (w3.laid hp) (Rv.newTup w3 (q1.cutD lo hi) hp)
  | @lst b vs xs z1 h1 q1 =>
    cases (show some (DV.lst (cutD xs lo hi), W3) = some (z, W') from e)
    refine .inl ⟨b, vs, rfl, .of h1, fun p hp => ?_⟩
    exact q r3 _ _ (x4.trans (Ext.laid hp)) (w3.laid hp) (Rv.newLst w3 (q1.cutD lo hi) hp)
  | @scr ns b h1 =>
    cases (show some (DV.lst (cutD (ns.map DV.int) lo hi), W3) = some (z, W') from e)
    refine .inl ⟨b, _, rfl, h1.sq, fun p hp => ?_⟩
    exact q r3 _ _ (x4.trans (Ext.laid hp)) (w3.laid hp) (Rv.newLst w3 ((map_ints ns).cutD lo hi) hp)
  | _ => cases (show none = some (z, W') from e)
end
/-! ### built-in functions -/
/-- one argument -/
def k1 (g : DV → M DV) : List DV → M DV := fun xs => match xs with
  | [x] => g x
  | _ => fun _ => none
def k2 (g : DV → DV → M DV) : List DV → M DV := fun xs => match xs with
  | [x, y] => g x y
  | _ => fun _ => none
theorem k1_inv {g : DV → M DV} {xs : List DV} {W : Wd} {z : DV × Wd} (h : k1 g xs W = some z) : ∃ x, xs = [x] ∧ g x W = some z := by
  unfold k1 at h
  split at h
  · exact ⟨_, rfl, h⟩
  · cases h
theorem k2_inv {g : DV → DV → M DV} {xs : List DV} {W : Wd} {z : DV × Wd} (h : k2 g xs W = some z) : ∃ x y, xs = [x, y] ∧ g x y W = some z := by
  unfold k2 at h
  split at h
  · exact ⟨_, _, rfl, h⟩
  · cases h
theorem Rvs.one {K : PySem.W.Frag} {r : Rh} {H : Hp} {x : DV} {vs : List V} (h : Rvs K r H [x] vs) : ∃ v, vs = [v] ∧ Rv K r H x v := by
  cases h with
  | cons h t => cases t; exact ⟨_, rfl, h⟩
theorem Rvs.two {K : PySem.W.Frag} {r : Rh} {H : Hp} {x y : DV} {vs : List V} (h : Rvs K r H [x, y] vs) : ∃ v w, vs = [v, w] ∧ Rv K r H x v ∧ Rv K r H y w := by
  cases h with
  | cons h t =>
    cases t with
    | cons h2 t => cases t; exact ⟨_, _, rfl, h, h2⟩
/-- len -/
def kLen : List DV → M DV := k1 fun x W => match x with
  | .str s => if s.length ≤ sizeLine then some (.int s.length, W) else none
  | _ => (itemsOf W x).map fun xs => (.int xs.length, W)
theorem cd_len {K : PySem.W.Frag} : CallD K (fun xs H Q => ∃ x n, xs = [x] ∧ LenV K x H n ∧ Q (.int n) H) kLen := by
  intro r H W xs z W' vs Q hw e rs q
  replace e := k1_inv e
  obtain ⟨x, rfl, e⟩ := e
  obtain ⟨v, rfl, rx⟩ := rs.one
  try dsimp only at e
  split at e
  · rename_i s
    obtain rfl := rx.str_inv
    by_cases l : s.length ≤ sizeLine
    · rw [if_pos l] at e; cases e
      exact ⟨_, _, rfl, ⟨l, rfl⟩, done0 hw (.int _) q⟩
    · rw [if_neg l] at e; cases e
  · obtain ⟨ys, e1, e2⟩ := Option.map_eq_some_iff.mp e
    cases e2
    obtain ⟨a, us, rfl, hs, rl⟩ := items_rel hw rx e1
    refine ⟨_, ys.length, rfl, ?_, done0 hw (.int _) q⟩
    rcases hs with hs | hs
    · exact .inl ⟨us, hs, rl.length⟩
    · exact .inr ⟨us, hs, rl.length⟩
/-- all -/
def bools : List DV → Option (List Bool)
  | [] => some []
  | .bl b :: xs => (bools xs).map fun bs => b :: bs
  | _ => none
theorem bools_rel {K : PySem.W.Frag} {r : Rh} {H : Hp} : ∀ {xs : List DV} {vs : List V} {bs : List Bool}, Rvs K r H xs vs → bools xs = some bs → vs = bs.map V.bl
  | _, _, _, .nil, e => by cases e; rfl
  | .bl b :: xs, _, _, .cons h t, e => by
    obtain ⟨cs, e1, e2⟩ := Option.map_eq_some_iff.mp (show (bools xs).map _ = some _ from e)
    cases e2
    obtain rfl := h.bl_inv
    rw [bools_rel t e1]; rfl
  | .non :: _, _, _, .cons _ _, e => by cases e
  | .int _ :: _, _, _, .cons _ _, e => by cases e
  | .str _ :: _, _, _, .cons _ _, e => by cases e
  | .tup _ :: _, _, _, .cons _ _, e => by cases e
  | .lst _ :: _, _, _, .cons _ _, e => by cases e
  | .loc _ :: _, _, _, .cons _ _, e => by cases e
  | .cst _ :: _, _, _, .cons _ _, e => by cases e
  | .scr _ :: _, _, _, .cons _ _, e => by cases e
def kAll : List DV → M DV := k1 fun x => mo (match x with
  | .lst xs => (bools xs).map fun bs => .bl (bs.all id)
  | _ => none)
def kAny : List DV → M DV := k1 fun x => mo (match x with
  | .lst xs => (bools xs).map fun bs => .bl (bs.any id)
  | _ => none)
theorem cd_all {K : PySem.W.Frag} : CallD K (rAll K) kAll := by
  intro r H W xs z W' vs Q hw e rs q
  replace e := k1_inv e
  obtain ⟨x, rfl, e⟩ := e
  obtain ⟨v, rfl, rx⟩ := rs.one
  obtain ⟨e5, e6⟩ := mo_inv e
  subst e6
  clear e
  split at e5
  · obtain ⟨bs, e1, rfl⟩ := Option.map_eq_some_iff.mp e5
    cases rx with
    | lst z h t =>
      have e2 := bools_rel t e1
      subst e2
      exact ⟨_, bs, rfl, .of h, done0 hw (.bl _) q⟩
  · cases e5
/-- isinstance -/
def tyD (W : Wd) : DV → Option String
  | .non => some "NoneType"
  | .bl _ => some "bool"
  | .int _ => some "int"
  | .str _ => some "str"
  | .tup _ => some "tuple"
  | .lst _ => some "list"
  | .scr _ => some "list"
  | .loc i => match W[i]? with
    | some (.lst _) => some "list"
    | _ => none
  | .cst _ => none
  | .gl _ => none
  | .exc _ _ _ => none
theorem ty_rel {K : PySem.W.Frag} {r : Rh} {H : Hp} {W : Wd} {x : DV} {v : V} {t : String} (hw : Hw K r H W) (rx : Rv K r H x v) (e : tyD W x = some t) : TyX K H v (.type t) := by
  cases rx with
  | non => cases e; exact .base .non
  | bl b => cases e; exact .base (.bl b)
  | int i => cases e; exact .base (.int i)
  | str s => cases e; exact .base (.str s)
  | cst v => cases e
  | gl c => cases e
  | exc0 c n h => cases e
  | excD c n h m g l q => cases e
  | tup h q =>
    cases e
    rcases h with ⟨_, h⟩ | ⟨o, its, n, h1, h2, _⟩
    · exact .base (.tup h)
    · exact .kTuple h1 h2
  | lst z h q => cases e; exact .base (.lst h)
  | scr h =>
    cases e
    rcases h with ⟨_, h | ⟨o, h⟩⟩ | ⟨o, its, n, h1, h2, _⟩
    · exact .base (.lst h)
    · exact .base (.frz h)
    · exact .kList h1 h2
  | @loc i a h =>
    unfold tyD at e
    dsimp only at e
    cases q : W[i]? with
    | none => rw [q] at e; cases e
    | some c =>
      rw [q] at e
      cases c with
      | dead => cases e
      | dK _ => cases e
      | ins _ _ => cases e
      | lst ys =>
        cases e
        obtain ⟨vs, h1, h2⟩ := hw.ok i a _ h q
        exact .base (.lst h1)
/-- is a value of the type t one of the class c -/
def isSub (t c : String) : Bool := t == c || (t == "bool" && c == "int")
def known : List String := ["int", "bool", "str", "tuple", "list"]
def clsOf : DV → Option String
  | .cst (.ty n) => some n
  | _ => none
def clsAll : List DV → Option (List String)
  | [] => some []
  | x :: xs => (clsOf x).bind fun n => (clsAll xs).map fun ns => n :: ns
def kIsi : List DV → M DV := k2 fun x c W => (tyD W x).bind fun t => match c with
  | .tup cs => (clsAll cs).bind fun ns => if ns.all (known.contains ·) = true then some (.bl (ns.any (isSub t)), W) else none
  | _ => (clsOf c).bind fun n => if known.contains n = true then some (.bl (isSub t n), W) else none
theorem kit_known (K : PySem.W.Frag) {t c : String} (ht : t ∈ ["NoneType", "bool", "int", "str", "tuple", "list"]) (hc : known.contains c = true) : PySem.W.kitOne K (.type t) (.type c) = some (isSub t c) := by
  have hc' : c ∈ known := by simpa using hc
  simp only [known, List.mem_cons, List.not_mem_nil, or_false] at ht hc'
  rcases ht with rfl | rfl | rfl | rfl | rfl | rfl <;> rcases hc' with rfl | rfl | rfl | rfl | rfl <;> first | rfl | (with_unfolding_all rfl) | (unfold PySem.W.kitOne PySem.W.kitCls; decide +kernel)
theorem ty_in {W : Wd} {x : DV} {t : String} (e : tyD W x = some t) : t ∈ ["NoneType", "bool", "int", "str", "tuple", "list"] := by
  unfold tyD at e
  split at e <;> first | (cases e; done) | (cases e; decide) | (split at e <;> first | (cases e; done) | (cases e; decide))
theorem kit_all (K : PySem.W.Frag) {t : String} (ht : t ∈ ["NoneType", "bool", "int", "str", "tuple", "list"]) : ∀ ns : List String, ns.all (known.contains ·) = true → PySem.W.kitAny K (.type t) (ns.map Value.type) = some (ns.any (isSub t))
  | [], _ => rfl
  | n :: ns, h => by
    rw [List.all_cons, Bool.and_eq_true] at h
    have i := kit_all K ht ns h.2
    have j := kit_known K ht h.1
    show (match PySem.W.kitOne K (.type t) (.type n) with | some true => some true | some false => PySem.W.kitAny K (.type t) (ns.map Value.type) | none => none) = _
    rw [j, List.any_cons]
    cases isSub t n with
    | true => rfl
    | false => rw [Bool.false_or]; exact i
theorem cls_inv {x : DV} {n : String} (h : clsOf x = some n) : x = .cst (.ty n) := by
  unfold clsOf at h
  split at h
  · cases h; rfl
  · cases h
theorem clsAll_rel {K : PySem.W.Frag} {r : Rh} {H : Hp} : ∀ {xs : List DV} {vs : List V} {ns : List String}, Rvs K r H xs vs → clsAll xs = some ns → Paired ClsV vs (ns.map Value.type)
  | _, _, _, .nil, e => by cases e; exact .nil
  | x :: xs, _, _, .cons h t, e => by
    obtain ⟨n, e1, e2⟩ := Option.bind_eq_some_iff.mp (show (clsOf x).bind _ = some _ from e)
    obtain ⟨ns, e3, e4⟩ := Option.map_eq_some_iff.mp e2
    cases e4
    have := cls_inv e1
    subst this
    obtain rfl := h.cst_inv
    exact .cons (.ty n) (clsAll_rel t e3)
theorem cd_isi {K : PySem.W.Frag} : CallD K (fun xs H Q => rIsi K xs H Q ∨ rIsiT K xs H Q ∨ rIsiK K xs H Q) kIsi := by
  intro r H W xs z W' vs Q hw e rs q
  replace e := k2_inv e
  obtain ⟨x, c, rfl, e⟩ := e
  obtain ⟨v, w, rfl, rx, rc⟩ := rs.two
  obtain ⟨t, e1, e⟩ := Option.bind_eq_some_iff.mp e
  have ty := ty_rel hw rx e1
  have ti := ty_in e1
  split at e
  · rename_i cs
    obtain ⟨ns, e2, e⟩ := Option.bind_eq_some_iff.mp e
    obtain ⟨k, e⟩ := if_inv e
    cases e
    cases rc with
    | @tup tp us _ h t' =>
      have cl := clsAll_rel t' e2
      rcases h with ⟨_, h⟩ | ⟨o, its, n, h1, h2, h3, _, h4⟩
      · exact .inr (.inl ⟨v, tp, us, .type t, ns.map Value.type, _, rfl, h, cl, ty, kit_all K ti ns k, done0 hw (.bl _) q⟩)
      · have e4 : its.toList = ns.map Value.type := ClsV.all cl h4
        obtain ⟨oc, od, oda, osl⟩ := o
        dsimp only at h2 h3
        subst h2 h3
        refine .inr (.inr ⟨v, tp, od, ns.map Value.type, n, osl, .type t, _, rfl, ?_, ty, kit_all K ti ns k, done0 hw (.bl _) q⟩)
        rw [h1, ← e4]
  · obtain ⟨n, e2, e⟩ := Option.bind_eq_some_iff.mp e
    obtain ⟨k, e⟩ := if_inv e
    cases e
    have := cls_inv e2
    subst this
    obtain rfl := rc.cst_inv
    exact .inl ⟨v, .ty n, .type t, .type n, _, rfl, .ty n, ty, kit_known K ti k, done0 hw (.bl _) q⟩
section
variable {X : Cx} {x : Str} {p pos : Pos} {e : Expr} {es : List Expr} {A : EA}
theorem CallR.or {f : Value} {r1 r2 : List V → Hp → VK → Prop} (h : CallR X f r1) (h' : CallR X f r2) : CallR X f (fun xs H Q => r1 xs H Q ∨ r2 xs H Q) := by
  intro pins s sg H xs us Q I rl q
  rcases q with q | q
  · exact h pins s sg H xs us Q I rl q
  · exact h' pins s sg H xs us Q I rl q
/-- a built-in function's rule -/
structure BR (X : Cx) (f : Value) (G : List DV → M DV) : Prop where
  ex : ∃ rc, CallR X f rc ∧ CallD X.K rc G
theorem b_len : BR X (.builtin "len") kLen := ⟨_, call_len, cd_len⟩
theorem b_all (hc : X.calm = true := by rfl) : BR X (.builtin "all") kAll := ⟨_, cr_all hc, cd_all⟩
theorem b_isi : BR X (.builtin "isinstance") kIsi := ⟨_, CallR.or call_isi (CallR.or call_isiT call_isiK), cd_isi⟩
theorem de_b {id : String} {G : List DV → M DV} (h : BR X (.builtin id) G) (hg : Gl X x) (hm : X.mg x = none) (ha : DA X (e :: es) A) (hv : bootBuiltins x = some (.builtin id) := by decide +kernel) (hn : x ≠ "__name__" := by decide) (hdb : (x == ("__debug__" : Str)) = false := by decide)
    (he : starEach (e :: es) X.env = (false, eval e X.env) :: starEach es X.env := by rfl) (hpl : (backTo pos (starEach es X.env)).any (·.1) = false := by rfl) : DE X (.Call (.Name x p) (e :: es) [] pos) (eK G A) := by
  obtain ⟨rc, h1, h2⟩ := h.ex
  exact de_callB h1 h2 hg hm hv ha hn hdb he hpl
theorem de_t {T : String} {G : List DV → M DV} (h : BR X (.type T) G) (hg : Gl X x) (hm : X.mg x = none) (ha : DA X (e :: es) A) (hv : bootBuiltins x = some (.type T) := by decide +kernel) (hn : x ≠ "__name__" := by decide) (hdb : (x == ("__debug__" : Str)) = false := by decide)
    (he : starEach (e :: es) X.env = (false, eval e X.env) :: starEach es X.env := by rfl) (hpl : (backTo pos (starEach es X.env)).any (·.1) = false := by rfl) : DE X (.Call (.Name x p) (e :: es) [] pos) (eK G A) := by
  obtain ⟨rc, h1, h2⟩ := h.ex
  exact de_callTy h1 h2 hg hm hv ha hn hdb he hpl
end
/-! ### int, abs, min, tuple, list -/
def kInt : List DV → M DV := k1 fun x => mo (match x with
  | .int i => some (.int i)
  | .bl b => some (.int (if b then 1 else 0))
  | _ => none)
def kAbs : List DV → M DV := k1 fun x => mo (match x with
  | .int i => some (.int (if i < 0 then -i else i))
  | _ => none)
def kMin2 : List DV → M DV := k2 (oI fun i j => some (.int (if j < i then j else i)))
def kMax2 : List DV → M DV := k2 (oI fun i j => some (.int (if j > i then j else i)))
def kTuple : List DV → M DV := k1 fun x W => match x with
  | .tup xs => some (.tup xs, W)
  | _ => (itemsOf W x).map fun xs => (.tup xs, W)
def kList : List DV → M DV := k1 fun x W => (itemsOf W x).map fun xs => (.lst xs, W)
theorem cd_int {K : PySem.W.Frag} : CallD K (fun xs H Q => (∃ i, xs = [.int i] ∧ Q (.int i) H) ∨ ∃ k, xs = [.bl k] ∧ Q (.int (if k then 1 else 0)) H) kInt := by
  intro r H W xs z W' vs Q hw e rs q
  replace e := k1_inv e
  obtain ⟨x, rfl, e⟩ := e
  obtain ⟨v, rfl, rx⟩ := rs.one
  obtain ⟨e5, e6⟩ := mo_inv e
  subst e6
  clear e
  cases rx with
  | int i => cases e5; exact .inl ⟨i, rfl, done0 hw (.int _) q⟩
  | bl b => cases e5; exact .inr ⟨b, rfl, done0 hw (.int _) q⟩
  | _ => cases e5
theorem cd_abs {K : PySem.W.Frag} : CallD K (fun xs H Q => ∃ i, xs = [.int i] ∧ Q (.int (if i < 0 then -i else i)) H) kAbs := by
  intro r H W xs z W' vs Q hw e rs q
  replace e := k1_inv e
  obtain ⟨x, rfl, e⟩ := e
  obtain ⟨v, rfl, rx⟩ := rs.one
  obtain ⟨e5, e6⟩ := mo_inv e
  subst e6
  clear e
  cases rx with
  | int i => cases e5; exact ⟨i, rfl, done0 hw (.int _) q⟩
  | _ => cases e5
theorem cd_ii {K : PySem.W.Frag} {g : Int → Int → Int} : CallD K (fun xs H Q => ∃ i j, xs = [.int i, .int j] ∧ Q (.int (g i j)) H) (k2 (oI fun i j => some (.int (g i j)))) := by
  intro r H W xs z W' vs Q hw e rs q
  replace e := k2_inv e
  obtain ⟨x, y, rfl, e⟩ := e
  obtain ⟨v, w, rfl, rx, ry⟩ := rs.two
  obtain ⟨e5, e6⟩ := mo_inv e
  subst e6
  clear e
  replace e5 := dI_inv e5
  obtain ⟨i, j, rfl, rfl, e5⟩ := e5
  cases e5
  obtain rfl := rx.int_inv
  obtain rfl := ry.int_inv
  exact ⟨i, j, rfl, done0 hw (.int _) q⟩
theorem cd_tuple {K : PySem.W.Frag} : CallD K (fun xs H Q => ∃ p ys, xs = [.ref p] ∧ ((SqL K H p ys ∧ ∀ l, H l = none → Q (.ref l) (upd H l (.tup ys))) ∨ (SqT K H p ys ∧ Q (.ref p) H))) kTuple := by
  intro r H W xs z W' vs Q hw e rs q
  replace e := k1_inv e
  obtain ⟨x, rfl, e⟩ := e
  obtain ⟨v, rfl, rx⟩ := rs.one
  split at e
  · cases e
    cases rx with
    | tup h t => exact ⟨_, _, rfl, .inr ⟨h.sq, done0 hw (.tup h t) q⟩⟩
  · rename_i nt
    obtain ⟨ys, e1, e2⟩ := Option.map_eq_some_iff.mp e
    cases e2
    obtain ⟨a, us, rfl, hs, rl⟩ := items_rel hw rx e1
    rcases hs with hs | hs
    · exact ⟨a, us, rfl, .inl ⟨hs, fun l hl => q r _ _ (Ext.laid hl) (hw.laid hl) (Rv.newTup hw rl hl)⟩⟩
    · cases rx with
      | @tup b vs zs h t => exact absurd rfl (nt zs)
      | lst z1 h1 t1 =>
        rcases hs with (h2 | ⟨o, h2⟩) | ⟨o, its, n, h2, h3, _⟩
        · rw [h1] at h2; cases h2
        · rw [h1] at h2; cases h2
        · exact ⟨_, _, rfl, .inl ⟨.of h1, fun l hl => q r _ _ (Ext.laid hl) (hw.laid hl) (Rv.newTup hw (by cases e1; exact t1) hl)⟩⟩
      | scr h1 => exact ⟨_, _, rfl, .inl ⟨h1.sq, fun l hl => q r _ _ (Ext.laid hl) (hw.laid hl) (Rv.newTup hw (by cases e1; exact map_ints _) hl)⟩⟩
      | @loc i a h =>
        have e1' := e1
        unfold itemsOf at e1'
        dsimp only at e1'
        cases q2 : W[i]? with
        | none => rw [q2] at e1'; cases e1'
        | some c =>
          rw [q2] at e1'
          cases c with
          | dead => cases e1'
          | dK _ => cases e1'
          | ins _ _ => cases e1'
          | lst ws =>
            cases e1'
            obtain ⟨vs2, h1, h2⟩ := hw.ok i a _ h q2
            exact ⟨a, vs2, rfl, .inl ⟨.of h1, fun l hl => q r _ _ (Ext.laid hl) (hw.laid hl) (Rv.newTup hw h2 hl)⟩⟩
      | _ => cases e1
theorem cd_list {K : PySem.W.Frag} : CallD K (fun xs H Q => ∃ p ys, xs = [.ref p] ∧ (SqL K H p ys ∨ SqT K H p ys) ∧ ∀ l, H l = none → Q (.ref l) (upd H l (.lst ys))) kList := by
  intro r H W xs z W' vs Q hw e rs q
  replace e := k1_inv e
  obtain ⟨x, rfl, e⟩ := e
  obtain ⟨v, rfl, rx⟩ := rs.one
  obtain ⟨ys, e1, e2⟩ := Option.map_eq_some_iff.mp e
  cases e2
  obtain ⟨a, us, rfl, hs, rl⟩ := items_rel hw rx e1
  exact ⟨a, us, rfl, hs, fun l hl => q r _ _ (Ext.laid hl) (hw.laid hl) (Rv.newLst hw rl hl)⟩
section
variable {X : Cx}
theorem b_int : BR X (.type "int") kInt := ⟨_, call_int1, cd_int⟩
theorem b_abs : BR X (.builtin "abs") kAbs := ⟨_, call_abs, cd_abs⟩
theorem b_min2 (hc : X.calm = true := by rfl) : BR X (.builtin "min") kMin2 := ⟨_, call_min2 hc, cd_ii⟩
theorem b_max2 (hc : X.calm = true := by rfl) : BR X (.builtin "max") kMax2 := ⟨_, call_max2 hc, cd_ii⟩
theorem b_tuple : BR X (.type "tuple") kTuple := ⟨_, call_tuple_of, cd_tuple⟩
theorem b_list : BR X (.type "list") kList := ⟨_, call_list_of, cd_list⟩
end
end DL
end L2

set_option maxRecDepth 100000
/-! DLh: repr, further iterators, lists changed in place, freezing, the end of a law. -/
namespace L2
namespace DL
open PySem PySem.Spec PyProof.Rows

/-! ### repr -/
def isDisp : PyData → Bool
  | .list _ => true
  | .tuple _ => true
  | _ => false
def rRepr (K : PySem.W.Frag) : List V → Hp → VK → Prop := fun xs H Q => ∃ x d, xs = [x] ∧ Dp K H x d ∧ d.showable = true ∧ d.hasDict = false ∧ d.depth ≤ 64 ∧ d.shown.length ≤ sizeLine ∧ Q (.str d.shown) H
theorem call_repr {X : Cx} (hg : X.A.guards = some []) (hu : X.A.units + 66 < cLine) : CallR X (.builtin "repr") (rRepr X.K) := by
  intro pins s sg H xs us Q I rl h
  obtain ⟨x, d, rfl, hd, sh, nd, dp, sz, q⟩ := h
  obtain ⟨u, rfl, ru⟩ := vals1 rl
  have ans : ∀ (h' : Heap) (t tk : Tok), (∀ b o, s.heap.get? b = some o → h'.get? b = some o) → EP X pins sg Q (.str d.shown t) { s with heap := h', toks := tk } := fun h' t tk k => ⟨.str d.shown, H, I.kept k, ⟨t, rfl⟩, q⟩
  have same : ∀ (t tk : Tok), EP X pins sg Q (.str d.shown t) { s with toks := tk } := fun t tk => ans s.heap t tk fun _ _ z => z
  have deep : ∀ a : Addr, u = .ref a → wpAny (model X.prog X.w) X.A (call (.builtin "repr") [u]) (EP X pins sg Q) X.xe s := fun a ea => by
    obtain ⟨as, r1⟩ := Dp.reads I d x u hd ru
    subst ea
    exact repr_of_reads' r1 sh (PyData.noDict_hsm nd) hg (by omega) (fun _ _ z => z) (fun h' t tk k => ans h' t tk k) sz
  cases hd with
  | non => obtain rfl : u = Value.none := ru; exact PySem.P.repr_of_none (same _ _)
  | bl b => obtain rfl : u = Value.bool b := ru; exact PySem.P.repr_of_bool (same _ _)
  | int i =>
    obtain ⟨t, rfl⟩ : ∃ t, u = Value.int i t := ru
    exact PySem.P.repr_of_int (of_decide_eq_true sh) (same _ _)
  | str z =>
    obtain ⟨t, rfl⟩ : ∃ t, u = Value.str z t := ru
    exact PySem.P.repr_of_str (same _ _) (hsz := sz)
  | lst _ _ => exact deep _ ru
  | tup _ _ => exact deep _ ru
def dRepr (x : DV) : Option Str := (toPy x).bind fun d => if (d.showable && !d.hasDict && decide (d.depth ≤ 64) && decide (d.shown.length ≤ sizeLine)) = true then some d.shown else none
def kRepr : List DV → M DV := k1 fun x => mo ((dRepr x).map .str)
theorem cd_repr {K : PySem.W.Frag} : CallD K (rRepr K) kRepr := by
  intro r H W xs z W' vs Q hw e rs q
  replace e := k1_inv e
  obtain ⟨x, rfl, e⟩ := e
  obtain ⟨v, rfl, rx⟩ := rs.one
  obtain ⟨e5, e6⟩ := mo_inv e
  subst e6
  clear e
  obtain ⟨t, e1, rfl⟩ := Option.map_eq_some_iff.mp e5
  obtain ⟨d, e2, e3⟩ := Option.bind_eq_some_iff.mp e1
  obtain ⟨c, rfl⟩ := if_inv e3
  simp only [Bool.and_eq_true, Bool.not_eq_true', decide_eq_true_eq] at c
  exact ⟨v, d, rfl, rx.dp e2, c.1.1.1, c.1.1.2, c.1.2, c.2, done0 hw (.str _) q⟩
theorem b_repr {X : Cx} {k : Nat} (hr : Rm k X.A) : BR X (.builtin "repr") kRepr := ⟨_, call_repr hr.2 (by have := hr.1.un; omega), cd_repr⟩

/-! ### further iterators -/
/-- the signs of a text -/
def signs (s : Str) : List DV := s.cps.toList.map fun c => DV.str ⟨#[c]⟩
theorem itd_text {K : PySem.W.Frag} {r : Rh} {H : Hp} {s : Str} : ItD K (signs s) r H (Its s) := fun r2 H2 W2 e w => by
  refine ⟨fun i x ex => ?_, fun i l => ?_⟩
  · unfold signs at ex
    rw [List.getElem?_map] at ex
    cases q : s.cps.toList[i]? with
    | none => rw [q] at ex; cases ex
    | some c =>
      rw [q] at ex
      obtain rfl := Option.some.inj ex
      have q' : s.cps[i]? = some c := by rw [← q]; exact (Array.getElem?_toList).symm
      obtain ⟨l, _⟩ := Array.getElem?_eq_some_iff.mp q'
      refine ⟨l, fun u H3 y => ?_⟩
      obtain ⟨rfl, d, qd, rfl⟩ := y
      rw [q'] at qd
      cases qd
      exact ⟨Same.refl _, .str _⟩
  · unfold signs at l
    rw [List.length_map, Array.length_toList] at l
    exact l
def iS (F : ES) : IS := fun env => mb (F env) fun x => match x with
  | .str s => mr (signs s)
  | _ => fun _ => none
/-- lo, lo + c, .. -/
def stepFrom (lo c : Int) (n : Nat) : List DV := (List.range n).map fun i => DV.int (lo + (i : Nat) * c)
theorem stepFrom_get {lo c : Int} {n i : Nat} {x : DV} (h : (stepFrom lo c n)[i]? = some x) : i < n ∧ x = .int (lo + (i : Nat) * c) := by
  unfold stepFrom at h
  rw [List.getElem?_map] at h
  cases q : (List.range n)[i]? with
  | none => rw [q] at h; cases h
  | some j =>
    rw [q] at h
    obtain ⟨l, e⟩ := List.getElem?_eq_some_iff.mp q
    rw [List.getElem_range] at e
    rw [List.length_range] at l
    subst e
    exact ⟨l, (Option.some.inj h).symm⟩
theorem itd_step {K : PySem.W.Frag} {r : Rh} {H : Hp} {lo c : Int} {n : Nat} : ItD K (stepFrom lo c n) r H (Itc lo c n) := fun r2 H2 W2 e w =>
  ⟨fun i x ex => by
    obtain ⟨l, rfl⟩ := stepFrom_get ex
    refine ⟨l, fun u H3 y => ?_⟩
    obtain ⟨rfl, rfl⟩ := y
    exact ⟨Same.refl _, .int _⟩,
  fun i l => by
    have z : (stepFrom lo c n).length = n := by unfold stepFrom; rw [List.length_map, List.length_range]
    rw [z] at l; exact l⟩
/-- range(i, j, -1) -/
def iDown (A : EA) : IS := fun env => mb (A env) fun xs => match xs with
  | [.int i, .int j, .int c] => if (rngOk i && rngOk j && decide (c = -1)) = true then mr (stepFrom i (-1) (i - j).toNat) else fun _ => none
  | _ => fun _ => none
def pairUp : List DV → List DV → List DV
  | x :: xs, y :: ys => .tup [x, y] :: pairUp xs ys
  | _, _ => []
theorem pairUp_get : ∀ {xs ys : List DV} {i : Nat} {z : DV}, (pairUp xs ys)[i]? = some z → ∃ x y, xs[i]? = some x ∧ ys[i]? = some y ∧ z = .tup [x, y]
  | [], ys, i, z, h => by cases ys <;> cases h
  | x :: xs, [], i, z, h => by cases h
  | x :: xs, y :: ys, 0, z, h => by cases h; exact ⟨x, y, rfl, rfl, rfl⟩
  | x :: xs, y :: ys, i + 1, z, h => by
    obtain ⟨a, b, h1, h2, h3⟩ := pairUp_get (xs := xs) (ys := ys) (i := i) (z := z) (by simpa [pairUp] using h)
    exact ⟨a, b, by simpa using h1, by simpa using h2, h3⟩
theorem pairUp_len : ∀ {xs ys : List DV} {i : Nat}, (pairUp xs ys).length ≤ i → xs.length ≤ i ∨ ys.length ≤ i
  | [], ys, i, h => .inl (Nat.zero_le _)
  | x :: xs, [], i, h => .inr (Nat.zero_le _)
  | x :: xs, y :: ys, 0, h => by simp [pairUp] at h
  | x :: xs, y :: ys, i + 1, h => by
    rcases pairUp_len (xs := xs) (ys := ys) (i := i) (by simpa [pairUp] using h) with q | q
    · exact .inl (by simpa using q)
    · exact .inr (by simpa using q)
/-- zip of two lists, or of two tuples -/
def iZ (A : EA) : IS := fun env => mb (A env) fun zs => match zs with
  | [.lst xs, .lst ys] => mr (pairUp xs ys)
  | [.tup xs, .tup ys] => mr (pairUp xs ys)
  | _ => fun _ => none
theorem itd_zipL {K : PySem.W.Frag} {r : Rh} {H : Hp} {a b : Addr} {xs ys : List DV} {vs us : List V} (h1 : ∀ r' H', Exw r H r' H' → SqL K H' a vs) (h2 : ∀ r' H', Exw r H r' H' → SqL K H' b us) (r1 : Rvs K r H xs vs) (r2 : Rvs K r H ys us) : ItD K (pairUp xs ys) r H (Itz K a b) := fun r3 H3 W3 e w =>
  ⟨fun i x ex => by
    obtain ⟨y, z, e1, e2, rfl⟩ := pairUp_get ex
    obtain ⟨v, ev, rv⟩ := r1.get e1
    obtain ⟨u, eu, ru⟩ := r2.get e2
    refine ⟨⟨vs, us, v, u, h1 _ _ e, h2 _ _ e, ev, eu⟩, fun t H4 y => ?_⟩
    obtain ⟨T, v', u', rfl, hT, rfl, k1, k2⟩ := y
    have k1 := k1 _ (h1 _ _ e)
    have k2 := k2 _ (h2 _ _ e)
    rw [ev] at k1; cases k1
    rw [eu] at k2; cases k2
    exact ⟨same_laid hT, Rv.newTup w (.cons (rv.extw e) (.cons (ru.extw e) .nil)) hT⟩,
  fun i l => ⟨vs, us, h1 _ _ e, h2 _ _ e, by
    rcases pairUp_len l with q | q
    · exact .inl (by rw [← r1.length]; exact q)
    · exact .inr (by rw [← r2.length]; exact q)⟩⟩
theorem itd_zipT {K : PySem.W.Frag} {r : Rh} {H : Hp} {a b : Addr} {xs ys : List DV} {vs us : List V} (h1 : ∀ r' H', Exw r H r' H' → SqT K H' a vs) (h2 : ∀ r' H', Exw r H r' H' → SqT K H' b us) (r1 : Rvs K r H xs vs) (r2 : Rvs K r H ys us) : ItD K (pairUp xs ys) r H (RZ.ItzT K a b) := fun r3 H3 W3 e w =>
  ⟨fun i x ex => by
    obtain ⟨y, z, e1, e2, rfl⟩ := pairUp_get ex
    obtain ⟨v, ev, rv⟩ := r1.get e1
    obtain ⟨u, eu, ru⟩ := r2.get e2
    refine ⟨⟨vs, us, v, u, h1 _ _ e, h2 _ _ e, ev, eu⟩, fun t H4 y => ?_⟩
    obtain ⟨T, v', u', rfl, hT, rfl, k1, k2⟩ := y
    have k1 := k1 _ (h1 _ _ e)
    have k2 := k2 _ (h2 _ _ e)
    rw [ev] at k1; cases k1
    rw [eu] at k2; cases k2
    exact ⟨same_laid hT, Rv.newTup w (.cons (rv.extw e) (.cons (ru.extw e) .nil)) hT⟩,
  fun i l => ⟨vs, us, h1 _ _ e, h2 _ _ e, by
    rcases pairUp_len l with q | q
    · exact .inl (by rw [← r1.length]; exact q)
    · exact .inr (by rw [← r2.length]; exact q)⟩⟩
/-- i, x in enumerate(xs) -/
def numbered (k : Nat) : List DV → List DV
  | [] => []
  | x :: xs => .tup [.int (k : Nat), x] :: numbered (k + 1) xs
theorem numbered_get : ∀ {xs : List DV} {k i : Nat} {z : DV}, (numbered k xs)[i]? = some z → ∃ x, xs[i]? = some x ∧ z = .tup [.int ((k + i : Nat) : Int), x]
  | [], k, i, z, h => by cases h
  | x :: xs, k, 0, z, h => by cases h; exact ⟨x, rfl, rfl⟩
  | x :: xs, k, i + 1, z, h => by
    obtain ⟨y, h1, h2⟩ := numbered_get (xs := xs) (k := k + 1) (i := i) (z := z) (by simpa [numbered] using h)
    exact ⟨y, by simpa using h1, by rw [h2]; congr 4; omega⟩
theorem numbered_len : ∀ {xs : List DV} {k : Nat}, (numbered k xs).length = xs.length
  | [], k => rfl
  | x :: xs, k => by show (numbered (k + 1) xs).length + 1 = xs.length + 1; rw [numbered_len]
def iE (A : EA) : IS := fun env => mb (A env) fun zs => match zs with
  | [.lst xs] => mr (numbered 0 xs)
  | _ => fun _ => none
theorem itd_enum {K : PySem.W.Frag} {r : Rh} {H : Hp} {a : Addr} {xs : List DV} {vs : List V} (h1 : ∀ r' H', Exw r H r' H' → SqL K H' a vs) (r1 : Rvs K r H xs vs) : ItD K (numbered 0 xs) r H (Ite K a) := fun r3 H3 W3 e w =>
  ⟨fun i x ex => by
    obtain ⟨y, e1, rfl⟩ := numbered_get ex
    obtain ⟨v, ev, rv⟩ := r1.get e1
    refine ⟨⟨vs, v, h1 _ _ e, ev⟩, fun t H4 y => ?_⟩
    obtain ⟨T, v', rfl, hT, rfl, k1⟩ := y
    have k1 := k1 _ (h1 _ _ e)
    rw [ev] at k1; cases k1
    rw [Nat.zero_add]
    exact ⟨same_laid hT, Rv.newTup w (.cons (.int _) (.cons (rv.extw e) .nil)) hT⟩,
  fun i l => ⟨vs, h1 _ _ e, by rw [numbered_len] at l; rw [← r1.length]; exact l⟩⟩
section
variable {X : Cx} {tg a b c : Expr} {F : ES} {A : EA} {p pos tpos : Pos} {elts : List Expr} {kk : Nat}
theorem di_str (h : DE X a F) : DI X tg a (iS F) := by
  refine pi_imp (pi_str h) ?_
  rintro sg H R ⟨r, env, W, hE, hw, xs, W', e, q⟩
  obtain ⟨x, W1, e1, e⟩ := mb_inv e
  refine ⟨r, env, W, hE, hw, x, W1, e1, fun r1 H1 v x1 w1 rv => ?_⟩
  cases rv with
  | str s =>
    obtain ⟨rfl, rfl⟩ := mr_inv (show mr (signs s) W1 = some (xs, W') from e)
    exact ⟨s, rfl, q r1 H1 _ x1 w1 itd_text⟩
  | _ => cases (show none = some (xs, W') from e)
theorem di_r1 (hg : Gl X "range") (hm : X.mg "range" = none) (ha : DA X [a] A) (hs : starEach [a] X.env = [(false, eval a X.env)] := by rfl) : DI X tg (.Call (.Name "range" p) [a] [] pos) (iR1 A) := di_range1 hg hm ha hs (pi_range1 hg hm ha hs)
theorem di_down (hg : Gl X "range") (hm : X.mg "range" = none) (ha : DA X [a, b, c] A) (hs : starEach [a, b, c] X.env = (false, eval a X.env) :: starEach [b, c] X.env := by rfl) (hpl : (backTo pos (starEach [b, c] X.env)).any (·.1) = false := by rfl) :
    DI X tg (.Call (.Name "range" p) [a, b, c] [] pos) (iDown A) := by
  refine pi_imp (pi_range3 hg hm ha hs hpl) ?_
  rintro sg H R ⟨r, env, W, hE, hw, ys, W', e, q⟩
  obtain ⟨xs, W1, e1, e⟩ := mb_inv e
  refine ⟨r, env, W, hE, hw, xs, W1, e1, fun r1 H1 vs x1 w1 rs => ?_⟩
  try dsimp only at e
  split at e
  · rename_i i j c
    cases rs with
    | cons q1 rs =>
      cases rs with
      | cons q2 rs =>
        cases rs with
        | cons q3 rs =>
          cases rs
          obtain rfl := q1.int_inv
          obtain rfl := q2.int_inv
          obtain rfl := q3.int_inv
          obtain ⟨c', e⟩ := if_some e
          obtain ⟨rfl, rfl⟩ := mr_inv e
          simp only [Bool.and_eq_true] at c'
          have a1 := of_decide_eq_true c'.1.1
          have a2 := of_decide_eq_true c'.1.2
          have a3 : c = -1 := of_decide_eq_true c'.2
          subst a3
          exact ⟨i, j, -1, _, rfl, RgC.neg a1.1 a1.2 a2.1 a2.2, q r1 H1 _ x1 w1 itd_step⟩
  · cases e
theorem di_zip (hg : Gl X "zip") (hm : X.mg "zip" = none) (ha : DA X [a, b] A)
    (hs : starEach [a, b] X.env = (false, eval a X.env) :: starEach [b] X.env := by rfl) (hpl : (backTo pos (starEach [b] X.env)).any (·.1) = false := by rfl) : DI X (.Tuple elts kk tpos) (.Call (.Name "zip" p) [a, b] [] pos) (iZ A) := by
  refine pi_imp (RZ.pi_zipA hg hm ha hs hpl) ?_
  rintro sg H R ⟨r, env, W, hE, hw, ys, W', e, q⟩
  obtain ⟨xs, W1, e1, e⟩ := mb_inv e
  refine ⟨r, env, W, hE, hw, xs, W1, e1, fun r1 H1 vs x1 w1 rs => ?_⟩
  try dsimp only at e
  split at e
  · cases rs with
    | cons q1 rs =>
      cases rs with
      | cons q2 rs =>
        cases rs
        obtain ⟨rfl, rfl⟩ := mr_inv e
        cases q1 with
        | lst z1 h1 t1 =>
          cases q2 with
          | lst z2 h2 t2 => exact ⟨_, _, _, _, rfl, .inl ⟨.of h1, .of h2, q r1 H1 _ x1 w1 (itd_zipL (fun r' H' e' => .of (e'.keep _ _ z1.1 h1)) (fun r' H' e' => .of (e'.keep _ _ z2.1 h2)) t1 t2)⟩⟩
  · cases rs with
    | cons q1 rs =>
      cases rs with
      | cons q2 rs =>
        cases rs
        obtain ⟨rfl, rfl⟩ := mr_inv e
        cases q1 with
        | tup h1 t1 =>
          cases q2 with
          | tup h2 t2 => exact ⟨_, _, _, _, rfl, .inr ⟨h1.sq, h2.sq, q r1 H1 _ x1 w1 (itd_zipT (fun r' H' e' => (h1.extw e').sq) (fun r' H' e' => (h2.extw e').sq) t1 t2)⟩⟩
  · cases e
theorem di_enum (hg : Gl X "enumerate") (hm : X.mg "enumerate" = none) (ha : DA X [a] A) (hs : starEach [a] X.env = [(false, eval a X.env)] := by rfl) : DI X (.Tuple elts kk tpos) (.Call (.Name "enumerate" p) [a] [] pos) (iE A) := by
  refine pi_imp (pi_enum hg hm ha hs) ?_
  rintro sg H R ⟨r, env, W, hE, hw, ys, W', e, q⟩
  obtain ⟨xs, W1, e1, e⟩ := mb_inv e
  refine ⟨r, env, W, hE, hw, xs, W1, e1, fun r1 H1 vs x1 w1 rs => ?_⟩
  try dsimp only at e
  split at e
  · obtain ⟨v, rfl, rx⟩ := rs.one
    obtain ⟨rfl, rfl⟩ := mr_inv e
    cases rx with
    | lst z1 h1 t1 => exact ⟨_, _, rfl, .of h1, q r1 H1 _ x1 w1 (itd_enum (fun r' H' e' => .of (e'.keep _ _ z1.1 h1)) t1)⟩
  · cases e
end
/-! ### lists changed in place -/
def dApp (x y : DV) : M DV := fun W => match x with
  | .loc i => match W[i]? with
    | some (.lst xs) => if xs.length < sizeLine then some (.non, W.set i (.lst (xs ++ [y]))) else none
    | _ => none
  | _ => none
theorem dApp_inv {x y : DV} {W : Wd} {p : DV × Wd} (h : dApp x y W = some p) : ∃ (i : Nat) (xs : List DV), x = .loc i ∧ W[i]? = some (.lst xs) ∧ xs.length < sizeLine ∧ p = (.non, W.set i (.lst (xs ++ [y]))) := by
  unfold dApp at h
  split at h
  · rename_i i
    split at h
    · rename_i xs ex
      by_cases c : xs.length < sizeLine
      · rw [if_pos c] at h; exact ⟨i, xs, rfl, ex, c, (Option.some.inj h).symm⟩
      · rw [if_neg c] at h; cases h
    · cases h
  · cases h
/-- a list's cell -/
def lstC (x : DV) : M Unit := fun W => match x with
  | .loc i => match W[i]? with
    | some (.lst _) => some ((), W)
    | _ => none
  | _ => none
theorem lstC_inv {x : DV} {W W' : Wd} {u : Unit} (h : lstC x W = some (u, W')) : W' = W ∧ ∃ i xs, x = .loc i ∧ W[i]? = some (.lst xs) := by
  unfold lstC at h
  split at h
  · rename_i i
    split at h
    · rename_i xs ex
      cases h
      exact ⟨rfl, i, xs, rfl, ex⟩
    · cases h
  · cases h
def eApp (F F' : ES) : ES := fun env => mb (F env) fun x => mb (lstC x) fun _ => mb (F' env) fun y => dApp x y
theorem loc_inv {K : PySem.W.Frag} {r : Rh} {H : Hp} {i : Nat} {v : V} (h : Rv K r H (.loc i) v) : ∃ a, v = .ref a ∧ r.rho[i]? = some (some a) := by
  cases h with
  | loc h => exact ⟨_, rfl, h⟩
theorem put_list {K : PySem.W.Frag} {r : Rh} {H : Hp} {W : Wd} {i : Nat} {a : Addr} {xs : List DV} {vs : List V} (hw : Hw K r H W) (hi : r.rho[i]? = some (some a)) (rs : Rvs K r H xs vs) : Ext r H r (upd H a (.lst vs)) ∧ Hw K r (upd H a (.lst vs)) (W.set i (.lst xs)) := by
  have e : Ext r H r (upd H a (.lst vs)) := ⟨rfl, fun _ _ q => q, Nat.le_refl _, fun b mb n => absurd mb n, fun b u n q => by rw [upd_ne (fun z => n (by rw [z]; exact mem_of hi))]; exact q⟩
  exact hw.put hi ⟨vs, upd_same, rs.ext e⟩
section
variable {X : Cx} {o a i : Expr} {F F' F2 : ES} {apos cpos pos : Pos}
theorem de_append (ho : DE X o F) (ha : DE X a F') (hbase : attributeBase o "append" X.env (eval o X.env) = eval o X.env := by rfl)
    (hfew : ((backTo cpos (starEach [a] X.env)).all (fun x => !x.1) && (backToKw cpos (keywordEach [] X.env)).all (fun x => x.1.isSome) && decide ([a].length + ([] : List Keyword).length + (if ([] : List Keyword).isEmpty then 0 else 1) < 30)) = true := by rfl)
    (hline : (apos.endLine == cpos.line) = true := by rfl) (hs : starEach [a] X.env = (false, eval a X.env) :: starEach [] X.env := by rfl) (hplain : (backTo cpos (starEach [] X.env)).any (·.1) = false := by rfl) :
    DE X (.Call (.Attribute o "append" apos) [a] [] cpos) (eApp F F') := by
  refine pe_imp (pe_bm PySem.F.plainAttrs_list PySem.F.slot_list_append PySem.F.type_list_append mt_append ho (pa_cons ha pa_nil hs) hbase hfew hline hs hplain) ?_
  rintro sg H Q ⟨r, env, W, hE, hw, z, W', e, q⟩
  obtain ⟨x, W1, e1, e⟩ := mb_inv e
  obtain ⟨_, W1', e0, ee⟩ := mb_inv e
  obtain ⟨ew, i0, ys, e5, hc1⟩ := lstC_inv e0
  rw [ew] at ee
  obtain ⟨y, W2, e2, e7⟩ := mb_inv ee
  obtain ⟨i, xs, rfl, ex, c, e9⟩ := dApp_inv e7
  cases e9
  obtain rfl : i0 = i := (DV.loc.inj e5).symm
  refine ⟨r, env, W, hE, hw, .loc i0, W1, e1, fun r1 H1 v x1 w1 rx => ?_⟩
  obtain ⟨l, rfl, hl⟩ := loc_inv rx
  have ok1 := w1.ok i0 l _ hl hc1
  refine ⟨?_, ?_⟩
  · obtain ⟨us, h1, _⟩ := ok1; exact .inl ⟨rfl, us, .of h1⟩
  · refine ⟨r1, env, _, hE.ext x1, w1, y, W2, e2, fun r2 H2 w x2 w2 ry => ?_⟩
    have hl2 := x2.get _ _ hl
    obtain ⟨vs, h1, h2⟩ := w2.ok i0 l _ hl2 ex
    obtain ⟨k1, k2⟩ := put_list w2 hl2 (h2.append (.cons ry .nil))
    exact ⟨l, vs, w, rfl, rfl, h1, by rw [← h2.length]; exact c, q r2 _ _ ((x1.trans x2).trans k1) k2 .non⟩
/-- o[i] = v, o a cell -/
def dPut (v x y : DV) : M Unit := fun W => match x, y with
  | .loc i, .int k => match W[i]? with
    | some (.lst xs) => (ixN xs.length k).map fun j => ((), W.set i (.lst (xs.set j v)))
    | _ => none
  | _, _ => none
theorem dPut_inv {v x y : DV} {W : Wd} {p : Unit × Wd} (h : dPut v x y W = some p) : ∃ (i : Nat) (k : Int) (xs : List DV) (j : Nat), x = .loc i ∧ y = .int k ∧ W[i]? = some (.lst xs) ∧ ixN xs.length k = some j ∧ p = ((), W.set i (.lst (xs.set j v))) := by
  unfold dPut at h
  split at h
  · rename_i i k
    split at h
    · rename_i xs ex
      obtain ⟨j, e1, e2⟩ := Option.map_eq_some_iff.mp h
      exact ⟨i, k, xs, j, rfl, rfl, ex, e1, e2.symm⟩
    · cases h
  · cases h
def gSet (F F' : ES) : GS := fun v env => mb (F env) fun x => mb (F' env) fun y => mb (dPut v x y) fun _ => mr env
theorem dg_set {ss : List Nat} (ho : DE X o F) (hi : DE X i F') (ha : ∀ v, assign (.Subscript o i pos) X.env v = (do
      let ov ← holding [v] (eval o X.env)
      let iv ← holding [v, ov] (eval i X.env)
      standAt pos
      holding [v, ov, iv] (setItem ov iv v)
      release [v, ov, iv] []) := by intro _; rfl) : DG X ss (.Subscript o i pos) (gSet F F') := by
  refine pg_imp (pg_sub ho hi set_list ha) ?_
  rintro v sg H Q ⟨r, env, W, x, hE, hw, rx, env', W', e, q⟩
  obtain ⟨y, W1, e1, e⟩ := mb_inv e
  obtain ⟨z, W2, e2, e⟩ := mb_inv e
  obtain ⟨_, W3, e3, e⟩ := mb_inv e
  obtain ⟨rfl, rfl⟩ := mr_inv e
  obtain ⟨i, k, xs, j, rfl, rfl, ex, ej, e9⟩ := dPut_inv e3
  cases e9
  refine ⟨r, env', W, hE, hw, _, W1, e1, fun r1 H1 v1 x1 w1 ry => ?_⟩
  refine ⟨r1, env', W1, hE.ext x1, w1, _, W2, e2, fun r2 H2 v2 x2 w2 rz => ?_⟩
  obtain ⟨l, rfl, hl⟩ := loc_inv ry
  obtain rfl := rz.int_inv
  have hl2 := x2.get _ _ hl
  obtain ⟨vs, h1, h2⟩ := w2.ok i l _ hl2 ex
  obtain ⟨k1, k2⟩ := put_list w2 hl2 (h2.set (rx.ext (x1.trans x2)) j)
  exact ⟨l, vs, k, j, rfl, rfl, h1, by rw [← h2.length]; exact ej, q r2 _ sg ((x1.trans x2).trans k1) k2 ((hE.ext (x1.trans x2)).ext k1) rfl⟩
end
/-! ### freezing: the last cell, spoken of by one slot alone, becomes plain data -/
def optLo (n : Nat) : Option DV → Bool
  | some x => x.lo n
  | none => true
def frz (i n : Nat) (env : DEnv) (W : Wd) : Option (DEnv × Wd) := match env[i]?.join with
  | some (.loc j) => match W[j]? with
    | some (.lst xs) => if (decide (j + 1 = W.length) && decide (n ≤ j) && DV.loL j xs && (env.set i none).all (optLo j) && (W.take j).all (Cell.lo j)) = true then some (env.set i (some (.lst xs)), W.take j) else none
    | _ => none
  | _ => none
def sFrz (i : Nat) (T : SS) : SS := fun n env W => match frz i n env W with
  | some (env', W') => T n env' W'
  | none => none
theorem frz_inv {i n : Nat} {env : DEnv} {W : Wd} {p : DEnv × Wd} (h : frz i n env W = some p) : ∃ (j : Nat) (xs : List DV), env[i]? = some (some (.loc j)) ∧ W[j]? = some (.lst xs) ∧ j + 1 = W.length ∧ n ≤ j ∧ DV.loL j xs = true ∧ (env.set i none).all (optLo j) = true ∧ (W.take j).all (Cell.lo j) = true ∧ p = (env.set i (some (.lst xs)), W.take j) := by
  unfold frz at h
  split at h
  · rename_i j ej
    split at h
    · rename_i xs ex
      obtain ⟨c, e⟩ := if_inv h
      simp only [Bool.and_eq_true] at c
      refine ⟨j, xs, ?_, ex, of_decide_eq_true c.1.1.1.1, of_decide_eq_true c.1.1.1.2, c.1.1.2, c.1.2, c.2, e.symm⟩
      cases q : env[i]? with
      | none => rw [q] at ej; cases ej
      | some o => rw [q] at ej; exact congrArg some ej
    · cases h
  · cases h
theorem dss_frz {X : Cx} {i : Nat} {sts : List Stmt} {T : SS} (h : DSs X sts T) : DSs X sts (sFrz i T) := by
  refine pss_imp h ?_
  rintro D sg H ⟨r0, H0, r, env, W, x0, hE, hw, f, W', e, q⟩
  unfold sFrz at e
  split at e
  · rename_i env' W1 e1
    obtain ⟨j, xs, h1, h2, h3, h4, h5, h6, h7, e9⟩ := frz_inv e1
    cases e9
    obtain ⟨rho, hid⟩ := r
    obtain ⟨v, hv, rv⟩ := hE.2 i _ h1
    obtain ⟨a, rfl, ha⟩ := loc_inv rv
    obtain ⟨vs, hl, rs⟩ := hw.ok j a _ ha h2
    have outa : (⟨rho.take j, hid⟩ : Rh).out a := ⟨fun m => by
      obtain ⟨i', l', e'⟩ := List.mem_iff_getElem.mp m
      have q' : (rho.take j)[i']? = some (some a) := by rw [List.getElem?_eq_getElem l', e']
      obtain ⟨q1, q2⟩ := take_get q'
      have := hw.nd i' j a q1 ha
      omega, hw.sep a (mem_of ha)⟩
    refine ⟨r0, H0, ⟨rho.take j, hid⟩, _, _, ⟨x0.hid, fun k b qb => ?_, ?_, fun b m nb => x0.new b (List.mem_of_mem_take m) nb, x0.keep⟩, ⟨?_, fun k x qx => ?_⟩, hw.cut h7, f, W', e, q⟩
    · obtain ⟨l, _⟩ := List.getElem?_eq_some_iff.mp qb
      show (rho.take j)[k]? = _
      rw [List.getElem?_take, if_pos (Nat.lt_of_lt_of_le l h4)]
      exact x0.get k b qb
    · show _ ≤ (rho.take j).length
      rw [List.length_take]
      have := hw.len
      exact Nat.le_min.mpr ⟨h4, x0.len⟩
    · rw [List.length_set]; exact hE.1
    · by_cases hk : k = i
      · subst hk
        rw [List.getElem?_set] at qx
        split at qx
        · split at qx
          · obtain rfl := Option.some.inj (Option.some.inj qx)
            exact ⟨_, hv, .lst outa hl (Rvs.cut h5 rs)⟩
          · cases qx
        · rename_i z; exact absurd rfl z
      · rw [List.getElem?_set_ne (Ne.symm hk)] at qx
        obtain ⟨u, e1, ru⟩ := hE.2 k x qx
        refine ⟨u, e1, Rv.cut ?_ ru⟩
        have m : some x ∈ env.set i none := mem_of (i := k) (by rw [List.getElem?_set_ne (Ne.symm hk)]; exact qx)
        exact List.all_eq_true.mp h6 _ m
  · cases e
/-! ### the end of a law -/
theorem go_law {P : Program} {w : PySem.World} {K : PySem.W.Frag} {mg mb : Str → Option Value} {k : Nat} {fa a : Addr} {fd : FuncData} {x : Str} {fn : List DV → M DV} {s : Shared} {ns : List Int} {H : Hp}
    (KX : K.In s.heap) (gl : s.heap.Ns mainGlobals mg) (bl : s.heap.Ns builtinsNs mb) (bb : ∀ x : Str, x ≠ "__name__" → mb x = bootBuiltins x) (lim : s.heap.NoLimit) (gens : s.gens = #[]) (hr : Room k callerA)
    (hob : ∃ o its n, s.heap.get? a = some o ∧ o.data = Data.seq its n) (hok : HOk P w H s.heap) (only : ∀ b o, H b = some o → b = a ∧ K.lookup a = none ∧ ∃ ob xs, o = .frz ob (.lst xs)) (sq : SQ K ⟨[], []⟩ H a (ns.map V.int))
    (F : ∀ base : Heap, K.In base → base.Ns mainGlobals mg → FnG P w K mg base CX0 k fa fd [x] (spD K 1 fn)) (hb : ∀ (s : Shared) (u : Value), BindsTo s fd ⟨[u], []⟩ [(x, u)]) (hf : ∃ W', fn [.scr ns] [] = some (.bl true, W')) :
    codeAny (model P w) callerA (.call (.ref fa) ⟨[.ref a], []⟩) (fun r s' => r = .ok (.ret (.bool true)) ∧ OldK s.heap s'.heap ∧ s'.os = s.os ∧ AllBare s'.gens) s := by
  have noDict : ∀ {b : Addr} {o : Obj} {es : Array DictEntry} {ep : Nat}, s.heap.get? b = some o → o.data = .dict es ep → H b = none := fun {b o es ep} e d => by
    cases q : H b with
    | none => rfl
    | some u =>
      obtain ⟨rfl, _⟩ := only b u q
      obtain ⟨o', its, n, h1, h2⟩ := hob
      rw [e] at h1; cases h1
      rw [d] at h2; cases h2
  have ns' : ∀ {b : Addr} {m : Str → Option Value}, s.heap.Ns b m → (hidT s.heap H).Ns b m := fun {b m} ⟨o, es, ep, e, d, z⟩ => ⟨o, es, ep, hidT_get e (noDict e d), d, z⟩
  have KB : K.In (hidT s.heap H) := fun b o e => hidT_get (KX b o e) (by
    cases q : H b with
    | none => rfl
    | some u =>
      obtain ⟨rfl, h, _⟩ := only b u q
      rw [h] at e; cases e)
  obtain ⟨mc, l1, l2⟩ := lim
  have e0 : Env0 P w K mg (hidT s.heap H) callerA [] s H := ⟨rfl, ⟨KB, ns' gl, ⟨mb, ns' bl, bb⟩, ⟨mc, ns' l1, l2⟩⟩, fun b o e => of_hidT e, Nat.le_of_eq (hidT_size _ _), trivial, fun b hb => absurd (show b ∈ ([] : List Addr) from hb) (by simp), hok, .of_eq gens⟩
  obtain ⟨W', hf⟩ := hf
  refine codeAny_mono ((F _ KB (ns' gl)).go callerA [] s H ⟨[.ref a], []⟩ [.ref a] [.ref a] (fun v _ => v = .bl true) (fun _ _ _ => False) ⟨hr, rfl⟩ e0 (hb s (.ref a)) (.cons rfl .nil)
    ⟨⟨[], []⟩, [], [.scr ns], rfl, ⟨rfl, fun i j b q => by simp at q, fun i b c q => by simp at q, fun i c q => by simp at q, fun b m => absurd m (by simp), fun b m => absurd m (by simp)⟩, .cons (.scr sq) .nil, _, _, hf, fun r' H' v _ _ rv => rv.bl_inv⟩) fun r s' h => ?_
  match r, h with
  | .ok (.ret u), ⟨v, H', os, bare, un, hok', ru, (ev : v = .bl true)⟩ =>
    subst ev
    obtain rfl : u = Value.bool true := ru
    refine ⟨rfl, OldK.of_keep fun b o e => ?_, os, bare⟩
    cases q : H b with
    | none => exact un.keep b o e q (by intro z; exact absurd (show b ∈ ([] : List Addr) from z) (by simp)) (by simp)
    | some u =>
      obtain ⟨rfl, _, ob, xs, rfl⟩ := only b u q
      obtain ⟨e1, _⟩ := hok b _ q
      obtain ⟨e2, _⟩ := hok' b _ (un.frzs b ob _ q)
      rw [e] at e1; cases e1
      exact e2
/-- the goal that the head leaves -/
theorem end_law {l : PySem.W.OpenLaw} {n k : Nat} {q : Program} {loose : List Str} {XP : (Str → Option Value) → Heap → Prop} {YP : PySem.World → Heap → Prop} {d : DefRec} {K : Params → PySem.W.Frag} {fn : List DV → M DV} {x : Str}
    (hn : l.most = some n) (hn2 : n ≤ sizeLine) (hdf : d.params.defaults = []) (hr : Room k callerA) (hY : ∀ (w : PySem.World) (h : Heap), YP w h → (K w.params).In h)
    (F : ∀ (w : PySem.World) (mg : Str → Option Value) (fa : Addr) (h : Heap), (K w.params).In h → h.Ns mainGlobals mg → mg d.name = some (.ref fa) →
      ∃ fd : FuncData, (∀ (s : Shared) (u : Value), BindsTo s fd ⟨[u], []⟩ [(x, u)]) ∧ ∀ base : Heap, (K w.params).In base → base.Ns mainGlobals mg → FnG l.prog w (K w.params) mg base CX0 k fa fd [x] (spD (K w.params) 1 fn))
    (hf : ∀ ns : List Int, ns.length ≤ n → ∃ W', fn [.scr ns] [] = some (.bl true, W')) :
    PySem.W.WalkO q loose XP YP l.row.toRowW d [] (fun f vs => PySem.call f vs) := by
  refine Att.attach_call hn hdf fun w s0 s1 mg mb fa o pm cd doc a vs ns G Y ho hd hcd hmg hobj hints hlen hg => ?_
  have KX := hY w _ Y
  obtain ⟨fd, hb, hF⟩ := F w mg fa _ KX G.T.g hmg
  have rv := vals_ints hints
  have lenV := hints.length
  have small : ns.length ≤ sizeLine := Nat.le_trans hlen hn2
  cases hk : (K w.params).lookup a with
  | some ob =>
    have e := KX a ob hk
    rw [hobj] at e; cases e
    exact go_law (H := fun _ => none) KX G.T.g G.T.b G.T.builtins G.T.nolimit hg hr ⟨_, _, _, hobj, rfl⟩ (fun b u z => by cases (show (none : Option HO) = some u from z)) (fun b u z => by cases (show (none : Option HO) = some u from z))
      (.inr ⟨_, vs.toArray, _, hk, rfl, rfl, rfl, by rw [List.size_toArray, lenV]; exact small, by simpa using rv⟩) hF hb (hf ns hlen)
  | none =>
    have at_a : ∀ b u, (if b = a then some (HO.frz { cls := .type "list", data := .seq vs.toArray } (.lst (ns.map V.int))) else none) = some u → b = a ∧ u = .frz { cls := .type "list", data := .seq vs.toArray } (.lst (ns.map V.int)) := fun b u z => by
      by_cases hb : b = a
      · rw [if_pos hb] at z; exact ⟨hb, (Option.some.inj z).symm⟩
      · rw [if_neg hb] at z; cases z
    refine go_law (H := fun b => if b = a then some (.frz { cls := .type "list", data := .seq vs.toArray } (.lst (ns.map V.int))) else none) KX G.T.g G.T.b G.T.builtins G.T.nolimit hg hr ⟨_, _, _, hobj, rfl⟩ (fun b u z => ?_) (fun b u z => ?_)
      (.inl ⟨⟨by simp, by simp⟩, .inr ⟨_, if_pos rfl⟩⟩) hF hb (hf ns hlen)
    · obtain ⟨rfl, rfl⟩ := at_a b u z
      exact ⟨hobj, by rw [List.length_map]; exact small, vs, _, rv, hobj⟩
    · obtain ⟨rfl, rfl⟩ := at_a b u z
      exact ⟨rfl, hk, _, _, rfl⟩
end DL
end L2

set_option maxRecDepth 100000
/-! DLi: unpacking, -n, two targets. -/
namespace L2
namespace DL
open PySem PySem.Spec PyProof.Rows
section
variable {X : Cx} {ss : List Nat}
def gQ (n : Nat) (Gs : GSs) : GS := fun x env => match x with
  | .tup xs => if (xs.length == n) = true then Gs xs env else fun _ => none
  | .lst xs => if (xs.length == n) = true then Gs xs env else fun _ => none
  | _ => fun _ => none
theorem pg_or {e : Expr} {t t' : TG} (h : PG X e t) (h' : PG X e t') : PG X e (fun v sg H Q => t v sg H Q ∨ t' v sg H Q) := ⟨fun pins s sg H v u Q I rl w => by
  rcases w with w | w
  · exact h.run pins s sg H v u Q I rl w
  · exact h'.run pins s sg H v u Q I rl w⟩
theorem dg_seq {es : List Expr} {k : Nat} {Gs : GSs} {n : Nat} {pos : Pos} (hc : X.calm = true) (h : DGs X ss es Gs)
    (hn : (assignEach es X.env).length = n := by rfl) (hst : (assignEach es X.env).findIdx? (·.1) = none := by rfl) : DG X ss (.Tuple es k pos) (gQ n Gs) := by
  refine pg_imp (pg_or (pg_tup hc h hn hst) (pg_unl hc h hn hst)) ?_
  rintro v sg H Q ⟨r, env, W, x, hE, hw, rx, env', W', e, q⟩
  unfold gQ at e
  split at e
  · rename_i xs
    cases rx with
    | @tup a vs _ hq rs =>
      by_cases c : (xs.length == n) = true
      · rw [if_pos c] at e
        exact .inl ⟨a, vs, rfl, hq.sq, by rw [← rs.length]; simpa using c, r, env, W, xs, hE, hw, rs, env', W', e, q⟩
      · rw [if_neg c] at e; cases e
  · rename_i xs
    cases rx with
    | @lst a vs _ z hq rs =>
      by_cases c : (xs.length == n) = true
      · rw [if_pos c] at e
        exact .inr ⟨a, vs, rfl, .of hq, by rw [← rs.length]; simpa using c, r, env, W, xs, hE, hw, rs, env', W', e, q⟩
      · rw [if_neg c] at e; cases e
  · cases e
def eNeg (F : ES) : ES := fun env => mb (F env) fun x => mo (match x with
  | .int i => some (.int (-i))
  | _ => none)
theorem de_neg {a : Expr} {F : ES} {pos : Pos} (h : DE X a F) : DE X (.UnaryOp .USub a pos) (eNeg F) := by
  refine pe_imp (pe_un un_neg h) ?_
  rintro sg H Q ⟨r, env, W, hE, hw, z, W', e, q⟩
  obtain ⟨x, W1, e1, e⟩ := mb_inv e
  obtain ⟨e2, rfl⟩ := mo_inv e
  refine ⟨r, env, W, hE, hw, x, _, e1, fun r1 H1 v x1 w1 rx => ?_⟩
  cases rx with
  | int i => cases e2; exact ⟨i, rfl, q r1 H1 _ x1 w1 (.int _)⟩
  | _ => cases e2
theorem ds_two {i j : Nat} {x y : Str} {a b : Expr} {A : EA} {px py pt pos : Pos} {kt k2 pt2} (hc : X.calm = true) (hN : X.N.Nodup) (hi : X.N[i]? = some x) (hj : X.N[j]? = some y) (hij : i ≠ j)
    (hx : X.env.scope.names.lookup x = some .local) (hy : X.env.scope.names.lookup y = some .local) (ha : DA X [a, b] A)
    (hw : swappedStores [.Tuple [.Name x px, .Name y py] kt pt] (.Tuple [a, b] k2 pt2) X.env = pure (some [x, y]))
    (hs : swapsWithSole [.Tuple [.Name x px, .Name y py] kt pt] (.Tuple [a, b] k2 pt2) pos.line X.env = pure false := by rfl) :
    DS X (.Assign [.Tuple [.Name x px, .Name y py] kt pt] (.Tuple [a, b] k2 pt2) pos) (sPar i j A) := ds_par hc hN hi hj hij hx hy ha (ps_par hc hN hi hj hij hx hy ha hw hs)
theorem ds_mulset {i : Nat} {x : Str} {e : Expr} {F : ES} {pos pos' : Pos} (hN : X.N.Nodup) (hi : X.N[i]? = some x) (hx : Loc X.env.scope x) (he : DE X e F) (h : PS X (.AugAssign (.Name x pos') .Mult e pos) (tAug i (tX X.K F) (rI CMul fun i j => .int (i * j)))) : DS X (.AugAssign (.Name x pos') .Mult e pos) (sAug i F oMul) := ds_aug h od_mul
theorem ds_addset {i : Nat} {x : Str} {e : Expr} {F : ES} {pos pos' : Pos} (hN : X.N.Nodup) (hi : X.N[i]? = some x) (hx : Loc X.env.scope x) (he : DE X e F) (h : PS X (.AugAssign (.Name x pos') .Add e pos) (tAug i (tX X.K F) (rI0 fun i j => .int (i + j)))) : DS X (.AugAssign (.Name x pos') .Add e pos) (sAug i F (oI fun i j => some (.int (i + j)))) := ds_aug h od_i0
end
end DL
end L2

set_option maxRecDepth 100000
/-! DLs: how the combinators are reckoned (for simp). -/
namespace L2
namespace DL
open PySem PySem.Spec PyProof.Rows
theorem mb_apply {α β : Type} (m : M α) (k : α → M β) (W : Wd) : mb m k W = (m W).bind fun p => k p.1 p.2 := by
  unfold mb
  cases m W with
  | none => rfl
  | some p => rfl
@[simp] theorem mr_apply {α : Type} (a : α) (W : Wd) : mr a W = some (a, W) := rfl
@[simp] theorem mo_some {α : Type} (a : α) (W : Wd) : mo (some a) W = some (a, W) := rfl
@[simp] theorem mo_none {α : Type} (W : Wd) : mo (none : Option α) W = none := rfl
@[simp] theorem mB_bl (b : Bool) (W : Wd) : mB (.bl b) W = some (b, W) := rfl
theorem fin_same {n : Nat} {x : DV} {W : Wd} (h : W.length = n) : fin n x W = some (x, W) := by unfold fin; rw [if_pos h]
theorem runF_rt {nN : Nat} {S : SS} {xs : List DV} {W W' : Wd} {x : DV} (h : S W.length (xs.map some ++ List.replicate (nN - xs.length) none) W = some (.rt x, W')) (l : W'.length = W.length) : runF nN S xs W = some (x, W') := by
  unfold runF
  rw [h]
  exact fin_same l
theorem runF_nx {nN : Nat} {S : SS} {xs : List DV} {W W' : Wd} {e : DEnv} (h : S W.length (xs.map some ++ List.replicate (nN - xs.length) none) W = some (.nx e, W')) (l : W'.length = W.length) : runF nN S xs W = some (.non, W') := by
  unfold runF
  rw [h]
  exact fin_same l
/-- a def whose own cells are dropped -/
theorem runF_cut {nN : Nat} {S : SS} {xs : List DV} {W W' : Wd} {x : DV} (h : S W.length (xs.map some ++ List.replicate (nN - xs.length) none) W = some (.rt x, W')) (l : W.length < W'.length) (c : (x.lo W.length && (W'.take W.length).all (Cell.lo W.length)) = true) : runF nN S xs W = some (x, W'.take W.length) := by
  unfold runF
  rw [h]
  show fin W.length x W' = _
  unfold fin
  rw [if_neg (by omega), if_pos c]
theorem runF_keep {nN : Nat} {S : SS} {xs : List DV} {W W' : Wd} {x : DV} (h : S W.length (xs.map some ++ List.replicate (nN - xs.length) none) W = some (.rt x, W')) (l : W.length < W'.length) (c : x.lo W.length = false) : runF nN S xs W = some (x, W') := by
  unfold runF
  rw [h]
  show fin W.length x W' = _
  unfold fin
  rw [if_neg (by omega), c]
  rfl
@[simp] theorem k1_one (g : DV → M DV) (x : DV) : k1 g [x] = g x := rfl
@[simp] theorem k2_two (g : DV → DV → M DV) (x y : DV) : k2 g [x, y] = g x y := rfl
/-! expressions -/
section
variable (F F' F2 : ES) (A : EA) (B B' : EB) (G G' : DV → DV → M DV) (env : DEnv) (W : Wd) (n : Nat) (S T : SS)
@[simp] theorem r_eV (i : Nat) : eV i env W = mo (env[i]?.join) W := rfl
@[simp] theorem r_eC (d : DV) : eC d env W = some (d, W) := rfl
@[simp] theorem r_eO : eO G F F' env W = (F env W).bind fun p => (F' env p.2).bind fun q => G p.1 q.1 q.2 := by simp [eO, mb_apply]
@[simp] theorem r_bT : bT F env W = (F env W).bind fun p => mB p.1 p.2 := by simp [bT, mb_apply]
@[simp] theorem r_bNot : bNot B env W = (B env W).bind fun p => some (!p.1, p.2) := by simp [bNot, mb_apply]
@[simp] theorem r_bAnd : bAnd B B' env W = (B env W).bind fun p => if p.1 = true then B' env p.2 else some (false, p.2) := by
  simp only [bAnd, mb_apply]
  congr 1
  funext p
  split <;> rfl
@[simp] theorem r_bOr : bOr B B' env W = (B env W).bind fun p => if p.1 = true then some (true, p.2) else B' env p.2 := by
  simp only [bOr, mb_apply]
  congr 1
  funext p
  split <;> rfl
@[simp] theorem r_eAnd : eAnd F F' env W = (F env W).bind fun p => (mB p.1 p.2).bind fun q => if q.1 = true then F' env q.2 else some (.bl false, q.2) := by
  simp only [eAnd, mb_apply]
  congr 1
  funext p
  congr 1
  funext q
  split <;> rfl
@[simp] theorem r_eOr : eOr F F' env W = (F env W).bind fun p => (mB p.1 p.2).bind fun q => if q.1 = true then some (.bl true, q.2) else F' env q.2 := by
  simp only [eOr, mb_apply]
  congr 1
  funext p
  congr 1
  funext q
  split <;> rfl
@[simp] theorem r_eNot : eNot F env W = (F env W).bind fun p => (mB p.1 p.2).bind fun q => some (.bl (!q.1), q.2) := by simp [eNot, mb_apply]
@[simp] theorem r_eIf : eIf B F F' env W = (B env W).bind fun p => if p.1 = true then F env p.2 else F' env p.2 := by
  simp only [eIf, mb_apply]
  congr 1
  funext p
  split <;> rfl
@[simp] theorem r_eCh : eCh G G' F F' F2 env W = (F env W).bind fun p => (F' env p.2).bind fun q => (G p.1 q.1 q.2).bind fun c => (mB c.1 c.2).bind fun b => if b.1 = true then (F2 env b.2).bind fun z => G' q.1 z.1 z.2 else some (.bl false, b.2) := by
  simp only [eCh, mb_apply]
  congr 1
  funext p
  congr 1
  funext q
  congr 1
  funext c
  congr 1
  funext b
  split <;> simp [mb_apply]
@[simp] theorem r_aN : aN env W = some ([], W) := rfl
@[simp] theorem r_aC : aC F A env W = (F env W).bind fun p => (A env p.2).bind fun q => some (p.1 :: q.1, q.2) := by simp [aC, mb_apply]
@[simp] theorem r_eTup : eTup A env W = (A env W).bind fun p => mo (if lineOk p.1 = true then some (.tup p.1) else none) p.2 := by simp [eTup, mb_apply]
@[simp] theorem r_eLst : eLst A env W = (A env W).bind fun p => mo (if lineOk p.1 = true then some (.lst p.1) else none) p.2 := by simp [eLst, mb_apply]
@[simp] theorem r_eNew : eNew A env W = (A env W).bind fun p => if lineOk p.1 = true then some (.loc p.2.length, p.2 ++ [.lst p.1]) else none := by simp [eNew, mb_apply]
@[simp] theorem r_eK (g : List DV → M DV) : eK g A env W = (A env W).bind fun p => g p.1 p.2 := by simp [eK, mb_apply]
theorem app_ite {α : Type} {c : Prop} [Decidable c] (m : M α) (W : Wd) : (if c then m else fun _ => none) W = if c then m W else none := by split <;> rfl
@[simp] theorem r_eF (fn : List DV → M DV) : eF n fn A env W = (A env W).bind fun p => if (p.1.length == n) = true then fn p.1 p.2 else none := by simp only [eF, mb_apply, app_ite]
@[simp] theorem r_eFK (m : Nat) (ix : List Nat) (fn : List DV → M DV) : eFK n m ix fn A env W = (A env W).bind fun p => if (p.1.length == m) = true then (if ((perm ix p.1).length == n) = true then fn (perm ix p.1) p.2 else none) else none := by simp only [eFK, mb_apply, app_ite]
def negD : DV → Option DV
  | .int i => some (.int (-i))
  | _ => none
@[simp] theorem r_eNeg : eNeg F env W = (F env W).bind fun p => mo (negD p.1) p.2 := by
  simp only [eNeg, mb_apply]
  cases F env W with
  | none => rfl
  | some p =>
    obtain ⟨x, W1⟩ := p
    cases x <;> rfl
@[simp] theorem negD_int (i : Int) : negD (.int i) = some (.int (-i)) := rfl
@[simp] theorem r_eSl (L U : EO) : eSl F L U env W = (F env W).bind fun p => (L env p.2).bind fun l => (U env l.2).bind fun u => dSl p.1 l.1 u.1 u.2 := by simp only [eSl, mb_apply]
@[simp] theorem r_oNone : oNone env W = some (none, W) := rfl
def toI : DV → Option (Option Int)
  | .int i => some (some i)
  | _ => none
@[simp] theorem r_oSome : oSome F env W = (F env W).bind fun p => mo (toI p.1) p.2 := by
  simp only [oSome, mb_apply]
  congr 1
  funext p
  obtain ⟨x, W1⟩ := p
  cases x <;> rfl
@[simp] theorem r_eApp : eApp F F' env W = (F env W).bind fun p => (lstC p.1 p.2).bind fun u => (F' env u.2).bind fun q => dApp p.1 q.1 q.2 := by simp only [eApp, mb_apply]
@[simp] theorem r_eComp (ss : List Nat) (I : IS) (g : GS) : eComp ss I g B F env W = (I env W).bind fun p => (cLoop g B F (wipeD env ss) p.1 [] p.2).bind fun q => some (.lst q.1, q.2) := by simp only [eComp, mb_apply, mr_apply]
/-! operators -/
@[simp] theorem r_oI (g : Int → Int → Option DV) (i j : Int) : oI g (.int i) (.int j) W = mo (g i j) W := rfl
@[simp] theorem r_oSub (i j : Int) : oSub (.int i) (.int j) W = some (.int (i - j), W) := rfl
@[simp] theorem r_oMul (i j : Int) : oMul (.int i) (.int j) W = mo (if (bound64 i || bound64 j) = true then some (.int (i * j)) else none) W := rfl
@[simp] theorem r_oDiv (i j : Int) : oDiv (.int i) (.int j) W = mo (if (decide (0 < j ∧ j < 1073741824)) = true then some (.int (i / j)) else none) W := rfl
@[simp] theorem r_oMod (i j : Int) : oMod (.int i) (.int j) W = mo (if (decide (0 < j)) = true then some (.int (i % j)) else none) W := rfl
@[simp] theorem r_oLt (i j : Int) : oLt (.int i) (.int j) W = some (.bl (decide (i < j)), W) := rfl
@[simp] theorem r_oLe (i j : Int) : oLe (.int i) (.int j) W = some (.bl (decide (i ≤ j)), W) := rfl
@[simp] theorem r_oGt (i j : Int) : oGt (.int i) (.int j) W = some (.bl (decide (j < i)), W) := rfl
@[simp] theorem r_oGe (i j : Int) : oGe (.int i) (.int j) W = some (.bl (decide (j ≤ i)), W) := rfl
@[simp] theorem r_oAddI (i j : Int) : oAdd (.int i) (.int j) W = some (.int (i + j), W) := rfl
@[simp] theorem r_oEqI (i j : Int) : oEq (.int i) (.int j) W = some (.bl (decide (i = j)), W) := rfl
@[simp] theorem r_oEqB (i j : Bool) : oEq (.bl i) (.bl j) W = some (.bl (decide (i = j)), W) := rfl
@[simp] theorem r_oEqS (i j : Str) : oEq (.str i) (.str j) W = some (.bl (decide (i = j)), W) := rfl
@[simp] theorem r_oNeI (i j : Int) : oNe (.int i) (.int j) W = some (.bl (!decide (i = j)), W) := rfl
@[simp] theorem r_oNeB (i j : Bool) : oNe (.bl i) (.bl j) W = some (.bl (!decide (i = j)), W) := rfl
@[simp] theorem r_oNeS (i j : Str) : oNe (.str i) (.str j) W = some (.bl (!decide (i = j)), W) := rfl
/-! statements -/
def seqK (T : SS) (n : Nat) : Fl × Wd → Option (Fl × Wd)
  | (.nx e, W) => T n e W
  | p => some p
@[simp] theorem seqK_nx (e : DEnv) : seqK T n (.nx e, W) = T n e W := rfl
@[simp] theorem seqK_rt (x : DV) : seqK T n (.rt x, W) = some (.rt x, W) := rfl
@[simp] theorem seqK_bk (e : DEnv) : seqK T n (.bk e, W) = some (.bk e, W) := rfl
@[simp] theorem seqK_ct (e : DEnv) : seqK T n (.ct e, W) = some (.ct e, W) := rfl
@[simp] theorem r_sSeq : sSeq S T n env W = (S n env W).bind (seqK T n) := by
  simp only [sSeq, mb_apply]
  congr 1
  funext p
  obtain ⟨f, W1⟩ := p
  cases f <;> rfl
@[simp] theorem r_sNil : sNil n env W = some (.nx env, W) := rfl
@[simp] theorem r_sExpr : sExpr F n env W = (F env W).bind fun p => some (.nx env, p.2) := by simp only [sExpr, mb_apply, mr_apply]
@[simp] theorem r_sRet : sRet F n env W = (F env W).bind fun p => some (.rt p.1, p.2) := by simp only [sRet, mb_apply, mr_apply]
@[simp] theorem r_sIf : sIf B S T n env W = (B env W).bind fun p => if p.1 = true then S n env p.2 else T n env p.2 := by
  simp only [sIf, mb_apply]
  congr 1
  funext p
  split <;> rfl
@[simp] theorem r_sAsg (g : GS) : sAsg F g n env W = (F env W).bind fun p => (g p.1 env p.2).bind fun q => some (.nx q.1, q.2) := by simp only [sAsg, mb_apply, mr_apply]
@[simp] theorem r_gN (i : Nat) (x : DV) : gN i x env W = some (env.set i (some x), W) := rfl
@[simp] theorem r_sPar (i j : Nat) (F1 F2 : ES) : sPar i j (aC F1 (aC F2 aN)) n env W = (F1 env W).bind fun p => (F2 env p.2).bind fun q => some (.nx ((env.set i (some p.1)).set j (some q.1)), q.2) := by
  simp only [sPar, mb_apply, r_aC, r_aN]
  cases F1 env W with
  | none => rfl
  | some p =>
    obtain ⟨x, W1⟩ := p
    simp only [Option.bind_some]
    cases F2 env W1 with
    | none => rfl
    | some q => rfl
@[simp] theorem r_sAug (i : Nat) : sAug i F G n env W = (mo (env[i]?.join) W).bind fun p => (F env p.2).bind fun q => (G p.1 q.1 q.2).bind fun z => some (.nx (env.set i (some z.1)), z.2) := by simp only [sAug, mb_apply, mr_apply, r_eV]
@[simp] theorem r_gSet (v : DV) : gSet F F' v env W = (F env W).bind fun p => (F' env p.2).bind fun q => (dPut v p.1 q.1 q.2).bind fun z => some (env, z.2) := by simp only [gSet, mb_apply, mr_apply]
@[simp] theorem r_gsN : gsN [] env W = some (env, W) := rfl
@[simp] theorem r_gsC (g : GS) (gs : GSs) (x : DV) (xs : List DV) : gsC g gs (x :: xs) env W = (g x env W).bind fun p => gs xs p.1 p.2 := by simp only [gsC, mb_apply]
@[simp] theorem r_gQt (gs : GSs) (xs : List DV) : gQ n gs (.tup xs) env W = if (xs.length == n) = true then gs xs env W else none := by simp only [gQ, app_ite]
@[simp] theorem r_gQl (gs : GSs) (xs : List DV) : gQ n gs (.lst xs) env W = if (xs.length == n) = true then gs xs env W else none := by simp only [gQ, app_ite]
/-! loops -/
def loopK (g : GS) (S : SS) (n : Nat) (xs : List DV) : Fl × Wd → Option (Fl × Wd)
  | (.nx e, W) => sLoop g S n xs e W
  | (.ct e, W) => sLoop g S n xs e W
  | (.bk e, W) => some (.nx e, W)
  | (.rt v, W) => some (.rt v, W)
@[simp] theorem loopK_nx (g : GS) (xs : List DV) (e : DEnv) : loopK g S n xs (.nx e, W) = sLoop g S n xs e W := rfl
@[simp] theorem loopK_ct (g : GS) (xs : List DV) (e : DEnv) : loopK g S n xs (.ct e, W) = sLoop g S n xs e W := rfl
@[simp] theorem loopK_bk (g : GS) (xs : List DV) (e : DEnv) : loopK g S n xs (.bk e, W) = some (.nx e, W) := rfl
@[simp] theorem loopK_rt (g : GS) (xs : List DV) (v : DV) : loopK g S n xs (.rt v, W) = some (.rt v, W) := rfl
@[simp] theorem r_sLoop0 (g : GS) : sLoop g S n [] env W = some (.nx env, W) := rfl
@[simp] theorem r_sLoop (g : GS) (x : DV) (xs : List DV) : sLoop g S n (x :: xs) env W = (g x env W).bind fun p => (S n p.1 p.2).bind (loopK g S n xs) := by
  simp only [sLoop, mb_apply]
  congr 1
  funext p
  congr 1
  funext q
  obtain ⟨f, W1⟩ := q
  cases f <;> rfl
@[simp] theorem r_sFor (I : IS) (g : GS) : sFor I g S n env W = (I env W).bind fun p => sLoop g S p.2.length p.1 env p.2 := by simp only [sFor, mb_apply]
@[simp] theorem r_cLoop0 (g : GS) (acc : List DV) : cLoop g B F env [] acc W = some (acc, W) := rfl
@[simp] theorem r_cLoop (g : GS) (x : DV) (xs acc : List DV) : cLoop g B F env (x :: xs) acc W = (g x env W).bind fun p => (B p.1 p.2).bind fun b => if b.1 = true then (F p.1 b.2).bind fun y => if acc.length < sizeLine then cLoop g B F env xs (acc ++ [y.1]) y.2 else none else cLoop g B F env xs acc b.2 := by
  simp only [cLoop, mb_apply]
  congr 1
  funext p
  congr 1
  funext b
  split
  · rw [mb_apply]
    congr 1
    funext y
    split <;> rfl
  · rfl
@[simp] theorem r_bYes : bYes env W = some (true, W) := rfl
def itL : DV → Option (List DV)
  | .lst xs => some xs
  | .scr ns => some (ns.map DV.int)
  | _ => none
@[simp] theorem r_iD : iD F env W = (F env W).bind fun p => mo (itL p.1) p.2 := by
  simp only [iD, mb_apply]
  congr 1
  funext p
  obtain ⟨x, W1⟩ := p
  cases x <;> rfl
def itS : DV → Option (List DV)
  | .str s => some (signs s)
  | _ => none
@[simp] theorem r_iS : iS F env W = (F env W).bind fun p => mo (itS p.1) p.2 := by
  simp only [iS, mb_apply]
  congr 1
  funext p
  obtain ⟨x, W1⟩ := p
  cases x <;> rfl
def itT : DV → Option (List DV)
  | .tup xs => some xs
  | _ => none
@[simp] theorem r_iT : iT F env W = (F env W).bind fun p => mo (itT p.1) p.2 := by
  simp only [iT, mb_apply]
  congr 1
  funext p
  obtain ⟨x, W1⟩ := p
  cases x <;> rfl
def itR : List DV → Option (List DV)
  | [.int j] => if rngOk j = true then some (upFrom 0 j.toNat) else none
  | _ => none
@[simp] theorem r_iR1 : iR1 A env W = (A env W).bind fun p => mo (itR p.1) p.2 := by
  simp only [iR1, mb_apply]
  congr 1
  funext p
  obtain ⟨x, W1⟩ := p
  rcases x with _ | ⟨a, _ | ⟨b, t⟩⟩
  · rfl
  · cases a with
    | int j =>
      show (if rngOk j = true then mr (upFrom 0 j.toNat) else fun _ => none) W1 = mo (if rngOk j = true then some (upFrom 0 j.toNat) else none) W1
      split <;> rfl
    | _ => rfl
  · cases a <;> rfl
@[simp] theorem itR_int (j : Int) : itR [.int j] = if rngOk j = true then some (upFrom 0 j.toNat) else none := rfl
@[simp] theorem itL_lst (xs : List DV) : itL (.lst xs) = some xs := rfl
@[simp] theorem itT_tup (xs : List DV) : itT (.tup xs) = some xs := rfl
@[simp] theorem itS_str (t : Str) : itS (.str t) = some (signs t) := rfl
end
end DL
end L2

set_option maxRecDepth 100000
set_option maxHeartbeats 2000000
/-! DX1: an own exception class is called, with names of parameters too: the made object, then the own __init__. -/
namespace PySem
namespace DXE
open PySem.W PySem.Calls
section
variable {P : Program} {W₀ : World} {A : Around} {Er : Value → Shared → Prop} {RR : Result → Shared → Prop} {hp : Heap} {gs : Array GenState} {dr : Drawn} {tk : Nat} {so : OsState}
variable {B nId iId : String} {bmB : List Value} {cN cQ : Str} {C nsp : Addr} {cbs cbm : List Value} {hasD : Bool} {sls : List Str} {subs : List Value} {abst : Bool} {coll : Option Bool} {cdict : Option Addr} {s0 s1 s2 s3 s5 : Option Value}
abbrev exC (cN cQ : Str) (C nsp : Addr) (cbs cbm : List Value) (hasD : Bool) (sls : List Str) (subs : List Value) (abst : Bool) (coll : Option Bool) (cdict : Option Addr) (s0 s1 s2 s3 s5 : Option Value) (nId : String) : Obj := excClassObj cN cQ C nsp cbs cbm hasD sls subs abst coll cdict s0 s1 s2 s3 s5 nId
theorem chk_new (FB : ExcBaseFacts B nId iId bmB) (same : ∀ T : String, cbm.contains (.type T) = bmB.contains (.type T)) {ar : List Value} {kw : List (Str × Value)} {Q : Unit → Shared → Prop}
    (at_ : hp.get? C = some (exC cN cQ C nsp cbs cbm hasD sls subs abst coll cdict s0 s1 s2 s3 s5 nId)) (q : Q () ⟨hp, gs, dr, tk, so⟩) : wpAny (model P W₀) A (checkBuiltinCall nId ⟨.ref C :: ar, kw⟩) Q Er ⟨hp, gs, dr, tk, so⟩ := by
  have isB : (Value.ref C :: cbm).contains (.type B) = true := by rw [List.contains_cons, same]; rw [FB.hasB, Bool.or_true]
  have star := FB.noStar
  simp only [checkBuiltinCall, FB.newSplit, FB.newKind, FB.newRow]
  repeat (first | refine wpAny_loadPart_at at_ ?_ | (refine wpAny_isSubtype_exc at_ ?_; rw [isB]) | refine wpAny_staticBase_exc at_ ?_ | refine wpAny_madeBy_exc at_ ?_ | wp_step | simp only [bne_self_eq_false, Bool.false_eq_true, if_false])
  exact q
theorem run_new (FB : ExcBaseFacts B nId iId bmB) (same : ∀ T : String, cbm.contains (.type T) = bmB.contains (.type T)) {ar : List Value} {kw : List (Str × Value)}
    (at_ : hp.get? C = some (exC cN cQ C nsp cbs cbm hasD sls subs abst coll cdict s0 s1 s2 s3 s5 nId)) (few : ar.length ≤ sizeLine)
    (q : RR (.ok (.ret (.ref (hp.objs.size + 1)))) ⟨(hp.push (kdv_tup ar)).push (HandSPX.excO C hp.objs.size), gs, dr, tk, so⟩) :
    codeAny (model P W₀) A (.builtin nId ⟨.ref C :: ar, kw⟩) RR ⟨hp, gs, dr, tk, so⟩ := by
  have en := FB.ends
  have isB : (Value.ref C :: cbm).contains (.type B) = true := by rw [List.contains_cons, same]; rw [FB.hasB, Bool.or_true]
  have noA : (Value.ref C :: cbm).contains (.type "AttributeError") = false := by rw [List.contains_cons, same]; rw [FB.noAttr]; rfl
  have noN : (Value.ref C :: cbm).contains (.type "NameError") = false := by rw [List.contains_cons, same]; rw [FB.noName]; rfl
  refine codeAny_builtinAt FB.entry ?_
  unfold Builtin.«BaseException.__new__»
  refine wpAt_bind ?_
  show wpAt _ _ _ (stack >>= _) _ _ _
  refine wpAt_bind (wpAt_stack fun p below => wpAt_of_wpAny ?_)
  wp_walk
  refine wpAt_of_wpAny ?_
  rw [FB.owner]
  repeat (first | with_reducible refine wpAny_madeHere_exc FB.canon at_ ?_ | with_reducible refine wpAny_loadPart_at at_ ?_ | (with_reducible refine wpAny_isSubtype_exc at_ ?_; first | rw [isB] | rw [noA] | rw [noN]) | wp_step)
  show RR _ _
  rw [Heap.size_push]
  exact q
theorem run_type (FB : ExcBaseFacts B nId iId bmB) (same : ∀ T : String, cbm.contains (.type T) = bmB.contains (.type T)) {ar : List Value} {kw : List (Str × Value)} {fI : Addr} {Q : Fin → Shared → Prop}
    (at_ : hp.get? C = some (exC cN cQ C nsp cbs cbm hasD sls subs abst coll cdict s0 s1 s2 s3 s5 nId)) (few : ar.length ≤ sizeLine)
    (li : Looks (model P W₀) hp (typeLookup (.ref C) "__init__") (some (.ref fI))) (lb : ∀ o, Looks (model P W₀) hp (bindSpecial (.ref fI) o) (.ref fI, [o]))
    (q : codeAny (model P W₀) A (.call (.ref fI) ⟨.ref (hp.objs.size + 1) :: ar, kw⟩)
      (fun r s' => match r with | .ok (.ret v) => v = .none ∧ Q (.done (.ret (.ref (hp.objs.size + 1)))) s' | .ok _ => False | .error e => Er e s')
      ⟨(hp.push (kdv_tup ar)).push (HandSPX.excO C hp.objs.size), gs, dr, tk, so⟩) :
    wpAny (model P W₀) A (Builtin.«type.__call__» ⟨.ref C :: ar, kw⟩) Q Er ⟨hp, gs, dr, tk, so⟩ := by
  repeat (first | with_reducible refine wpAny_madeBy_exc at_ ?_ | with_reducible refine wpAny_loadPart_at at_ ?_ | wp_step)
  refine codeAny_call_builtin_code (Code.quiet_builtin _ FB.quiet) (chk_new FB same at_ (run_new FB same at_ few ?_))
  show wpAny _ _ _ _ _ _
  have k : ∀ b o, hp.get? b = some o → ((hp.push (kdv_tup ar)).push (HandSPX.excO C hp.objs.size)).get? b = some o := fun b o e => Heap.get?_push_of_some _ (Heap.get?_push_of_some _ e)
  have atC := k _ _ at_
  have atE : ((hp.push (kdv_tup ar)).push (HandSPX.excO C hp.objs.size)).get? (hp.objs.size + 1) = some (HandSPX.excO C hp.objs.size) := by heap_get
  have isC : (Value.ref C :: cbm).contains (.ref C) = true := by simp
  have li1 := li.keeps k
  have lb1 := (lb (.ref (hp.objs.size + 1))).keeps k
  unfold isInstance
  repeat (first | with_reducible refine wpAny_loadPart_at atE ?_ | (with_reducible refine wpAny_isSubtype_exc atC ?_; rw [isC]) | wp_step)
  show wpAny _ _ (typeLookup (.ref C) _) _ _ _
  refine li1.at (wpAny_holding (wpAny_bind (lb1.at (wpAny_bind (wpAny_call (codeAny_mono q fun r s' z => ?_))))))
  rcases r with e | (v | _ | _ | _) <;> first | exact z | exact z.elim | skip
  obtain ⟨rfl, z⟩ := z
  first
    | exact wpAny_pure (wpAny_pure z)
    | (wp_walk; exact z)
theorem chk_type {ar : List Value} {kw : List (Str × Value)} {Q : Unit → Shared → Prop} (at_ : hp.get? C = some (exC cN cQ C nsp cbs cbm hasD sls subs abst coll cdict s0 s1 s2 s3 s5 nId))
    (q : Q () ⟨hp, gs, dr, tk, so⟩) : wpAny (model P W₀) A (checkBuiltinCall "type.__call__" ⟨.ref C :: ar, kw⟩) Q Er ⟨hp, gs, dr, tk, so⟩ := by
  have f := tc_sub
  have hT : (⟨hp, gs, dr, tk, so⟩ : Shared).TypeIs (.ref C) "type" := ⟨_, at_, rfl⟩
  simp only [checkBuiltinCall, tc_split, tc_kind]
  repeat (any_goals (first | assumption | with_reducible refine wpAny_map ?_ | with_reducible refine wpAny_loadPart_at at_ ?_ | with_reducible refine wpAny_onRaise ?_ | wp_step))
/-- C(.., n=..) -/
theorem call_cls (FB : ExcBaseFacts B nId iId bmB) (same : ∀ T : String, cbm.contains (.type T) = bmB.contains (.type T)) {ar : List Value} {kw : List (Str × Value)} {fI : Addr}
    (at_ : hp.get? C = some (exC cN cQ C nsp cbs cbm hasD sls subs abst coll cdict s0 s1 s2 s3 s5 nId)) (few : ar.length ≤ sizeLine)
    (li : Looks (model P W₀) hp (typeLookup (.ref C) "__init__") (some (.ref fI))) (lb : ∀ o, Looks (model P W₀) hp (bindSpecial (.ref fI) o) (.ref fI, [o]))
    (q : codeAny (model P W₀) (A.under (.builtin "type.__call__" ⟨.ref C :: ar, kw⟩)) (.call (.ref fI) ⟨.ref (hp.objs.size + 1) :: ar, kw⟩) (InitBack (hp.objs.size + 1) RR)
      ⟨(hp.push (kdv_tup ar)).push (HandSPX.excO C hp.objs.size), gs, dr, tk, so⟩) :
    codeAny (model P W₀) A (.call (.ref C) ⟨ar, kw⟩) RR ⟨hp, gs, dr, tk, so⟩ := by
  have g1 := tc_lookup
  have g2 := tc_bind (.ref C)
  have hT : (⟨hp, gs, dr, tk, so⟩ : Shared).TypeIs (.ref C) "type" := ⟨_, at_, rfl⟩
  refine codeAny_of_tree ?_
  show wpAny _ _ (callAny (.ref C) _) _ _ _
  repeat (any_goals (first | assumption | with_reducible refine wpAny_loadPart_at at_ ?_ | wp_step))
  refine ⟨rfl, ?_⟩
  refine codeAny_call_builtin_at (Code.quiet_builtin _ (by decide +kernel)) entry_typeCall (chk_type at_ (run_type FB same at_ few li lb (codeAny_mono q fun r s' z => ?_)))
  rcases r with e | (v | _ | _ | _) <;> first | exact z | exact z.elim
end
end DXE
end PySem

set_option maxRecDepth 100000
set_option maxHeartbeats 2000000
/-! DX2: fields of an exception that is being made (over any built-in base), super().__init__(..) in its __init__. -/
namespace PySem
namespace DXE
open PySem.W PySem.Calls Builtin Builtin.ObjectAttr
section
variable {P : Program} {W₀ : World} {A : Around} {Er : Value → Shared → Prop} {RR : Result → Shared → Prop} {hp : Heap} {gs : Array GenState} {dr : Drawn} {tk : Nat} {so : OsState}
variable {K : Frag} {fn : Str} {tok : Tok} {val : Value} {x C dx : Addr} {fv : Array Value} {cd : ClassData}
/-- what the class lets a store pass -/
structure Lets (K : Frag) (x C : Addr) (cd : ClassData) : Prop where
  cls : clsIn K C = some cd
  pass : refuseLoop (.ref x) "__setattr__" cd.mro = pure ()
  obj : mroIn K C (.type "object") = some true
  dct : cd.hasDict = true
theorem st_own {ox : Obj} {od : Option Obj} (kin : K.In hp) (I : InstAt hp x ox C od) (L : Lets K x C cd) (no : findIn K (.ref C) fn = some none)
    (q : wpAny (model P W₀) A.in1 (storeInOwnDict (.ref x) (.ref C) (.str fn tok) fn val false)
      (fun z s' => match z with | .done f => RR (.ok f) s' | .again c => c.quiet = true ∧ codeAny (model P W₀) A c RR s') (fun e s' => RR (.error e) s') ⟨hp, gs, dr, tk, so⟩) :
    codeAny (model P W₀) A (.call (.builtin "object.__setattr__") ⟨[.ref x, .str fn tok, val], []⟩) RR ⟨hp, gs, dr, tk, so⟩ := by
  have S0 := F.store_object
  have isO : Looks (model P W₀) hp (isInstance (.ref x) (.type "object")) true := I.type.andThen (looks_mroIn kin L.obj)
  refine codeAny_call_builtin S0.slot.plain S0.entry (@check_slot (model P W₀) _ _ ⟨hp, gs, dr, tk, so⟩ "object.__setattr__" "object" "__setattr__" (.ref x) [.str fn tok, val] [] _ S0.kind S0.split isO (S0.args (.ref x) (.str fn tok) val) ?_)
  have lm : Looks (model P W₀) hp (mroOf (.ref C)) cd.mro := (looks_clsIn kin L.cls).andThen .now
  have l0 : Looks (model P W₀) hp (storeTaker? none) none := .now
  rw [osa_eq, refuse_eq]
  refine wpAny_bind (wpAny_bind (I.type.at (wpAny_bind (lm.at ?_))))
  rw [L.pass]
  exact wpAny_pure (wpAny_bind (I.type.at (wpAny_bind ((looks_findIn kin no).at (wpAny_bind (l0.at q))))))
/-- the first field: the dict is laid -/
theorem st_new (kin : K.In hp) (at_ : hp.get? x = some { cls := .ref C, data := .fields fv }) (L : Lets K x C cd) (no : findIn K (.ref C) fn = some none)
    (q : ∀ h' t' dx, (∀ b o, b ≠ x → hp.get? b = some o → h'.get? b = some o) → hp.objs.size ≤ dx → dx ≠ x → h'.get? x = some { cls := .ref C, dict := some dx, data := .fields fv } →
      h'.Ns1 dx (fun y => if y = fn then some val else none) → RR (.ok (.ret .none)) ⟨h', gs, dr, t', so⟩) :
    codeAny (model P W₀) A (.call (.builtin "object.__setattr__") ⟨[.ref x, .str fn tok, val], []⟩) RR ⟨hp, gs, dr, tk, so⟩ := by
  have ne : x ≠ hp.objs.size := Nat.ne_of_lt (Heap.lt_size at_)
  have lc : Looks (model P W₀) hp (classData C) cd := looks_clsIn kin L.cls
  refine st_own kin (ox := { cls := .ref C, data := .fields fv }) (od := none) ⟨at_, rfl, rfl, trivial⟩ L no ?_
  have hd := L.dct
  obtain ⟨c1, c2, c3, c4, c5, c6, c7, c8, c9, c10, c11⟩ := cd
  dsimp only at hd
  subst hd
  unfold storeInOwnDict ownDictForStores
  repeat (first | with_reducible refine wpAny_loadPart_at at_ ?_ | with_reducible refine HandSPX.store_in_new ?_ ?_ | with_reducible refine lc.at ?_ | wp_step)
  · exact ⟨_, #[], _, (Heap.get?_update_ne _ _ _ _ ne.symm).trans (Heap.get?_push_at rfl rfl), rfl, fun e m => absurd m (by simp), fun _ => rfl⟩
  · intro h' t' n' sb
    have at1 : (hp.push { cls := .type "dict", data := .dict #[] }).get? x = some { cls := .ref C, data := .fields fv } := Heap.get?_push_of_some _ at_
    refine q h' t' hp.objs.size (fun b o nb e => ?_) (Nat.le_refl _) ne.symm ?_ n'
    · exact (sb.2 b (Nat.ne_of_lt (Heap.lt_size e))).trans ((Heap.get?_update_ne _ _ _ _ nb).trans (Heap.get?_push_of_some _ e))
    · exact (sb.2 x ne).trans (Heap.get?_update_self _ at1 rfl)
/-- a further field -/
theorem st_more {m0 : Str → Option Value} {nl : List Str} (kin : K.In hp) (at_ : hp.get? x = some { cls := .ref C, dict := some dx, data := .fields fv }) (hn : hp.Ns1 dx m0) (hw : Within m0 nl) (hl : nl.length ≤ 1000) (L : Lets K x C cd) (no : findIn K (.ref C) fn = some none)
    (q : ∀ h' t', (∀ b o, b ≠ dx → hp.get? b = some o → h'.get? b = some o) → h'.Ns1 dx (fun y => if y = fn then some val else m0 y) → RR (.ok (.ret .none)) ⟨h', gs, dr, t', so⟩) :
    codeAny (model P W₀) A (.call (.builtin "object.__setattr__") ⟨[.ref x, .str fn tok, val], []⟩) RR ⟨hp, gs, dr, tk, so⟩ := by
  obtain ⟨oD, e1, e2, atD, e3, _⟩ := hn.count hw
  have lc : Looks (model P W₀) hp (classData C) cd := looks_clsIn kin L.cls
  refine st_own kin (ox := { cls := .ref C, dict := some dx, data := .fields fv }) (od := some oD) ⟨at_, rfl, rfl, atD⟩ L no ?_
  have hd := L.dct
  obtain ⟨c1, c2, c3, c4, c5, c6, c7, c8, c9, c10, c11⟩ := cd
  dsimp only at hd
  subst hd
  unfold storeInOwnDict ownDictForStores
  repeat (first | with_reducible refine wpAny_loadPart_at at_ ?_ | with_reducible refine OEX.store_in_old hn hw hl ?_ | with_reducible refine lc.at ?_ | wp_step)
  intro h' t' n' sb
  exact q h' t' (fun b o nb e => (sb.2 b nb).trans e) n'
variable {B nId iId : String} {bmB : List Value} {cN cQ : Str} {nsp : Addr} {cbs : List Value} {hasD : Bool} {sls : List Str} {subs : List Value} {abst : Bool} {coll : Option Bool} {cdict : Option Addr} {s0 s1 s2 s3 s5 : Option Value}
/-- the bound __init__ of the base is called -/
theorem call_mw (FB : ExcBaseFacts B nId iId bmB) {u t0 : Addr} {ar : List Value} {Q : Value → Shared → Prop} (at_ : hp.get? C = some (exC cN cQ C nsp cbs bmB hasD sls subs abst coll cdict s0 s1 s2 s3 s5 nId))
    (ax : hp.get? x = some (excObj C t0 none .none)) (au : hp.get? u = some (kxs_mw iId x)) (few : ar.length ≤ sizeLine)
    (q : ∀ h' t1, (∀ b o, b ≠ x → hp.get? b = some o → h'.get? b = some o) → h'.get? x = some (excObj C t1 none .none) → Q .none ⟨h', gs, dr, tk, so⟩) :
    wpAny (model P W₀) A (call (.ref u) ar) Q Er ⟨hp, gs, dr, tk, so⟩ := by
  refine wpAny_call (codeAny_of_tree ?_)
  show wpAny _ A.in1 (callAny (.ref u) ⟨ar, []⟩) _ _ _
  simp only [callAny]
  refine wpAny_bind (wpAny_load au ?_)
  simp only [kxs_mw, show (Value.type "method-wrapper" == Value.type "method" || Value.type "method-wrapper" == Value.type "builtin_function_or_method" || Value.type "method-wrapper" == Value.type "method-wrapper") = true by decide, if_true]
  refine KFB.if_so (by decide) (wpAny_bind (check_bound_init FB.toExcCallFacts at_ ax rfl (wpAny_bind (wpAny_pure (wpAny_pure ?_)))))
  refine ⟨plainId_quiet FB.init.plain _, codeAny_builtin FB.initEntry ?_⟩
  exact exc_init_tree (cls := .ref C) (t0 := t0) (dv := none) (c2 := .none) (c3 := .none) (b4 := .bool false) ax few fun h' k1 k2 k3 => q h' _ k1 k2
end
end DXE
end PySem

set_option maxRecDepth 100000
set_option maxHeartbeats 2000000
/-! DX3: an exception being made, in the hand layer's states. -/
namespace L2
namespace DL
open PySem PySem.Spec PyProof.Rows
/-- what the top has written of an own exception class straight over B -/
structure XC (K : PySem.W.Frag) (nm : Str) (C : Addr) (B nId iId : String) (bmB : List Value) : Prop where
  fb : ExcBaseFacts B nId iId bmB
  kx : PySem.W.KxsFacts B iId
  sf : StoreFacts B bmB "object.__setattr__" "object"
  gl : PySem.W.nsIn K mainGlobals nm = some (some (.ref C))
  cls : ∃ cQ N bs sn sub ab col dd k0 k1 k2 k3 k5, K.lookup C = some (DXE.exC nm cQ C N bs bmB true sn sub ab col dd k0 k1 k2 k3 k5 nId)
  sa : PySem.W.findIn K (.ref C) "__setattr__" = some (some (.builtin "object.__setattr__"))
  sub : PySem.W.subIn K (.ref C) (.type B) = some true
  kC : PySem.W.keepIn K (.ref C) = true
section
variable {K : PySem.W.Frag} {nm : Str} {C : Addr} {B nId iId : String} {bmB : List Value}
theorem XC.lets (T : XC K nm C B nId iId bmB) (x : Addr) : ∃ cd, DXE.Lets K x C cd := by
  obtain ⟨cQ, N, bs, sn, sub, ab, col, dd, k0, k1, k2, k3, k5, hC⟩ := T.cls
  have hcl : PySem.W.clsIn K C = some { name := nm, bases := bs, mro := .ref C :: bmB, ns := N, qualname := cQ, hasDict := true, slotNames := sn, subclasses := sub, abstract := ab, collection := col, hasDel := false } := by unfold PySem.W.clsIn; rw [hC] <;> rfl
  refine ⟨_, hcl, ?_, ?_, rfl⟩
  · show refuseLoop (.ref x) "__setattr__" (.ref C :: bmB) = pure ()
    rw [refuseLoop_ref]
    exact T.sf.passes _
  · unfold PySem.W.mroIn
    rw [hcl, Option.bind_some]
    show (if (Value.ref C :: bmB).isEmpty = true then _ else some ((Value.ref C :: bmB).contains (.type "object"))) = _
    rw [if_neg (show ¬ (Value.ref C :: bmB).isEmpty = true from Bool.false_ne_true), List.contains_cons, T.sf.hasOwner, Bool.or_true]
end
section
variable {X : Cx} {pins : List (Addr × Obj)} {sg : St} {H : Hp} {s : Shared} {a C d : Addr} {f : Str} {y : V} {u : Value} {fs : List (Str × V)} {Q : Unit → Shared → Prop} {E : Value → Shared → Prop} {A : Around}
variable {nm : Str} {B nId iId : String} {bmB : List Value}
/-- self.f = y: the first field -/
theorem ex_new (T : XC X.K nm C B nId iId bmB) (I : Inv X pins sg H s) (e : H a = some (exo a C none)) (no : PySem.W.findIn X.K (.ref C) f = some none) (ry : RelV y u)
    (h : ∀ d s', H d = none → d ≠ a → Inv X pins sg (upd (upd H d (exd d [(f, y)])) a (exo a C (some d))) s' → Q () s') : wpAny (model X.prog X.w) A (setAttr (.ref a) f u) Q E s := by
  obtain ⟨cd, L⟩ := T.lets a
  obtain ⟨t1, at_⟩ := exo_at I.hok e
  obtain ⟨hp, g, dr, t, os⟩ := s
  refine PySem.W.set_plain I.kIn (ox := { cls := .ref C, dict := none, data := .fields #[.ref t1, .none, .none, .none, .bool false, .none] }) (od := none) ⟨at_, rfl, rfl, trivial⟩ T.sa ?_
  refine DXE.st_new I.kIn at_ L no (fun h' t' d k dn dne ax hn => ?_)
  have nd : H d = none := I.hok.fresh dn
  have old : ∀ {b : Addr} {o : Obj}, hp.get? b = some o → b ≠ d := fun {b o} z => Nat.ne_of_lt (Nat.lt_of_lt_of_le (Heap.lt_size z) dn)
  have na : ∀ {b : Addr}, H b = none → b ≠ a := fun {b} z w => by rw [w, e] at z; cases z
  have U : Un X.fs [] H (upd (upd H d (exd d [(f, y)])) a (exo a C (some d))) hp h' := {
    keep := fun b o z n _ _ => k b o (na n) z
    slot := fun b o z n _ _ => ⟨_, k b o (na n) z⟩
    free := fun b o z n _ => by rw [upd_ne (na n), upd_ne (old z)]; exact n
    there := fun b o z _ => by
      by_cases w : b = a
      · exact ⟨_, by rw [w]; exact ax⟩
      · exact ⟨o, k b o w z⟩
    tups := fun b xs z => by rw [upd_ne (at_ne e z exo_tup), upd_ne (ne_of_none z nd)]; exact z
    frzs := fun b o v z => by rw [upd_ne (at_ne e z exo_frz), upd_ne (ne_of_none z nd)]; exact z
    tbls := fun b ps z => ⟨#[], by rw [upd_ne (at_ne e z exo_tbl), upd_ne (ne_of_none z nd), z]; simp⟩ }
  refine h d _ nd dne (I.un (t' := t') U fun b o z => ?_)
  by_cases w : b = a
  · subst w
    rw [upd_same] at z
    cases z
    exact exo_ok ax
  · rw [upd_ne w] at z
    by_cases w' : b = d
    · subst w'
      rw [upd_same] at z
      cases z
      exact exd_ok hn (relO_put (fs := []) ry fun g => True.intro)
    · rw [upd_ne w'] at z
      exact (I.hok b o z).stay (fun c v hc z2 => k c v (by
          rcases hc with hc | hc
          · rw [hc]; exact w
          · exact at_ne e hc exo_own) z2)
        (fun c hc => by rw [upd_ne (at_ne e hc exo_own), upd_ne (ne_of_none hc nd)]; exact hc) (fun c xs hc => by rw [upd_ne (at_ne e hc exo_tup), upd_ne (ne_of_none hc nd)]; exact hc)
/-- self.f = y: a further field -/
theorem ex_more (T : XC X.K nm C B nId iId bmB) (I : Inv X pins sg H s) (e : H a = some (exo a C (some d))) (ed : H d = some (exd d fs)) (hl : fs.length ≤ 900) (no : PySem.W.findIn X.K (.ref C) f = some none) (ry : RelV y u)
    (h : ∀ s', Inv X pins sg (upd H d (exd d ((f, y) :: fs))) s' → Q () s') : wpAny (model X.prog X.w) A (setAttr (.ref a) f u) Q E s := by
  obtain ⟨cd, L⟩ := T.lets a
  obtain ⟨t1, at_⟩ := exo_at I.hok e
  obtain ⟨mA, hns, rel⟩ := exd_at I.hok ed
  have hw := within_of rel
  obtain ⟨hp, g, dr, t, os⟩ := s
  obtain ⟨oD, _, _, atD, _, _⟩ := hns.count hw
  refine PySem.W.set_plain I.kIn (ox := { cls := .ref C, dict := some d, data := .fields #[.ref t1, .none, .none, .none, .bool false, .none] }) (od := some oD) ⟨at_, rfl, rfl, atD⟩ T.sa ?_
  refine DXE.st_more I.kIn at_ hns hw (by rw [List.length_map]; omega) L no (fun h' t' k hn => ?_)
  have hd : ∃ o, h'.get? d = some o := by
    obtain ⟨o, _, _, z, _⟩ := hn
    exact ⟨o, z⟩
  exact h _ (I.write (t' := t') (x := d) (e := d) (o := exd d ((f, y) :: fs)) (by rw [ed]; exact True.intro) (.inl rfl) k hd (exd_ok hn (relO_put ry rel)))
end
/-- what the top has written of the class's __init__ -/
structure XI (P : Program) (K : PySem.W.Frag) (C fI : Addr) (F : NdefX.NF) (iId : String) (fd : FuncData) : Prop where
  ini : PySem.W.findIn K (.ref C) "__init__" = some (some (.ref fI))
  typ : PySem.W.typeIn K (.ref fI) = some (.type "function")
  fn : ∃ (oc : Value) (od : Option Addr) (osl : Array (Option Value)) (doc pm ct : Value), fd = F.fd doc pm ct ∧ K.lookup fI = some ⟨oc, od, .func fd, osl⟩
  cod : PySem.W.codeIn K (.ref F.c) F.qual = true
  rcd : ∃ (oc : Value) (od : Option Addr) (osl : Array (Option Value)) (vs : Array Value) (file : Str) (tf : Tok), K.lookup F.c = some ⟨oc, od, .fields vs, osl⟩ ∧ vs[2]? = some (.str file tf) ∧ ((P.main.file : Str) == file) = true
  cel : ∃ (cc : Addr) (oc : Value) (od : Option Addr) (osl : Array (Option Value)), F.cl = [(("__class__" : Str), cc)] ∧ K.lookup cc = some ⟨oc, od, .cell (some (.ref C)), osl⟩
  opq : PySem.W.nsIn K cStatics "thirdparty.any" = some none
  sup : PySem.W.ks_superIn K C C "__init__" = some (some (.builtin iId))
  mro : PySem.W.mroIn K C (.ref C) = some true
  top : (P.main.scope.names.lookup ("super" : Str)).isSome = false
end DL
end L2

set_option maxRecDepth 100000
set_option maxHeartbeats 2000000
/-! DX4: super().__init__(..), and the stores, in an __init__'s body. -/
namespace L2
namespace DL
open PySem PySem.Spec PyProof.Rows
theorem upd_id {H : Hp} {a : Addr} {o : HO} (e : H a = some o) : upd H a o = H := by
  funext b
  by_cases w : b = a
  · rw [w, upd_same, e]
  · rw [upd_ne w]
section
variable {CX : CXT} {P : Program} {w : PySem.World} {K : PySem.W.Frag} {mg : Str → Option Value} {base : Heap} {N : List Str} {F : NdefX.NF} {fI : Addr} {A₀ : Around} {out : List Env} {sh : Shared} {H₀ : Hp} {Ex : XK}
variable {nm : Str} {C : Addr} {B nId iId : String} {bmB : List Value} {fd : FuncData}
theorem sup_ok {pl : Sem Bool} {body : List Stmt} {p0 p1 p2 p3 pos : Pos} {e : Expr} {es : List Expr} {AS : EA} {ar : Arg} {pins : List (Addr × Obj)} {sg : St} {H : Hp} {s : Shared} {a : Addr} {Q : Hp → Prop} {Qf : Flow → Shared → Prop}
    (T : XC K nm C B nId iId bmB) (S : XI P K C fI F iId fd) (kd : F.scope.kind = .function) (ks : F.scope.names.lookup ("super" : Str) = some .globalImplicit) (kc : F.scope.names.lookup ("__class__" : Str) = some .free)
    (hp : (F.params.posonlyargs ++ F.params.args).head? = some ar) (ka : F.scope.names.lookup ar.arg = some .local) (hm : mg "super" = none) (hN : N[0]? = some ar.arg)
    (ha : DA (NdefX.ncx CX P w K mg base N F fI A₀ out sh H₀ Ex) (e :: es) AS) (I : Inv (NdefX.ncx CX P w K mg base N F fI A₀ out sh H₀ Ex) pins sg H s) (h0 : sg[0]? = some (some (.ref a))) (ea : H a = some (exo a C none))
    (ht : tXA K AS sg H fun vs H1 => vs.length ≤ 1000 ∧ H1 a = some (exo a C none) ∧ Q H1) (hq : ∀ H1 s', Inv (NdefX.ncx CX P w K mg base N F fI A₀ out sh H₀ Ex) pins sg H1 s' → Q H1 → Qf .next s')
    (hc : eval (.Call (.Attribute (.Call (.Name "super" p0) [] [] p1) "__init__" p2) (e :: es) [] pos) (NdefX.ncx CX P w K mg base N F fI A₀ out sh H₀ Ex).env = (do
      let ov ← attributeBase (.Call (.Name "super" p0) [] [] p1) "__init__" (NdefX.ncx CX P w K mg base N F fI A₀ out sh H₀ Ex).env (eval (.Call (.Name "super" p0) [] [] p1) (NdefX.ncx CX P w K mg base N F fI A₀ out sh H₀ Ex).env)
      standAt p2.atName
      let (f, first) ← holding [ov] (getMethod ov "__init__" pl)
      callWith pos f first (backTo pos (starEach (e :: es) (NdefX.ncx CX P w K mg base N F fI A₀ out sh H₀ Ex).env)) []) := by rfl)
    (he : starEach (e :: es) (NdefX.ncx CX P w K mg base N F fI A₀ out sh H₀ Ex).env = (false, eval e (NdefX.ncx CX P w K mg base N F fI A₀ out sh H₀ Ex).env) :: starEach es (NdefX.ncx CX P w K mg base N F fI A₀ out sh H₀ Ex).env := by rfl)
    (hpl : (backTo pos (starEach es (NdefX.ncx CX P w K mg base N F fI A₀ out sh H₀ Ex).env)).any (·.1) = false := by rfl)
    (hs : swapsWith (.Call (.Attribute (.Call (.Name "super" p0) [] [] p1) "__init__" p2) (e :: es) [] pos) none p3.line (NdefX.ncx CX P w K mg base N F fI A₀ out sh H₀ Ex).env = pure false := by rfl)
    (hi : interactive (NdefX.ncx CX P w K mg base N F fI A₀ out sh H₀ Ex).env = false := by rfl) :
    _root_.PySem.wpAt (model P w) (NdefX.ncx CX P w K mg base N F fI A₀ out sh H₀ Ex).A (.func body (NdefX.ncx CX P w K mg base N F fI A₀ out sh H₀ Ex).env)
      (exec (.Expr (.Call (.Attribute (.Call (.Name "super" p0) [] [] p1) "__init__" p2) (e :: es) [] pos) p3) (NdefX.ncx CX P w K mg base N F fI A₀ out sh H₀ Ex).env) Qf (NdefX.ncx CX P w K mg base N F fI A₀ out sh H₀ Ex).xe s := by
  obtain ⟨m, hns, look⟩ := id I.loc
  obtain ⟨u0, ru, lk⟩ := look 0 ar.arg (.ref a) hN h0 (.inl ka)
  obtain rfl : u0 = .ref a := ru
  have hself : m ar.arg = some (.ref a) := by
    rcases lk with ⟨_, z⟩ | ⟨z, _⟩
    · exact z
    · have z' : F.scope.names.lookup ar.arg = some .cell ∨ F.scope.names.lookup ar.arg = some .free := z
      rw [ka] at z'
      rcases z' with z' | z' <;> cases z'
  obtain ⟨t1, atA⟩ := exo_at I.hok ea
  obtain ⟨fo, fod, fsl, doc, pm, ct, rfl, lkF⟩ := S.fn
  obtain ⟨co, cod, csl, cvs, file, tf, lkC, cv2, hfile⟩ := S.rcd
  obtain ⟨cc, ceo, ceod, cesl, hcl, lkE⟩ := S.cel
  obtain ⟨cQ, nsp, bs, sn, sub, ab, col, dd, k0, k1, k2, k3, k5, hC⟩ := T.cls
  obtain ⟨mb, b1, b2⟩ := I.mod.blt
  have kI := I.kIn
  refine PySem.ks_wpAt_Expr_any (PySem.ks_wpAt_MethodCall (pl := pl) ?_ hc) hi hs
  · skip
    refine PySem.ks_wpAt_super_base (env := (NdefX.ncx CX P w K mg base N F fI A₀ out sh H₀ Ex).env) ks kc (by decide) rfl (kI _ _ lkF) rfl hp rfl (kI _ _ lkC) rfl cv2 hfile S.top ?_
    refine PySem.W.ks_loadName_global kd ks (Calls.loadGlobal_builtin (by rw [I.ok.glob]; exact I.mod.glob.keeps I.bk) hm (by rw [I.ok.blt]; exact b1.keeps I.bk) ((b2 "super" (by decide)).trans (by decide +kernel : bootBuiltins "super" = some (.type "super"))) ⟨rfl, ?_⟩)
    refine wpAny_loadName_free kd kc (show F.cl.lookup ("__class__" : Str) = some cc by rw [hcl]; rfl) ⟨_, kI _ _ lkE, rfl⟩ ?_
    refine wpAny_loadName_local kd ka hns hself ?_
    refine PySem.ks_wpAny_isType_cls (kI _ _ hC) rfl ⟨rfl, ?_⟩
    obtain ⟨hh, g, dr, t, os⟩ := s
    refine PySem.ks_wpAny_call_super (kI _ _ hC) rfl atA rfl (fun c z => nomatch z) (PySem.W.looks_mroIn kI S.mro) (fun h' so k => ?_)
    have I1 := I.kept (t' := t) k
    have inst : PySem.W.InstAt h' a ({ cls := .ref C, dict := none, data := .fields #[.ref t1, .none, .none, .none, .bool false, .none] } : Obj) C none := ⟨k _ _ atA, rfl, rfl, trivial⟩
    have hcl' : PySem.W.clsIn K C = some { name := nm, bases := bs, mro := .ref C :: bmB, ns := nsp, qualname := cQ, hasDict := true, slotNames := sn, subclasses := sub, abstract := ab, collection := col, hasDel := false } := by unfold PySem.W.clsIn; rw [hC] <;> rfl
    have hsup := S.sup
    unfold PySem.W.ks_superIn at hsup
    rw [hcl'] at hsup
    refine PySem.W.kxs_getMethod T.kx so (PySem.W.looks_opaque I1.kIn S.opq) (l₀ := .ref C :: bmB) ((PySem.W.looks_clsIn I1.kIn hcl').andThen .now) rfl I1.kIn hsup (inst.type.andThen (PySem.W.looks_subIn I1.kIn T.sub)) (PySem.W.ks_ne I1.kIn inst hcl') (by decide) ?_
    have pushk : ∀ b o, h'.get? b = some o → (h'.push (PySem.W.kxs_mw iId a)).get? b = some o := fun b o z => Heap.get?_push_of_some _ z
    have I2 := I1.kept (t' := t + 1) pushk
    have nU : H h'.objs.size = none := I1.hok.fresh (Nat.le_refl _)
    have atU : (h'.push (PySem.W.kxs_mw iId a)).get? h'.objs.size = some (PySem.W.kxs_mw iId a) := Heap.get?_push_at rfl rfl
    have I3 := I2.pins_of (pins' := pins ++ [(h'.objs.size, PySem.W.kxs_mw iId a)]) fun p hp' => by
      rcases List.mem_append.mp hp' with z | z
      · exact I2.pin p (List.mem_append_right _ z)
      · obtain rfl := List.mem_singleton.mp z
        exact ⟨atU, nU, (Nat.ne_of_lt I1.lt).symm, I1.nofs (Nat.le_refl _), fun v z => nomatch z⟩
    have run : wpAny (model P w) (NdefX.ncx CX P w K mg base N F fI A₀ out sh H₀ Ex).A (spliced (backTo pos (starEach (e :: es) (NdefX.ncx CX P w K mg base N F fI A₀ out sh H₀ Ex).env)))
        (fun vs s₁ => PySem.W.KxsAt iId h'.objs.size a s₁.heap ∧ wpAny (model P w) (NdefX.ncx CX P w K mg base N F fI A₀ out sh H₀ Ex).A (call (.ref h'.objs.size) ([] ++ vs)) (fun _ => Qf .next) (NdefX.ncx CX P w K mg base N F fI A₀ out sh H₀ Ex).xe s₁)
        (NdefX.ncx CX P w K mg base N F fI A₀ out sh H₀ Ex).xe ⟨h'.push (PySem.W.kxs_mw iId a), g, dr, t + 1, os⟩ := by
      refine thn (ha.run pos _ _ sg H _ I3 ht) fun us s1 ⟨vs, H1, J, rl, hlen, ea1, q1⟩ => ?_
      have pinU := (J.pin (h'.objs.size, PySem.W.kxs_mw iId a) (List.mem_append_right _ (List.mem_append_right _ (List.mem_singleton.mpr rfl)))).1
      refine ⟨pinU, ?_⟩
      obtain ⟨t2, atA1⟩ := exo_at J.hok ea1
      obtain ⟨hh1, g1, dr1, tt1, os1⟩ := s1
      refine DXE.call_mw T.fb (J.kIn _ _ hC) atA1 pinU (by rw [List.nil_append, ← rl.length, sizeLine_eq]; omega) fun h2 t3 k2 ax => ?_
      have J2 := J.write (t' := tt1) (x := a) (e := a) (o := exo a C none) (by rw [ea1]; exact True.intro) (.inl rfl) k2 ⟨_, ax⟩ (exo_ok ax)
      rw [upd_id ea1] at J2
      exact hq H1 _ J2.unpinned q1
    rw [he] at run ⊢
    refine PySem.W.kxs_callWith (i := iId) (x := a) (by show (false || (backTo pos (starEach es (NdefX.ncx CX P w K mg base N F fI A₀ out sh H₀ Ex).env)).any (·.1)) = false; rw [hpl]; rfl) ?_
    exact Calls.evalArgs_plain run
end
end DL
end L2

set_option maxRecDepth 100000
set_option maxHeartbeats 2000000
/-! DX5: an __init__ is entered, its stores are done. -/
namespace L2
namespace DL
open PySem PySem.Spec PyProof.Rows
/-- self.f = e -/
def tSt (K : PySem.W.Frag) (f : Str) (to te : TE) : TS := fun D sg H => te sg H fun y H1 => to sg H1 fun x H2 => ∃ (a C : Addr) (nm : Str) (B nId iId : String) (bmB : List Value), x = .ref a ∧ XC K nm C B nId iId bmB ∧ PySem.W.findIn K (.ref C) f = some none ∧
  ((H2 a = some (exo a C none) ∧ ∀ d, H2 d = none → d ≠ a → D.nx sg (upd (upd H2 d (exd d [(f, y)])) a (exo a C (some d)))) ∨
    ∃ (d : Addr) (fs : List (Str × V)), H2 a = some (exo a C (some d)) ∧ H2 d = some (exd d fs) ∧ fs.length ≤ 900 ∧ D.nx sg (upd H2 d (exd d ((f, y) :: fs))))
theorem ps_st {X : Cx} {o e : Expr} {to te : TE} {f : Str} {p' pos : Pos} (ho : PE X o to) (he : PE X e te) (hs : swapsWith e (some (.Attribute o f p')) pos.line X.env = pure false := by rfl) : PS X (.Assign [.Attribute o f p'] e pos) (tSt X.K f to te) := by
  refine ⟨fun pins s sg H D I h => ?_⟩
  refine plainObj_wpAny_Assign_Attribute (thn (he.run pins s sg H _ I h) fun v s1 ⟨y, H1, I1, r1, q1⟩ => thn (ho.run pins s1 sg H1 _ I1 q1) fun u s2 ⟨x, H2, I2, r2, a, C, nm, B, nId, iId, bmB, ex, T, no, q⟩ => ?_) hs
  subst ex
  obtain rfl : u = Value.ref a := r2
  rcases q with ⟨ea, q⟩ | ⟨d, fs, ea, ed, hl, q⟩
  · exact ex_new T I2 ea no r1 fun d s' n ne J => ⟨sg, _, J, q d n ne⟩
  · exact ex_more T I2 ea ed hl no r1 fun s' J => ⟨sg, _, J, q⟩
theorem exd_swap {d : Addr} {f g : Str} {x y : V} (ne : f ≠ g) : exd d [(g, y), (f, x)] = exd d [(f, x), (g, y)] := by
  unfold exd
  congr 1
  funext h
  have e : ∀ k : Str, ([(g, y), (f, x)] : List (Str × V)).lookup k = ([(f, x), (g, y)] : List (Str × V)).lookup k := fun k => by
    rw [lookup_put, lookup_put, lookup_put, lookup_put]
    by_cases h1 : k = g
    · subst h1
      rw [if_pos rfl, if_neg (Ne.symm ne), if_pos rfl]
    · rw [if_neg h1, if_neg h1]
  simp only [e]
section
variable {P : Program} {w : PySem.World} {K : PySem.W.Frag} {mg : Str → Option Value} {base : Heap} {N ps : List Str} {F : NdefX.NF} {fI : Addr} {A : Around} {out : List Env} {s : Shared} {H : Hp} {E : XK} {Q : VK} {k : Nat} {ar : Args} {us : List Value} {vs : List V}
variable {C : Addr} {iId : String} {fd : FuncData}
theorem ini_enter (S : XI P K C fI F iId fd) (Sc : NdefX.NScope N ps ["__class__"] F.scope) (hr : Room (k + 1) A) (e0 : Env0 P w K mg base A out s H) (hb : BindsTo s fd ar (ps.zip us)) (rl : Vals vs us) (hl : vs.length = ps.length)
    (go : ∀ h₁ tk, Inv (NdefX.ncx CX0 P w K mg base N F fI A out s H E) [] (NdefX.startF N vs [none]) H { s with heap := h₁, toks := tk } →
      _root_.PySem.wpAt (model P w) (NdefX.ncx CX0 P w K mg base N F fI A out s H E).A (.func F.body (NdefX.ncx CX0 P w K mg base N F fI A out s H E).env) (execs F.body (NdefX.ncx CX0 P w K mg base N F fI A out s H E).env)
        (SP (NdefX.ncx CX0 P w K mg base N F fI A out s H E) [] { nx := fun _ H' => Q .non H', rt := Q }) (NdefX.ncx CX0 P w K mg base N F fI A out s H E).xe { s with heap := h₁, toks := tk }) :
    codeAny (model P w) A (.call (.ref fI) ar) (CR CX0 out P w H s Q E) s := by
  obtain ⟨fo, fod, fsl, doc, pm, ct, rfl, lkF⟩ := S.fn
  obtain ⟨cc, ceo, ceod, cesl, hcl, lkE⟩ := S.cel
  have old : ∀ b o, base.get? b = some o → s.heap.get? b = some o := fun b o z => (e0.bs b o z).1
  have KX : K.In s.heap := e0.mod.kin.keeps old
  have cells : NdefX.CellsAt F.cl ["__class__"] [none] s.heap H := by
    have one : ∀ y c, F.cl.lookup y = some c → c = cc ∧ y = "__class__" := fun y c z => by
      rw [hcl] at z
      have z' : (match y == ("__class__" : Str) with | true => some cc | false => none) = some c := z
      cases q : (y == ("__class__" : Str)) with
      | true => rw [q] at z'; exact ⟨(Option.some.inj z').symm, by simpa using q⟩
      | false => rw [q] at z'; cases z'
    refine ⟨rfl, fun y c z => ?_, fun x y c z1 z2 => (one x c z1).2.trans (one y c z2).2.symm, fun i y z => ?_⟩
    · obtain ⟨rfl, _⟩ := one y c z
      exact ⟨(e0.bs _ _ (e0.mod.kin _ _ lkE)).2, _, _, KX _ _ lkE, rfl⟩
    · match i, z with
      | 0, z =>
        cases z
        exact ⟨cc, by rw [hcl]; rfl, fun v z => nomatch z⟩
      | i + 1, z => simp at z
  refine PySem.ks_codeAny_call_defAt hr.depth (KX _ _ lkF) rfl (e0.mod.nolimit.keeps old) (PySem.W.codeRec_of KX S.cod) rfl hb Sc.nocell (fun ⟨n, _⟩ hy => Sc.par n (List.of_mem_zip hy).1) (fun h₁ hns kp => ?_) Sc.co Sc.gen Sc.kind
  have I : Inv (NdefX.ncx CX0 P w K mg base N F fI A out s H E) [] (NdefX.startF N vs [none]) H { s with heap := h₁, toks := s.toks + (ps.zip us).length } := NdefX.inv_startN Sc hr.hd e0 hl rl cells hns kp
  refine PySem.ks_wpAt_mono (go h₁ _ I) (fun fl s' hs => ?_) fun _ _ z => z
  match fl, hs with
  | .ret u, ⟨v, _, H', J, rv, q⟩ => exact ⟨v, H', J.os, J.bare, J.base, J.hok, rv, q⟩
  | .next, ⟨_, H', J, q⟩ => exact ⟨.non, H', J.os, J.bare, J.base, J.hok, rfl, q⟩
  | .brk, ⟨_, _, _, q⟩ => exact q.elim
  | .cont, ⟨_, _, _, q⟩ => exact q.elim
end
end DL
end L2

set_option maxRecDepth 100000
set_option maxHeartbeats 2000000
/-! DX6: what an own exception's __init__ does: a text for the base, its parameters kept as fields. -/
namespace L2
namespace DL
open PySem PySem.Spec PyProof.Rows
abbrev psI (fs : List Str) : List Str := ("self" : Str) :: fs
abbrev nmI (fs : List Str) : List Str := ("self" : Str) :: (fs ++ [("__class__" : Str)])
/-- the exception at a has its fields -/
def Made (a C : Addr) (fs : List Str) (ys : List V) (H1 H2 : Hp) : Prop := (fs = [] ∧ H2 = H1) ∨ ∃ d, H1 d = none ∧ d ≠ a ∧ H2 = upd (upd H1 d (exd d (fs.zip ys))) a (exo a C (some d))
structure IniOk (P : Program) (w : PySem.World) (K : PySem.W.Frag) (mg : Str → Option Value) (base : Heap) (k : Nat) (C fI : Addr) (fd : FuncData) (fs : List Str) (AS : EA) : Prop where
  run : ∀ (A : Around) (out : List Env) (s : Shared) (H : Hp) (E : XK) (Q : VK) (ar : Args) (us : List Value) (a : Addr) (ys : List V) (xs : List DV) (r : Rh) (W : Wd) (zs : List DV) (W' : Wd), Room k A → Env0 P w K mg base A out s H →
    BindsTo s fd ar ((psI fs).zip us) → Vals (.ref a :: ys) us → H a = some (exo a C none) → Hw K r H W → some a ∉ r.rho → Rvs K r H xs ys → ys.length = fs.length → AS (none :: (xs.map some ++ [none])) W = some (zs, W') → zs.length ≤ 1000 →
    (∀ r' H1 H2, Ext r H r' H1 → Hw K r' H1 W' → H1 a = some (exo a C none) → Made a C fs ys H1 H2 → Q .non H2) → codeAny (model P w) A (.call (.ref fI) ar) (CR CX0 out P w H s Q E) s
theorem rel_ini {K : PySem.W.Frag} {r : Rh} {H : Hp} {fs : List Str} {a : Addr} {xs : List DV} {ys : List V} (rs : Rvs K r H xs ys) (hl : ys.length = fs.length) :
    RelE K r H (none :: (xs.map some ++ [none])) (NdefX.startF (nmI fs) (.ref a :: ys) [none]) := by
  have hx := rs.length
  have e : NdefX.startF (nmI fs) (.ref a :: ys) [none] = some (.ref a) :: (ys.map some ++ [none]) := by
    unfold NdefX.startF
    have : (nmI fs).length - (V.ref a :: ys).length - ([none] : List (Option V)).length = 0 := by simp; omega
    rw [this]
    simp
  rw [e]
  refine ⟨by simp [hx], fun i x q => ?_⟩
  match i, q with
  | 0, q => cases q
  | i + 1, q =>
    have q' : (xs.map some ++ [none])[i]? = some (some x) := by simpa using q
    by_cases l : i < xs.length
    · rw [List.getElem?_append_left (by rw [List.length_map]; exact l), List.getElem?_map] at q'
      have q2 : xs[i]? = some x := by
        cases z : xs[i]? with
        | none => rw [z] at q'; cases q'
        | some y => rw [z] at q'; cases q'; rfl
      obtain ⟨v, h1, h2⟩ := rs.get q2
      refine ⟨v, ?_, h2⟩
      have l' : i < ys.length := by omega
      show (ys.map some ++ [none])[i]? = _
      rw [List.getElem?_append_left (by rw [List.length_map]; exact l'), List.getElem?_map, h1]; rfl
    · rw [List.getElem?_append_right (by rw [List.length_map]; omega), List.length_map] at q'
      have : i - xs.length < 1 := by
        obtain ⟨z, _⟩ := List.getElem?_eq_some_iff.mp q'
        simpa using z
      have z0 : i - xs.length = 0 := by omega
      rw [z0] at q'
      cases q'
section
variable {P : Program} {w : PySem.World} {K : PySem.W.Frag} {mg : Str → Option Value} {base : Heap} {F : NdefX.NF} {fI : Addr} {k : Nat} {fs : List Str} {nm : Str} {C : Addr} {B nId iId : String} {bmB : List Value} {fd : FuncData} {ar : Arg} {e : Expr} {AS : EA}
/-- from the stores behind super().__init__(e) -/
theorem ini_ok {pl : Sem Bool} {p0 p1 p2 p3 pos : Pos} {tail : List Stmt} {tt : TS} (T : XC K nm C B nId iId bmB) (S : XI P K C fI F iId fd) (Sc : NdefX.NScope (nmI fs) (psI fs) ["__class__"] F.scope)
    (hbody : F.body = .Expr (.Call (.Attribute (.Call (.Name "super" p0) [] [] p1) "__init__" p2) [e] [] pos) p3 :: tail) (ks : F.scope.names.lookup ("super" : Str) = some .globalImplicit) (hp : (F.params.posonlyargs ++ F.params.args).head? = some ar) (har : ar.arg = "self") (hm : mg "super" = none)
    (ha : ∀ A out s H E, DA (NdefX.ncx CX0 P w K mg base (nmI fs) F fI A out s H E) [e] AS)
    (ht : ∀ A out s H E, PSs (NdefX.ncx CX0 P w K mg base (nmI fs) F fI A out s H E) tail tt)
    (hc : ∀ L, eval (.Call (.Attribute (.Call (.Name "super" p0) [] [] p1) "__init__" p2) [e] [] pos) (NdefX.envF F fI L) = (do
      let ov ← attributeBase (.Call (.Name "super" p0) [] [] p1) "__init__" (NdefX.envF F fI L) (eval (.Call (.Name "super" p0) [] [] p1) (NdefX.envF F fI L))
      standAt p2.atName
      let (f, first) ← holding [ov] (getMethod ov "__init__" pl)
      callWith pos f first (backTo pos (starEach [e] (NdefX.envF F fI L))) []))
    (hst : ∀ L, starEach [e] (NdefX.envF F fI L) = (false, eval e (NdefX.envF F fI L)) :: starEach [] (NdefX.envF F fI L))
    (hsw : ∀ L, swapsWith (.Call (.Attribute (.Call (.Name "super" p0) [] [] p1) "__init__" p2) [e] [] pos) none p3.line (NdefX.envF F fI L) = pure false)
    (hin : ∀ L, interactive (NdefX.envF F fI L) = false)
    (tl : ∀ (a : Addr) (ys : List V) (Q : VK) (H1 : Hp), H1 a = some (exo a C none) → ys.length = fs.length → (∀ H2, Made a C fs ys H1 H2 → Q .non H2) → tt { nx := fun _ H' => Q .non H', rt := Q } (NdefX.startF (nmI fs) (.ref a :: ys) [none]) H1) :
    IniOk P w K mg base (k + 1) C fI fd fs AS := by
  refine ⟨fun A out s H E Q arg us a ys xs r W zs W' hr e0 hb rl ea hw na rs hl he hz q => ?_⟩
  refine ini_enter (E := E) S Sc hr e0 hb rl (by simp [hl]) fun h₁ tk I => ?_
  rw [hbody]
  refine PySem.ks_wpAt_execs_cons ?_
  refine sup_ok (pl := pl) (ar := ar) (a := a) (Q := fun H1 => tt { nx := fun _ H' => Q .non H', rt := Q } (NdefX.startF (nmI fs) (.ref a :: ys) [none]) H1) T S Sc.kind ks (Sc.frk _ List.mem_cons_self) hp (by rw [har]; exact Sc.par _ List.mem_cons_self) hm (by rw [har]; rfl) (ha A out s H E) I rfl ea ?_ (fun H1 s' J q1 => ?_) (hc _) (hst _) rfl (hsw _) (hin _)
  · refine ⟨r, _, W, rel_ini rs hl, hw, zs, W', he, fun r1 H1 vs x1 w1 rz => ?_⟩
    have ea1 : H1 a = some (exo a C none) := x1.keep a _ na ea
    exact ⟨by rw [← rz.length]; exact hz, ea1, tl a ys Q H1 ea1 hl fun H2 m => q r1 H1 H2 x1 w1 ea1 m⟩
  · exact PySem.wpAt_of_wpAny ((ht A out s H E).run [] s' _ H1 _ J q1)
end
end DL
end L2

set_option maxRecDepth 100000
set_option maxHeartbeats 2000000
/-! DX7: an own exception class is called: the made exception as a datum. -/
namespace L2
namespace DL
open PySem PySem.Spec PyProof.Rows
def kExc (nm : Str) (fs : List Str) (AS : EA) : List DV → M DV := fun xs W => match AS (none :: (xs.map some ++ [none])) W with
  | some (zs, W') => if (decide (zs.length ≤ 1000) && decide (xs.length = fs.length)) = true then some (.exc nm fs xs, W') else none
  | none => none
theorem kExc_inv {nm : Str} {fs : List Str} {AS : EA} {xs : List DV} {W W' : Wd} {z : DV} (h : kExc nm fs AS xs W = some (z, W')) : z = .exc nm fs xs ∧ xs.length = fs.length ∧ ∃ zs, zs.length ≤ 1000 ∧ AS (none :: (xs.map some ++ [none])) W = some (zs, W') := by
  unfold kExc at h
  split at h
  · rename_i zs W1 e
    split at h
    · rename_i c
      rw [Bool.and_eq_true] at c
      cases h
      exact ⟨rfl, of_decide_eq_true c.2, zs, of_decide_eq_true c.1, e⟩
    · cases h
  · cases h
/-- the exception is told as a datum -/
theorem exv_inv {X : Cx} {pins : List (Addr × Obj)} {sg : St} {H : Hp} {s : Shared} {a C : Addr} {dd : Option Addr} (I : Inv X pins sg H s) (e : H a = some (exo a C dd)) : Inv X pins sg (upd H a (exv a C dd)) s := by
  obtain ⟨t1, at_⟩ := exo_at I.hok e
  have na : ∀ {b : Addr}, H b = none → b ≠ a := fun {b} z w => by rw [w, e] at z; cases z
  have U : Un X.fs [] H (upd H a (exv a C dd)) s.heap s.heap := {
    keep := fun b o z _ _ _ => z
    slot := fun b o z _ _ _ => ⟨o.slots, z⟩
    free := fun b o _ n _ => by rw [upd_ne (na n)]; exact n
    there := fun b o z _ => ⟨o, z⟩
    tups := fun b xs z => by rw [upd_ne (at_ne e z exo_tup)]; exact z
    frzs := fun b o v z => by rw [upd_ne (at_ne e z exo_frz)]; exact z
    tbls := fun b ps z => ⟨#[], by rw [upd_ne (at_ne e z exo_tbl), z]; simp⟩ }
  have J := I.un (t' := s.toks) U fun b o z => by
    by_cases w : b = a
    · subst w
      rw [upd_same] at z
      cases z
      refine ⟨⟨_, _, at_, rfl, rfl, rfl⟩, ⟨_, at_⟩, fun h1 h2 z k => ?_⟩
      obtain ⟨o, vs, c1, c2, c3, c4⟩ := z
      exact ⟨o, vs, k _ c1, c2, c3, c4⟩
    · rw [upd_ne w] at z
      exact (I.hok b o z).stay (fun c v _ z2 => z2) (fun c hc => by rw [upd_ne (at_ne e hc exo_own)]; exact hc) (fun c xs hc => by rw [upd_ne (at_ne e hc exo_tup)]; exact hc)
  exact J
/-- an exception's dict, as the flight has it -/
theorem xd_inv {X : Cx} {pins : List (Addr × Obj)} {sg : St} {H : Hp} {s : Shared} {d : Addr} {fs : List (Str × V)} (I : Inv X pins sg H s) (e : H d = some (exd d fs)) : Inv X pins sg (upd H d (.xd fs)) s := by
  obtain ⟨mA, hn, rel⟩ := exd_at I.hok e
  have na : ∀ {b : Addr}, H b = none → b ≠ d := fun {b} z w => by rw [w, e] at z; cases z
  have nt : ∀ {b : Addr} {o : HO}, H b = some o → (∀ φ, o ≠ .ext φ) → b ≠ d := fun {b o} z w q => by
    rw [q, e] at z
    exact w _ (Option.some.inj z).symm
  have U : Un X.fs [] H (upd H d (.xd fs)) s.heap s.heap := {
    keep := fun b o z _ _ _ => z
    slot := fun b o z _ _ _ => ⟨o.slots, z⟩
    free := fun b o _ n _ => by rw [upd_ne (na n)]; exact n
    there := fun b o z _ => ⟨o, z⟩
    tups := fun b xs z => by rw [upd_ne (nt z fun φ q => by cases q)]; exact z
    frzs := fun b o v z => by rw [upd_ne (nt z fun φ q => by cases q)]; exact z
    tbls := fun b ps z => ⟨#[], by rw [upd_ne (nt z fun φ q => by cases q), z]; simp⟩ }
  have J := I.un (t' := s.toks) U fun b o z => by
    by_cases w : b = d
    · subst w
      rw [upd_same] at z
      cases z
      exact ⟨mA, hn, rel⟩
    · rw [upd_ne w] at z
      exact (I.hok b o z).stay (fun c v _ z2 => z2) (fun c hc => by rw [upd_ne (nt hc fun φ q => by cases q)]; exact hc) (fun c xs hc => by rw [upd_ne (nt hc fun φ q => by cases q)]; exact hc)
  exact J
section
variable {X : Cx} {pins : List (Addr × Obj)} {sg : St} {H : Hp} {s : Shared} {Q : VK} {E : XK} {k : Nat} {nm : Str} {C fI : Addr} {B nId iId : String} {bmB : List Value} {fd : FuncData} {F : NdefX.NF} {fs : List Str} {AS : EA} {ar : Args} {us : List Value} {vs : List V}
theorem new_run (T : XC X.K nm C B nId iId bmB) (S : XI X.prog X.K C fI F iId fd) (N : IniOk X.prog X.w X.K X.mg X.base k C fI fd fs AS) (hr : Room (k + 1) X.A) (I : Inv X pins sg H s) (rl : Vals vs us) (few : ar.pos.length ≤ sizeLine)
    (hb : ∀ (s' : Shared) (a : Addr), X.K.In s'.heap → BindsTo s' fd ⟨.ref a :: ar.pos, ar.kw⟩ ((psI fs).zip (.ref a :: us))) (sp : spD X.K fs.length (kExc nm fs AS) vs H Q E) :
    codeAny (model X.prog X.w) X.A (.call (.ref C) ar) (fun r s' => match r with
      | .ok (.ret u) => EP X pins sg Q u s'
      | .ok _ => False
      | .error e => X.xe e s') s := by
  obtain ⟨r, W, xs, l, hw, rs, z, W', e, q⟩ := sp
  obtain ⟨rfl, _, zs, hz, e⟩ := kExc_inv e
  obtain ⟨cQ, nsp, bs, sn, sub, ab, col, dd, k0, k1, k2, k3, k5, hC⟩ := T.cls
  obtain ⟨hp, g, dr, tk, os⟩ := s
  obtain ⟨pos, kw⟩ := ar
  have hsz : hp.objs.size ≤ hp.objs.size + 1 := Nat.le_succ _
  have hn : H (hp.objs.size + 1) = none := I.hok.fresh hsz
  have kk : ∀ b o, hp.get? b = some o → ((hp.push (PySem.W.kdv_tup pos)).push (PySem.HandSPX.excO C hp.objs.size)).get? b = some o := fun b o z => Heap.get?_push_of_some _ (Heap.get?_push_of_some _ z)
  have atA : ((hp.push (PySem.W.kdv_tup pos)).push (PySem.HandSPX.excO C hp.objs.size)).get? (hp.objs.size + 1) = some (PySem.HandSPX.excO C hp.objs.size) := by heap_get
  generalize ha : hp.objs.size + 1 = a at *
  have I2 : Inv X pins sg (upd H a (exo a C none)) ⟨(hp.push (PySem.W.kdv_tup pos)).push (PySem.HandSPX.excO C hp.objs.size), g, dr, tk, os⟩ :=
    I.laid (t' := tk) (a := a) (o := exo a C none) (h' := (hp.push (PySem.W.kdv_tup pos)).push (PySem.HandSPX.excO C hp.objs.size)) kk hsz (exo_ok atA)
  have oa : r.out a := hw.fresh hn
  have hw2 : Hw X.K ⟨r.rho, a :: r.hid⟩ (upd H a (exo a C none)) W := Hw.hide (rho := r.rho) (hid := r.hid) hw hn
  have rs2 : Rvs X.K ⟨r.rho, a :: r.hid⟩ (upd H a (exo a C none)) xs vs := Rvs.hide hn rs
  refine DXE.call_cls T.fb (fun _ => rfl) (I.kIn _ _ hC) few (PySem.W.looks_findIn I.kIn S.ini) (fun self => PySem.W.bind_fn I.kIn self S.typ) ?_
  rw [ha]
  refine codeAny_mono (N.run _ X.stack _ _ E (fun v H2 => v = .non ∧ ∃ r1 H1, Ext ⟨r.rho, a :: r.hid⟩ (upd H a (exo a C none)) r1 H1 ∧ Hw X.K r1 H1 W' ∧ H1 a = some (exo a C none) ∧ Made a C fs vs H1 H2) ⟨.ref a :: pos, kw⟩ (.ref a :: us) a vs xs ⟨r.rho, a :: r.hid⟩ W zs W'
    (hr.make C pos kw) (I2.env0.make C pos kw) (hb _ a I2.kIn) (.cons rfl rl) upd_same hw2 oa.1 rs2 (by rw [← rs.length]; exact l) e hz (fun r1 H1 H2 x1 w1 ea1 m => ⟨rfl, r1, H1, x1, w1, ea1, m⟩)) fun rr s' hq => ?_
  match rr, hq with
  | .error er, hq => exact False.elim hq
  | .ok (.ret u), hq =>
    obtain ⟨v, H2, os2, bare2, un2, hok2, rv, rfl, r1, H1, x1, w1, ea1, m⟩ := hq
    refine ⟨rv, ?_⟩
    have J : Inv X pins sg H2 s' := I2.call' (ch := []) os2 un2 hok2 bare2 (fun b z => absurd z (by simp))
    obtain ⟨rho1, hid1⟩ := r1
    obtain rfl : hid1 = a :: r.hid := x1.hid
    have na1 : some a ∉ rho1 := w1.hidnot
    have keep1 : ∀ b o, some b ∉ r.rho → H b = some o → b ≠ a ∧ H1 b = some o := fun b o n z => by
      have nb : b ≠ a := ne_of_none z hn
      exact ⟨nb, x1.keep b o n (by rw [upd_ne nb]; exact z)⟩
    have new1 : ∀ b, some b ∈ rho1 → some b ∉ r.rho → H b = none := fun b m n => by
      have z := x1.new b m n
      by_cases nb : b = a
      · rw [nb]; exact hn
      · rw [upd_ne nb] at z; exact z
    rcases m with ⟨rfl, rfl⟩ | ⟨d, hd, nd, rfl⟩
    · have J2 := exv_inv J ea1
      refine ⟨.ref a, _, J2, rfl, q ⟨rho1, r.hid⟩ _ (.ref a) ⟨rfl, x1.get, x1.len, new1, fun b o n z => ?_⟩ (Hw.show (Hw.unhid w1)) ?_⟩
      · obtain ⟨nb, z1⟩ := keep1 b o n z
        rw [upd_ne nb]; exact z1
      · obtain rfl : xs = [] := List.eq_nil_of_length_eq_zero l
        exact .exc0 T.gl ⟨na1, oa.2⟩ upd_same
    · have J2 := exv_inv (a := a) J upd_same
      have J3 := xd_inv (d := d) (fs := fs.zip vs) J2 (by rw [upd_ne nd, upd_ne nd, upd_same])
      have eH : upd (upd (upd (upd H1 d (exd d (fs.zip vs))) a (exo a C (some d))) a (exv a C (some d))) d (.xd (fs.zip vs)) = upd (upd (upd H1 d (.xd (fs.zip vs))) a (exo a C (some d))) a (exv a C (some d)) := by
        funext b
        by_cases hbd : b = d
        · rw [hbd, upd_same, upd_ne nd, upd_ne nd, upd_same]
        · rw [upd_ne hbd]
          by_cases hba : b = a
          · rw [hba, upd_same, upd_same]
          · rw [upd_ne hba, upd_ne hba, upd_ne hba, upd_ne hba, upd_ne hbd, upd_ne hbd]
      rw [eH] at J3
      have od : (⟨rho1, a :: r.hid⟩ : Rh).out d := w1.fresh hd
      have w2 : Hw X.K ⟨rho1, a :: r.hid⟩ (upd H1 d (.xd (fs.zip vs))) W' := w1.laid hd
      have x2 : Ext ⟨r.rho, a :: r.hid⟩ (upd H a (exo a C none)) ⟨rho1, a :: r.hid⟩ (upd H1 d (.xd (fs.zip vs))) := x1.trans (Ext.laid hd)
      have w3 := Hw.unhid (o := exo a C (some d)) w2
      have w4 := Hw.unhid (o := exv a C (some d)) w3
      have r3 : Rvs X.K ⟨rho1, a :: r.hid⟩ (upd (upd (upd H1 d (.xd (fs.zip vs))) a (exo a C (some d))) a (exv a C (some d))) xs vs :=
        Rvs.unhid (r := ⟨rho1, r.hid⟩) na1 (Rvs.unhid (r := ⟨rho1, r.hid⟩) na1 (rs2.ext x2))
      refine ⟨.ref a, _, J3, rfl, q ⟨rho1, r.hid⟩ _ (.ref a) ⟨rfl, x1.get, x1.len, new1, fun b o n z => ?_⟩ (Hw.show w4) ?_⟩
      · obtain ⟨nb, z1⟩ := keep1 b o n z
        rw [upd_ne nb, upd_ne nb, upd_ne (ne_of_none z1 hd)]; exact z1
      · exact .excD T.gl ⟨na1, oa.2⟩ upd_same ⟨od.1, fun m => od.2 (List.mem_cons_of_mem _ m)⟩ (by rw [upd_ne nd, upd_ne nd, upd_same]) (by rw [← rs.length]; exact l.symm) (Rvs.show (r := ⟨rho1, r.hid⟩) r3)
  | .ok .next, hq => exact False.elim hq
  | .ok .brk, hq => exact False.elim hq
  | .ok .cont, hq => exact False.elim hq
end
end DL
end L2

set_option maxRecDepth 100000
set_option maxHeartbeats 2000000
/-! DX8: calls of own exception classes, isinstance and fields of their instances, str(n). -/
namespace L2
namespace DL
open PySem PySem.Spec PyProof.Rows
/-! ### stores -/
section
variable {K : PySem.W.Frag} {nm : Str} {C : Addr} {B nId iId : String} {bmB : List Value} {f g : Str}
theorem tl0 (a : Addr) (ys : List V) (Q : VK) (H1 : Hp) (ea : H1 a = some (exo a C none)) (l : ys.length = ([] : List Str).length) (q : ∀ H2, Made a C [] ys H1 H2 → Q .non H2) :
    tNext { nx := fun _ H' => Q .non H', rt := Q } (NdefX.startF (nmI []) (.ref a :: ys) [none]) H1 := q H1 (.inl ⟨rfl, rfl⟩)
theorem tl1 (T : XC K nm C B nId iId bmB) (no : PySem.W.findIn K (.ref C) f = some none) (a : Addr) (ys : List V) (Q : VK) (H1 : Hp) (ea : H1 a = some (exo a C none)) (l : ys.length = [f].length) (q : ∀ H2, Made a C [f] ys H1 H2 → Q .non H2) :
    tSt K f (tVar 0) (tVar 1) { nx := fun _ H' => Q .non H', rt := Q } (NdefX.startF (nmI [f]) (.ref a :: ys) [none]) H1 := by
  match ys, l with
  | [y], _ => exact ⟨y, rfl, .ref a, rfl, a, C, nm, B, nId, iId, bmB, rfl, T, no, .inl ⟨ea, fun d n ne => q _ (.inr ⟨d, n, ne, rfl⟩)⟩⟩
theorem tl2 (T : XC K nm C B nId iId bmB) (no : PySem.W.findIn K (.ref C) f = some none) (no' : PySem.W.findIn K (.ref C) g = some none) (ne' : f ≠ g) (a : Addr) (ys : List V) (Q : VK) (H1 : Hp) (ea : H1 a = some (exo a C none)) (l : ys.length = [f, g].length) (q : ∀ H2, Made a C [f, g] ys H1 H2 → Q .non H2) :
    tSeq (tSt K f (tVar 0) (tVar 1)) (tSt K g (tVar 0) (tVar 2)) { nx := fun _ H' => Q .non H', rt := Q } (NdefX.startF (nmI [f, g]) (.ref a :: ys) [none]) H1 := by
  match ys, l with
  | [y, z], _ =>
    refine ⟨y, rfl, .ref a, rfl, a, C, nm, B, nId, iId, bmB, rfl, T, no, .inl ⟨ea, fun d n ne => ?_⟩⟩
    refine ⟨z, rfl, .ref a, rfl, a, C, nm, B, nId, iId, bmB, rfl, T, no', .inr ⟨d, [(f, y)], upd_same, ?_, by simp, q _ (.inr ⟨d, n, ne, ?_⟩)⟩⟩
    · rw [upd_ne ne, upd_same]
    · funext b
      by_cases h1 : b = d
      · subst h1
        rw [upd_same, upd_ne ne, upd_same]
        exact congrArg some (exd_swap ne')
      · rw [upd_ne h1]
        by_cases h2 : b = a
        · rw [h2, upd_same, upd_same]
        · rw [upd_ne h2, upd_ne h2, upd_ne h1, upd_ne h1]
end
/-! ### calls -/
section
variable {X : Cx} {k : Nat} {nm : Str} {C fI : Addr} {B nId iId : String} {bmB : List Value} {fd : FuncData} {F : NdefX.NF} {fs : List Str} {AS : EA} {x : Str} {p pos : Pos} {e : Expr} {es : List Expr} {A : EA} {kws : List Keyword} {ks : List Str} {ix : List Nat}
/-- values by position come to the parameters behind self -/
def BindsI (K : PySem.W.Frag) (fd : FuncData) (fs : List Str) : Prop := ∀ (s : Shared) (a : Addr) (us : List Value), K.In s.heap → us.length = fs.length → BindsTo s fd ⟨.ref a :: us, []⟩ ((psI fs).zip (.ref a :: us))
def KwI (K : PySem.W.Frag) (fd : FuncData) (fs ks : List Str) (ix : List Nat) : Prop := ∀ (s : Shared) (a : Addr) (us : List Value), K.In s.heap → us.length = ks.length → BindsTo s fd ⟨[.ref a], ks.zip us⟩ ((psI fs).zip (.ref a :: perm ix us))
theorem de_xc (T : XC X.K nm C B nId iId bmB) (S : XI X.prog X.K C fI F iId fd) (N : IniOk X.prog X.w X.K X.mg X.base k C fI fd fs AS) (hr : Room (k + 1) X.A) (hg : Gl X x) (hm : X.mg x = some (.ref C)) (hb : BindsI X.K fd fs) (ha : DA X (e :: es) A)
    (hf : fs.length ≤ 1000 := by decide) (hdb : (x == ("__debug__" : Str)) = false := by decide) (he : starEach (e :: es) X.env = (false, eval e X.env) :: starEach es X.env := by rfl) (hpl : (backTo pos (starEach es X.env)).any (·.1) = false := by rfl) :
    DE X (.Call (.Name x p) (e :: es) [] pos) (eF fs.length (kExc nm fs AS) A) := by
  refine ⟨fun pins s sg H Q I h => wpAny_Call_Name_kw (ld_glob I hg hm (PySem.W.callWith_K (h₀ := X.base) I.ok.mod.kin T.kC (thn (ha.run pos pins s sg H (fun vs H1 => spD X.K fs.length (kExc nm fs AS) vs H1 Q (fun _ _ _ => False)) I ?_) fun us s1 ⟨vs, H1, I1, rl, q⟩ => ⟨I1.kIn, ?_⟩) he hpl) hdb)⟩
  · obtain ⟨r, env, W, hE, hw, z, W', e, q⟩ := h
    obtain ⟨xs, W1, e1, e⟩ := mb_inv e
    obtain ⟨l, e⟩ := len_inv e
    exact ⟨r, env, W, hE, hw, _, _, e1, fun r1 H1 vs x1 w1 rs => ⟨r1, W1, xs, l, w1, rs, z, W', e, fun r2 H2 u x2 w2 ru => q r2 H2 u (x1.trans x2) w2 ru⟩⟩
  · have lu : us.length = fs.length := by
      obtain ⟨r, W, xs, l, hw, rs, _⟩ := q
      rw [← rl.length, ← rs.length, l]
    exact call_back (new_run T S N hr I1 rl (by show us.length ≤ _; rw [lu, sizeLine_eq]; omega) (fun s' a KI => hb s' a us KI lu) q)
theorem de_xc0 (T : XC X.K nm C B nId iId bmB) (S : XI X.prog X.K C fI F iId fd) (N : IniOk X.prog X.w X.K X.mg X.base k C fI fd [] AS) (hr : Room (k + 1) X.A) (hg : Gl X x) (hm : X.mg x = some (.ref C)) (hb : BindsI X.K fd [])
    (hdb : (x == ("__debug__" : Str)) = false := by decide) : DE X (.Call (.Name x p) [] [] pos) (fun _ => kExc nm [] AS []) := by
  refine ⟨fun pins s sg H Q I h => wpAny_Call_Name_kw (ld_glob I hg hm (PySem.W.callWith_K0 I.kIn T.kC (call_back (new_run (us := []) (vs := []) (E := fun _ _ _ => False) T S N hr I .nil (by simp) (fun s' a KI => hb s' a [] KI rfl) ?_))) hdb)⟩
  obtain ⟨r, env, W, hE, hw, z, W', e, q⟩ := h
  exact ⟨r, W, [], rfl, hw, .nil, z, W', e, q⟩
theorem de_xcK (T : XC X.K nm C B nId iId bmB) (S : XI X.prog X.K C fI F iId fd) (N : IniOk X.prog X.w X.K X.mg X.base k C fI fd fs AS) (hr : Room (k + 1) X.A) (hg : Gl X x) (hm : X.mg x = some (.ref C)) (hb : KwI X.K fd fs ks ix)
    (hkw : DK X kws A) (hall : (backToKw pos (keywordEach kws X.env)).all (·.1.isSome) = true := by rfl) (hks : (backToKw pos (keywordEach kws X.env)).filterMap (·.1) = ks := by rfl)
    (hdb : (x == ("__debug__" : Str)) = false := by decide) (hpl : ((backTo pos (starEach [] X.env)).any (·.1) || (backToKw pos (keywordEach kws X.env)).any (·.1.isNone)) = false := by rfl) :
    DE X (.Call (.Name x p) [] kws pos) (eFK fs.length ks.length ix (kExc nm fs AS) A) := by
  refine ⟨fun pins s sg H Q I h => ?_⟩
  refine wpAny_Call_Name_kw (ld_glob I hg hm ?_ hdb)
  refine PySem.W.callWith_KW0 (h₀ := X.base) I.ok.mod.kin T.kC hall (thn (hkw.run pos pins s sg H (fun vs H1 => vs.length = ks.length ∧ spD X.K fs.length (kExc nm fs AS) (perm ix vs) H1 Q (fun _ _ _ => False)) I ?_) fun ws s2 ⟨zs, H2, I2, rz, l2, q2⟩ => ⟨I2.kIn, ?_⟩) hpl
  · obtain ⟨r, env, W, hE, hw, z, W', e, q⟩ := h
    obtain ⟨xs, W1, e1, e⟩ := mb_inv e
    obtain ⟨lm, e⟩ := len_inv (fn := fun xs => if ((perm ix xs).length == fs.length) = true then kExc nm fs AS (perm ix xs) else fun _ => none) e
    obtain ⟨l, e⟩ := len_inv (xs := perm ix xs) e
    refine ⟨r, env, W, hE, hw, _, _, e1, fun r1 H1 vs x1 w1 rs => ⟨by rw [← rs.length]; exact lm, ?_⟩⟩
    exact ⟨r1, W1, perm ix xs, l, w1, rs.perm ix, z, W', e, fun r2 H2 u x2 w2 ru => q r2 H2 u (x1.trans x2) w2 ru⟩
  · rw [hks]
    exact call_back (new_run (us := perm ix ws) T S N hr I2 (Vals.perm rz ix) (by simp) (fun s' a KI => hb s' a ws KI (rz.length.symm.trans l2)) q2)
end
end DL
end L2

set_option maxRecDepth 100000
set_option maxHeartbeats 2000000
/-! DX9: isinstance and fields of own exceptions, str(n). -/
namespace L2
namespace DL
open PySem PySem.Spec PyProof.Rows
/-! ### the classes of the program -/
def xBases (nm : Str) : List String :=
  if nm = "Full" then ["RuntimeError", "Exception", "BaseException", "object"]
  else if nm ∈ (["Known", "BadText", "BadLine", "Unexplained"] : List Str) then ["ValueError", "Exception", "BaseException", "object"]
  else ["LookupError", "Exception", "BaseException", "object"]
def xFields (nm : Str) : List Str :=
  if nm = "Full" then ["order"] else if nm ∈ (["Known", "NoFile"] : List Str) then ["name"] else if nm ∈ (["BadLine", "NoItem"] : List Str) then ["number"]
  else if nm ∈ (["Unexplained", "NoStep"] : List Str) then ["index"] else if nm = "NoBlock" then ["block"] else if nm = "NoPromise" then ["name", "block"] else []
/-- what the top has written of the classes nms -/
def XTab (K : PySem.W.Frag) (nms : List Str) : Prop := ∀ nm ∈ nms, ∃ (C : Addr) (B nId iId : String), XC K nm C B nId iId ((xBases nm).map Value.type) ∧ ExcC K C ∧ ∀ f ∈ xFields nm, PySem.W.findIn K (.ref C) f = some none
section
variable {K : PySem.W.Frag} {nms : List Str} {nm nm' : Str} {C D : Addr} {B nId iId B' nId' iId' : String} {bm bm' : List Value}
theorem XC.cd (T : XC K nm C B nId iId bm) : ∃ cd, PySem.W.clsIn K C = some cd ∧ cd.name = nm ∧ cd.mro = .ref C :: bm ∧ PySem.W.typeIn K (.ref C) = some (.type "type") := by
  obtain ⟨cQ, N, bs, sn, sub, ab, col, dd, k0, k1, k2, k3, k5, hC⟩ := T.cls
  refine ⟨{ name := nm, bases := bs, mro := .ref C :: bm, ns := N, qualname := cQ, hasDict := true, slotNames := sn, subclasses := sub, abstract := ab, collection := col, hasDel := false }, by unfold PySem.W.clsIn; rw [hC] <;> rfl, rfl, rfl, ?_⟩
  show (K.lookup C).map (·.cls) = _
  rw [hC] <;> rfl
theorem XC.mroIs (T : XC K nm C B nId iId bm) (v : Value) : PySem.W.mroIn K C v = some ((Value.ref C :: bm).contains v) := by
  obtain ⟨cd, h1, h2, h3, h4⟩ := T.cd
  unfold PySem.W.mroIn
  rw [h1, Option.bind_some, h3, if_neg (show ¬ (Value.ref C :: bm).isEmpty = true from Bool.false_ne_true)]
theorem kit_own (T : XC K nm C B nId iId (bm)) (T' : XC K nm' D B' nId' iId' bm') (hb : ∀ v ∈ bm, ∃ t, v = .type t) : PySem.W.kitOne K (.ref C) (.ref D) = some (decide (nm = nm')) := by
  obtain ⟨cd, h1, h2, h3, h4⟩ := T.cd
  obtain ⟨cd', g1, g2, g3, g4⟩ := T'.cd
  unfold PySem.W.kitOne
  by_cases e : C = D
  · subst e
    rw [h1] at g1
    cases g1
    rw [h2] at g2
    rw [if_pos (beq_self_eq_true _), decide_eq_true g2]
  · have ne : nm ≠ nm' := fun z => by
      subst z
      have := T.gl.symm.trans T'.gl
      cases this
      exact e rfl
    rw [if_neg (by simpa using e), decide_eq_false ne]
    unfold PySem.W.kitCls
    dsimp only
    rw [g1, g4, if_pos (by rfl)]
    show PySem.W.mroIn K C (.ref D) = _
    rw [T.mroIs, List.contains_cons]
    have n1 : (Value.ref D == Value.ref C) = false := by simpa using Ne.symm e
    rw [n1, Bool.false_or]
    refine congrArg some (Bool.eq_false_iff.mpr fun z => ?_)
    obtain ⟨t, q⟩ := hb _ (by simpa using z)
    cases q
theorem kit_blt (T : XC K nm C B nId iId bm) {t : String} (hm : PySem.W.kitMeta t = true) : PySem.W.kitOne K (.ref C) (.type t) = some (bm.contains (.type t)) := by
  unfold PySem.W.kitOne
  rw [if_neg (by simp)]
  unfold PySem.W.kitCls
  dsimp only
  rw [if_pos hm]
  show PySem.W.mroIn K C (.type t) = _
  rw [T.mroIs, List.contains_cons]
  rfl
end
/-- isinstance(e, c), e an own exception -/
def rIsX (K : PySem.W.Frag) : List V → Hp → VK → Prop := fun xs H Q => ∃ (a C : Addr) (c : V) (cv : Value) (dd : Option Addr) (b : Bool), xs = [.ref a, c] ∧ (∀ u, RelV c u → u = cv) ∧ ExcC K C ∧ H a = some (exv a C dd) ∧ (∀ d, dd = some d → ∃ fs, H d = some (.xd fs)) ∧ PySem.W.kitOne K (.ref C) cv = some b ∧ Q (.bl b) H
theorem exv_at {P : Program} {w : PySem.World} {H : Hp} {h : Heap} {a C : Addr} {dd : Option Addr} (hok : HOk P w H h) (e : H a = some (exv a C dd)) : ∃ (o : Obj) (vs : Array Value), h.get? a = some o ∧ o.cls = .ref C ∧ o.dict = dd ∧ o.data = .fields vs := by
  obtain ⟨z, _, _⟩ := hok a _ e
  exact z
theorem exv_inst {P : Program} {w : PySem.World} {H : Hp} {h : Heap} {a C : Addr} {dd : Option Addr} (hok : HOk P w H h) (e : H a = some (exv a C dd)) (hd : ∀ d, dd = some d → ∃ fs, H d = some (.xd fs)) : ∃ ox od, PySem.W.InstAt h a ox C od := by
  obtain ⟨o, vs, c1, c2, c3, c4⟩ := exv_at hok e
  have nc : PySem.W.notCls o = true := by unfold PySem.W.notCls; rw [c4] <;> rfl
  cases dd with
  | none => exact ⟨o, none, c1, c2, nc, by rw [c3]; trivial⟩
  | some d =>
    obtain ⟨fs, ed⟩ := hd d rfl
    have hx : ObjOk P w H h d (.xd fs) := hok d _ ed
    obtain ⟨mA, ⟨od, es, ep, atD, _⟩, _⟩ := hx
    exact ⟨o, some od, c1, c2, nc, by rw [c3]; exact atD⟩
theorem call_isX {X : Cx} : CallR X (.builtin "isinstance") (rIsX X.K) := by
  intro pins s sg H xs us Q I r h
  obtain ⟨a, C, c, cv, dd, b, rfl, hcv, R, ea, hd, e, q⟩ := h
  cases r with
  | cons rx rr =>
    cases rr with
    | cons rt rr =>
      cases rr
      cases rx
      have ec := hcv _ rt
      subst ec
      obtain ⟨ox, od, J⟩ := exv_inst I.hok ea hd
      have cl : (PySem.W.clsIn X.K C).isSome = true := by
        have := R.hd
        unfold PySem.W.hasDictIn at this
        cases z : PySem.W.clsIn X.K C with
        | none => rw [z] at this; cases this
        | some cd => rfl
      exact PySem.W.kia_one (PySem.W.kitx_exc cl R.hg R.hk R.hs R.ha R.hn R.ht R.hm) I.kIn J e (fun z => nomatch z) fun tk => ⟨.bl b, H, I.kept (t' := tk) fun _ _ z => z, rfl, q⟩
def xAsk : List String := ["ValueError", "LookupError", "RuntimeError", "KeyError", "IndexError"]
theorem xAsk_meta : ∀ t ∈ xAsk, PySem.W.kitMeta t = true := by decide +kernel
def kIsx (nms : List Str) : List DV → M DV := k2 fun x c W => match x with
  | .exc nm _ _ => if nm ∈ nms then (match c with
    | .gl nm' => if nm' ∈ nms then some (.bl (decide (nm = nm')), W) else none
    | .cst (.ty t) => if t ∈ xAsk then some (.bl ((xBases nm).contains t), W) else none
    | _ => none) else none
  | _ => kIsi [x, c] W
theorem Rv.exc_inv {K : PySem.W.Frag} {r : Rh} {H : Hp} {nm : Str} {fs : List Str} {xs : List DV} {v : V} (h : Rv K r H (.exc nm fs xs) v) : ∃ (a C : Addr) (dd : Option Addr), v = .ref a ∧ PySem.W.nsIn K mainGlobals nm = some (some (.ref C)) ∧ H a = some (exv a C dd) ∧ (∀ d, dd = some d → ∃ gs, H d = some (.xd gs)) := by
  cases h with
  | @exc0 _ a C c n h => exact ⟨a, C, none, rfl, c, h, fun d z => nomatch z⟩
  | @excD _ a C d _ vs _ c n h m g l q => exact ⟨a, C, some d, rfl, c, h, fun d' z => by cases z; exact ⟨_, g⟩⟩
theorem map_has (l : List String) (t : String) : (l.map Value.type).contains (.type t) = l.contains t := by
  induction l with
  | nil => rfl
  | cons a l ih =>
    rw [List.map_cons, List.contains_cons, List.contains_cons, ih]
    congr 1
    by_cases h : t = a
    · subst h; simp
    · have h1 : (t == a) = false := by simpa using h
      have h2 : (Value.type t == Value.type a) = false := by simpa using h
      rw [h1, h2]
theorem cd_isx {K : PySem.W.Frag} {nms : List Str} (T : XTab K nms) : CallD K (fun xs H Q => rIsX K xs H Q ∨ rIsi K xs H Q ∨ rIsiT K xs H Q ∨ rIsiK K xs H Q) (kIsx nms) := by
  intro r H W xs z W' vs Q hw e rs q
  replace e := k2_inv e
  obtain ⟨x, c, rfl, e⟩ := e
  split at e
  · rename_i nm fs ys
    obtain ⟨v, u, rfl, rx, rc⟩ := rs.two
    obtain ⟨a, C, dd, rfl, gl, ea, hd⟩ := rx.exc_inv
    split at e
    · rename_i hn
      obtain ⟨C', B, nId, iId, T1, R1, _⟩ := T nm hn
      have ec : C' = C := by
        have := T1.gl.symm.trans gl
        cases this; rfl
      subst ec
      split at e
      · rename_i nm'
        split at e
        · rename_i hn'
          cases e
          obtain ⟨D, B2, nId2, iId2, T2, _, _⟩ := T nm' hn'
          cases rc with
          | @gl _ D' g =>
            have ed : D = D' := by
              have := T2.gl.symm.trans g
              cases this; rfl
            subst ed
            exact .inl ⟨a, C', _, .ref D, dd, _, rfl, fun u z => z, R1, ea, hd, kit_own T1 T2 (fun v m => by
              obtain ⟨t, _, z⟩ := List.mem_map.mp m
              exact ⟨t, z.symm⟩), done0 hw (.bl _) q⟩
        · cases e
      · rename_i t
        split at e
        · rename_i ht
          cases e
          obtain rfl := rc.cst_inv
          refine .inl ⟨a, C', _, .type t, dd, _, rfl, fun u z => z, R1, ea, hd, kit_blt T1 (xAsk_meta t ht), ?_⟩
          rw [map_has]
          exact done0 hw (.bl _) q
        · cases e
      · cases e
    · cases e
  · exact .inr (cd_isi r H W [x, c] z W' vs Q hw e rs q)
theorem b_isx {X : Cx} {nms : List Str} (T : XTab X.K nms) : BR X (.builtin "isinstance") (kIsx nms) := ⟨_, CallR.or call_isX (CallR.or call_isi (CallR.or call_isiT call_isiK)), cd_isx T⟩
/-! ### fields -/
def eAt (nms : List Str) (f : Str) (F : ES) : ES := fun env => mb (F env) fun x W => match x with
  | .exc nm fs xs => if nm ∈ nms ∧ f ∈ xFields nm ∧ fs.length = xs.length then ((fs.zip xs).lookup f).map fun y => (y, W) else none
  | _ => none
theorem zip_rel {K : PySem.W.Frag} {r : Rh} {H : Hp} {f : Str} : ∀ {fs : List Str} {xs : List DV} {vs : List V} {y : DV}, Rvs K r H xs vs → (fs.zip xs).lookup f = some y → ∃ v, (fs.zip vs).lookup f = some v ∧ Rv K r H y v
  | [], _, _, _, _, e => by simp at e
  | _ :: _, _, _, _, .nil, e => by simp at e
  | g :: fs, x :: xs, v :: vs, y, .cons h t, e => by
    rw [List.zip_cons_cons] at e ⊢
    by_cases c : f = g
    · subst c
      simp [List.lookup] at e
      subst e
      exact ⟨v, by simp [List.lookup], h⟩
    · have c' : (f == g) = false := by simpa using c
      rw [List.lookup_cons, c'] at e ⊢
      exact zip_rel t e
theorem de_xf {X : Cx} {nms : List Str} {e : Expr} {F : ES} {f : Str} {pos : Pos} (T : XTab X.K nms) (he : DE X e F) (hb : attributeBase e f X.env (eval e X.env) = eval e X.env := by rfl) : DE X (.Attribute e f pos) (eAt nms f F) := by
  refine ⟨fun pins s sg H Q I h => ?_⟩
  obtain ⟨r, env, W, hE, hw, z, W', e1, q⟩ := h
  obtain ⟨x, W1, e2, e3⟩ := mb_inv e1
  refine attr_of hb (thn (he.run pins s sg H (fun v H1 => ∃ r1, Ext r H r1 H1 ∧ Hw X.K r1 H1 W1 ∧ Rv X.K r1 H1 x v) I ⟨r, env, W, hE, hw, x, W1, e2, fun r1 H1 v x1 w1 rv => ⟨r1, x1, w1, rv⟩⟩) fun u s1 hh => ?_)
  obtain ⟨v, H1, I1, rv, r1, x1, w1, rx⟩ := hh
  split at e3
  · rename_i nm fs xs
    split at e3
    · rename_i c
      obtain ⟨hn, hf, hlen⟩ := c
      obtain ⟨y, e4, e5⟩ := Option.map_eq_some_iff.mp e3
      cases e5
      obtain ⟨C', B, nId, iId, T1, R1, F1⟩ := T nm hn
      cases rx with
      | exc0 c n h => simp at e4
      | @excD _ a C d _ vs _ c n h m g l t =>
        obtain rfl : u = Value.ref a := rv
        have ec : C' = C := by
          have := T1.gl.symm.trans c
          cases this; rfl
        subst ec
        obtain ⟨v, l1, ry⟩ := zip_rel t e4
        obtain ⟨o, fv, c1, c2, c3, c4⟩ := exv_at I1.hok h
        have hx : ObjOk X.prog X.w H1 s1.heap d (.xd (fs.zip vs)) := I1.hok d _ g
        obtain ⟨mA, hns, hr⟩ := hx
        obtain ⟨od, ho, hl⟩ := lookIn_ns hns
        obtain ⟨u, hu, ru⟩ := RelO.some_of (v := v) (o := mA f) (by rw [← l1]; exact hr f)
        have J : PySem.W.InstAt s1.heap a o C' (some od) := ⟨c1, c2, by unfold PySem.W.notCls; rw [c4] <;> rfl, by rw [c3]; exact ho⟩
        exact HandSPX.exc_get I1.kIn J R1.hg R1.hk R1.hs (PySem.W.findObj_own R1.hd (F1 f hf) rfl (by rw [hl, hu])) (handed_of ru) ⟨v, H1, I1.tok _, ru, q r1 H1 v x1 w1 ry⟩
    · cases e3
  · cases e3
/-! ### str(n), a class as a value -/
def kStrI : List DV → M DV := k1 fun x => mo (match x with
  | .int i => if i.natAbs.log2 < 1920 then some (.str (toString i)) else none
  | _ => none)
theorem b_strI {X : Cx} : BR X (.type "str") kStrI := ⟨_, call_str_int, by
  intro r H W xs z W' vs Q hw e rs q
  replace e := k1_inv e
  obtain ⟨x, rfl, e⟩ := e
  obtain ⟨v, rfl, rx⟩ := rs.one
  obtain ⟨e5, e6⟩ := mo_inv e
  subst e6
  split at e5
  · rename_i i
    split at e5
    · rename_i hl
      cases e5
      obtain rfl := rx.int_inv
      exact ⟨i, rfl, hl, done0 hw (.str _) q⟩
    · cases e5
  · cases e5⟩
theorem de_gl {X : Cx} {x : Str} {C : Addr} {pos : Pos} (hg : Gl X x) (hm : X.mg x = some (.ref C)) (g : PySem.W.nsIn X.K mainGlobals x = some (some (.ref C))) (hd : (x == ("__debug__" : Str)) = false := by decide) : DE X (.Name x pos) (eC (.gl x)) :=
  de_glob hg hm (v := .ref C) rfl (fun _ _ => .gl g) hd
end DL
end L2

set_option maxRecDepth 100000
set_option maxHeartbeats 2000000
/-! DY1: statements and expressions that may raise an own exception. -/
namespace L2
namespace DL
open PySem PySem.Spec PyProof.Rows
/-- an exception in flight: its class, its dict -/
def RvX (K : PySem.W.Frag) (r : Rh) (H : Hp) (x : DV) (cls : Value) (dd : Option Addr) : Prop := ∃ (nm : Str) (fs : List Str) (xs : List DV) (C : Addr), x = .exc nm fs xs ∧ PySem.W.nsIn K mainGlobals nm = some (some (.ref C)) ∧ cls = .ref C ∧
  ((fs = [] ∧ xs = [] ∧ dd = none) ∨ ∃ (d : Addr) (vs : List V), dd = some d ∧ r.out d ∧ H d = some (.xd (fs.zip vs)) ∧ fs.length = vs.length ∧ Rvs K r H xs vs)
theorem RvX.ext {K : PySem.W.Frag} {r r' : Rh} {H H' : Hp} {x : DV} {cls : Value} {dd : Option Addr} (e : Ext r H r' H') (h : RvX K r H x cls dd) : RvX K r' H' x cls dd := by
  obtain ⟨nm, fs, xs, C, h1, h2, h3, h4⟩ := h
  refine ⟨nm, fs, xs, C, h1, h2, h3, ?_⟩
  rcases h4 with h4 | ⟨d, vs, k1, k2, k3, k4, k5⟩
  · exact .inl h4
  · exact .inr ⟨d, vs, k1, e.out k3 k2, e.keep _ _ k2.1 k3, k4, k5.ext e⟩
inductive Fx where
  | ok (f : Fl) | ex (x : DV) (env : DEnv)
abbrev SX := Nat → DEnv → M Fx
def FxOk (K : PySem.W.Frag) (Wx : WX) (r : Rh) (H : Hp) (D : Ends) : Fx → Prop
  | .ok f => FlOk K r H D f
  | .ex x env => ∀ cls dd sg, RvX K r H x cls dd → RelE K r H env sg → Wx cls dd sg H
def tSX (K : PySem.W.Frag) (Wx : WX) (S : SX) : TS := fun D sg H => ∃ r0 H0 r env W, Ext r0 H0 r H ∧ RelE K r H env sg ∧ Hw K r H W ∧ ∃ f W', S r0.rho.length env W = some (f, W') ∧
  ∀ r' H', Ext r0 H0 r' H' → Hw K r' H' W' → FxOk K Wx r' H' D f
/-- in a context whose wish about exceptions is Wx -/
structure DXs (X : Cx) (Wx : WX) (sts : List Stmt) (S : SX) : Prop where
  ps : PSs X sts (tSX X.K Wx S)
structure DX (X : Cx) (Wx : WX) (st : Stmt) (S : SX) : Prop where
  ps : PS X st (tSX X.K Wx S)
def xUp (S : SS) : SX := fun n env => mb (S n env) fun f => mr (.ok f)
def xSeq (S T : SX) : SX := fun n env => mb (S n env) fun f => match f with
  | .ok (.nx env') => T n env'
  | f => mr f
def xNil : SX := fun _ env => mr (.ok (.nx env))
def xIf (B : EB) (S T : SX) : SX := fun n env => mb (B env) fun b => if b = true then S n env else T n env
section
variable {X : Cx} {Wx : WX} {st : Stmt} {sts rest : List Stmt} {S T : SX} {pos : Pos}
theorem of_up {K : PySem.W.Frag} {S : SS} : ∀ D sg H, tSX K Wx (xUp S) D sg H → tSS K S D sg H := by
  rintro D sg H ⟨r0, H0, r, env, W, x0, hE, hw, f, W', e, q⟩
  obtain ⟨g, W1, e1, e⟩ := mb_inv e
  obtain ⟨rfl, rfl⟩ := mr_inv e
  exact ⟨r0, H0, r, env, W, x0, hE, hw, g, _, e1, q⟩
theorem dx_up {S : SS} (h : DS X st S) : DX X Wx st (xUp S) := ⟨ps_imp h of_up⟩
theorem dxs_up {S : SS} (h : DSs X sts S) : DXs X Wx sts (xUp S) := ⟨pss_imp h of_up⟩
theorem dxs_nil : DXs X Wx [] xNil := ⟨by
  refine pss_imp pss_nil ?_
  rintro D sg H ⟨r0, H0, r, env, W, x0, hE, hw, f, W', e, q⟩
  obtain ⟨rfl, rfl⟩ := mr_inv e
  exact q r H x0 hw sg hE⟩
theorem dxs_one (h : DX X Wx st S) : DXs X Wx [st] S := ⟨pss_one h.ps⟩
theorem dxs_cons (h1 : DX X Wx st S) (h2 : DXs X Wx rest T) : DXs X Wx (st :: rest) (xSeq S T) := ⟨by
  refine pss_imp (pss_cons h1.ps h2.ps) ?_
  rintro D sg H ⟨r0, H0, r, env, W, x0, hE, hw, f, W', e, q⟩
  obtain ⟨g, W1, e1, e⟩ := mb_inv e
  refine ⟨r0, H0, r, env, W, x0, hE, hw, g, W1, e1, fun r1 H1 x1 w1 => ?_⟩
  cases g with
  | ex x en => obtain ⟨rfl, rfl⟩ := mr_inv e; exact q r1 H1 x1 w1
  | ok g =>
    cases g with
    | nx env1 => exact fun sg1 hE1 => ⟨r0, H0, r1, env1, W1, x1, hE1, w1, f, W', e, q⟩
    | rt x => obtain ⟨rfl, rfl⟩ := mr_inv e; exact q r1 H1 x1 w1
    | bk x => obtain ⟨rfl, rfl⟩ := mr_inv e; exact q r1 H1 x1 w1
    | ct x => obtain ⟨rfl, rfl⟩ := mr_inv e; exact q r1 H1 x1 w1⟩
theorem dx_if {c : Expr} {a b : List Stmt} {B : EB} (hc : DT X c B) (ha : DXs X Wx a S) (hb : DXs X Wx b T) : DX X Wx (.If c a b pos) (xIf B S T) := ⟨by
  refine ps_imp (ps_if hc ha.ps hb.ps) ?_
  rintro D sg H ⟨r0, H0, r, env, W, x0, hE, hw, f, W', e, q⟩
  obtain ⟨c, W1, e1, e⟩ := mb_inv e
  refine ⟨r, env, W, hE, hw, c, W1, e1, fun r1 H1 x1 w1 => ?_⟩
  cases c with
  | true => exact iteT ⟨r0, H0, r1, env, W1, x0.trans x1, hE.ext x1, w1, f, W', e, q⟩
  | false => exact iteF ⟨r0, H0, r1, env, W1, x0.trans x1, hE.ext x1, w1, f, W', e, q⟩⟩
end
/-! ### for -/
def xLoop (G : GS) (B : SX) (n : Nat) : List DV → DEnv → M Fx
  | [], env => mr (.ok (.nx env))
  | x :: xs, env => mb (G x env) fun env1 => mb (B n env1) fun f => match f with
    | .ok (.nx e) => xLoop G B n xs e
    | .ok (.ct e) => xLoop G B n xs e
    | .ok (.bk e) => mr (.ok (.nx e))
    | .ok (.rt v) => mr (.ok (.rt v))
    | .ex x e => mr (.ex x e)
def xFor (I : IS) (G : GS) (B : SX) : SX := fun _ env => mb (I env) fun xs W => xLoop G B W.length xs env W
theorem of_forX {K : PySem.W.Frag} {Wx : WX} {I : IS} {G : GS} {B : SX} {ss : List Nat} : ∀ D sg H, tSX K Wx (xFor I G B) D sg H → tFor (tXI K I) (tXG K ss G) (tSX K Wx B) D sg H := by
  rintro D sg H ⟨r0, H0, r, env, W, x0, hE, hw, f, W', e, q⟩
  obtain ⟨xs, W1, e1, e⟩ := mb_inv e
  refine ⟨r, env, W, hE, hw, xs, W1, e1, fun r1 H1 J x1 w1 it => ?_⟩
  rw [← w1.len] at e
  refine ⟨fun i m sg2 H2 => m = xs.length - i ∧ i ≤ xs.length ∧ ∃ r2 env2 W2, Ext r1 H1 r2 H2 ∧ RelE K r2 H2 env2 sg2 ∧ Hw K r2 H2 W2 ∧ xLoop G B r1.rho.length (xs.drop i) env2 W2 = some (f, W'), ⟨xs.length, by simp, Nat.zero_le _, r1, env, W1, Ext.refl _ _, hE.ext x1, w1, e⟩, ?_⟩
  rintro i m sg2 H2 ⟨rfl, hi, r2, env2, W2, x2, hE2, w2, e2⟩
  obtain ⟨it1, it2⟩ := it r2 H2 W2 x2.w w2
  by_cases hlt : i < xs.length
  · refine .inr ⟨(it1 i xs[i] (List.getElem?_eq_getElem hlt)).1, fun sg3 H3 => i + 1 ≤ xs.length ∧ ∃ r3 env3 W3, Ext r1 H1 r3 H3 ∧ RelE K r3 H3 env3 sg3 ∧ Hw K r3 H3 W3 ∧ xLoop G B r1.rho.length (xs.drop (i + 1)) env3 W3 = some (f, W'), fun sg3 H3 z => ⟨xs.length - (i + 1), by omega, rfl, z.1, z.2⟩, fun v H3 y => ?_⟩
    obtain ⟨sm, rv⟩ := (it1 i xs[i] (List.getElem?_eq_getElem hlt)).2 v H3 y
    rw [List.drop_eq_getElem_cons hlt] at e2
    obtain ⟨env3, W3, e3, e2⟩ := mb_inv e2
    obtain ⟨g, W4, e4, e2⟩ := mb_inv e2
    refine ⟨r2, env2, W2, xs[i], hE2.ext (Ext.of_same sm), w2.same sm, rv, env3, W3, e3, fun r4 H4 sg4 x4 w4 hE4 _ => ?_⟩
    have x4' : Ext r1 H1 r4 H4 := (x2.trans (Ext.of_same sm)).trans x4
    refine ⟨r1, H1, r4, env3, W3, x4', hE4, w4, g, W4, e4, fun r5 H5 x5 w5 => ?_⟩
    cases g with
    | ex x en =>
      obtain ⟨rfl, rfl⟩ := mr_inv e2
      exact q r5 H5 ((x0.trans x1).trans x5) w5
    | ok g =>
      cases g with
      | nx en => exact fun sg5 hE5 => ⟨hlt, r5, en, W4, x5, hE5, w5, e2⟩
      | ct en => exact fun sg5 hE5 => ⟨hlt, r5, en, W4, x5, hE5, w5, e2⟩
      | bk en =>
        obtain ⟨rfl, rfl⟩ := mr_inv e2
        exact q r5 H5 ((x0.trans x1).trans x5) w5
      | rt v =>
        obtain ⟨rfl, rfl⟩ := mr_inv e2
        exact q r5 H5 ((x0.trans x1).trans x5) w5
  · have ei : i = xs.length := by omega
    subst ei
    rw [List.drop_length] at e2
    obtain ⟨rfl, rfl⟩ := mr_inv e2
    exact .inl ⟨it2 _ (Nat.le_refl _), q r2 H2 ((x0.trans x1).trans x2) w2 sg2 hE2⟩
theorem dx_for {X : Cx} {Wx : WX} {tg iter : Expr} {body : List Stmt} {I : IS} {G : GS} {B : SX} {pos : Pos} {ss : List Nat} (hp : PassesOwn (model X.prog X.w) X.A X.env X.xe) (hc : X.calm = true) (hi : DI X tg iter I) (hg : DG X ss tg G) (hb : DXs X Wx body B) (hs : ∀ x, foldedSetIterable iter X.env x = pure x := by intro _; rfl) :
    DX X Wx (.For tg iter body [] pos) (xFor I G B) := ⟨ps_imp (ps_for hp hc hi hg hb.ps hs) of_forX⟩
/-! ### expressions -/
abbrev EX := DEnv → M (DV ⊕ DV)
def tEX (K : PySem.W.Frag) (Wx : WX) (F : EX) : TE := fun sg H Q => ∃ r env W, RelE K r H env sg ∧ Hw K r H W ∧ ∃ z W', F env W = some (z, W') ∧
  ∀ r' H', Ext r H r' H' → Hw K r' H' W' → (match z with | .inl x => ∀ v, Rv K r' H' x v → Q v H' | .inr x => ∀ cls dd, RvX K r' H' x cls dd → Wx cls dd sg H')
structure DEX (X : Cx) (Wx : WX) (e : Expr) (F : EX) : Prop where
  pe : PE X e (tEX X.K Wx F)
def xE (F : ES) : EX := fun env => mb (F env) fun x => mr (.inl x)
def xCond (B : EB) (F G : EX) : EX := fun env => mb (B env) fun b => if b = true then F env else G env
def xRet (F : EX) : SX := fun _ env => mb (F env) fun z => match z with
  | .inl x => mr (.ok (.rt x))
  | .inr x => mr (.ex x env)
def xSet (F : EX) (i : Nat) : SX := fun _ env => mb (F env) fun z => match z with
  | .inl x => mr (.ok (.nx (env.set i (some x))))
  | .inr x => mr (.ex x env)
section
variable {X : Cx} {Wx : WX} {e : Expr} {F : EX} {pos : Pos}
theorem dex_up {F : ES} (h : DE X e F) : DEX X Wx e (xE F) := ⟨by
  refine pe_imp h ?_
  rintro sg H Q ⟨r, env, W, hE, hw, z, W', e, q⟩
  obtain ⟨x, W1, e1, e⟩ := mb_inv e
  obtain ⟨rfl, rfl⟩ := mr_inv e
  exact ⟨r, env, W, hE, hw, x, _, e1, fun r1 H1 v x1 w1 rv => q r1 H1 x1 w1 v rv⟩⟩
theorem dx_ret (he : DEX X Wx e F) : DX X Wx (.Return (some e) pos) (xRet F) := ⟨by
  refine ps_imp (ps_ret he.pe) ?_
  rintro D sg H ⟨r0, H0, r, env, W, x0, hE, hw, f, W', e, q⟩
  obtain ⟨z, W1, e1, e⟩ := mb_inv e
  refine ⟨r, env, W, hE, hw, z, _, e1, fun r1 H1 x1 w1 => ?_⟩
  cases z with
  | inl x =>
    obtain ⟨rfl, rfl⟩ := mr_inv e
    exact fun v rv => q r1 H1 (x0.trans x1) w1 v rv
  | inr x =>
    obtain ⟨rfl, rfl⟩ := mr_inv e
    exact fun cls dd rx => q r1 H1 (x0.trans x1) w1 cls dd sg rx (hE.ext x1)⟩
end
end DL
end L2

set_option maxRecDepth 100000
set_option maxHeartbeats 2000000
/-! DY2: raise C(..). -/
namespace L2
namespace DL
open PySem PySem.Spec PyProof.Rows
/-! ### a hidden object goes -/
section
variable {K : PySem.W.Frag} {rho : List (Option Addr)} {hid : List Addr} {H : Hp} {D a : Addr} {vs : List V}
theorem out_gone (z : (⟨rho, D :: hid⟩ : Rh).out a) : (⟨rho, hid⟩ : Rh).out a ∧ a ≠ D := ⟨⟨z.1, fun m => z.2 (List.mem_cons_of_mem _ m)⟩, fun e => z.2 (by rw [e]; exact List.mem_cons_self)⟩
theorem TQ.gone (h : TQ K ⟨rho, D :: hid⟩ H a vs) : TQ K ⟨rho, hid⟩ (del H D) a vs := by
  rcases h with ⟨z, h⟩ | h
  · exact .inl ⟨(out_gone z).1, by rw [del_ne (out_gone z).2]; exact h⟩
  · exact .inr h
theorem SQ.gone (h : SQ K ⟨rho, D :: hid⟩ H a vs) : SQ K ⟨rho, hid⟩ (del H D) a vs := by
  rcases h with ⟨z, h⟩ | h
  · refine .inl ⟨(out_gone z).1, ?_⟩
    rcases h with h | ⟨o, h⟩
    · exact .inl (by rw [del_ne (out_gone z).2]; exact h)
    · exact .inr ⟨o, by rw [del_ne (out_gone z).2]; exact h⟩
  · exact .inr h
mutual
theorem Rv.gone : ∀ {x : DV} {v : V}, Rv K ⟨rho, D :: hid⟩ H x v → Rv K ⟨rho, hid⟩ (del H D) x v
  | _, _, .non => .non
  | _, _, .bl b => .bl b
  | _, _, .int i => .int i
  | _, _, .str s => .str s
  | _, _, .cst v => .cst v
  | _, _, .gl c => .gl c
  | _, _, .loc h => .loc h
  | _, _, .scr h => .scr h.gone
  | _, _, .tup h q => .tup h.gone (Rvs.gone q)
  | _, _, .lst z h q => .lst (out_gone z).1 (by rw [del_ne (out_gone z).2]; exact h) (Rvs.gone q)
  | _, _, .exc0 c z h => .exc0 c (out_gone z).1 (by rw [del_ne (out_gone z).2]; exact h)
  | _, _, .excD c z h y g l q => .excD c (out_gone z).1 (by rw [del_ne (out_gone z).2]; exact h) (out_gone y).1 (by rw [del_ne (out_gone y).2]; exact g) l (Rvs.gone q)
theorem Rvs.gone : ∀ {xs : List DV} {vs : List V}, Rvs K ⟨rho, D :: hid⟩ H xs vs → Rvs K ⟨rho, hid⟩ (del H D) xs vs
  | _, _, .nil => .nil
  | _, _, .cons h q => .cons (Rv.gone h) (Rvs.gone q)
end
theorem Hw.gone {W : Wd} (h : Hw K ⟨rho, D :: hid⟩ H W) (nd : D ∉ hid) : Hw K ⟨rho, hid⟩ (del H D) W where
  len := h.len
  nd := h.nd
  live := h.live
  sep := fun b m z => h.sep b m (List.mem_cons_of_mem _ z)
  hd := fun b m => by
    obtain ⟨o, q⟩ := h.hd b (List.mem_cons_of_mem _ m)
    have ne : b ≠ D := fun e => nd (by rw [← e]; exact m)
    exact ⟨o, by rw [del_ne ne]; exact q⟩
  ok := fun i b c e1 e2 => by
    have z := h.ok i b c e1 e2
    have ne : b ≠ D := fun e => h.hidnot (by rw [← e]; exact mem_of e1)
    obtain ⟨vs, o, k1, kb, k2⟩ := CellOk.iff.mp z
    exact CellOk.iff.mpr ⟨vs, o, by rw [del_ne ne]; exact k1, kb, k2.gone⟩
end
/-- behind the making of an exception: the state read without it -/
theorem gone_inv {X : Cx} {pins : List (Addr × Obj)} {sg : St} {H1 H2 : Hp} {hp hp2 h2 : Heap} {g1 g2 : Array GenState} {d1 d2 : Drawn} {t1 t2 : Nat} {os1 os2 : OsState} {a C : Addr} {dd : Option Addr} (I : Inv X pins sg H1 ⟨hp, g1, d1, t1, os1⟩)
    (le : hp.objs.size ≤ a) (k : ∀ b o, hp.get? b = some o → hp2.get? b = some o) (un : Un (frs X.stack) [] (upd H1 a (exo a C none)) H2 hp2 h2) (hok : HOk X.prog X.w H2 h2) (ho : os2 = os1) (hb : AllBare g2) (ea : H2 a = some (exo a C dd)) :
    ∃ (t0 : Addr) (G : Heap), Inv X pins sg (del H2 a) ⟨G, g2, d2, t2, os2⟩ ∧ (∀ b o, G.get? b = some o → h2.get? b = some o) ∧ G.get? a = none ∧
      h2.get? a = some ({ cls := .ref C, dict := dd, data := .fields #[.ref t0, .none, .none, .none, .bool false, .none] } : Obj) := by
  obtain ⟨t0, atA⟩ := exo_at hok ea
  have n1 : H1 a = none := I.hok.fresh le
  obtain ⟨G, e1, e2⟩ := restrict h2 fun b => decide (b ≠ a)
  have gk : ∀ b, b ≠ a → G.get? b = h2.get? b := fun b w => e1 b (decide_eq_true w)
  have ga : G.get? a = none := e2 a (by simp)
  have old : ∀ {b : Addr} {o : Obj}, hp.get? b = some o → b ≠ a := fun {b o} z => Nat.ne_of_lt (Nat.lt_of_lt_of_le (Heap.lt_size z) le)
  have up : ∀ {b : Addr}, b ≠ a → H1 b = none → upd H1 a (exo a C none) b = none := fun {b} w n => by rw [upd_ne w]; exact n
  have U : Un (frs X.stack) [] H1 (del H2 a) hp G := {
    keep := fun b o z n m1 m2 => by rw [gk b (old z)]; exact un.keep b o (k b o z) (up (old z) n) m1 m2
    slot := fun b o z n m1 m2 => by rw [gk b (old z)]; exact un.slot b o (k b o z) (up (old z) n) m1 m2
    free := fun b o z n m => by rw [del_ne (old z)]; exact un.free b o (k b o z) (up (old z) n) m
    there := fun b o z m => by rw [gk b (old z)]; exact un.there b o (k b o z) m
    tups := fun b xs z => by rw [del_ne (ne_of_none z n1)]; exact un.tups b xs (by rw [upd_ne (ne_of_none z n1)]; exact z)
    frzs := fun b o v z => by rw [del_ne (ne_of_none z n1)]; exact un.frzs b o v (by rw [upd_ne (ne_of_none z n1)]; exact z)
    tbls := fun b ps z => by rw [del_ne (ne_of_none z n1)]; exact un.tbls b ps (by rw [upd_ne (ne_of_none z n1)]; exact z) }
  have hok3 : HOk X.prog X.w (del H2 a) G := fun b o z => by
    have w : b ≠ a := fun e => by rw [e, del_same] at z; cases z
    rw [del_ne w] at z
    have na : ∀ {c : Addr}, H2 c = some (.own b) → c ≠ a := fun {c} hc => at_ne ea hc exo_own
    exact (hok b o z).stay (fun c v hc y => by
        have ca : c ≠ a := by
          rcases hc with hc | hc
          · rw [hc]; exact w
          · exact na hc
        rw [gk c ca]; exact y)
      (fun c hc => by rw [del_ne (na hc)]; exact hc) (fun c xs hc => by rw [del_ne (at_ne ea hc exo_tup)]; exact hc)
  refine ⟨t0, G, I.call' (ch := []) ho U hok3 hb (fun b z => absurd z (by simp)), fun b o z => ?_, ga, atA⟩
  by_cases w : b = a
  · rw [w, ga] at z; cases z
  · exact (gk b w).symm.trans z
section
variable {X : Cx} {pins : List (Addr × Obj)} {sg : St} {H : Hp} {s : Shared} {Q : XK} {k : Nat} {nm : Str} {C fI : Addr} {B nId iId : String} {bmB : List Value} {fd : FuncData} {F : NdefX.NF} {fs : List Str} {AS : EA} {ar : Args} {us : List Value} {vs : List V}
def spM (K : PySem.W.Frag) (nm : Str) (fs : List Str) (AS : EA) (vs : List V) (H : Hp) (Q : XK) : Prop := ∃ r W xs, xs.length = fs.length ∧ Hw K r H W ∧ Rvs K r H xs vs ∧ ∃ z W', kExc nm fs AS xs W = some (z, W') ∧
  ∀ r' H' cls dd, Ext r H r' H' → Hw K r' H' W' → RvX K r' H' z cls dd → Q cls dd H'
theorem mk_run (T : XC X.K nm C B nId iId bmB) (S : XI X.prog X.K C fI F iId fd) (R : ExcC X.K C) (N : IniOk X.prog X.w X.K X.mg X.base k C fI fd fs AS) (hr : Room (k + 1) X.A) (I : Inv X pins sg H s) (rl : Vals vs us) (few : ar.pos.length ≤ sizeLine)
    (hb : ∀ (s' : Shared) (a : Addr), X.K.In s'.heap → BindsTo s' fd ⟨.ref a :: ar.pos, ar.kw⟩ ((psI fs).zip (.ref a :: us))) (sp : spM X.K nm fs AS vs H Q) :
    codeAny (model X.prog X.w) X.A (.call (.ref C) ar) (fun r s' => match r with
      | .ok (.ret u) => MkP X pins sg Q u s'
      | .ok _ => False
      | .error e => X.xe e s') s := by
  obtain ⟨r, W, xs, l, hw, rs, z, W', e, q⟩ := sp
  obtain ⟨rfl, _, zs, hz, e⟩ := kExc_inv e
  obtain ⟨cQ, nsp, bs, sn, sub, ab, col, dd, k0, k1, k2, k3, k5, hC⟩ := T.cls
  obtain ⟨_, _, _, _, tyC⟩ := T.cd
  obtain ⟨hp, g, dr, tk, os⟩ := s
  obtain ⟨pos, kw⟩ := ar
  have hsz : hp.objs.size ≤ hp.objs.size + 1 := Nat.le_succ _
  have hn : H (hp.objs.size + 1) = none := I.hok.fresh hsz
  have kk : ∀ b o, hp.get? b = some o → ((hp.push (PySem.W.kdv_tup pos)).push (PySem.HandSPX.excO C hp.objs.size)).get? b = some o := fun b o z => Heap.get?_push_of_some _ (Heap.get?_push_of_some _ z)
  have atA : ((hp.push (PySem.W.kdv_tup pos)).push (PySem.HandSPX.excO C hp.objs.size)).get? (hp.objs.size + 1) = some (PySem.HandSPX.excO C hp.objs.size) := by heap_get
  generalize ha : hp.objs.size + 1 = a at *
  have I2 : Inv X pins sg (upd H a (exo a C none)) ⟨(hp.push (PySem.W.kdv_tup pos)).push (PySem.HandSPX.excO C hp.objs.size), g, dr, tk, os⟩ :=
    I.laid (t' := tk) (a := a) (o := exo a C none) (h' := (hp.push (PySem.W.kdv_tup pos)).push (PySem.HandSPX.excO C hp.objs.size)) kk hsz (exo_ok atA)
  have oa : r.out a := hw.fresh hn
  have hw2 : Hw X.K ⟨r.rho, a :: r.hid⟩ (upd H a (exo a C none)) W := Hw.hide (rho := r.rho) (hid := r.hid) hw hn
  have rs2 : Rvs X.K ⟨r.rho, a :: r.hid⟩ (upd H a (exo a C none)) xs vs := Rvs.hide hn rs
  refine DXE.call_cls T.fb (fun _ => rfl) (I.kIn _ _ hC) few (PySem.W.looks_findIn I.kIn S.ini) (fun self => PySem.W.bind_fn I.kIn self S.typ) ?_
  rw [ha]
  refine codeAny_mono (N.run _ X.stack _ _ (fun _ _ _ => False) (fun v H2 => v = .non ∧ ∃ r1 H1, Ext ⟨r.rho, a :: r.hid⟩ (upd H a (exo a C none)) r1 H1 ∧ Hw X.K r1 H1 W' ∧ H1 a = some (exo a C none) ∧ Made a C fs vs H1 H2) ⟨.ref a :: pos, kw⟩ (.ref a :: us) a vs xs ⟨r.rho, a :: r.hid⟩ W zs W'
    (hr.make C pos kw) (I2.env0.make C pos kw) (hb _ a I2.kIn) (.cons rfl rl) upd_same hw2 oa.1 rs2 (by rw [← rs.length]; exact l) e hz (fun r1 H1 H2 x1 w1 ea1 m => ⟨rfl, r1, H1, x1, w1, ea1, m⟩)) fun rr s' hq => ?_
  match rr, hq with
  | .error er, hq => exact False.elim hq
  | .ok (.ret u), hq =>
    obtain ⟨v, H2, os2, bare2, un2, hok2, rv, rfl, r1, H1, x1, w1, ea1, m⟩ := hq
    refine ⟨rv, ?_⟩
    obtain ⟨h2, g2, d2, t2, os3⟩ := s'
    obtain ⟨rho1, hid1⟩ := r1
    obtain rfl : hid1 = a :: r.hid := x1.hid
    have na1 : some a ∉ rho1 := w1.hidnot
    have keep1 : ∀ b o, some b ∉ r.rho → H b = some o → b ≠ a ∧ H1 b = some o := fun b o n z => by
      have nb : b ≠ a := ne_of_none z hn
      exact ⟨nb, x1.keep b o n (by rw [upd_ne nb]; exact z)⟩
    have new1 : ∀ b, some b ∈ rho1 → some b ∉ r.rho → H b = none := fun b m n => by
      have z := x1.new b m n
      by_cases nb : b = a
      · rw [nb]; exact hn
      · rw [upd_ne nb] at z; exact z
    have w2 : Hw X.K ⟨rho1, r.hid⟩ (del H1 a) W' := w1.gone oa.2
    have raises : Raises X (.ref C) := raises_own R.hs tyC
    rcases m with ⟨rfl, rfl⟩ | ⟨d, hd, nd, rfl⟩
    · obtain ⟨t0, G, J, kG, ge, hoe⟩ := gone_inv (d2 := d2) (t2 := t2) I hsz kk un2 hok2 os2 bare2 ea1
      obtain rfl : xs = [] := List.eq_nil_of_length_eq_zero l
      refine ⟨a, _, _, ⟨G, g2, d2, t2, os3⟩, _, .ref C, none, rfl, J, kG, ge, hoe, ⟨rfl, rfl⟩, rfl, rfl, del_same, rfl, bare2, raises, q ⟨rho1, r.hid⟩ _ (.ref C) none ⟨rfl, x1.get, x1.len, new1, fun b o n z => ?_⟩ w2 ⟨nm, [], [], C, rfl, T.gl, rfl, .inl ⟨rfl, rfl, rfl⟩⟩⟩
      obtain ⟨nb, z1⟩ := keep1 b o n z
      rw [del_ne nb]; exact z1
    · obtain ⟨t0, G, J, kG, ge, hoe⟩ := gone_inv (d2 := d2) (t2 := t2) I hsz kk un2 hok2 os2 bare2 upd_same
      have edd : del (upd (upd H1 d (exd d (fs.zip vs))) a (exo a C (some d))) a d = some (exd d (fs.zip vs)) := by rw [del_ne nd, upd_ne nd, upd_same]
      have J2 := xd_inv J edd
      have eH : upd (del (upd (upd H1 d (exd d (fs.zip vs))) a (exo a C (some d))) a) d (.xd (fs.zip vs)) = upd (del H1 a) d (.xd (fs.zip vs)) := by
        funext b
        by_cases hbd : b = d
        · rw [hbd, upd_same, upd_same]
        · rw [upd_ne hbd, upd_ne hbd]
          by_cases hba : b = a
          · rw [hba, del_same, del_same]
          · rw [del_ne hba, del_ne hba, upd_ne hba, upd_ne hbd]
      rw [eH] at J2
      have hd' : del H1 a d = none := by rw [del_ne nd]; exact hd
      have od := w2.fresh hd'
      have w3 : Hw X.K ⟨rho1, r.hid⟩ (upd (del H1 a) d (.xd (fs.zip vs))) W' := w2.laid hd'
      have rs3 : Rvs X.K ⟨rho1, r.hid⟩ (upd (del H1 a) d (.xd (fs.zip vs))) xs vs := ((rs2.ext x1).gone).ext (Ext.laid hd')
      refine ⟨a, _, _, ⟨G, g2, d2, t2, os3⟩, _, .ref C, some d, rfl, J2, kG, ge, hoe, ⟨rfl, rfl⟩, rfl, rfl, by rw [upd_ne (Ne.symm nd), del_same], rfl, bare2, raises, q ⟨rho1, r.hid⟩ _ (.ref C) (some d) ⟨rfl, x1.get, x1.len, new1, fun b o n z => ?_⟩ w3 ⟨nm, fs, xs, C, rfl, T.gl, rfl, .inr ⟨d, vs, rfl, od, upd_same, by rw [← rs.length]; exact l.symm, rs3⟩⟩⟩
      obtain ⟨nb, z1⟩ := keep1 b o n z
      rw [upd_ne (ne_of_none z1 hd), del_ne nb]; exact z1
  | .ok .next, hq => exact False.elim hq
  | .ok .brk, hq => exact False.elim hq
  | .ok .cont, hq => exact False.elim hq
end
end DL
end L2

set_option maxRecDepth 100000
set_option maxHeartbeats 2000000
/-! DY3: raise, calls of defs that may raise, such defs. -/
namespace L2
namespace DL
open PySem PySem.Spec PyProof.Rows
section
variable {X : Cx} {Wx : WX} {e : Expr} {F : EX} {pos : Pos}
theorem dx_set {i : Nat} {x : Str} {pos' : Pos} (hN : X.N.Nodup) (hi : X.N[i]? = some x) (hx : Loc X.env.scope x) (he : DEX X Wx e F) (hs : swapsWith e (some (.Name x pos')) pos.line X.env = pure false := by rfl) (hf : X.fn x = true ∨ X.env.scope.names.lookup x = some .local := by first | exact .inl rfl | exact .inr rfl | assumption) :
    DX X Wx (.Assign [.Name x pos'] e pos) (xSet F i) := ⟨by
  refine ps_imp (ps_set hN hi hx he.pe hs hf) ?_
  rintro D sg H ⟨r0, H0, r, env, W, x0, hE, hw, f, W', e, q⟩
  obtain ⟨z, W1, e1, e⟩ := mb_inv e
  refine ⟨r, env, W, hE, hw, z, _, e1, fun r1 H1 x1 w1 => ?_⟩
  cases z with
  | inl x =>
    obtain ⟨rfl, rfl⟩ := mr_inv e
    exact fun v rv => q r1 H1 (x0.trans x1) w1 _ ((hE.ext x1).set rv)
  | inr x =>
    obtain ⟨rfl, rfl⟩ := mr_inv e
    exact fun cls dd rx => q r1 H1 (x0.trans x1) w1 cls dd sg rx (hE.ext x1)⟩
theorem dex_if {c a b : Expr} {B : EB} {F G : EX} (hc : DT X c B) (ha : DEX X Wx a F) (hb : DEX X Wx b G) : DEX X Wx (.IfExp c a b pos) (xCond B F G) := ⟨by
  refine pe_imp (pe_ifExp hc ha.pe hb.pe) ?_
  rintro sg H Q ⟨r, env, W, hE, hw, z, W', e, q⟩
  obtain ⟨c, W1, e1, e⟩ := mb_inv e
  refine ⟨r, env, W, hE, hw, _, _, e1, fun r' H' x w => ?_⟩
  cases c with
  | true => exact iteT ⟨r', env, W1, hE.ext x, w, z, W', e, fun r2 H2 x2 w2 => q r2 H2 (x.trans x2) w2⟩
  | false => exact iteF ⟨r', env, W1, hE.ext x, w, z, W', e, fun r2 H2 x2 w2 => q r2 H2 (x.trans x2) w2⟩⟩
end
/-! ### raise -/
def xRaise (nm : Str) (fs : List Str) (AS A : EA) : SX := fun _ env => mb (A env) fun xs => if (xs.length == fs.length) = true then mb (kExc nm fs AS xs) fun x => mr (.ex x env) else fun _ => none
section
variable {X : Cx} {Wx : WX} {k : Nat} {nm : Str} {C fI : Addr} {B nId iId : String} {bmB : List Value} {fd : FuncData} {F : NdefX.NF} {fs : List Str} {AS : EA} {x : Str} {p pos pos' : Pos} {e : Expr} {es : List Expr} {A : EA}
theorem mk_back {pins : List (Addr × Obj)} {sg : St} {Q : XK} {s : Shared} {g : Value} {us : List Value} {kw : List (Str × Value)}
    (h : codeAny (model X.prog X.w) X.A (.call g ⟨us, kw⟩) (fun r s' => match r with
      | .ok (.ret u) => MkP X pins sg Q u s'
      | .ok _ => False
      | .error e => X.xe e s') s) : wpAny (model X.prog X.w) X.A (call g us kw) (MkP X pins sg Q) X.xe s := by
  refine wpAny_call (codeAny_mono h fun r s' hq => ?_)
  match r, hq with
  | .error e, hq => exact hq
  | .ok (.ret u), hq => exact hq
theorem pmk_xc (T : XC X.K nm C B nId iId bmB) (S : XI X.prog X.K C fI F iId fd) (R : ExcC X.K C) (N : IniOk X.prog X.w X.K X.mg X.base k C fI fd fs AS) (hr : Room (k + 1) X.A) (hg : Gl X x) (hm : X.mg x = some (.ref C)) (hb : BindsI X.K fd fs) (ha : DA X (e :: es) A)
    (hf : fs.length ≤ 1000 := by decide) (hdb : (x == ("__debug__" : Str)) = false := by decide) (he : starEach (e :: es) X.env = (false, eval e X.env) :: starEach es X.env := by rfl) (hpl : (backTo pos (starEach es X.env)).any (·.1) = false := by rfl) :
    PMk X (.Call (.Name x p) (e :: es) [] pos) (fun sg H Q => tXA X.K A sg H fun vs H1 => spM X.K nm fs AS vs H1 Q) := by
  intro pins s sg H Q I h
  refine wpAny_Call_Name_kw (ld_glob I hg hm (PySem.W.callWith_K (h₀ := X.base) I.ok.mod.kin T.kC (thn (ha.run pos pins s sg H _ I h) fun us s1 ⟨vs, H1, I1, rl, q⟩ => ⟨I1.kIn, ?_⟩) he hpl) hdb)
  have lu : us.length = fs.length := by
    obtain ⟨r, W, xs, l, hw, rs, _⟩ := q
    rw [← rl.length, ← rs.length, l]
  exact mk_back (mk_run T S R N hr I1 rl (by show us.length ≤ _; rw [lu, sizeLine_eq]; omega) (fun s' a KI => hb s' a us KI lu) q)
theorem pmk_xc0 (T : XC X.K nm C B nId iId bmB) (S : XI X.prog X.K C fI F iId fd) (R : ExcC X.K C) (N : IniOk X.prog X.w X.K X.mg X.base k C fI fd [] AS) (hr : Room (k + 1) X.A) (hg : Gl X x) (hm : X.mg x = some (.ref C)) (hb : BindsI X.K fd [])
    (hdb : (x == ("__debug__" : Str)) = false := by decide) : PMk X (.Call (.Name x p) [] [] pos) (fun sg H Q => spM X.K nm [] AS [] H Q) := by
  intro pins s sg H Q I h
  exact wpAny_Call_Name_kw (ld_glob I hg hm (PySem.W.callWith_K0 I.kIn T.kC (mk_back (mk_run (us := []) T S R N hr I .nil (by simp) (fun s' a KI => hb s' a [] KI rfl) h))) hdb)
theorem dx_raise (hc : X.calm = true) (tk : Takes X Wx) (T : XC X.K nm C B nId iId bmB) (S : XI X.prog X.K C fI F iId fd) (R : ExcC X.K C) (N : IniOk X.prog X.w X.K X.mg X.base k C fI fd fs AS) (hr : Room (k + 1) X.A) (hg : Gl X x) (hm : X.mg x = some (.ref C)) (hb : BindsI X.K fd fs) (ha : DA X (e :: es) A)
    (hf : fs.length ≤ 1000 := by decide) (hdb : (x == ("__debug__" : Str)) = false := by decide) (he : starEach (e :: es) X.env = (false, eval e X.env) :: starEach es X.env := by rfl) (hpl : (backTo pos (starEach es X.env)).any (·.1) = false := by rfl) :
    DX X Wx (.Raise (some (.Call (.Name x p) (e :: es) [] pos)) none pos') (xRaise nm fs AS A) := ⟨by
  refine ps_imp (ps_raise hc tk (pmk_xc T S R N hr hg hm hb ha hf hdb he hpl)) ?_
  rintro D sg H ⟨r0, H0, r, env, W, x0, hE, hw, f, W', e, q⟩
  obtain ⟨xs, W1, e1, e⟩ := mb_inv e
  refine ⟨r, env, W, hE, hw, xs, W1, e1, fun r1 H1 vs x1 w1 rs => ?_⟩
  split at e
  · rename_i l
    obtain ⟨z, W2, e2, e⟩ := mb_inv e
    obtain ⟨rfl, rfl⟩ := mr_inv e
    exact ⟨r1, W1, xs, by simpa using l, w1, rs, z, _, e2, fun r2 H2 cls dd x2 w2 rx => q r2 H2 ((x0.trans x1).trans x2) w2 cls dd sg rx (hE.ext (x1.trans x2))⟩
  · cases e⟩
theorem dx_raise0 (hc : X.calm = true) (tk : Takes X Wx) (T : XC X.K nm C B nId iId bmB) (S : XI X.prog X.K C fI F iId fd) (R : ExcC X.K C) (N : IniOk X.prog X.w X.K X.mg X.base k C fI fd [] AS) (hr : Room (k + 1) X.A) (hg : Gl X x) (hm : X.mg x = some (.ref C)) (hb : BindsI X.K fd [])
    (hdb : (x == ("__debug__" : Str)) = false := by decide) : DX X Wx (.Raise (some (.Call (.Name x p) [] [] pos)) none pos') (xRaise nm [] AS aN) := ⟨by
  refine ps_imp (ps_raise hc tk (pmk_xc0 T S R N hr hg hm hb hdb)) ?_
  rintro D sg H ⟨r0, H0, r, env, W, x0, hE, hw, f, W', e, q⟩
  obtain ⟨xs, W1, e1, e4⟩ := mb_inv e
  clear e
  obtain ⟨rfl, rfl⟩ := mr_inv e1
  have e5 : mb (kExc nm [] AS []) (fun x => mr (Fx.ex x env)) W1 = some (f, W') := e4
  clear e4
  obtain ⟨z, W2, e2, e6⟩ := mb_inv e5
  obtain ⟨rfl, rfl⟩ := mr_inv e6
  exact ⟨r, _, [], rfl, hw, .nil, z, _, e2, fun r2 H2 cls dd x2 w2 rx => q r2 H2 (x0.trans x2) w2 cls dd sg rx (hE.ext x2)⟩⟩
end
/-! ### defs that may raise -/
abbrev FX := List DV → M (DV ⊕ DV)
def spX (K : PySem.W.Frag) (n : Nat) (fn : FX) : Sp := fun vs H Q E => ∃ r W xs, xs.length = n ∧ Hw K r H W ∧ Rvs K r H xs vs ∧ ∃ z W', fn xs W = some (z, W') ∧
  ∀ r' H', Ext r H r' H' → Hw K r' H' W' → (match z with | .inl x => ∀ v, Rv K r' H' x v → Q v H' | .inr x => ∀ cls dd, RvX K r' H' x cls dd → E cls dd H')
def runX (nN : Nat) (S : SX) : FX := fun xs W => match S W.length (xs.map some ++ List.replicate (nN - xs.length) none) W with
  | some (.ok (.rt x), W') => (fin W.length x W').map fun p => (.inl p.1, p.2)
  | some (.ok (.nx _), W') => (fin W.length .non W').map fun p => (.inl p.1, p.2)
  | some (.ex x _, W') => some (.inr x, W')
  | _ => none
theorem fnX {P : Program} {w : PySem.World} {K : PySem.W.Frag} {mg : Str → Option Value} {base : Heap} {x qual : Str} {st : Stmt} {f : Addr} {fd : FuncData} {N ps : List Str} {k : Nat} {S : SX} (F : Fun K x qual st f fd) (Sc : FnScope N ps (defScope st))
    (hb : ∀ (cdv : Value) (A : Around) (out : List Env) (s : Shared) (H : Hp) (E : XK), Rm k (A.deeper (envOfC qual (defScope st) s.heap.objs.size f cdv)) → Takes (cxOf (CX P w) P w K mg base N qual (defScope st) f cdv A out s H E) (fun cls d _ H => E cls d H) →
      PassesOwn (model P w) (cxOf (CX P w) P w K mg base N qual (defScope st) f cdv A out s H E).A (cxOf (CX P w) P w K mg base N qual (defScope st) f cdv A out s H E).env (cxOf (CX P w) P w K mg base N qual (defScope st) f cdv A out s H E).xe →
      DXs (cxOf (CX P w) P w K mg base N qual (defScope st) f cdv A out s H E) (fun cls d _ H => E cls d H) (defBody st) S) :
    FnG P w K mg base (CX P w) (k + 1) f fd ps (spX K ps.length (runX N.length S)) := by
  refine fnG_of F Sc (fun vs H Q E h => ?_) (fun cdv A out s H vs Q E hr h => ?_)
  · obtain ⟨r, W, xs, l, hw, rs, _⟩ := h
    rw [← rs.length]; exact l
  · obtain ⟨r, W, xs, l, hw, rs, z, W', e, q⟩ := h
    refine ⟨_, (hb cdv A out s H E hr (takes_of rfl rfl rfl rfl) (passes_of rfl)).ps, ?_⟩
    unfold runX at e
    rw [← hw.len] at e
    refine ⟨r, H, r, _, W, Ext.refl _ _, rel_start rs, hw, ?_⟩
    split at e
    · rename_i y W1 e1
      obtain ⟨⟨y2, W2⟩, e2, e3⟩ := Option.map_eq_some_iff.mp e
      cases e3
      refine ⟨_, _, e1, fun r1 H1 x1 w1 v rv => ?_⟩
      obtain ⟨r2, k1, k2, k3⟩ := fin_ok x1 w1 rv e2
      exact q r2 H1 k1 k2 v k3
    · rename_i y W1 e1
      obtain ⟨⟨y2, W2⟩, e2, e3⟩ := Option.map_eq_some_iff.mp e
      cases e3
      refine ⟨_, _, e1, fun r1 H1 x1 w1 sg hE => ?_⟩
      obtain ⟨r2, k1, k2, k3⟩ := fin_ok (x := .non) x1 w1 .non e2
      exact q r2 H1 k1 k2 _ k3
    · rename_i y en W1 e1
      cases e
      exact ⟨_, _, e1, fun r1 H1 x1 w1 cls dd sg rx hE => q r1 H1 x1 w1 cls dd rx⟩
    · cases e
/-- a def that never raises serves as one that may -/
def xFn (fn : List DV → M DV) : FX := fun xs => mb (fn xs) fun x => mr (.inl x)
def xF (n : Nat) (fn : FX) (A : EA) : EX := fun env => mb (A env) fun xs => if (xs.length == n) = true then fn xs else fun _ => none
def xFK (n m : Nat) (ix : List Nat) (fn : FX) (A : EA) : EX := fun env => mb (A env) fun xs => if (xs.length == m) = true then (if ((perm ix xs).length == n) = true then fn (perm ix xs) else fun _ => none) else fun _ => none
section
variable {X : Cx} {Wx : WX} {k : Nat} {f : Addr} {fd : FuncData} {ps ks : List Str} {ix : List Nat} {fn : FX} {x : Str} {p pos : Pos} {e : Expr} {es : List Expr} {kws : List Keyword} {A : EA} {n : Nat}
theorem lenX {α : Type} {xs : List DV} {n : Nat} {fn : List DV → M α} {W : Wd} {z : α × Wd} (e : (if (xs.length == n) = true then fn xs else fun _ => none) W = some z) : xs.length = n ∧ fn xs W = some z := by
  by_cases c : (xs.length == n) = true
  · rw [if_pos c] at e
    exact ⟨by simpa using c, e⟩
  · rw [if_neg c] at e; cases e
theorem dex_call (F : FnG X.prog X.w X.K X.mg X.base (CX X.prog X.w) k f fd ps (spX X.K n fn)) (tk : Takes X Wx) (hr : Rm k X.A) (hg : Gl X x) (hm : X.mg x = some (.ref f)) (hk : PySem.W.keepIn X.K (.ref f) = true) (hb : Binds X.K fd ps [])
    (ha : DA X (e :: es) A) (hdb : (x == ("__debug__" : Str)) = false := by decide) (he : starEach (e :: es) X.env = (false, eval e X.env) :: starEach es X.env := by rfl) (hpl : (backTo pos (starEach es X.env)).any (·.1) = false := by rfl) :
    DEX X Wx (.Call (.Name x p) (e :: es) [] pos) (xF n fn A) := ⟨⟨fun pins s sg H Q I h => by
  refine wpAny_Call_Name_kw (ld_glob I hg hm (PySem.W.callWith_K (h₀ := X.base) I.ok.mod.kin hk (thn (ha.run pos pins s sg H (fun vs H1 => spX X.K n fn vs H1 Q (fun cls dd H' => Wx cls dd sg H')) I ?_) fun us s1 ⟨vs, H1, I1, rl, q⟩ => ⟨I1.kIn, ?_⟩) he hpl) hdb)
  · obtain ⟨r, env, W, hE, hw, z, W', e, q⟩ := h
    obtain ⟨xs, W1, e1, e⟩ := mb_inv e
    obtain ⟨l, e⟩ := lenX e
    refine ⟨r, env, W, hE, hw, _, _, e1, fun r1 H1 vs x1 w1 rs => ⟨r1, W1, xs, l, w1, rs, z, W', e, fun r2 H2 x2 w2 => ?_⟩⟩
    have := q r2 H2 (x1.trans x2) w2
    cases z with
    | inl y => exact this
    | inr y => exact this
  · have b := hb s1 us I1.kIn (by rw [List.append_nil, ← rl.length]; exact F.many _ _ _ _ q)
    rw [List.append_nil] at b
    exact call_back (back_call I1 (fun e s' c => tk e s' (XE.of_call I1 (fun cls d H' h => h) c)) (F.go X.A X.stack s1 H1 ⟨us, []⟩ us vs Q _ hr I1.env0 b rl q))⟩⟩
theorem dex_callK (F : FnG X.prog X.w X.K X.mg X.base (CX X.prog X.w) k f fd ps (spX X.K n fn)) (tk : Takes X Wx) (hr : Rm k X.A) (hg : Gl X x) (hm : X.mg x = some (.ref f)) (hk : PySem.W.keepIn X.K (.ref f) = true) (hb : KwOk X.K fd ps ks ix)
    (hkw : DK X kws A) (hall : (backToKw pos (keywordEach kws X.env)).all (·.1.isSome) = true := by rfl) (hks : (backToKw pos (keywordEach kws X.env)).filterMap (·.1) = ks := by rfl)
    (hdb : (x == ("__debug__" : Str)) = false := by decide) (hpl : ((backTo pos (starEach [] X.env)).any (·.1) || (backToKw pos (keywordEach kws X.env)).any (·.1.isNone)) = false := by rfl) :
    DEX X Wx (.Call (.Name x p) [] kws pos) (xFK n ks.length ix fn A) := ⟨⟨fun pins s sg H Q I h => by
  refine wpAny_Call_Name_kw (ld_glob I hg hm ?_ hdb)
  refine PySem.W.callWith_KW0 (h₀ := X.base) I.ok.mod.kin hk hall (thn (hkw.run pos pins s sg H (fun vs H1 => vs.length = ks.length ∧ spX X.K n fn (perm ix vs) H1 Q (fun cls dd H' => Wx cls dd sg H')) I ?_) fun ws s2 ⟨zs, H2, I2, rz, l2, q2⟩ => ⟨I2.kIn, ?_⟩) hpl
  · obtain ⟨r, env, W, hE, hw, z, W', e, q⟩ := h
    obtain ⟨xs, W1, e1, e⟩ := mb_inv e
    obtain ⟨lm, e⟩ := lenX (fn := fun xs => if ((perm ix xs).length == n) = true then fn (perm ix xs) else fun _ => none) e
    obtain ⟨l, e⟩ := lenX (xs := perm ix xs) e
    refine ⟨r, env, W, hE, hw, _, _, e1, fun r1 H1 vs x1 w1 rs => ⟨by rw [← rs.length]; exact lm, ?_⟩⟩
    refine ⟨r1, W1, perm ix xs, l, w1, rs.perm ix, z, W', e, fun r2 H2 x2 w2 => ?_⟩
    have := q r2 H2 (x1.trans x2) w2
    cases z with
    | inl y => exact this
    | inr y => exact this
  · rw [hks]
    exact call_back (back_call I2 (fun e s' c => tk e s' (XE.of_call I2 (fun cls d H' h => h) c)) (F.go X.A X.stack s2 H2 ⟨[], ks.zip ws⟩ (perm ix ws) (perm ix zs) Q _ hr I2.env0 (hb s2 ws I2.kIn (rz.length.symm.trans l2)) (Vals.perm rz ix) q2))⟩⟩
end
end DL
end L2

set_option maxRecDepth 100000
set_option maxHeartbeats 2000000
/-! DY4: try: .. except (C, ..) as n: y = n. -/
namespace L2
namespace DL
open PySem PySem.Spec PyProof.Rows
/-- a caught exception is told as a datum -/
theorem track {X : Cx} {pins : List (Addr × Obj)} {sg : St} {H : Hp} {s sI : Shared} {a C : Addr} {dd : Option Addr} {oe : Obj} {vs : Array Value} (J : Inv X pins sg H sI) (J3 : Inv X pins sg H s) (n : sI.heap.get? a = none) (he : s.heap.get? a = some oe) (hz : Zc (.ref C) dd oe)
    (hd : oe.data = .fields vs) (na : H a = none) (nL : a ≠ X.env.locals) : Inv X pins sg (upd H a (exv a C dd)) s := by
  have n0 : ∀ o, X.s_0.heap.get? a = some o → a ∉ X.ex → False := fun o z m => by
    obtain ⟨o', z'⟩ := J.base.there a o z m
    rw [n] at z'; cases z'
  have nc : ∀ y c, X.env.cells.lookup y = some c → c ≠ a := fun y c z w => by
    obtain ⟨v, o, z1, z2⟩ := J3.cell y c z
    rw [w, he] at z1
    cases z1
    rw [hd] at z2; cases z2
  have np : ∀ p ∈ X.pn ++ pins, p.1 ≠ a := fun p m w => by
    have z := (J.pin p m).1
    rw [w, n] at z; cases z
  refine ⟨J3.ok, J3.os, J3.bare, ⟨J3.base.keep, J3.base.slot, fun b o z m1 m2 => ?_, J3.base.there, fun b xs z => ?_, fun b o u z => ?_, fun b ps z => ?_⟩, J3.loc, J3.cell, ?_, fun y c z => ?_, fun p m => ?_, fun b o z => ?_, J3.len⟩
  · have w : b ≠ a := fun w => by subst w; exact n0 o z m2
    rw [upd_ne w]
    exact J3.base.free b o z m1 m2
  · have q := J3.base.tups b xs z
    rw [upd_ne (ne_of_none q na)]; exact q
  · have q := J3.base.frzs b o u z
    rw [upd_ne (ne_of_none q na)]; exact q
  · obtain ⟨m, q⟩ := J3.base.tbls b ps z
    exact ⟨m, by rw [upd_ne (ne_of_none q na)]; exact q⟩
  · rw [upd_ne nL.symm]; exact J3.free
  · rw [upd_ne (nc y c z)]; exact J3.freeC y c z
  · obtain ⟨e1, e2, e3⟩ := J3.pin p m
    exact ⟨e1, by rw [upd_ne (np p m)]; exact e2, e3⟩
  · by_cases w : b = a
    · subst w
      rw [upd_same] at z
      cases z
      refine ⟨⟨oe, vs, he, hz.1, hz.2, hd⟩, ⟨_, he⟩, fun h1 h2 z k => ?_⟩
      obtain ⟨o, us, c1, c2, c3, c4⟩ := z
      exact ⟨o, us, k _ c1, c2, c3, c4⟩
    · rw [upd_ne w] at z
      exact (J3.hok b o z).stay (fun c v _ z2 => z2) (fun c hc => by rw [upd_ne (ne_of_none hc na)]; exact hc) (fun c xs hc => by rw [upd_ne (ne_of_none hc na)]; exact hc)
theorem Flying.more {B : Heap} {l : List Env} {a : Addr} {Z : Obj → Prop} {h h' : Heap} (k : ∀ b o, h.get? b = some o → h'.get? b = some o) (fl : HandSPX.FlyingZ B l a Z h) : HandSPX.FlyingZ B l a Z h' := by
  obtain ⟨f1, f2, f3, oe, vs, T, oT, ts, e1, e2, e3, e4, e5, e6, e7, e8⟩ := fl
  exact ⟨fun b o z => k b o (f1 b o z), f2, Heap.FunFrames.of_keeps (fun b o z _ => ⟨o, k b o z, rfl⟩) f3, oe, vs, T, oT, ts, k _ _ e1, e2, e3, e4, e5, e6, k _ _ e7, e8⟩
/-- what the clause wishes of an exception of the body -/
def wKeep (K : PySem.W.Frag) (cs : List Value) (i j : Nat) (D : Ends) : WX := fun cls dd sg H => PySem.W.exmAny K cls cs = some true ∧ ∃ C, cls = .ref C ∧
  ∀ a, H a = none → D.nx (((sg.set i (some (.ref a))).set j (some (.ref a))).set i none) (upd H a (exv a C dd))
/-- the clause's test: a tuple of three classes -/
theorem test3 {X : Cx} {x1 x2 x3 : Str} {c1 c2 c3 : Value} {p1 p2 p3 tpos : Pos} {kk : Nat} {cls : Value} {b : Bool} {a : Addr} {sg : St} {H : Hp} {s : Shared} {pins : List (Addr × Obj)} {Q : Bool → Shared → Prop} {E : Value → Shared → Prop}
    (n1 : Gl X x1 ∧ X.mg x1 = some c1 ∧ (x1 == ("__debug__" : Str)) = false) (n2 : Gl X x2 ∧ X.mg x2 = some c2 ∧ (x2 == ("__debug__" : Str)) = false) (n3 : Gl X x3 ∧ X.mg x3 = some c3 ∧ (x3 == ("__debug__" : Str)) = false)
    (he : PySem.W.exmAny X.K cls [c1, c2, c3] = some b) (I : Inv X pins sg H s) (LT : PySem.W.Looks (model X.prog X.w) s.heap (typeOf (.ref a)) cls)
    (q : ∀ h', (∀ u o, s.heap.get? u = some o → h'.get? u = some o) → Q b { s with heap := h' }) :
    wpAny (model X.prog X.w) X.A (eval (.Tuple [.Name x1 p1, .Name x2 p2, .Name x3 p3] kk tpos) X.env) (fun c s₁ => wpAny (model X.prog X.w) X.A (excMatches (.ref a) c) Q E s₁) E s := by
  refine wpAny_Tuple ?_
  refine wpAny_items_cons (ld_glob I n1.1 n1.2.1 ?_ n1.2.2)
  refine wpAny_items_cons (ld_glob I n2.1 n2.2.1 ?_ n2.2.2)
  refine wpAny_items_cons (ld_glob I n3.1 n3.2.1 ?_ n3.2.2)
  refine wpAny_items_nil ⟨by size_fits, ?_⟩
  have kp : ∀ u o, s.heap.get? u = some o → (s.heap.push { cls := .type "tuple", data := .seq [c1, c2, c3].toArray }).get? u = some o := fun _ _ z => Heap.get?_push_of_some _ z
  exact (PySem.W.exm_tup3 (I.kIn.keeps kp) (LT.keeps kp) (Heap.get?_push_size s.heap rfl) he).here (q _ kp)
end DL
end L2

set_option maxRecDepth 100000
set_option maxHeartbeats 2000000
/-! DY5: the try rule. -/
namespace L2
namespace DL
open PySem PySem.Spec PyProof.Rows
theorem suite_in {X : Cx} {pins : List (Addr × Obj)} {sg : St} {H : Hp} {s : Shared} (I : Inv X pins sg H s) (a : Addr) : Inv (X.suite a (X.pn ++ pins)) [] sg H s :=
  ⟨I.ok.suite _ _, I.os, I.bare, I.base, I.loc, I.cell, I.free, I.freeC, fun p hp => I.pin p (by rw [List.append_nil] at hp; exact hp), I.hok, I.len⟩
theorem suite_out {X : Cx} {pins : List (Addr × Obj)} {sg : St} {H : Hp} {s : Shared} {a : Addr} (I : Inv (X.suite a (X.pn ++ pins)) [] sg H s) (ok : X.Ok) : Inv X pins sg H s :=
  ⟨ok, I.os, I.bare, I.base, I.loc, I.cell, I.free, I.freeC, fun p hp => I.pin p (by rw [List.append_nil]; exact hp), I.hok, I.len⟩
section
variable {X : Cx} {body : List Stmt} {tb : WX → TS} {x1 x2 x3 n y : Str} {c1 c2 c3 : Value} {p1 p2 p3 tpos pos pos' py pn' pa : Pos} {kk i j : Nat}
theorem ps_try_keep (hs : X.stack = X.env :: X.outer) (hf : X.env.frame = some X.env.locals) (hN : X.N.Nodup) (hi : X.N[i]? = some n) (hln : X.env.kindOf n = some .local) (hj : X.N[j]? = some y) (hly : X.env.kindOf y = some .local)
    (n1 : Gl X x1 ∧ X.mg x1 = some c1 ∧ (x1 == ("__debug__" : Str)) = false) (n2 : Gl X x2 ∧ X.mg x2 = some c2 ∧ (x2 == ("__debug__" : Str)) = false) (n3 : Gl X x3 ∧ X.mg x3 = some c3 ∧ (x3 == ("__debug__" : Str)) = false)
    (hb : ∀ (W : WX) (pn : List (Addr × Obj)) (xe : Value → Shared → Prop), Takes (X.tr pn xe) W → PassesOwn (model X.prog X.w) X.A X.env xe → PSs (X.tr pn xe) body (tb W))
    (hdn : (n == ("__debug__" : Str)) = false := by decide) (hcd : (n == ("__classdict__" : Str)) = false := by decide) (hsw : swapsWith (.Name n pn') (some (.Name y py)) pa.line X.env = pure false := by rfl) :
    PS X (.Try body [.ExceptHandler (some (.Tuple [.Name x1 p1, .Name x2 p2, .Name x3 p3] kk tpos)) (some n) [.Assign [.Name y py] (.Name n pn') pa] pos'] [] [] pos) (fun D sg H => tb (wKeep X.K [c1, c2, c3] i j D) D sg H) := by
  refine ⟨fun pins s sg H D I h => ?_⟩
  have ok := I.ok
  have hfr : X.A.frames = some (X.env :: X.outer) := by rw [ok.frames, hs]
  refine wpAny_Try_except ?_
  refine wpAny_mono ((hb (wKeep X.K [c1, c2, c3] i j D) (X.pn ++ pins) (fun e s₁ => wpAny (model X.prog X.w) X.A (noteFrame e X.env) (fun _ s₂ => wpAny (model X.prog X.w) X.A (setFlight e none) (fun _ s₃ =>
    wpAny (model X.prog X.w) X.A (handleBy e X.env [.ExceptHandler (some (.Tuple [.Name x1 p1, .Name x2 p2, .Name x3 p3] kk tpos)) (some n) [.Assign [.Name y py] (.Name n pn') pa] pos']) (SP X pins D) X.xe s₃) X.xe s₂) X.xe s₁) (fun u s' xx => ?_) PassesOwn.looking).run [] s sg H D (I.toTry _) h) (fun f s1 hsp => ?_) (fun e s1 he => he)
  · obtain ⟨a, B, sI, pins', sg', H', cls, dd, rfl, J', nb, up, sky, na, os, ag, hm, C, rfl, hq⟩ := xx
    have J : Inv X pins sg' H' sI := J'.ofTry ok
    have sky' : Sky B (X.env :: X.outer) a (Zc (.ref C) dd) X.env.locals s'.heap := by rw [← hs]; exact sky
    show wpAny (model X.prog X.w) X.A (noteFrame (.ref a) X.env) _ _ _
    refine Sky.land Zc.steady hfr hf sky' fun h3 fl3 up3 => ?_
    have J3 : Inv X pins sg' H' { s' with heap := h3 } := J.landed nb fl3.1 (up.trans up3) os ag
    obtain ⟨oe3, vs3, he3, hz3, hd3⟩ := fl3.there
    have nfr : a ∉ frs (X.env :: X.outer) := fun m => by
      obtain ⟨_, o', z, w⟩ := fl3.2.2.1.mem m
      rw [he3] at z; cases z
      exact w _ hd3
    have nL : a ≠ X.env.locals := fun z => nfr (List.mem_filterMap.mpr ⟨X.env, List.mem_cons_self, by rw [hf, z]⟩)
    have nI : sI.heap.get? a = none := by
      cases z : sI.heap.get? a with
      | none => rfl
      | some o =>
        have w := nb a o z (by rw [hs]; exact nfr)
        rw [fl3.2.1] at w; cases w
    have S3 := suite_in J3 a
    refine wpAny_handleBy_cons (codeAny_handlers_test ?_) (by intro q; cases q)
    have LT : PySem.W.Looks (model X.prog X.w) h3 (typeOf (.ref a)) (.ref C) := fun A Q E s k q => wpAny_typeOf_ref (k _ _ he3) (by rw [hz3.1]; exact q)
    refine test3 (X := X.suite a (X.pn ++ pins)) n1 n2 n3 hm S3 LT fun h4 kp => ?_
    refine codeAny_handlers_suite_as ?_
    have fl4 : HandSPX.FlyingZ B (X.env :: X.outer) a (Zc (.ref C) dd) h4 := Flying.more kp fl3
    refine HandSPX.lands_againZ fl4 fun h5 fl5 up5 => ?_
    have J5 : Inv X pins sg' H' { s' with heap := h5 } := J.landed nb fl5.1 (((up.trans up3).trans (Heap.UpToSlots.of_keeps kp)).trans up5) os ag
    obtain ⟨oe5, vs5, he5, hz5, hd5⟩ := fl5.there
    have J6 := track J J5 nI he5 hz5 hd5 na nL
    have S7 := suite_in J6 a
    refine store_ok (X := X.suite a (X.pn ++ pins)) (v := .ref a) S7 hN hi (.inl hln) rfl (fun s8 S8 => ?_) (.inr hln)
    have one : PSs (X.suite a (X.pn ++ pins)) [.Assign [.Name y py] (.Name n pn') pa] (tAsg (tVar i) (gName j)) := pss_one (ps_set (X := X.suite a (X.pn ++ pins)) hN hj (.inl hly) (pe_var (X := X.suite a (X.pn ++ pins)) hi (.inl hln) hdn hcd) hsw (.inr hly))
    have li : i < sg'.length := by
      obtain ⟨l, _⟩ := List.getElem?_eq_some_iff.mp hi
      rw [J6.len]; exact l
    refine wpAny_mono (one.run [] s8 _ _ { nx := fun s H => D.nx (s.set i none) H, rt := fun _ _ => False } S8 ⟨.ref a, by rw [List.getElem?_set_self li], ?_⟩) (fun f s9 hsp => ?_) (fun _ _ z => False.elim z)
    · exact hq a na
    · cases f with
      | next =>
        obtain ⟨sg9, H9, S9, q9⟩ := hsp
        exact gone_ok (suite_out S9 ok) hN hi hln fun s10 J10 => ⟨_, _, J10, q9⟩
      | brk =>
        obtain ⟨_, _, _, q9⟩ := hsp
        exact False.elim q9
      | cont =>
        obtain ⟨_, _, _, q9⟩ := hsp
        exact False.elim q9
      | ret u =>
        obtain ⟨_, _, _, _, _, q9⟩ := hsp
        exact False.elim q9
  · cases f with
    | next =>
      obtain ⟨sg', H', J', q⟩ := hsp
      exact wpAny_execs_nil ⟨sg', H', J'.ofTry ok, q⟩
    | brk =>
      obtain ⟨sg', H', J', q⟩ := hsp
      exact ⟨sg', H', J'.ofTry ok, q⟩
    | cont =>
      obtain ⟨sg', H', J', q⟩ := hsp
      exact ⟨sg', H', J'.ofTry ok, q⟩
    | ret u =>
      obtain ⟨v, sg', H', J', r, q⟩ := hsp
      exact ⟨v, sg', H', J'.ofTry ok, r, q⟩
end
end DL
end L2

set_option maxRecDepth 100000
set_option maxHeartbeats 2000000
/-! DY6: try: .. except (C, ..) as n: y = n, as a function of data. -/
namespace L2
namespace DL
open PySem PySem.Spec PyProof.Rows
def sTryK (cs : List Str) (i j : Nat) (S : SX) : SS := fun n env => mb (S n env) fun f => match f with
  | .ok f => mr f
  | .ex x env' => match x with
    | .exc nm _ _ => if nm ∈ cs then mr (.nx (((env'.set i none).set j (some x)).set i none)) else fun _ => none
    | _ => fun _ => none
section
variable {K : PySem.W.Frag} {nm nm' : Str} {C D : Addr} {B nId iId B' nId' iId' : String} {bm bm' : List Value}
theorem exm_own (T : XC K nm C B nId iId bm) (T' : XC K nm' D B' nId' iId' bm') (R' : ExcC K D) (hb : ∀ v ∈ bm, ∃ t, v = .type t) : PySem.W.exmOne K (.ref C) (.ref D) = some (decide (nm = nm')) := by
  obtain ⟨cd, h1, h2, h3, h4⟩ := T.cd
  obtain ⟨cd', g1, g2, g3, g4⟩ := T'.cd
  refine PySem.W.exm_ref R'.hs R'.hd g4 ?_
  show PySem.W.mroIn K C (.ref D) = _
  rw [T.mroIs, List.contains_cons]
  refine congrArg some ?_
  by_cases e : nm = nm'
  · subst e
    have : C = D := by
      have := T.gl.symm.trans T'.gl
      cases this; rfl
    subst this
    simp
  · have ne : D ≠ C := fun z => by
      subst z
      rw [h1] at g1
      cases g1
      exact e (h2.symm.trans g2)
    have n1 : (Value.ref D == Value.ref C) = false := by simpa using ne
    rw [n1, Bool.false_or, decide_eq_false e]
    refine Bool.eq_false_iff.mpr fun z => ?_
    obtain ⟨t, q⟩ := hb _ (by simpa using z)
    cases q
end
theorem types_of {l : List String} : ∀ v ∈ l.map Value.type, ∃ t, v = Value.type t := fun v m => by
  obtain ⟨t, _, z⟩ := List.mem_map.mp m
  exact ⟨t, z.symm⟩
theorem RelE.unset {K : PySem.W.Frag} {r : Rh} {H : Hp} {env : DEnv} {sg : St} (h : RelE K r H env sg) (i : Nat) (o : Option V) : RelE K r H (env.set i none) (sg.set i o) := ⟨by rw [List.length_set, List.length_set]; exact h.1, fun j y q => by
  by_cases w : i = j
  · subst w
    rw [List.getElem?_set] at q
    split at q
    · split at q <;> cases q
    · rename_i z; exact absurd rfl z
  · rw [List.getElem?_set_ne w] at q
    rw [List.getElem?_set_ne w]
    exact h.2 j y q⟩
section
variable {X : Cx} {body : List Stmt} {S : SX} {x1 x2 x3 n y : Str} {c1 c2 c3 : Addr} {p1 p2 p3 tpos pos pos' py pn' pa : Pos} {kk i j : Nat} {nms : List Str}
theorem ds_try (T : XTab X.K nms) (h1 : x1 ∈ nms) (h2 : x2 ∈ nms) (h3 : x3 ∈ nms) (hs : X.stack = X.env :: X.outer) (hf : X.env.frame = some X.env.locals) (hN : X.N.Nodup) (hi : X.N[i]? = some n) (hln : X.env.kindOf n = some .local) (hj : X.N[j]? = some y) (hly : X.env.kindOf y = some .local)
    (g1 : X.mg x1 = some (.ref c1)) (g2 : X.mg x2 = some (.ref c2)) (g3 : X.mg x3 = some (.ref c3)) (k1 : PySem.W.nsIn X.K mainGlobals x1 = some (some (.ref c1))) (k2 : PySem.W.nsIn X.K mainGlobals x2 = some (some (.ref c2))) (k3 : PySem.W.nsIn X.K mainGlobals x3 = some (some (.ref c3)))
    (hb : ∀ (W : WX) (pn : List (Addr × Obj)) (xe : Value → Shared → Prop), Takes (X.tr pn xe) W → PassesOwn (model X.prog X.w) X.A X.env xe → DXs (X.tr pn xe) W body S)
    (l1 : Gl X x1 := by rfl) (l2 : Gl X x2 := by rfl) (l3 : Gl X x3 := by rfl) (b1 : (x1 == ("__debug__" : Str)) = false := by decide) (b2 : (x2 == ("__debug__" : Str)) = false := by decide) (b3 : (x3 == ("__debug__" : Str)) = false := by decide)
    (hdn : (n == ("__debug__" : Str)) = false := by decide) (hcd : (n == ("__classdict__" : Str)) = false := by decide) (hsw : swapsWith (.Name n pn') (some (.Name y py)) pa.line X.env = pure false := by rfl) :
    DS X (.Try body [.ExceptHandler (some (.Tuple [.Name x1 p1, .Name x2 p2, .Name x3 p3] kk tpos)) (some n) [.Assign [.Name y py] (.Name n pn') pa] pos'] [] [] pos) (sTryK [x1, x2, x3] i j S) := by
  refine ps_imp (ps_try_keep (tb := fun W => tSX X.K W S) hs hf hN hi hln hj hly ⟨l1, g1, b1⟩ ⟨l2, g2, b2⟩ ⟨l3, g3, b3⟩ (fun W pn xe tk po => (hb W pn xe tk po).ps) hdn hcd hsw) ?_
  rintro D sg H ⟨r0, H0, r, env, W, x0, hE, hw, f, W', e, q⟩
  obtain ⟨g, W1, e1, e⟩ := mb_inv e
  refine ⟨r0, H0, r, env, W, x0, hE, hw, g, W1, e1, fun r1 H1 z1 w1 => ?_⟩
  cases g with
  | ok g =>
    obtain ⟨rfl, rfl⟩ := mr_inv e
    exact q r1 H1 z1 w1
  | ex x env' =>
    intro cls dd sg' rx hE'
    obtain ⟨nm, fs, xs, C, rfl, gl, rfl, hd⟩ := rx
    have e' : (if nm ∈ [x1, x2, x3] then mr (Fl.nx (((env'.set i none).set j (some (.exc nm fs xs))).set i none)) else fun _ => none) W1 = some (f, W') := e
    split at e'
    · rename_i hn
      obtain ⟨rfl, ew⟩ := mr_inv e'
      subst ew
      have inn : nm ∈ nms := by
        simp only [List.mem_cons, List.not_mem_nil, or_false] at hn
        rcases hn with rfl | rfl | rfl
        · exact h1
        · exact h2
        · exact h3
      obtain ⟨C', B, nId, iId, T1, R1, _⟩ := T nm inn
      have ec : C' = C := by
        have := T1.gl.symm.trans gl
        cases this; rfl
      subst ec
      have word : ∀ {xk : Str} {ck : Addr}, xk ∈ nms → PySem.W.nsIn X.K mainGlobals xk = some (some (.ref ck)) → PySem.W.exmOne X.K (.ref C') (.ref ck) = some (decide (nm = xk)) := fun {xk ck} m kk => by
        obtain ⟨D, B2, nId2, iId2, T2, R2, _⟩ := T xk m
        have ed : D = ck := by
          have := T2.gl.symm.trans kk
          cases this; rfl
        subst ed
        exact exm_own T1 T2 R2 types_of
      refine ⟨?_, C', rfl, fun a na => ?_⟩
      · have a1 := word h1 k1
        have a2 := word h2 k2
        have a3 := word h3 k3
        unfold PySem.W.exmAny PySem.W.exmAny PySem.W.exmAny PySem.W.exmAny
        rw [a1, a2, a3]
        simp only [List.mem_cons, List.not_mem_nil, or_false] at hn
        have : (decide (nm = x1) || (decide (nm = x2) || (decide (nm = x3) || false))) = true := by
          rcases hn with h | h | h <;> simp [h]
        rw [← this]
      · have ex : Ext r1 H1 r1 (upd H1 a (exv a C' dd)) := Ext.laid na
        have w2 : Hw X.K r1 (upd H1 a (exv a C' dd)) _ := w1.laid na
        have oa := w1.fresh na
        have rv : Rv X.K r1 (upd H1 a (exv a C' dd)) (.exc nm fs xs) (.ref a) := by
          rcases hd with ⟨rfl, rfl, rfl⟩ | ⟨d, vs, rfl, od, hx, hl, rs⟩
          · exact .exc0 gl oa upd_same
          · exact .excD gl oa upd_same od (by rw [upd_ne (ne_of_none hx na)]; exact hx) hl (rs.ext ex)
        exact q r1 _ (z1.trans ex) w2 _ ((((hE'.ext ex).unset i (some (.ref a))).set rv).unset i none)
    · cases e'
end
end DL
end L2

set_option maxRecDepth 100000
set_option maxHeartbeats 2000000
/-! DZ1: texts: split, join, int of a text, str of a text. -/
namespace L2
namespace DL
open PySem PySem.Spec PyProof.Rows
/-- a.m(b), a a text -/
def eM (G : DV → DV → M DV) (F F' : ES) : ES := fun env => mb (F env) fun x => match x with
  | .str a => mb (F' env) fun y => G (.str a) y
  | _ => fun _ => none
theorem of_m1 {K : PySem.W.Frag} {rr : V → List V → Hp → VK → Prop} {G : DV → DV → M DV} {F F' : ES}
    (g : ∀ r H W (a : Str) y z W' w Q, Hw K r H W → G (.str a) y W = some (z, W') → Rv K r H y w → (∀ r' H' u, Ext r H r' H' → Hw K r' H' W' → Rv K r' H' z u → Q u H') → rr (.str a) [w] H Q) :
    ∀ sg H Q, tX K (eM G F F') sg H Q → tM1 rr (tX K F) (tX K F') sg H Q := by
  rintro sg H Q ⟨r, env, W, he, hw, z, W', e, q⟩
  obtain ⟨x, W1, e1, e⟩ := mb_inv e
  refine ⟨r, env, W, he, hw, x, W1, e1, fun r1 H1 v x1 w1 rx => ?_⟩
  split at e
  · rename_i a
    obtain rfl := rx.str_inv
    obtain ⟨y, W2, e2, e⟩ := mb_inv e
    refine ⟨⟨a, rfl⟩, r1, env, W1, he.ext x1, w1, y, W2, e2, fun r2 H2 w x2 w2 ry => ?_⟩
    exact g r2 H2 W2 a y z W' w Q w2 e ry fun r3 H3 u x3 w3 rz => q r3 H3 u ((x1.trans x2).trans x3) w3 rz
  · cases e
theorem rvs_strs {K : PySem.W.Frag} {r : Rh} {H : Hp} : ∀ ys : List Str, Rvs K r H (ys.map DV.str) (ys.map V.str)
  | [] => .nil
  | y :: ys => .cons (.str y) (rvs_strs ys)
def oSplit : DV → DV → M DV := fun x y W => match x, y with
  | .str a, .str b => if (b.length == 0) = false ∧ a.length + 2 ≤ sizeLine then some (.lst ((Txt.split a b).map .str), W) else none
  | _, _ => none
def strsOf : List DV → Option (List Str)
  | [] => some []
  | .str s :: xs => (strsOf xs).map fun ys => s :: ys
  | _ => none
theorem strs_inv : ∀ {xs : List DV} {ys : List Str}, strsOf xs = some ys → xs = ys.map DV.str
  | [], _, e => by cases e; rfl
  | x :: xs, ys, e => by
    cases x with
    | str t =>
      obtain ⟨zs, e1, rfl⟩ := Option.map_eq_some_iff.mp (show (strsOf xs).map (fun ys => t :: ys) = some ys from e)
      rw [strs_inv e1]; rfl
    | _ => exact nomatch (show (none : Option (List Str)) = some ys from e)
def oJoin : DV → DV → M DV := fun x y W => match x, y with
  | .str a, .lst xs => (strsOf xs).bind fun ys => if (ys.map (·.length)).sum + ys.length * a.length ≤ 16777216 then some (.str (Txt.join a ys), W) else none
  | _, _ => none
theorem rvs_strs_inv {K : PySem.W.Frag} {r : Rh} {H : Hp} : ∀ {ys : List Str} {vs : List V}, Rvs K r H (ys.map DV.str) vs → vs = ys.map V.str
  | [], _, .nil => rfl
  | y :: ys, _, .cons h t => by
    obtain rfl := h.str_inv
    rw [rvs_strs_inv t]; rfl
section
variable {X : Cx} {o e : Expr} {F F' : ES} {apos pos : Pos}
theorem de_split (ho : DE X o F) (he : DE X e F') (hs : starEach [e] X.env = [(false, eval e X.env)] := by rfl) (hbase : attributeBase o "split" X.env (eval o X.env) = eval o X.env := by rfl) (hline : (apos.endLine == pos.line) = true := by rfl) :
    DE X (.Call (.Attribute o "split" apos) [e] [] pos) (eM oSplit F F') := by
  refine pe_imp (pe_split ho he hs hbase hline) (of_m1 ?_)
  intro r H W a y z W' w Q hw e ry q
  cases y with
  | str b =>
    have e' : (if (b.length == 0) = false ∧ a.length + 2 ≤ sizeLine then some (DV.lst ((Txt.split a b).map .str), W) else none) = some (z, W') := e
    split at e'
    · rename_i c
      cases e'
      obtain rfl := ry.str_inv
      exact ⟨_, _, rfl, rfl, c.1, c.2, fun p hp => q r (upd H p _) (.ref p) (Ext.laid hp) (hw.laid hp) (.lst (hw.fresh hp) upd_same (rvs_strs _))⟩
    · cases e'
  | _ => exact nomatch (show (none : Option (DV × Wd)) = some (z, W') from e)
theorem de_join (ho : DE X o F) (he : DE X e F') (hs : starEach [e] X.env = [(false, eval e X.env)] := by rfl) (hbase : attributeBase o "join" X.env (eval o X.env) = eval o X.env := by rfl) (hline : (apos.endLine == pos.line) = true := by rfl) :
    DE X (.Call (.Attribute o "join" apos) [e] [] pos) (eM oJoin F F') := by
  refine pe_imp (pe_join ho he hs hbase hline) (of_m1 ?_)
  intro r H W a y z W' w Q hw e ry q
  cases y with
  | lst xs =>
    obtain ⟨ys, e1, e'⟩ := Option.bind_eq_some_iff.mp (show (strsOf xs).bind (fun ys => if (ys.map (·.length)).sum + ys.length * a.length ≤ 16777216 then some (DV.str (Txt.join a ys), W) else none) = some (z, W') from e)
    split at e'
    · rename_i c
      cases e'
      have ex := strs_inv e1
      subst ex
      cases ry with
      | lst n h t =>
        have ev := rvs_strs_inv t
        subst ev
        exact ⟨_, _, ys, rfl, rfl, .inl (.of h), c, q r H _ (Ext.refl _ _) hw (.str _)⟩
    · cases e'
  | _ => exact nomatch (show (none : Option (DV × Wd)) = some (z, W') from e)
end
/-- int(x), x a number, a truth or a text of figures -/
def kIntS : List DV → M DV := fun xs W => match xs with
  | [.str a] => if a.length ≤ 640 then (PySem.intText? a).map fun n => (.int n, W) else none
  | _ => kInt xs W
def kStrS : List DV → M DV := fun xs W => match xs with
  | [.str a] => some (.str a, W)
  | _ => kStrI xs W
end DL
end L2

set_option maxRecDepth 100000
set_option maxHeartbeats 2000000
/-! DZ2: int and str of texts, list * n. -/
namespace L2
namespace DL
open PySem PySem.Spec PyProof.Rows
theorem one_str (xs : List DV) : (∃ a, xs = [.str a]) ∨ ∀ a, xs ≠ [.str a] := by
  by_cases h : ∃ a, xs = [.str a]
  · exact .inl h
  · exact .inr fun a e => h ⟨a, e⟩
theorem b_intS {X : Cx} : BR X (.type "int") kIntS := by
  obtain ⟨rc, h1, h2⟩ := (b_int (X := X)).ex
  refine ⟨_, CallR.or h1 call_int_str, ?_⟩
  intro r H W xs z W' vs Q hw e rs q
  rcases one_str xs with ⟨a, rfl⟩ | hn
  · have e' : (if a.length ≤ 640 then (PySem.intText? a).map (fun n => (DV.int n, W)) else none) = some (z, W') := e
    split at e'
    · rename_i l
      obtain ⟨n, e1, e2⟩ := Option.map_eq_some_iff.mp e'
      cases e2
      obtain ⟨v, rfl, rx⟩ := rs.one
      obtain rfl := rx.str_inv
      exact .inr ⟨a, n, rfl, e1, l, done0 hw (.int _) q⟩
    · cases e'
  · have e' : kInt xs W = some (z, W') := by
      unfold kIntS at e
      split at e
      · rename_i a; exact absurd rfl (hn a)
      · exact e
    exact .inl (h2 r H W xs z W' vs Q hw e' rs q)
theorem b_strS {X : Cx} : BR X (.type "str") kStrS := by
  obtain ⟨rc, h1, h2⟩ := (b_strI (X := X)).ex
  refine ⟨_, CallR.or h1 SkE.call_str_str, ?_⟩
  intro r H W xs z W' vs Q hw e rs q
  rcases one_str xs with ⟨a, rfl⟩ | hn
  · cases (show some (DV.str a, W) = some (z, W') from e)
    obtain ⟨v, rfl, rx⟩ := rs.one
    obtain rfl := rx.str_inv
    exact .inr ⟨a, rfl, done0 hw (.str _) q⟩
  · have e' : kStrI xs W = some (z, W') := by
      unfold kStrS at e
      split at e
      · rename_i a; exact absurd rfl (hn a)
      · exact e
    exact .inl (h2 r H W xs z W' vs Q hw e' rs q)
end DL
end L2

set_option maxRecDepth 100000
set_option maxHeartbeats 2000000
/-! DZ3: list * n; a split whose list is changed later. -/
namespace L2
namespace DL
open PySem PySem.Spec PyProof.Rows
theorem Rvs.rep {K : PySem.W.Frag} {r : Rh} {H : Hp} {xs : List DV} {vs : List V} (h : Rvs K r H xs vs) : ∀ k : Nat, Rvs K r H (List.replicate k xs).flatten (List.replicate k vs).flatten
  | 0 => .nil
  | k + 1 => by
    rw [List.replicate_succ, List.replicate_succ, List.flatten_cons, List.flatten_cons]
    exact h.append (Rvs.rep h k)
def oRep : DV → DV → M DV := fun x y W => match x, y with
  | .lst xs, .int k => if -(2 ^ 63) ≤ k ∧ k < 2 ^ 63 ∧ xs.length * k.toNat ≤ sizeLine then some (.lst (List.replicate k.toNat xs).flatten, W) else none
  | _, _ => none
theorem od_rep {K : PySem.W.Frag} : OpD K rRep oRep := by
  intro r H W x y z W' v w Q hw e rx ry q
  cases x with
  | lst xs =>
    cases y with
    | int k =>
      have e' : (if -(2 ^ 63) ≤ k ∧ k < 2 ^ 63 ∧ xs.length * k.toNat ≤ sizeLine then some (DV.lst (List.replicate k.toNat xs).flatten, W) else none) = some (z, W') := e
      split at e'
      · rename_i c
        cases e'
        obtain rfl := ry.int_inv
        cases rx with
        | @lst a vs _ n h t =>
          exact ⟨a, k, vs, rfl, rfl, h, c.1, c.2.1, by rw [← t.length]; exact c.2.2, fun p hp => q r (upd H p _) (.ref p) (Ext.laid hp) (hw.laid hp) (.lst (hw.fresh hp) upd_same ((t.rep _).ext (Ext.laid hp)))⟩
      · cases e'
    | _ => exact nomatch (show (none : Option (DV × Wd)) = some (z, W') from e)
  | _ => exact nomatch (show (none : Option (DV × Wd)) = some (z, W') from e)
section
variable {X : Cx} {a b o e : Expr} {F F' : ES} {apos pos : Pos}
theorem de_rep (ha : DE X a F) (hb : DE X b F') : DE X (.BinOp a .Mult b pos) (eO oRep F F') := de_op op_rep od_rep ha hb
/-- the list is a cell -/
def oSplitC : DV → DV → M DV := fun x y W => match x, y with
  | .str a, .str b => if (b.length == 0) = false ∧ a.length + 2 ≤ sizeLine then some (.loc W.length, W ++ [.lst ((Txt.split a b).map .str)]) else none
  | _, _ => none
theorem de_splitC (ho : DE X o F) (he : DE X e F') (hs : starEach [e] X.env = [(false, eval e X.env)] := by rfl) (hbase : attributeBase o "split" X.env (eval o X.env) = eval o X.env := by rfl) (hline : (apos.endLine == pos.line) = true := by rfl) :
    DE X (.Call (.Attribute o "split" apos) [e] [] pos) (eM oSplitC F F') := by
  refine pe_imp (pe_split ho he hs hbase hline) (of_m1 ?_)
  intro r H W a y z W' w Q hw e ry q
  cases y with
  | str b =>
    have e' : (if (b.length == 0) = false ∧ a.length + 2 ≤ sizeLine then some (DV.loc W.length, W ++ [.lst ((Txt.split a b).map .str)]) else none) = some (z, W') := e
    split at e'
    · rename_i c
      cases e'
      obtain rfl := ry.str_inv
      refine ⟨_, _, rfl, rfl, c.1, c.2, fun p hp => ?_⟩
      obtain ⟨ex, w2⟩ := hw.cell (o := .lst ((Txt.split a b).map V.str)) (c := .lst ((Txt.split a b).map DV.str)) hp (fun z => by cases z) ⟨_, upd_same, rvs_strs _⟩
      refine q _ _ (.ref p) ex w2 (.loc ?_)
      show (r.rho ++ [some p])[W.length]? = _
      rw [← hw.len, List.getElem?_append_right (Nat.le_refl _)]
      simp
    · cases e'
  | _ => exact nomatch (show (none : Option (DV × Wd)) = some (z, W') from e)
end
end DL
end L2

set_option maxRecDepth 100000
/-! DZ4: what may raise, where it does not. -/
namespace L2
namespace DL
open PySem PySem.Spec PyProof.Rows
def xNo (F : EX) : ES := fun env => mb (F env) fun z => match z with
  | .inl x => mr x
  | .inr _ => fun _ => none
theorem takes_no {X : Cx} : Takes X (fun _ _ _ _ => False) := takes_none5
theorem de_no {X : Cx} {e : Expr} {F : EX} (h : DEX X (fun _ _ _ _ => False) e F) : DE X e (xNo F) := by
  refine pe_imp h.pe ?_
  rintro sg H Q ⟨r, env, W, hE, hw, x, W', e, q⟩
  obtain ⟨z, W1, e1, e⟩ := mb_inv e
  cases z with
  | inl y =>
    obtain ⟨rfl, ew⟩ := mr_inv e
    subst ew
    exact ⟨r, env, W, hE, hw, .inl _, _, e1, fun r1 H1 x1 w1 v rv => q r1 H1 v x1 w1 rv⟩
  | inr y => exact nomatch (show (none : Option (DV × Wd)) = some (x, W') from e)
end DL
end L2

set_option maxRecDepth 100000
set_option maxHeartbeats 2000000
/-! DZ5: zip over lists, tuples and texts in any mixture. -/
namespace ZX
open PySem PySem.Spec PyProof.Rows L2
open PySem.Sem (wp)
theorem Draws.to {prog : Program} {w : PySem.World} {A : Around} {it : Addr} {fp : List Addr} {n m : Nat} {P P' : Nat → Value → Prop} {St : Nat → Heap → Prop} (D : Draws prog w A it fp n P St) (hn : n = m) (h : ∀ i v, i < n → P i v → P' i v) : Draws prog w A it fp m P' St := by
  subst hn
  exact ⟨D.live, D.frame, fun i s Q E hi st hQ => D.item i s Q E hi st fun x h' tk px => hQ x h' tk (h i x hi px), D.done⟩
theorem vals_back : ∀ {xs : List V} {us : List Value} {i : Nat} {u : Value}, Vals xs us → us[i]? = some u → ∃ x, xs[i]? = some x ∧ RelV x u
  | _, _, _, _, .nil, e => by simp at e
  | _, _, 0, _, .cons r _, e => by simp at e; subst e; exact ⟨_, rfl, r⟩
  | _, _, i + 1, u, .cons _ t, e => by
    obtain ⟨x, h1, h2⟩ := vals_back (i := i) (u := u) t (by simpa using e)
    exact ⟨x, by simpa using h1, h2⟩
/-- one part of a zip: its iterator at it, what it reads at l -/
structure Src (P : Program) (w : PySem.World) (K : PySem.W.Frag) (it : Addr) (l : List Addr) (val : Hp → List V → Prop) (st : Nat → Heap → Prop) : Prop where
  obj : ∀ i h, st i h → ∃ o, h.get? it = some o ∧ ∀ v, o.data ≠ .cell v
  keep : ∀ i h h', st i h → (∀ o, h.get? it = some o → h'.get? it = some o) → st i h'
  inj : ∀ (X : Cx) (pins : List (Addr × Obj)) (s : Shared) (σ : L2.St) (H : Hp) (xs ys : List V), X.K = K → Inv X pins σ H s → val H xs → val H ys → xs = ys
  draw : ∀ (X : Cx), X.prog = P → X.w = w → X.K = K → X.calm = true → ∀ (pins : List (Addr × Obj)) (s : Shared) (σ : L2.St) (H : Hp) (xs : List V), Inv X pins σ H s → val H xs →
    ∃ St, Draws P w X.A.in1 it (it :: l) xs.length (fun i v => ∃ x, xs[i]? = some x ∧ RelV x v) St ∧ (∀ i, st i s.heap → St i s.heap) ∧ ∀ i h, St i h → st i h
  stop : ∀ (X : Cx), X.prog = P → X.w = w → X.K = K → X.calm = true → ∀ (pins : List (Addr × Obj)) (s : Shared) (σ : L2.St) (H : Hp) (xs : List V), Inv X pins σ H s → val H xs → ∀ i, xs.length ≤ i → st i s.heap →
    ∃ St, Draws P w X.A.in1 it (it :: l) i (fun _ _ => False) St ∧ St i s.heap
section
variable {P : Program} {w : PySem.World} {K : PySem.W.Frag}
theorem src_list (it a : Addr) (hne : a ≠ it) : Src P w K it [a] (fun H xs => SqL K H a xs) (fun i h => h.IsListIter it a i) where
  obj := fun i h st => by
    obtain ⟨o, e, _, d⟩ := st
    exact ⟨o, e, fun v q => by rw [d] at q; cases q⟩
  keep := fun i h h' st k => st.at fun o q => k o q
  inj := fun X pins s σ H xs ys hK I h1 h2 => by subst hK; exact I.list_inj h1 h2
  draw := fun X hP hw hK hc pins s σ H xs I h => by
    subst hP hw hK
    obtain ⟨its, rv, p, _⟩ := I.list h
    refine ⟨_, Draws.to (Draws.list (show X.A.in1.handled = none from I.ok.hd hc) it a hne its.toArray) (by rw [rv.length]; simp) (fun i v _ e => vals_back rv (by simpa using e)), fun i st => ⟨st, p.isList⟩, fun i h st => st.1⟩
  stop := fun X hP hw hK hc pins s σ H xs I h i hi st => by
    subst hP hw hK
    obtain ⟨its, rv, p, _⟩ := I.list h
    refine ⟨fun j h => j = i ∧ h.IsListIter it a i ∧ h.IsList a its.toArray, ⟨fun j h z => let ⟨o, ho, _⟩ := z.2.1; ⟨o, ho⟩, fun j h h' z hk => ⟨z.1, z.2.1.at fun o e => hk it (by simp) o e, z.2.2.at fun o e => hk a (by simp) o e⟩, fun j s Q E hj z hQ => ?_, fun s Q E z hE => ?_⟩, rfl, st, p.isList⟩
    · have := z.1; omega
    · exact wpAny_nextOf_list_end (show X.A.in1.handled = none from I.ok.hd hc) z.2.1 z.2.2 (by have := rv.length; simp; omega) hE
theorem src_tup (it a : Addr) (hne : a ≠ it) : Src P w K it [a] (fun H xs => SqT K H a xs) (fun i h => h.IsTupleIter it a i) where
  obj := fun i h st => by
    obtain ⟨o, e, _, d⟩ := st
    exact ⟨o, e, fun v q => by rw [d] at q; cases q⟩
  keep := fun i h h' st k => st.at fun o q => k o q
  inj := fun X pins s σ H xs ys hK I h1 h2 => by subst hK; exact I.tuple_inj h1 h2
  draw := fun X hP hw hK hc pins s σ H xs I h => by
    subst hP hw hK
    obtain ⟨its, rv, p, _⟩ := I.tuple h
    refine ⟨_, Draws.to (Draws.tuple (show X.A.in1.handled = none from I.ok.hd hc) it a hne its.toArray) (by rw [rv.length]; simp) (fun i v _ e => vals_back rv (by simpa using e)), fun i st => ⟨st, p⟩, fun i h st => st.1⟩
  stop := fun X hP hw hK hc pins s σ H xs I h i hi st => by
    subst hP hw hK
    obtain ⟨its, rv, p, _⟩ := I.tuple h
    refine ⟨fun j h => j = i ∧ h.IsTupleIter it a i ∧ h.IsTuple a its.toArray, ⟨fun j h z => let ⟨o, ho, _⟩ := z.2.1; ⟨o, ho⟩, fun j h h' z hk => ⟨z.1, z.2.1.at fun o e => hk it (by simp) o e, z.2.2.at fun o e => hk a (by simp) o e⟩, fun j s Q E hj z hQ => ?_, fun s Q E z hE => ?_⟩, rfl, st, p⟩
    · have := z.1; omega
    · exact RZ.nextOf_tuple_end (show X.A.in1.handled = none from I.ok.hd hc) z.2.1 z.2.2 (by have := rv.length; simp; omega) hE
def sgs (x : Str) : List V := x.cps.toList.map fun c => V.str ⟨#[c]⟩
theorem src_str (it : Addr) (x : Str) (t : Tok) : Src P w K it [] (fun _ xs => xs = sgs x) (fun i h => h.IsStrIter it (strIterType x) x t i) where
  obj := fun i h st => by
    obtain ⟨o, e, _, d⟩ := st
    exact ⟨o, e, fun v q => by rw [d] at q; cases q⟩
  keep := fun i h h' st k => let ⟨o, ho, r⟩ := st; ⟨o, k o ho, r⟩
  inj := fun X pins s σ H xs ys hK I h1 h2 => by subst h1; exact h2.symm
  draw := fun X hP hw hK hc pins s σ H xs I h => by
    subst hP hw hK h
    refine ⟨_, Draws.to (Draws.text (show X.A.in1.handled = none from I.ok.hd hc) it x t) (by unfold sgs; simp) (fun i v _ e => ?_), fun i st => st, fun i h st => st⟩
    obtain ⟨c, u, e1, rfl⟩ := e
    refine ⟨.str ⟨#[c]⟩, ?_, u, rfl⟩
    unfold sgs
    rw [List.getElem?_map, Array.getElem?_toList, e1]; rfl
  stop := fun X hP hw hK hc pins s σ H xs I h i hi st => by
    subst hP hw hK h
    have hi' : x.cps[i]? = none := by
      unfold sgs at hi
      simp at hi
      simp; exact hi
    refine ⟨fun j h => j = i ∧ h.IsStrIter it (strIterType x) x t i, ⟨fun j h z => let ⟨o, ho, _⟩ := z.2; ⟨o, ho⟩, fun j h h' z hk => ⟨z.1, let ⟨o, ho, r⟩ := z.2; ⟨o, hk it (by simp) o ho, r⟩⟩, fun j s Q E hj z hQ => ?_, fun s Q E z hE => ?_⟩, rfl, st⟩
    · have := z.1; omega
    · have z2 := z.2
      cases ha : x.cps.all (· < 128)
      · simp only [strIterType, ha, Bool.false_eq_true, if_false] at z2
        exact wpAny_nextOf_wide_end (show X.A.in1.handled = none from I.ok.hd hc) z2 hi' hE
      · simp only [strIterType, ha, if_true] at z2
        exact wpAny_nextOf_ascii_end (show X.A.in1.handled = none from I.ok.hd hc) z2 hi' hE
/-- the pairs of two parts -/
def ItG (v1 v2 : Hp → List V → Prop) : It :=
  ⟨fun i H => ∃ (xs ys : List V) (x y : V), v1 H xs ∧ v2 H ys ∧ xs[i]? = some x ∧ ys[i]? = some y,
    fun i H v H' => ∃ T x y, v = .ref T ∧ H T = none ∧ H' = upd H T (.tup [x, y]) ∧ (∀ xs, v1 H xs → xs[i]? = some x) ∧ ∀ ys, v2 H ys → ys[i]? = some y,
    fun i H => ∃ xs ys : List V, v1 H xs ∧ v2 H ys ∧ (xs.length ≤ i ∨ ys.length ≤ i)⟩
theorem turn_zipG {elts : List Expr} {kk : Nat} {tpos : Pos} {z TI TO i1 i2 : Addr} {l1 l2 : List Addr} {v1 v2 : Hp → List V → Prop} {st1 st2 : Nat → Heap → Prop} (D : ZipSep2 z TI TO i1 i2 (i1 :: l1) (i2 :: l2)) (S1 : Src P w K i1 l1 v1 st1) (S2 : Src P w K i2 l2 v2 st2) :
    Turn P w K (.Tuple elts kk tpos) (ItG v1 v2) [z, TI, TO, i1, i2] z (fun i h => IsZip h z TI TO .none ∧ IsTupOf2 h TI (.ref i1) (.ref i2) ∧ (∃ x y, IsTupOf2 h TO x y) ∧ st1 i h ∧ st2 i h) where
  mem := by simp
  obj := fun i h st c hc => by
    obtain ⟨hz, hTI, ⟨x, y, hTO⟩, h1, h2⟩ := st
    have e' : c = z ∨ c = TI ∨ c = TO ∨ c = i1 ∨ c = i2 := by simpa using hc
    rcases e' with q | q | q | q | q
    · rw [q]; exact ⟨_, hz, fun v q => nomatch q⟩
    · rw [q]; exact ⟨_, hTI, fun v q => nomatch q⟩
    · rw [q]; exact ⟨_, hTO, fun v q => nomatch q⟩
    · rw [q]; exact S1.obj i h h1
    · rw [q]; exact S2.obj i h h2
  keep := fun i h h' st k => by
    obtain ⟨hz, hTI, ⟨x, y, hTO⟩, h1, h2⟩ := st
    exact ⟨k z (by simp) _ hz, k TI (by simp) _ hTI, ⟨x, y, k TO (by simp) _ hTO⟩, S1.keep i h h' h1 (fun o q => k i1 (by simp) o q), S2.keep i h h' h2 (fun o q => k i2 (by simp) o q)⟩
  item := by
    intro X hP hw hK hc i pins s σ H E I hf st hg
    obtain ⟨hz, hTI, ⟨x0, y0, hTO⟩, h1, h2⟩ := st
    obtain ⟨xs, ys, x, y, hqx, hqy, hx, hy⟩ := hg
    obtain ⟨St1, D1, a1, b1⟩ := S1.draw X hP hw hK hc pins s σ H xs I hqx
    obtain ⟨St2, D2, a2, b2⟩ := S2.draw X hP hw hK hc pins s σ H ys I hqy
    have hzl : z < s.heap.objs.size := Heap.lt_size hz
    have hl1 : i1 < s.heap.objs.size := by obtain ⟨_, e1, _⟩ := S1.obj i _ h1; exact Heap.lt_size e1
    have hl2 : i2 < s.heap.objs.size := by obtain ⟨_, e2, _⟩ := S2.obj i _ h2; exact Heap.lt_size e2
    have lx := (List.getElem?_eq_some_iff.mp hx).1
    have ly := (List.getElem?_eq_some_iff.mp hy).1
    refine wpAny_pyNext_zipD2_item D D1 D2 hz hTI hTO (a1 i h1) (a2 i h2) lx ly fun u u2 h' tk y1 y2 z' TO' h1' h2' hT hsz hk => ?_
    obtain ⟨x', ex, ru⟩ := y1
    obtain ⟨y', ey, ru2⟩ := y2
    rw [hx] at ex; cases ex
    rw [hy] at ey; cases ey
    refine ⟨_, rfl, wpAny_letOwnedTupleGo_zip (s := { s with heap := h', toks := tk }) z' fun h'' z'' sb => ?_⟩
    have hT2 : h''.get? s.heap.objs.size = some { cls := .type "tuple", data := .seq #[u, u2] } := (sb.2 _ (Nat.ne_of_gt hzl)).trans hT
    have new : ObjOk X.prog X.w (upd H s.heap.objs.size (.tup [x, y])) h'' s.heap.objs.size (.tup [x, y]) :=
      ⟨by show 2 ≤ sizeLine; decide, [u, u2], .cons ru (.cons ru2 .nil), ⟨_, hT2, rfl, _, rfl⟩⟩
    have I1 : Inv X pins σ (upd H s.heap.objs.size (.tup [x, y])) { s with heap := h'', toks := tk } :=
      I.turnedNew (t' := tk) (ch := [z, TI, TO, i1, i2]) (fun c o hb q => (sb.2 c (fun q' => hb (by simp [q']))).trans (hk c o (fun q' => hb (by simp [q'])) (fun q' => hb (by simp [q'])) (fun q' => hb (by simp [q'])) (fun q' => hb (by simp [q'])) q)) hf (Nat.le_refl _) new
    refine ⟨.ref s.heap.objs.size, _, I1, rfl, ⟨_, x, y, rfl, I.hok.fresh (Nat.le_refl _), rfl, fun l hl => by rw [S1.inj X pins s σ H l xs hK I hl hqx]; exact hx, fun l hl => by rw [S2.inj X pins s σ H l ys hK I hl hqy]; exact hy⟩, ⟨z'', ?_, ⟨u, u2, ?_⟩, ?_, ?_⟩, fun c hcm => ?_⟩
    · exact (sb.2 _ D.TIz).trans (hk _ _ D.TIz D.TITO D.TIi1 D.TIi2 hTI)
    · exact (sb.2 _ D.TOz).trans TO'
    · exact S1.keep _ _ _ (b1 _ _ h1') fun o q => (sb.2 _ D.zi1.symm).trans q
    · exact S2.keep _ _ _ (b2 _ _ h2') fun o q => (sb.2 _ D.zi2.symm).trans q
    · have hlt : c < s.heap.objs.size := by
        have e' : c = z ∨ c = TI ∨ c = TO ∨ c = i1 ∨ c = i2 := by simpa using hcm
        rcases e' with q | q | q | q | q
        · rw [q]; exact hzl
        · rw [q]; exact Heap.lt_size hTI
        · rw [q]; exact Heap.lt_size hTO
        · rw [q]; exact hl1
        · rw [q]; exact hl2
      rw [upd_ne (Nat.ne_of_lt hlt)]
      exact (hf c hcm).1
  done := by
    intro X hP hw hK hc i pins s σ H E I hf st hg
    obtain ⟨hz, hTI, ⟨x0, y0, hTO⟩, h1, h2⟩ := st
    obtain ⟨xs, ys, hqx, hqy, hend⟩ := hg
    have ans : ∀ (h' : Heap) (tk : Tok), (∀ c o, c ≠ z → c ≠ TO → c ≠ i1 → c ≠ i2 → s.heap.get? c = some o → h'.get? c = some o) → (none : Option Value) = none ∧ Inv X pins σ H { s with heap := h', toks := tk } := fun h' tk hk =>
      ⟨rfl, I.turnedL (t' := tk) (ch := [z, TI, TO, i1, i2]) (fun c o hb q => hk c o (fun q' => hb (by simp [q'])) (fun q' => hb (by simp [q'])) (fun q' => hb (by simp [q'])) (fun q' => hb (by simp [q'])) q) hf⟩
    subst hP hw
    by_cases e1 : xs.length ≤ i
    · obtain ⟨St1, D1, b1⟩ := S1.stop X rfl rfl hK hc pins s σ H xs I hqx i e1 h1
      by_cases e2 : ys.length ≤ i
      · obtain ⟨St2, D2, b2⟩ := S2.stop X rfl rfl hK hc pins s σ H ys I hqy i e2 h2
        exact wpAny_pyNext_zipD2_end D D1 D2 hz hTI hTO b1 b2 (Nat.le_refl _) (Nat.le_refl _) (.inl rfl) ans
      · obtain ⟨St2, D2, a2, _⟩ := S2.draw X rfl rfl hK hc pins s σ H ys I hqy
        exact wpAny_pyNext_zipD2_end D D1 D2 hz hTI hTO b1 (a2 i h2) (Nat.le_refl _) (by omega) (.inl rfl) ans
    · obtain ⟨St1, D1, a1, _⟩ := S1.draw X rfl rfl hK hc pins s σ H xs I hqx
      have e2 : ys.length ≤ i := by rcases hend with h | h; exact absurd h e1; exact h
      obtain ⟨St2, D2, b2⟩ := S2.stop X rfl rfl hK hc pins s σ H ys I hqy i e2 h2
      exact wpAny_pyNext_zipD2_end D D1 D2 hz hTI hTO (a1 i h1) b2 (by omega) (Nat.le_refl _) (.inr rfl) ans
  self := fun A i s Q E st h => wpAny_pyIter_zip st.1 h
end
/-! ### the making of it -/
abbrev zg2 (h : Heap) (o1 o2 : Obj) : Heap := (h.push o1).push o2
abbrev zg3 (h : Heap) (o1 o2 : Obj) : Heap := (zg2 h o1 o2).push { cls := .type "tuple", data := .seq #[.ref h.objs.size, .ref (h.push o1).objs.size] }
abbrev zg4 (h : Heap) (o1 o2 : Obj) : Heap := (zg3 h o1 o2).push { cls := .type "tuple", data := .seq #[.none, .none] }
abbrev zg5 (h : Heap) (o1 o2 : Obj) : Heap := (zg4 h o1 o2).push { cls := .type "zip", data := .fields #[.none, .bool false, .bool false, .ref (zg2 h o1 o2).objs.size, .ref (zg3 h o1 o2).objs.size] }
/-- iter(v) lays o -/
abbrev Itr1 (v : Value) (o : Obj) (C : Heap → Prop) : Prop := ∀ {prog : Program} {w : PySem.World} {A : Around} {E : Value → Shared → Prop} {s : Shared} {Q : Value → Shared → Prop}, C s.heap → Q (.ref s.heap.objs.size) { s with heap := s.heap.push o } → wpAny (model prog w) A (pyIter v) Q E s
theorem meets_zipG_new (u1 u2 : Value) (o1 o2 : Obj) (C1 C2 : Heap → Prop) (i1 : Itr1 u1 o1 C1) (i2 : Itr1 u2 o2 C2) :
    Meets (Builtin.«zip.__new__» ⟨[.type "zip", u1, u2], []⟩) (fun _ R s => C1 s.heap ∧ C2 (s.heap.push o1) ∧
      R (.ok (.ret (.ref (zg4 s.heap o1 o2).objs.size))) { s with heap := zg5 s.heap o1 o2 }) :=
  .of_wp fun prog w A R s h => by
    obtain ⟨hp, g, d, tk, os⟩ := s; obtain ⟨hl1, hl2, h⟩ := h
    have hsub := sub_zip
    have hL1 : C1 (Shared.heap ⟨hp, g, d, tk, os⟩) := hl1
    have hL2 : C2 (Shared.heap ⟨hp.push o1, g, d, tk, os⟩) := hl2
    wp_walk using i1 hL1, i2 hL2
    exact ⟨_, rfl, h⟩
section
variable {prog : Program} {w : PySem.World} {A : Around} {E : Value → Shared → Prop} {s : Shared}
theorem call_zipG {u1 u2 : Value} {o1 o2 : Obj} {C1 C2 : Heap → Prop} {Q : Value → Shared → Prop} (i1 : Itr1 u1 o1 C1) (i2 : Itr1 u2 o2 C2) (hl1 : C1 s.heap) (hl2 : C2 (s.heap.push o1)) (f1 : o1.isFreed = false) (f2 : o2.isFreed = false)
    (h : ∀ h', IsZip h' (s.heap.objs.size + 4) (s.heap.objs.size + 2) (s.heap.objs.size + 3) .none → IsTupOf2 h' (s.heap.objs.size + 2) (.ref s.heap.objs.size) (.ref (s.heap.objs.size + 1)) →
      IsTupOf2 h' (s.heap.objs.size + 3) .none .none → h'.get? s.heap.objs.size = some o1 → h'.get? (s.heap.objs.size + 1) = some o2 → h'.objs.size = s.heap.objs.size + 5 →
      (∀ c o, s.heap.get? c = some o → h'.get? c = some o) → Q (.ref (s.heap.objs.size + 4)) { s with heap := h' }) :
    wpAny (model prog w) A (call (.type "zip") [u1, u2]) Q E s := by
  refine callType_new F.called_zip (by decide) (F.typeCall_zip_2 _ _) (F.newCall_zip_2 _ _) (fun obj => F.args_object_init_3 obj _ _) F.entry_zip_new
    (meets_zipG_new u1 u2 o1 o2 C1 C2 i1 i2) ⟨hl1, hl2, ?_⟩
  have z1 : (s.heap.push o1).objs.size = s.heap.objs.size + 1 := Heap.size_push ..
  have z2 : (zg2 s.heap o1 o2).objs.size = s.heap.objs.size + 2 := by rw [Heap.size_push, z1]
  have z3 : (zg3 s.heap o1 o2).objs.size = s.heap.objs.size + 3 := by rw [Heap.size_push, z2]
  have z4 : (zg4 s.heap o1 o2).objs.size = s.heap.objs.size + 4 := by rw [Heap.size_push, z3]
  have z5 : (zg5 s.heap o1 o2).objs.size = s.heap.objs.size + 5 := by rw [Heap.size_push, z4]
  have g5 : (zg5 s.heap o1 o2).get? (zg4 s.heap o1 o2).objs.size = some _ := Heap.get?_push_size _ rfl
  have g4 : (zg5 s.heap o1 o2).get? (zg3 s.heap o1 o2).objs.size = some _ := Heap.get?_push_of_some _ (Heap.get?_push_size _ rfl)
  have g3 : (zg5 s.heap o1 o2).get? (zg2 s.heap o1 o2).objs.size = some _ := Heap.get?_push_of_some _ (Heap.get?_push_of_some _ (Heap.get?_push_size _ rfl))
  have g2 : (zg5 s.heap o1 o2).get? (s.heap.push o1).objs.size = some o2 := Heap.get?_push_of_some _ (Heap.get?_push_of_some _ (Heap.get?_push_of_some _ (Heap.get?_push_size _ f2)))
  have g1 : (zg5 s.heap o1 o2).get? s.heap.objs.size = some o1 := Heap.get?_push_of_some _ (Heap.get?_push_of_some _ (Heap.get?_push_of_some _ (Heap.get?_push_of_some _ (Heap.get?_push_size _ f1))))
  show _ ∧ _
  rw [z2, z3, z4] at g5
  rw [z1, z2] at g3
  rw [z3] at g4
  rw [z1] at g2
  rw [z4]
  exact ⟨⟨_, g5, rfl⟩, h _ g5 g3 g4 g1 g2 z5 fun c o x =>
    Heap.get?_push_of_some _ (Heap.get?_push_of_some _ (Heap.get?_push_of_some _ (Heap.get?_push_of_some _ (Heap.get?_push_of_some _ x))))⟩
end
theorem sep_new {n : Addr} {l1 l2 : List Addr} (h1 : ∀ b ∈ l1, b < n) (h2 : ∀ b ∈ l2, b < n) : ZipSep2 (n + 4) (n + 2) (n + 3) n (n + 1) (n :: l1) ((n + 1) :: l2) where
  TIz := Nat.ne_of_lt (Nat.add_lt_add_left (by decide) n)
  TOz := Nat.ne_of_lt (Nat.add_lt_add_left (by decide) n)
  TITO := Nat.ne_of_lt (Nat.add_lt_add_left (by decide) n)
  TIi1 := Nat.ne_of_gt (Nat.lt_add_of_pos_right (by decide))
  mem1 := List.mem_cons_self
  zf1 := fun m => by
    rcases List.mem_cons.mp m with e | e
    · exact Nat.ne_of_gt (Nat.lt_add_of_pos_right (by decide)) e
    · exact Nat.not_lt.mpr (Nat.le_add_right n 4) (h1 _ e)
  Tf1 := fun m => by
    rcases List.mem_cons.mp m with e | e
    · exact Nat.ne_of_gt (Nat.lt_add_of_pos_right (by decide)) e
    · exact Nat.not_lt.mpr (Nat.le_add_right n 3) (h1 _ e)
  TIi2 := Nat.ne_of_gt (Nat.add_lt_add_left (by decide) n)
  mem2 := List.mem_cons_self
  zf2 := fun m => by
    rcases List.mem_cons.mp m with e | e
    · exact Nat.ne_of_gt (Nat.add_lt_add_left (by decide) n) e
    · exact Nat.not_lt.mpr (Nat.le_add_right n 4) (h2 _ e)
  Tf2 := fun m => by
    rcases List.mem_cons.mp m with e | e
    · exact Nat.ne_of_gt (Nat.add_lt_add_left (by decide) n) e
    · exact Nat.not_lt.mpr (Nat.le_add_right n 3) (h2 _ e)
  sep1_2 := fun m => by
    rcases List.mem_cons.mp m with e | e
    · exact Nat.ne_of_lt (Nat.lt_add_of_pos_right (by decide)) e
    · exact Nat.lt_irrefl _ (h2 _ e)
  sep2_1 := fun m => by
    rcases List.mem_cons.mp m with e | e
    · exact Nat.ne_of_gt (Nat.lt_add_of_pos_right (by decide)) e
    · exact Nat.not_lt.mpr (Nat.le_add_right n 1) (h1 _ e)
/-- what may stand in a zip -/
inductive Part (K : PySem.W.Frag) (H : Hp) : V → (Hp → List V → Prop) → Prop
  | lst {a : Addr} {xs : List V} : SqL K H a xs → Part K H (.ref a) (fun H xs => SqL K H a xs)
  | tup {a : Addr} {xs : List V} : SqT K H a xs → Part K H (.ref a) (fun H xs => SqT K H a xs)
  | str (x : Str) : Part K H (.str x) (fun _ xs => xs = sgs x)
theorem Part.made {X : Cx} {pins : List (Addr × Obj)} {s : Shared} {σ : L2.St} {H : Hp} {v : V} {u : Value} {val : Hp → List V → Prop} (I : Inv X pins σ H s) (rv : RelV v u) (p : Part X.K H v val) :
    ∃ (o : Obj) (C : Heap → Prop) (l : List Addr) (st : Addr → Nat → Heap → Prop), Itr1 u o C ∧ C s.heap ∧ (∀ o', C (s.heap.push o')) ∧ o.isFreed = false ∧ (∀ b ∈ l, b < s.heap.objs.size) ∧ (∀ it, (∀ b ∈ l, b ≠ it) → Src X.prog X.w X.K it l val (st it)) ∧ ∀ it h, h.get? it = some o → st it 0 h := by
  cases p with
  | @lst a xs h =>
    obtain rfl : u = Value.ref a := rv
    obtain ⟨its, r, p, _⟩ := I.list h
    refine ⟨_, fun hp => hp.IsList a its.toArray, [a], fun it i h => h.IsListIter it a i, fun {prog w A E s Q} c q => wpAny_pyIter_list c q, p.isList, fun o' => p.isList.push _, rfl, fun b m => ?_, fun it ne => src_list it a (ne a (by simp)), fun it h e => ⟨_, e, rfl, rfl⟩⟩
    obtain rfl := List.mem_singleton.mp m
    exact p.lt
  | @tup a xs h =>
    obtain rfl : u = Value.ref a := rv
    obtain ⟨its, r, p, _⟩ := I.tuple h
    have p' : s.heap.IsTuple a its.toArray := p
    refine ⟨_, fun hp => hp.IsTuple a its.toArray, [a], fun it i h => h.IsTupleIter it a i, fun {prog w A E s Q} c q => wpAny_pyIter_tuple c q, p', fun o' => Heap.IsTuple.push p' _, rfl, fun b m => ?_, fun it ne => src_tup it a (ne a (by simp)), fun it h e => ⟨_, e, rfl, rfl⟩⟩
    obtain rfl := List.mem_singleton.mp m
    obtain ⟨o, ho, _⟩ := p'
    exact Heap.lt_size ho
  | str x =>
    obtain ⟨t, rfl⟩ : ∃ t, u = Value.str x t := rv
    exact ⟨_, fun _ => True, [], fun it i h => h.IsStrIter it (strIterType x) x t i, fun {prog w A E s Q} _ q => wpAny_pyIter_strU q, trivial, fun _ => trivial, rfl, fun b m => (by cases m), fun it _ => src_str it x t, fun it h e => ⟨_, e, rfl, rfl⟩⟩
def iZipG (K : PySem.W.Frag) (ta : TA) : TI := fun σ H R => ta σ H fun vs H1 => ∃ x y v1 v2, vs = [x, y] ∧ Part K H1 x v1 ∧ Part K H1 y v2 ∧ R (ItG v1 v2) H1
theorem pi_zipG {X : Cx} {e e2 : Expr} {ta : TA} {p pos tpos : Pos} {elts : List Expr} {kk : Nat} (hg : Gl X "zip") (hm : X.mg "zip" = none) (ha : PA X [e, e2] ta)
    (hs : starEach [e, e2] X.env = (false, eval e X.env) :: starEach [e2] X.env := by rfl) (hpl : (backTo pos (starEach [e2] X.env)).any (·.1) = false := by rfl) :
    PI X (.Tuple elts kk tpos) (.Call (.Name "zip" p) [e, e2] [] pos) (iZipG X.K ta) := by
  refine ⟨fun pins s σ H R I h => ?_⟩
  refine Call_ (ld_blt I hg hm PyProof.Rows.boot_zip (PyProof.Rows.callWith_type1 (thn (ha.run pos pins s σ H _ I h) fun us s1 ⟨vs, H1, I1, r1, q1⟩ => ?_) hs hpl))
  obtain ⟨a, b, v1, v2, ex, p1, p2, q⟩ := q1
  subst ex
  cases r1 with
  | cons r rr =>
    cases rr with
    | cons r' rr =>
      cases rr
      have fresh5 : ∀ c, c ∈ [s1.heap.objs.size + 4, s1.heap.objs.size + 2, s1.heap.objs.size + 3, s1.heap.objs.size, s1.heap.objs.size + 1] → FpOk X pins H1 c := fun c hcm => by
        have e' : c = s1.heap.objs.size + 4 ∨ c = s1.heap.objs.size + 2 ∨ c = s1.heap.objs.size + 3 ∨ c = s1.heap.objs.size ∨ c = s1.heap.objs.size + 1 := by simpa using hcm
        have hle : s1.heap.objs.size ≤ c := by
          rcases e' with z | z | z | z | z
          · rw [z]; exact Nat.le_add_right _ _
          · rw [z]; exact Nat.le_add_right _ _
          · rw [z]; exact Nat.le_add_right _ _
          · rw [z]; exact Nat.le_refl _
          · rw [z]; exact Nat.le_add_right _ _
        exact I1.fpOk hle (I1.hok.fresh hle)
      obtain ⟨o1, C1, l1, st1, i1, c1, d1, f1, b1, s1', t1⟩ := p1.made I1 r
      obtain ⟨o2, C2, l2, st2, i2, c2, d2, f2, b2, s2', t2⟩ := p2.made I1 r'
      refine call_zipG i1 i2 c1 (d2 o1) f1 f2 fun h' hz hTI hTO h1 h2 hsz hk => wpAny_pyIter_zip hz ?_
      have I2 : Inv X pins σ H1 { s1 with heap := h' } := I1.kept (t' := s1.toks) hk
      exact ⟨s1.heap.objs.size + 4, [s1.heap.objs.size + 4, s1.heap.objs.size + 2, s1.heap.objs.size + 3, s1.heap.objs.size, s1.heap.objs.size + 1], _, _, H1, rfl, I2,
        turn_zipG (sep_new b1 b2) (s1' _ fun b m => Nat.ne_of_lt (b1 b m)) (s2' _ fun b m => Nat.ne_of_lt (Nat.lt_succ_of_lt (b2 b m))), ⟨hz, hTI, ⟨_, _, hTO⟩, t1 _ _ h1, t2 _ _ h2⟩, fresh5, q⟩
end ZX
namespace L2
namespace DL
open PySem PySem.Spec PyProof.Rows
/-- what a part of a zip tells -/
def partOf : DV → Option (List DV)
  | .lst xs => some xs
  | .tup xs => some xs
  | .str s => some (signs s)
  | .scr ns => some (ns.map .int)
  | _ => none
def zgK (zs : List DV) : M (List DV) := match zs with
  | [x, y] => fun W => (partOf x).bind fun xs => (partOf y).bind fun ys => some (pairUp xs ys, W)
  | _ => fun _ => none
def iZG (A : EA) : IS := fun env => mb (A env) zgK
theorem zg_inv {zs : List DV} {W : Wd} {z : List DV × Wd} (h : zgK zs W = some z) : ∃ x y xs ys, zs = [x, y] ∧ partOf x = some xs ∧ partOf y = some ys ∧ mr (pairUp xs ys) W = some z := by
  match zs, h with
  | [x, y], h =>
    obtain ⟨xs, e1, h⟩ := Option.bind_eq_some_iff.mp (show (partOf x).bind _ = some z from h)
    obtain ⟨ys, e2, h⟩ := Option.bind_eq_some_iff.mp h
    exact ⟨x, y, xs, ys, rfl, e1, e2, h⟩
theorem rvs_signs {K : PySem.W.Frag} {r : Rh} {H : Hp} (s : Str) : Rvs K r H (signs s) (ZX.sgs s) := by
  unfold signs ZX.sgs
  generalize s.cps.toList = l
  induction l with
  | nil => exact .nil
  | cons c l ih => exact .cons (.str _) ih
theorem part_rel {K : PySem.W.Frag} {r : Rh} {H : Hp} {x : DV} {v : V} {xs : List DV} (rx : Rv K r H x v) (e : partOf x = some xs) :
    ∃ val vs, ZX.Part K H v val ∧ Rvs K r H xs vs ∧ (∀ r' H', Exw r H r' H' → val H' vs) := by
  cases rx with
  | lst z h t => cases e; exact ⟨_, _, .lst (.of h), t, fun r' H' x => .of (x.keep _ _ z.1 h)⟩
  | tup h t => cases e; exact ⟨_, _, .tup h.sq, t, fun r' H' x => (h.extw x).sq⟩
  | str s => cases e; exact ⟨_, _, .str s, rvs_signs s, fun _ _ _ => rfl⟩
  | scr h => cases e; exact ⟨_, _, .lst h.sq, map_ints _, fun r' H' x => (h.extw x).sq⟩
  | _ => cases e
theorem itd_zipG {K : PySem.W.Frag} {r : Rh} {H : Hp} {v1 v2 : Hp → List V → Prop} {xs ys : List DV} {vs us : List V} (h1 : ∀ r' H', Exw r H r' H' → v1 H' vs) (h2 : ∀ r' H', Exw r H r' H' → v2 H' us) (r1 : Rvs K r H xs vs) (r2 : Rvs K r H ys us) : ItD K (pairUp xs ys) r H (ZX.ItG v1 v2) := fun r3 H3 W3 e w =>
  ⟨fun i x ex => by
    obtain ⟨y, z, e1, e2, rfl⟩ := pairUp_get ex
    obtain ⟨v, ev, rv⟩ := r1.get e1
    obtain ⟨u, eu, ru⟩ := r2.get e2
    refine ⟨⟨vs, us, v, u, h1 _ _ e, h2 _ _ e, ev, eu⟩, fun t H4 y => ?_⟩
    obtain ⟨T, v', u', rfl, hT, rfl, k1, k2⟩ := y
    have k1 := k1 _ (h1 _ _ e)
    have k2 := k2 _ (h2 _ _ e)
    rw [ev] at k1; cases k1
    rw [eu] at k2; cases k2
    exact ⟨same_laid hT, Rv.newTup w (.cons (rv.extw e) (.cons (ru.extw e) .nil)) hT⟩,
  fun i l => ⟨vs, us, h1 _ _ e, h2 _ _ e, by
    rcases pairUp_len l with q | q
    · exact .inl (by rw [← r1.length]; exact q)
    · exact .inr (by rw [← r2.length]; exact q)⟩⟩
section
variable {X : Cx} {a b : Expr} {A : EA} {p pos tpos : Pos} {elts : List Expr} {kk : Nat}
theorem di_zipG (hg : Gl X "zip") (hm : X.mg "zip" = none) (ha : DA X [a, b] A)
    (hs : starEach [a, b] X.env = (false, eval a X.env) :: starEach [b] X.env := by rfl) (hpl : (backTo pos (starEach [b] X.env)).any (·.1) = false := by rfl) : DI X (.Tuple elts kk tpos) (.Call (.Name "zip" p) [a, b] [] pos) (iZG A) := by
  refine pi_imp (ZX.pi_zipG hg hm ha hs hpl) ?_
  rintro sg H R ⟨r, env, W, hE, hw, ys, W', e, q⟩
  obtain ⟨xs, W1, e1, e⟩ := mb_inv e
  refine ⟨r, env, W, hE, hw, xs, W1, e1, fun r1 H1 vs x1 w1 rs => ?_⟩
  obtain ⟨x, y, xs', ys', rfl, ex, ey, e⟩ := zg_inv e
  obtain ⟨rfl, rfl⟩ := mr_inv e
  obtain ⟨v, u, rfl, rx, ry⟩ := rs.two
  obtain ⟨val1, vs1, p1, t1, g1⟩ := part_rel rx ex
  obtain ⟨val2, vs2, p2, t2, g2⟩ := part_rel ry ey
  exact ⟨v, u, val1, val2, rfl, p1, p2, q r1 H1 _ x1 w1 (itd_zipG g1 g2 t1 t2)⟩
end
end DL
end L2

set_option maxRecDepth 100000
set_option maxHeartbeats 2000000
/-! DZ6: alternatives; dict cells with ints and texts as keys; dicts of the module. -/
namespace L2
namespace DL
open PySem PySem.Spec PyProof.Rows
/-! ### one way or another -/
def mAlt {α : Type} (m m' : M α) : M α := fun W => match m W with
  | some z => some z
  | none => m' W
theorem mAlt_inv {α : Type} {m m' : M α} {W : Wd} {z : α × Wd} (h : mAlt m m' W = some z) : m W = some z ∨ m' W = some z := by
  unfold mAlt at h
  split at h
  · rename_i y e; exact .inl (e.trans h)
  · exact .inr h
def eAlt (F F' : ES) : ES := fun env => mAlt (F env) (F' env)
def iAlt (F F' : IS) : IS := fun env => mAlt (F env) (F' env)
section
variable {X : Cx} {e tg l : Expr} {F F' : ES} {I I' : IS}
theorem de_alt (h : DE X e F) (h' : DE X e F') : DE X e (eAlt F F') := ⟨fun pins s σ H Q J w => by
  obtain ⟨r, env, W, hE, hw, z, W', e, q⟩ := w
  rcases mAlt_inv e with e | e
  · exact h.run pins s σ H Q J ⟨r, env, W, hE, hw, z, W', e, q⟩
  · exact h'.run pins s σ H Q J ⟨r, env, W, hE, hw, z, W', e, q⟩⟩
theorem di_alt (h : DI X tg l I) (h' : DI X tg l I') : DI X tg l (iAlt I I') := ⟨fun pins s σ H Q J w => by
  obtain ⟨r, env, W, hE, hw, z, W', e, q⟩ := w
  rcases mAlt_inv e with e | e
  · exact h.run pins s σ H Q J ⟨r, env, W, hE, hw, z, W', e, q⟩
  · exact h'.run pins s σ H Q J ⟨r, env, W, hE, hw, z, W', e, q⟩⟩
/-- a list, a tuple or a text -/
def iAny (F : ES) : IS := fun env => mb (F env) fun x => mo (partOf x)
theorem di_any (h : DE X l F) : DI X tg l (iAny F) := by
  refine pi_imp (di_alt (di_list h) (di_alt (di_tup h) (di_str h))) ?_
  rintro sg H Q ⟨r, env, W, hE, hw, z, W', e, q⟩
  refine ⟨r, env, W, hE, hw, z, W', ?_, q⟩
  obtain ⟨x, W1, e1, e2⟩ := mb_inv e
  obtain ⟨e3, rfl⟩ := mo_inv e2
  have hD : iD F env W = (match x with | .lst xs => mr xs | .scr ns => mr (ns.map DV.int) | _ => fun _ => none) W' := by
    show mb (F env) _ W = _
    unfold mb; rw [e1]; all_goals (cases x <;> rfl)
  have hT : iT F env W = (match x with | .tup xs => mr xs | _ => fun _ => none) W' := by
    show mb (F env) _ W = _
    unfold mb; rw [e1]; all_goals (cases x <;> rfl)
  have hS : iS F env W = (match x with | .str s => mr (signs s) | _ => fun _ => none) W' := by
    show mb (F env) _ W = _
    unfold mb; rw [e1]; all_goals (cases x <;> rfl)
  show mAlt (iD F env) (mAlt (iT F env) (iS F env)) W = _
  unfold mAlt
  cases x with
  | lst xs => cases e3; rw [hD]; rfl
  | scr ns => cases e3; rw [hD]; rfl
  | tup xs => cases e3; rw [hD, hT]; rfl
  | str s => cases e3; rw [hD, hT, hS]; rfl
  | _ => cases e3
end
/-! ### what was hidden becomes a cell -/
section
variable {K : PySem.W.Frag} {rho : List (Option Addr)} {hid : List Addr} {H : Hp} {p : Addr} {W : Wd}
theorem out_reveal {a : Addr} (z : (⟨rho, p :: hid⟩ : Rh).out a) : (⟨rho ++ [some p], hid⟩ : Rh).out a := ⟨fun m => by
  rcases List.mem_append.mp m with m | m
  · exact z.1 m
  · have := List.mem_singleton.mp m
    cases this
    exact z.2 List.mem_cons_self, fun m => z.2 (List.mem_cons_of_mem _ m)⟩
mutual
theorem Rv.reveal : ∀ {x : DV} {v : V}, Rv K ⟨rho, p :: hid⟩ H x v → Rv K ⟨rho ++ [some p], hid⟩ H x v
  | _, _, .non => .non
  | _, _, .bl b => .bl b
  | _, _, .int i => .int i
  | _, _, .str s => .str s
  | _, _, .cst v => .cst v
  | _, _, .loc h => .loc (by
      obtain ⟨l, _⟩ := List.getElem?_eq_some_iff.mp h
      show (rho ++ [some p])[_]? = _
      rw [List.getElem?_append_left l]; exact h)
  | _, _, .scr h => .scr (by
      rcases h with ⟨z, h⟩ | h
      · exact .inl ⟨out_reveal z, h⟩
      · exact .inr h)
  | _, _, .tup h q => .tup (by
      rcases h with ⟨z, h⟩ | h
      · exact .inl ⟨out_reveal z, h⟩
      · exact .inr h) (Rvs.reveal q)
  | _, _, .lst z h q => .lst (out_reveal z) h (Rvs.reveal q)
  | _, _, .gl c => .gl c
  | _, _, .exc0 c z h => .exc0 c (out_reveal z) h
  | _, _, .excD c z h y g l q => .excD c (out_reveal z) h (out_reveal y) g l (Rvs.reveal q)
theorem Rvs.reveal : ∀ {xs : List DV} {vs : List V}, Rvs K ⟨rho, p :: hid⟩ H xs vs → Rvs K ⟨rho ++ [some p], hid⟩ H xs vs
  | _, _, .nil => .nil
  | _, _, .cons h q => .cons (Rv.reveal h) (Rvs.reveal q)
end
theorem Hw.reveal {c : Cell} (h : Hw K ⟨rho, p :: hid⟩ H W) (np' : p ∉ hid) (hc : CellOk K ⟨rho ++ [some p], hid⟩ H p c) : Hw K ⟨rho ++ [some p], hid⟩ H (W ++ [c]) := by
  have np : some p ∉ rho := h.hidnot
  have hl : rho.length = W.length := h.len
  have last : ∀ (i : Nat) (x : Option Addr), ¬ i < rho.length → (rho ++ [some p])[i]? = some x → i = rho.length ∧ x = some p := fun i x hi q => by
    obtain ⟨l, _⟩ := List.getElem?_eq_some_iff.mp q
    have i0 : i = rho.length := by rw [List.length_append] at l; simp at l; omega
    subst i0
    rw [List.getElem?_append_right (Nat.le_refl _)] at q
    simp at q
    exact ⟨rfl, q.symm⟩
  refine ⟨?_, ?_, ?_, ?_, ?_, ?_⟩
  · show (rho ++ [some p]).length = _
    rw [List.length_append, List.length_append, hl]; rfl
  · intro i j a e1 e2
    by_cases hi : i < rho.length
    · have e1' : rho[i]? = some (some a) := by rw [← List.getElem?_append_left hi (l₂ := [some p])]; exact e1
      by_cases hj : j < rho.length
      · have e2' : rho[j]? = some (some a) := by rw [← List.getElem?_append_left hj (l₂ := [some p])]; exact e2
        exact h.nd i j a e1' e2'
      · obtain ⟨_, z⟩ := last j _ hj e2
        cases z
        exact absurd (mem_of e1') np
    · obtain ⟨i0, z⟩ := last i _ hi e1
      cases z
      by_cases hj : j < rho.length
      · have e2' : rho[j]? = some (some p) := by rw [← List.getElem?_append_left hj (l₂ := [some p])]; exact e2
        exact absurd (mem_of e2') np
      · obtain ⟨j0, _⟩ := last j _ hj e2
        rw [i0, j0]
  · intro i a d e1 e2
    by_cases hi : i < rho.length
    · have e1' : rho[i]? = some (some a) := by rw [← List.getElem?_append_left hi (l₂ := [some p])]; exact e1
      rw [List.getElem?_append_left (by rw [← hl]; exact hi)] at e2
      obtain ⟨vs, o, q, b, z⟩ := CellOk.iff.mp (h.ok i a d e1' e2)
      exact CellOk.iff.mpr ⟨vs, o, q, b, z.reveal⟩
    · obtain ⟨i0, z⟩ := last i _ hi e1
      cases z
      subst i0
      rw [hl, List.getElem?_append_right (Nat.le_refl _)] at e2
      simp at e2
      subst e2
      exact hc
  · intro i d e2 nd
    by_cases hi : i < W.length
    · rw [List.getElem?_append_left hi] at e2
      obtain ⟨a, q⟩ := h.live i d e2 nd
      have q' : rho[i]? = some (some a) := q
      exact ⟨a, by show (rho ++ [some p])[i]? = _; rw [List.getElem?_append_left (by rw [hl]; exact hi)]; exact q'⟩
    · obtain ⟨l, _⟩ := List.getElem?_eq_some_iff.mp e2
      have i0 : i = W.length := by rw [List.length_append] at l; simp at l; omega
      subst i0
      exact ⟨p, by show (rho ++ [some p])[W.length]? = _; rw [← hl, List.getElem?_append_right (Nat.le_refl _)]; simp⟩
  · intro a m
    exact h.hd a (List.mem_cons_of_mem _ m)
  · intro a m
    rcases List.mem_append.mp m with m | m
    · exact fun z => h.sep a m (List.mem_cons_of_mem _ z)
    · have z := List.mem_singleton.mp m
      cases z
      exact np'
end
/-! ### dict cells -/
abbrev KR (K : PySem.W.Frag) (r : Rh) (H : Hp) : List (Key × DV) → List (Key × V) → Prop := Paired fun a b => a.1 = b.1 ∧ Rv K r H a.2 b.2
theorem kr_of {K : PySem.W.Frag} {r : Rh} {H : Hp} : ∀ {kvs : List (Key × DV)} {vs : List V}, Rvs K r H (kvs.map (·.2)) vs → KR K r H kvs ((kvs.map (·.1)).zip vs)
  | [], _, .nil => .nil
  | _ :: _, _, .cons h t => .cons ⟨rfl, h⟩ (kr_of t)
theorem kr_to {K : PySem.W.Frag} {r : Rh} {H : Hp} : ∀ {kvs : List (Key × DV)} {ws : List (Key × V)}, KR K r H kvs ws → ∃ vs, ws = (kvs.map (·.1)).zip vs ∧ Rvs K r H (kvs.map (·.2)) vs
  | _, _, .nil => ⟨[], rfl, .nil⟩
  | (k, x) :: kvs, (k', v) :: ws, .cons h t => by
    obtain ⟨vs, e, q⟩ := kr_to t
    obtain ⟨h1, h2⟩ := h
    have h1' : k = k' := h1
    subst h1'
    exact ⟨v :: vs, by rw [e]; rfl, .cons h2 q⟩
theorem dk_iff {K : PySem.W.Frag} {r : Rh} {H : Hp} {a : Addr} {kvs : List (Key × DV)} : CellOk K r H a (.dK kvs) ↔ ∃ ws, H a = some (.dK ws) ∧ KR K r H kvs ws :=
  ⟨fun ⟨vs, o, h, e, q⟩ => ⟨_, h.trans (congrArg some e), kr_of q⟩, fun ⟨ws, h, q⟩ => by
    obtain ⟨vs, e, q'⟩ := kr_to q
    exact ⟨vs, _, h, by rw [e]; rfl, q'⟩⟩
theorem KR.length {K : PySem.W.Frag} {r : Rh} {H : Hp} : ∀ {kvs : List (Key × DV)} {ws : List (Key × V)}, KR K r H kvs ws → kvs.length = ws.length
  | _, _, .nil => rfl
  | _, _, .cons _ t => congrArg (· + 1) (KR.length t)
theorem KR.ext {K : PySem.W.Frag} {r r' : Rh} {H H' : Hp} (e : Ext r H r' H') : ∀ {kvs : List (Key × DV)} {ws : List (Key × V)}, KR K r H kvs ws → KR K r' H' kvs ws
  | _, _, .nil => .nil
  | _, _, .cons h t => .cons ⟨h.1, h.2.ext e⟩ (KR.ext e t)
def valD {κ : Type} [DecidableEq κ] (kvs : List (κ × DV)) (k : κ) : Option DV := (kvs.find? fun kv => decide (kv.1 = k)).map (·.2)
def putD {κ : Type} [DecidableEq κ] (kvs : List (κ × DV)) (k : κ) (v : DV) : List (κ × DV) :=
  if (kvs.any fun kv => decide (kv.1 = k)) = true then kvs.map (fun kv => if kv.1 = k then (kv.1, v) else kv) else kvs ++ [(k, v)]
def mergeD {κ : Type} [DecidableEq κ] (kvs more : List (κ × DV)) : List (κ × DV) := more.foldl (fun acc kv => putD acc kv.1 kv.2) kvs
def OptR (K : PySem.W.Frag) (r : Rh) (H : Hp) : Option DV → Option V → Prop
  | some x, some v => Rv K r H x v
  | none, none => True
  | _, _ => False
theorem KR.val {K : PySem.W.Frag} {r : Rh} {H : Hp} (k : Key) : ∀ {kvs : List (Key × DV)} {ws : List (Key × V)}, KR K r H kvs ws → OptR K r H (valD kvs k) (valV ws k)
  | _, _, .nil => trivial
  | (j, x) :: kvs, (j', v) :: ws, .cons h t => by
    have h1 : j = j' := h.1
    subst h1
    by_cases e : j = k
    · have a : valD ((j, x) :: kvs) k = some x := by simp [valD, List.find?_cons, e]
      rw [a, valV_pos (p := (j, v)) e]
      exact h.2
    · have a : valD ((j, x) :: kvs) k = valD kvs k := by simp [valD, List.find?_cons, e]
      rw [a, valV_neg (p := (j, v)) e]
      exact KR.val k t
theorem KR.any {K : PySem.W.Frag} {r : Rh} {H : Hp} (k : Key) : ∀ {kvs : List (Key × DV)} {ws : List (Key × V)}, KR K r H kvs ws → (kvs.any fun kv => decide (kv.1 = k)) = (ws.any fun kv => decide (kv.1 = k))
  | _, _, .nil => rfl
  | _, _, .cons h t => by rw [List.any_cons, List.any_cons, KR.any k t, h.1]
theorem KR.repl {K : PySem.W.Frag} {r : Rh} {H : Hp} (k : Key) {x : DV} {v : V} (q : Rv K r H x v) : ∀ {kvs : List (Key × DV)} {ws : List (Key × V)}, KR K r H kvs ws → KR K r H (kvs.map fun kv => if kv.1 = k then (kv.1, x) else kv) (ws.map fun kv => if kv.1 = k then (kv.1, v) else kv)
  | _, _, .nil => .nil
  | a :: _, b :: _, .cons h t => by
    rw [List.map_cons, List.map_cons]
    refine .cons ?_ (KR.repl k q t)
    by_cases e : a.1 = k
    · rw [if_pos e, if_pos (h.1.symm.trans e)]; exact ⟨h.1, q⟩
    · rw [if_neg e, if_neg (fun z => e (h.1.trans z))]; exact h
theorem KR.append {K : PySem.W.Frag} {r : Rh} {H : Hp} {k : Key} {x : DV} {v : V} (q : Rv K r H x v) : ∀ {kvs : List (Key × DV)} {ws : List (Key × V)}, KR K r H kvs ws → KR K r H (kvs ++ [(k, x)]) (ws ++ [(k, v)])
  | _, _, .nil => .cons ⟨rfl, q⟩ .nil
  | _, _, .cons h t => .cons h (KR.append q t)
theorem KR.put {K : PySem.W.Frag} {r : Rh} {H : Hp} {k : Key} {x : DV} {v : V} {kvs : List (Key × DV)} {ws : List (Key × V)} (h : KR K r H kvs ws) (q : Rv K r H x v) : KR K r H (putD kvs k x) (putK ws k v) := by
  unfold putD putK
  rw [h.any k]
  split
  · exact h.repl k q
  · exact h.append q
theorem KR.merge {K : PySem.W.Frag} {r : Rh} {H : Hp} : ∀ {more : List (Key × DV)} {ms : List (Key × V)} {kvs : List (Key × DV)} {ws : List (Key × V)}, KR K r H more ms → KR K r H kvs ws → KR K r H (mergeD kvs more) (mergeK ws ms)
  | _, _, _, _, .nil, q => q
  | _ :: _, b :: _, _, _, .cons h t, q => by
    show KR K r H (mergeD (putD _ _ _) _) (mergeK (putK _ _ _) _)
    rw [h.1]
    exact KR.merge t (q.put h.2)
/-- a key -/
def keyD : DV → Option Key
  | .int i => some (.inl i)
  | .str s => some (.inr s)
  | _ => none
theorem key_rel {K : PySem.W.Frag} {r : Rh} {H : Hp} {x : DV} {v : V} {k : Key} (h : Rv K r H x v) (e : keyD x = some k) : v = kV k := by
  cases h <;> cases e <;> rfl
def dictOf (W : Wd) : DV → Option (List (Key × DV))
  | .loc i => match W[i]? with
    | some (.dK kvs) => some kvs
    | _ => none
  | _ => none
theorem dictOf_inv {K : PySem.W.Frag} {r : Rh} {H : Hp} {W : Wd} {x : DV} {v : V} {kvs : List (Key × DV)} (hw : Hw K r H W) (rx : Rv K r H x v) (e : dictOf W x = some kvs) :
    ∃ i a ws, x = .loc i ∧ v = .ref a ∧ r.rho[i]? = some (some a) ∧ W[i]? = some (.dK kvs) ∧ H a = some (.dK ws) ∧ KR K r H kvs ws := by
  unfold dictOf at e
  split at e
  · rename_i i
    split at e
    · rename_i kvs' ex
      cases e
      obtain ⟨a, rfl, ha⟩ := loc_inv rx
      obtain ⟨ws, h1, h2⟩ := dk_iff.mp (hw.ok i a _ ha ex)
      exact ⟨i, a, ws, rfl, rfl, ha, ex, h1, h2⟩
    · cases e
  · cases e
/-- d[k], k in d, d.get(k) -/
def oDG : DV → DV → M DV := fun x y W => (dictOf W x).bind fun kvs => (keyD y).bind fun k => (valD kvs k).map fun z => (z, W)
def oDIn : DV → DV → M DV := fun y x W => (dictOf W x).bind fun kvs => (keyD y).map fun k => (.bl (valD kvs k).isSome, W)
def oDNotIn : DV → DV → M DV := fun y x W => (dictOf W x).bind fun kvs => (keyD y).map fun k => (.bl (!(valD kvs k).isSome), W)
theorem OptR.some' {K : PySem.W.Frag} {r : Rh} {H : Hp} {o : Option DV} {u : Option V} {x : DV} (h : OptR K r H o u) (e : o = some x) : ∃ v, u = some v ∧ Rv K r H x v := by
  subst e
  cases u with
  | none => exact h.elim
  | some v => exact ⟨v, rfl, h⟩
theorem OptR.isSome {K : PySem.W.Frag} {r : Rh} {H : Hp} {o : Option DV} {u : Option V} (h : OptR K r H o u) : u.isSome = o.isSome := by
  cases o with
  | none => cases u with
    | none => rfl
    | some _ => exact h.elim
  | some x => cases u with
    | none => exact h.elim
    | some _ => rfl
theorem OptR.getD {K : PySem.W.Frag} {r : Rh} {H : Hp} {o : Option DV} {u : Option V} {x : DV} {v : V} (h : OptR K r H o u) (q : Rv K r H x v) : Rv K r H (o.getD x) (u.getD v) := by
  cases o with
  | none => cases u with
    | none => exact q
    | some _ => exact h.elim
  | some x => cases u with
    | none => exact h.elim
    | some _ => exact h
section
variable {X : Cx} {o i e f : Expr} {F F' F2 : ES} {pos apos cpos : Pos} {k : Nat}
theorem de_dget (hr : Rm k X.A) (ho : DE X o F) (hi : DE X i F') (hs : NoSl i := by exact fun _ _ => rfl) : DE X (.Subscript o i pos) (eO oDG F F') := by
  refine pe_imp (pe_dget (by have := hr.1.un; omega) ho hi hs) ?_
  rintro sg H Q ⟨r, env, W, hE, hw, z, W', e, q⟩
  obtain ⟨x, W1, e1, e⟩ := mb_inv e
  obtain ⟨y, W2, e2, e⟩ := mb_inv e
  refine ⟨r, env, W, hE, hw, x, W1, e1, fun r1 H1 v x1 w1 rx => ?_⟩
  refine ⟨r1, env, W1, hE.ext x1, w1, y, W2, e2, fun r2 H2 w x2 w2 ry => ?_⟩
  obtain ⟨kvs, e3, e⟩ := Option.bind_eq_some_iff.mp e
  obtain ⟨kk, e4, e⟩ := Option.bind_eq_some_iff.mp e
  obtain ⟨u, e5, e6⟩ := Option.map_eq_some_iff.mp e
  cases e6
  obtain ⟨j, a, ws, rfl, rfl, ha, hj, hH, kr⟩ := dictOf_inv w2 (rx.ext x2) e3
  obtain rfl := key_rel ry e4
  obtain ⟨v', e7, rv⟩ := (kr.val kk).some' e5
  exact ⟨a, v', rfl, by rw [← e7]; exact .k hH, q r2 H2 _ (x1.trans x2) w2 rv⟩
theorem pe_pc {op : CmpOp} {a b : Expr} {t : TE} {pos : Pos} (h : PC X op a b t) (hm : behindInMarks op b = false) : PE X (.Compare a [op] [b] pos) t := pe_cmp h hm
def eDI (G : DV → DV → M DV) (F F' : ES) : ES := eO G F F'
theorem of_din {K : PySem.W.Frag} : ∀ sg H Q, tX K (eO oDIn F F') sg H Q → tDIn (tX K F) (tX K F') sg H Q := by
  rintro sg H Q ⟨r, env, W, hE, hw, z, W', e, q⟩
  obtain ⟨x, W1, e1, e⟩ := mb_inv e
  obtain ⟨y, W2, e2, e⟩ := mb_inv e
  refine ⟨r, env, W, hE, hw, x, W1, e1, fun r1 H1 v x1 w1 rx => ?_⟩
  refine ⟨r1, env, W1, hE.ext x1, w1, y, W2, e2, fun r2 H2 w x2 w2 ry => ?_⟩
  obtain ⟨kvs, e3, e⟩ := Option.bind_eq_some_iff.mp e
  obtain ⟨kk, e4, e6⟩ := Option.map_eq_some_iff.mp e
  cases e6
  obtain ⟨j, a, ws, rfl, rfl, ha, hj, hH, kr⟩ := dictOf_inv w2 ry e3
  obtain rfl := key_rel (rx.ext x2) e4
  refine ⟨a, _, rfl, .k hH, ?_⟩
  rw [(kr.val kk).isSome]
  exact q r2 H2 _ (x1.trans x2) w2 (.bl _)
theorem of_dnotin {K : PySem.W.Frag} : ∀ sg H Q, tX K (eO oDNotIn F F') sg H Q → tDNotIn (tX K F) (tX K F') sg H Q := by
  rintro sg H Q ⟨r, env, W, hE, hw, z, W', e, q⟩
  obtain ⟨x, W1, e1, e⟩ := mb_inv e
  obtain ⟨y, W2, e2, e⟩ := mb_inv e
  refine ⟨r, env, W, hE, hw, x, W1, e1, fun r1 H1 v x1 w1 rx => ?_⟩
  refine ⟨r1, env, W1, hE.ext x1, w1, y, W2, e2, fun r2 H2 w x2 w2 ry => ?_⟩
  obtain ⟨kvs, e3, e⟩ := Option.bind_eq_some_iff.mp e
  obtain ⟨kk, e4, e6⟩ := Option.map_eq_some_iff.mp e
  cases e6
  obtain ⟨j, a, ws, rfl, rfl, ha, hj, hH, kr⟩ := dictOf_inv w2 ry e3
  obtain rfl := key_rel (rx.ext x2) e4
  refine ⟨a, _, rfl, .k hH, ?_⟩
  rw [(kr.val kk).isSome]
  exact q r2 H2 _ (x1.trans x2) w2 (.bl _)
theorem de_din (hr : Rm k X.A) (hi : DE X i F) (ho : DE X o F') (hm : behindInMarks .In o = false := by rfl) : DE X (.Compare i [.In] [o] pos) (eO oDIn F F') := pe_imp (pe_cmp (pc_din (by have := hr.1.un; omega) hi ho) hm) of_din
theorem de_dnotin (hr : Rm k X.A) (hi : DE X i F) (ho : DE X o F') (hm : behindInMarks .NotIn o = false := by rfl) : DE X (.Compare i [.NotIn] [o] pos) (eO oDNotIn F F') := pe_imp (pe_cmp (pc_dnotin (by have := hr.1.un; omega) hi ho) hm) of_dnotin
/-- d.get(k) -/
def eG1 (F F' : ES) : ES := fun env => mb (F env) fun x => mb (fun W => (dictOf W x).map fun kvs => (kvs, W)) fun _ => mb (F' env) fun y => fun W => (dictOf W x).bind fun kvs => (keyD y).map fun k => ((valD kvs k).getD .non, W)
theorem de_dget1 (hr : Rm k X.A) (ho : DE X o F) (he : DE X e F') (m : M1 X o "get" apos e cpos := by exact ⟨rfl, rfl, rfl, rfl⟩) : DE X (.Call (.Attribute o "get" apos) [e] [] cpos) (eG1 F F') := by
  refine pe_imp (pe_dget1 (by have := hr.1.un; omega) ho he m) ?_
  rintro sg H Q ⟨r, env, W, hE, hw, z, W', e, q⟩
  obtain ⟨x, W1, e1, e⟩ := mb_inv e
  obtain ⟨_, W1', e0, e⟩ := mb_inv e
  obtain ⟨kvs0, e01, e02⟩ := Option.map_eq_some_iff.mp e0
  cases e02
  obtain ⟨y, W2, e2, e⟩ := mb_inv e
  refine ⟨r, env, W, hE, hw, x, _, e1, fun r1 H1 v x1 w1 rx => ?_⟩
  obtain ⟨j0, a0, ws0, ex0, rfl, ha0, hj0, hH0, kr0⟩ := dictOf_inv w1 rx e01
  refine ⟨a0, rfl, .inl ⟨_, .inl hH0⟩, r1, env, _, hE.ext x1, w1, y, W2, e2, fun r2 H2 w x2 w2 ry => ?_⟩
  obtain ⟨kvs, e3, e⟩ := Option.bind_eq_some_iff.mp e
  obtain ⟨kk, e4, e6⟩ := Option.map_eq_some_iff.mp e
  cases e6
  obtain ⟨j, a, ws, ex, ev, ha, hj, hH, kr⟩ := dictOf_inv w2 (rx.ext x2) e3
  cases ev
  obtain rfl := key_rel ry e4
  exact ⟨_, .k hH, q r2 H2 _ (x1.trans x2) w2 ((kr.val kk).getD .non)⟩
end
end DL
end L2

set_option maxRecDepth 100000
set_option maxHeartbeats 2000000
/-! DZ7: displays of dicts, update, dicts of the module, stars, pop, lists that are changed later. -/
namespace L2
namespace DL
open PySem PySem.Spec PyProof.Rows
/-! ### {k: v, ..} -/
inductive DPs (X : Cx) : List (Option Expr) → List Expr → List (ES × ES) → Prop
  | nil : DPs X [] [] []
  | cons {k v : Expr} {ks : List (Option Expr)} {vs : List Expr} {F F' : ES} {ps : List (ES × ES)} : DE X k F → DE X v F' → DPs X ks vs ps → DPs X (some k :: ks) (v :: vs) ((F, F') :: ps)
def pvs : List (ES × ES) → DEnv → M (List (DV × DV))
  | [], _ => mr []
  | (F, F') :: ps, env => mb (F env) fun x => mb (F' env) fun y => mb (pvs ps env) fun zs => mr ((x, y) :: zs)
theorem DPs.pps {X : Cx} {pos : Pos} : ∀ {ks : List (Option Expr)} {vs : List Expr} {ps : List (ES × ES)}, DPs X ks vs ps → PPs X pos ks vs (ps.map fun p => (tX X.K p.1, tX X.K p.2))
  | _, _, _, .nil => pps_nil
  | _, _, _, .cons h h' t => pps_cons h h' t.pps
theorem of_pvs {K : PySem.W.Frag} : ∀ (ps : List (ES × ES)) (r : Rh) (env : DEnv) (W : Wd) (sg : St) (H : Hp) (Q : List (V × V) → Hp → Prop) (zs : List (DV × DV)) (W' : Wd), RelE K r H env sg → Hw K r H W → pvs ps env W = some (zs, W') →
    (∀ r' H' us ws, Ext r H r' H' → Hw K r' H' W' → Rvs K r' H' (zs.map (·.1)) us → Rvs K r' H' (zs.map (·.2)) ws → Q (us.zip ws) H') → tPairs (ps.map fun p => (tX K p.1, tX K p.2)) sg H Q
  | [], r, env, W, sg, H, Q, zs, W', hE, hw, e, q => by
    obtain ⟨rfl, rfl⟩ := mr_inv e
    exact q r H [] [] (Ext.refl _ _) hw .nil .nil
  | (F, F') :: ps, r, env, W, sg, H, Q, zs, W', hE, hw, e, q => by
    obtain ⟨x, W1, e1, e⟩ := mb_inv e
    obtain ⟨y, W2, e2, e⟩ := mb_inv e
    obtain ⟨ts, W3, e3, e⟩ := mb_inv e
    obtain ⟨rfl, rfl⟩ := mr_inv e
    refine ⟨r, env, W, hE, hw, x, W1, e1, fun r1 H1 v x1 w1 rx => ?_⟩
    refine ⟨r1, env, W1, hE.ext x1, w1, y, W2, e2, fun r2 H2 w x2 w2 ry => ?_⟩
    refine of_pvs ps r2 env W2 sg H2 _ ts _ (hE.ext (x1.trans x2)) w2 e3 fun r3 H3 us ws x3 w3 ru rw' => ?_
    exact q r3 H3 (v :: us) (w :: ws) ((x1.trans x2).trans x3) w3 (.cons (rx.ext (x2.trans x3)) ru) (.cons (ry.ext x3) rw')
def keysD : List (DV × DV) → Option (List (Key × DV))
  | [] => some []
  | (x, y) :: zs => (keyD x).bind fun k => (keysD zs).map fun kvs => (k, y) :: kvs
theorem keysD_rel {K : PySem.W.Frag} {r : Rh} {H : Hp} : ∀ {zs : List (DV × DV)} {kvs : List (Key × DV)} {us ws : List V}, keysD zs = some kvs → Rvs K r H (zs.map (·.1)) us → Rvs K r H (zs.map (·.2)) ws →
    ∃ ms : List (Key × V), us.zip ws = ms.map (fun kv => (kV kv.1, kv.2)) ∧ KR K r H kvs ms
  | [], _, _, _, e, .nil, .nil => by cases e; exact ⟨[], rfl, .nil⟩
  | (x, y) :: zs, kvs, _, _, e, .cons h1 t1, .cons h2 t2 => by
    obtain ⟨k, e1, e2⟩ := Option.bind_eq_some_iff.mp (show (keyD x).bind _ = some kvs from e)
    obtain ⟨ts, e3, rfl⟩ := Option.map_eq_some_iff.mp e2
    obtain ⟨ms, e4, kr⟩ := keysD_rel e3 t1 t2
    obtain rfl := key_rel h1 e1
    exact ⟨(k, _) :: ms, by rw [List.zip_cons_cons, e4]; rfl, .cons ⟨rfl, h2⟩ kr⟩
/-- a new dict: a cell -/
def eDisp (ps : List (ES × ES)) : ES := fun env => mb (pvs ps env) fun zs W => (keysD zs).bind fun kvs => if kvs.length ≤ 15 then some (.loc W.length, W ++ [.dK (mergeD [] kvs)]) else none
theorem de_disp {X : Cx} {pos : Pos} {ks : List (Option Expr)} {vs : List Expr} {ps : List (ES × ES)} (h : DPs X ks vs ps) (hall : ks.all (·.isSome) = true := by rfl) (hl : ks.length = vs.length := by rfl) (h0 : ks ≠ [] := by exact fun e => nomatch e) (h15 : ks.length ≤ 15 := by decide) : DE X (.Dict ks vs pos) (eDisp ps) := by
  refine pe_imp (pe_disp h.pps hall hl h0 h15) ?_
  rintro sg H Q ⟨r, env, W, hE, hw, z, W', e, q⟩ p hp
  obtain ⟨zs, W1, e1, e⟩ := mb_inv e
  obtain ⟨kvs, e2, e3⟩ := Option.bind_eq_some_iff.mp e
  have hk : kvs.length ≤ 15 := by
    by_cases c : kvs.length ≤ 15
    · exact c
    · rw [if_neg c] at e3; cases e3
  rw [if_pos hk] at e3
  cases e3
  obtain ⟨rho, hid⟩ := r
  have npr : some p ∉ rho := hw.notin hp
  have nph : p ∉ hid := (hw.fresh hp).2
  refine of_pvs ps ⟨rho, p :: hid⟩ env W sg (upd H p (.dK [])) _ zs W1 (RelE.hide hp hE) (Hw.hide hw hp) e1 fun r2 H2 us ws x2 w2 ru rw' => ?_
  obtain ⟨rho2, hid2⟩ := r2
  obtain rfl : hid2 = p :: hid := x2.hid
  have hp2 : H2 p = some (.dK []) := x2.keep p _ npr upd_same
  obtain ⟨ms, em, kr⟩ := keysD_rel e2 ru rw'
  refine ⟨hp2, ms, em, by rw [← kr.length]; exact hk, ?_⟩
  have n2 : some p ∉ rho2 := w2.hidnot
  have w3 : Hw X.K ⟨rho2, p :: hid⟩ (upd H2 p (.dK (mergeK [] ms))) W1 := Hw.unhid w2
  have kr3 : KR X.K ⟨rho2 ++ [some p], hid⟩ (upd H2 p (.dK (mergeK [] ms))) kvs ms := by
    have : ∀ {kvs : List (Key × DV)} {ms' : List (Key × V)}, KR X.K ⟨rho2, p :: hid⟩ H2 kvs ms' → KR X.K ⟨rho2 ++ [some p], hid⟩ (upd H2 p (.dK (mergeK [] ms))) kvs ms' := by
      intro kvs ms' h
      induction h with
      | nil => exact .nil
      | cons h t ih => exact .cons ⟨h.1, (Rv.unhid (r := ⟨rho2, hid⟩) n2 h.2).reveal⟩ ih
    exact this kr
  have w4 : Hw X.K ⟨rho2 ++ [some p], hid⟩ (upd H2 p (.dK (mergeK [] ms))) (W1 ++ [.dK (mergeD [] kvs)]) := w3.reveal nph (dk_iff.mpr ⟨_, upd_same, KR.merge kr3 .nil⟩)
  refine q ⟨rho2 ++ [some p], hid⟩ _ (.ref p) ⟨rfl, fun i a hi => ?_, ?_, fun a ma na => ?_, fun a o na qa => ?_⟩ w4 (.loc ?_)
  · have h1 := x2.get i a hi
    obtain ⟨l, _⟩ := List.getElem?_eq_some_iff.mp h1
    show (rho2 ++ [some p])[i]? = _
    rw [List.getElem?_append_left l]; exact h1
  · show rho.length ≤ (rho2 ++ [some p]).length
    have := x2.len
    rw [List.length_append]
    exact Nat.le_trans this (Nat.le_add_right _ _)
  · rcases List.mem_append.mp ma with m | m
    · have z := x2.new a m na
      by_cases c : a = p
      · rw [c]; exact hp
      · rw [upd_ne c] at z; exact z
    · have := List.mem_singleton.mp m
      cases this
      exact hp
  · have ne : a ≠ p := ne_of_none qa hp
    rw [upd_ne ne]
    exact x2.keep a o na (by rw [upd_ne ne]; exact qa)
  · show (rho2 ++ [some p])[W1.length]? = _
    have hl2 : rho2.length = W1.length := w2.len
    rw [← hl2, List.getElem?_append_right (Nat.le_refl _)]
    simp
/-! ### d.update(e) -/
def rDUpd : V → List V → Hp → VK → Prop := fun x vs H Q => ∃ d o kvs more, x = .ref d ∧ vs = [.ref o] ∧ d ≠ o ∧ H d = some (.dK kvs) ∧ H o = some (.dK more) ∧ kvs.length + more.length ≤ sizeLine ∧ Q .non (upd H d (.dK (mergeK kvs more)))
theorem mt_dupd {X : Cx} : MtM X "dict.update" rDUpd := by
  intro pins s σ H x vs v us Q I rx rv h
  obtain ⟨d, o, kvs, more, rfl, rfl, ne, h1, h2, hz, q⟩ := h
  obtain rfl : v = Value.ref d := rx
  obtain ⟨u, rfl, ru⟩ := rv.one
  obtain rfl : u = Value.ref o := ru
  obtain ⟨l1, m1, ws1, k1, d1⟩ := dk_of I.hok h1
  obtain ⟨l2, m2, ws2, k2, d2⟩ := dk_of I.hok h2
  have lw1 : kvs.length = ws1.length := Paired.length k1
  have lw2 : more.length = ws2.length := Paired.length k2
  refine call_meetsIn PySem.F.slot_dict_update d1.typeIs PySem.F.entry_dict_update (PySem.F.args_dict_update_2 _ _) (meets_dict_update (mixKind X.prog X.w) d o ne m2) ⟨ws1, ws2, d1, d2, by rw [← lw1, ← lw2]; exact hz, fun h' d' _ hs => ?_⟩
  have he : ∃ q, h'.get? d = some q := let ⟨q, _, _, hq, _⟩ := d'; ⟨q, hq⟩
  exact ⟨.non, _, d_write (t' := s.toks) I (by rw [h1]; exact True.intro) hs he (dk_new (by have := length_mergeK more kvs; omega) m1 (k2.merge k1) d'), rfl, q⟩
def dUpd (x y : DV) : M DV := fun W => match x with
  | .loc i => (dictOf W (.loc i)).bind fun kvs => (dictOf W y).bind fun more => if (match y with | .loc j => decide (i ≠ j) | _ => false) = true ∧ kvs.length + more.length ≤ sizeLine then some (.non, W.set i (.dK (mergeD kvs more))) else none
  | _ => none
def dctC (x : DV) : M Unit := fun W => (dictOf W x).map fun _ => ((), W)
def eDUpd (F F' : ES) : ES := fun env => mb (F env) fun x => mb (dctC x) fun _ => mb (F' env) fun y => dUpd x y
theorem put_dict {K : PySem.W.Frag} {r : Rh} {H : Hp} {W : Wd} {i : Nat} {a : Addr} {kvs : List (Key × DV)} {ws : List (Key × V)} (hw : Hw K r H W) (hi : r.rho[i]? = some (some a)) (kr : KR K r H kvs ws) :
    Ext r H r (upd H a (.dK ws)) ∧ Hw K r (upd H a (.dK ws)) (W.set i (.dK kvs)) := by
  have m : some a ∈ r.rho := mem_of hi
  have e : Ext r H r (upd H a (.dK ws)) := ⟨rfl, fun _ _ q => q, Nat.le_refl _, fun b mb n => absurd mb n, fun b u n q => by rw [upd_ne (fun z => n (by rw [z]; exact m))]; exact q⟩
  exact hw.put hi (dk_iff.mpr ⟨ws, upd_same, kr.ext e⟩)
section
variable {X : Cx} {o a i e : Expr} {F F' : ES} {apos cpos pos : Pos} {es : List Expr} {A : EA} {k : Nat}
theorem de_dupd (ho : DE X o F) (ha : DE X a F') (hbase : attributeBase o "update" X.env (eval o X.env) = eval o X.env := by rfl)
    (hfew : ((backTo cpos (starEach [a] X.env)).all (fun x => !x.1) && (backToKw cpos (keywordEach [] X.env)).all (fun x => x.1.isSome) && decide ([a].length + ([] : List Keyword).length + (if ([] : List Keyword).isEmpty then 0 else 1) < 30)) = true := by rfl)
    (hline : (apos.endLine == cpos.line) = true := by rfl) (hs : starEach [a] X.env = (false, eval a X.env) :: starEach [] X.env := by rfl) (hplain : (backTo cpos (starEach [] X.env)).any (·.1) = false := by rfl) :
    DE X (.Call (.Attribute o "update" apos) [a] [] cpos) (eDUpd F F') := by
  refine pe_imp (pe_bm PySem.F.plainAttrs_dict PySem.F.slot_dict_update PySem.F.type_dict_update mt_dupd ho (pa_cons ha pa_nil hs) hbase hfew hline hs hplain) ?_
  rintro sg H Q ⟨r, env, W, hE, hw, z, W', e, q⟩
  obtain ⟨x, W1, e1, e⟩ := mb_inv e
  obtain ⟨_, W1', e0, ee⟩ := mb_inv e
  obtain ⟨kvs0, e01, e02⟩ := Option.map_eq_some_iff.mp e0
  cases e02
  obtain ⟨y, W2, e2, e7⟩ := mb_inv ee
  refine ⟨r, env, W, hE, hw, x, _, e1, fun r1 H1 v x1 w1 rx => ?_⟩
  obtain ⟨j0, a0, ws0, rfl, rfl, ha0, hj0, hH0, kr0⟩ := dictOf_inv w1 rx e01
  refine ⟨.inr (.inr (.inl ⟨rfl, .inl ⟨_, hH0⟩⟩)), r1, env, _, hE.ext x1, w1, y, W2, e2, fun r2 H2 w x2 w2 ry => ?_⟩
  obtain ⟨kvs, e3, e8⟩ := Option.bind_eq_some_iff.mp (show (dictOf W2 (.loc j0)).bind _ = some (z, W') from e7)
  obtain ⟨more, e4, e9⟩ := Option.bind_eq_some_iff.mp e8
  obtain ⟨j, b, ws, ex, ev, hb, hj, hH, kr⟩ := dictOf_inv w2 (rx.ext x2) e3
  cases ex
  cases ev
  obtain ⟨j', b', ws', rfl, rfl, hb', hj', hH', kr'⟩ := dictOf_inv w2 ry e4
  have c : (decide (j0 ≠ j')) = true ∧ kvs.length + more.length ≤ sizeLine := by
    by_cases c : (decide (j0 ≠ j')) = true ∧ kvs.length + more.length ≤ sizeLine
    · exact c
    · rw [if_neg c] at e9; cases e9
  rw [if_pos c] at e9
  cases e9
  have ne : a0 ≠ b' := fun z => by
    subst z
    exact of_decide_eq_true c.1 (w2.nd _ _ _ hb hb')
  obtain ⟨k1, k2⟩ := put_dict w2 hb (KR.merge kr' kr)
  exact ⟨a0, b', ws, ws', rfl, rfl, ne, hH, hH', by rw [← kr.length, ← kr'.length]; exact c.2, q r2 _ _ ((x1.trans x2).trans k1) k2 .non⟩
/-! ### stars in displays -/
def aStar (F : ES) (A : EA) : EA := fun env => mb (F env) fun x => mb (mo (match x with | .lst xs => some xs | .tup xs => some xs | _ => none)) fun xs => mb (A env) fun ys => mr (xs ++ ys)
theorem da_star {p : Pos} (ha : DE X a F) (hr : DA X es A) (hs : starEach (.Starred a p :: es) X.env = (true, eval a X.env) :: starEach es X.env := by rfl) : DA X (.Starred a p :: es) (aStar F A) := by
  refine pa_imp (StX.pa_star ha hr hs) ?_
  rintro sg H Q ⟨r, env, W, hE, hw, z, W', e, q⟩
  obtain ⟨x, W1, e1, f1⟩ := mb_inv e
  obtain ⟨xs, W1', e2, f2⟩ := mb_inv f1
  obtain ⟨ys, W2, e4, f3⟩ := mb_inv f2
  obtain ⟨e3, rfl⟩ := mo_inv e2
  obtain ⟨rfl, rfl⟩ := mr_inv f3
  refine ⟨r, env, W, hE, hw, x, _, e1, fun r1 H1 v x1 w1 rx => ?_⟩
  have key : ∃ p vs, v = .ref p ∧ (SqT X.K H1 p vs ∨ SqL X.K H1 p vs) ∧ Rvs X.K r1 H1 xs vs := by
    cases rx with
    | lst z h t => cases e3; exact ⟨_, _, rfl, .inr (.of h), t⟩
    | tup h t => cases e3; exact ⟨_, _, rfl, .inl h.sq, t⟩
    | _ => cases e3
  obtain ⟨p', vs, rfl, hs', rs⟩ := key
  exact ⟨p', vs, rfl, hs', r1, env, _, hE.ext x1, w1, _, _, e4, fun r2 H2 us x2 w2 ru => q r2 H2 _ (x1.trans x2) w2 ((rs.ext x2).append ru)⟩
/-! ### xs.pop(i) -/
def dPopAt (x y : DV) : M DV := fun W => match x, y with
  | .loc j, .int n => match W[j]? with
    | some (.lst xs) => if -(2 ^ 63) ≤ n ∧ n < 2 ^ 63 then (seqIndex? n xs.length).bind fun k => xs[k]?.map fun z => (z, W.set j (.lst (xs.eraseIdx k))) else none
    | _ => none
  | _, _ => none
def ePopAt (F F' : ES) : ES := fun env => mb (F env) fun x => mb (lstC x) fun _ => mb (F' env) fun y => dPopAt x y
theorem Rvs.erase {K : PySem.W.Frag} {r : Rh} {H : Hp} : ∀ {xs : List DV} {vs : List V} (n : Nat), Rvs K r H xs vs → Rvs K r H (xs.eraseIdx n) (vs.eraseIdx n)
  | _, _, _, .nil => .nil
  | _, _, 0, .cons _ t => t
  | _, _, n + 1, .cons z t => .cons z (Rvs.erase n t)
theorem de_popAt (ho : DE X o F) (ha : DE X a F') (hbase : attributeBase o "pop" X.env (eval o X.env) = eval o X.env := by rfl)
    (hfew : ((backTo cpos (starEach [a] X.env)).all (fun x => !x.1) && (backToKw cpos (keywordEach [] X.env)).all (fun x => x.1.isSome) && decide ([a].length + ([] : List Keyword).length + (if ([] : List Keyword).isEmpty then 0 else 1) < 30)) = true := by rfl)
    (hline : (apos.endLine == cpos.line) = true := by rfl) (hs : starEach [a] X.env = (false, eval a X.env) :: starEach [] X.env := by rfl) (hplain : (backTo cpos (starEach [] X.env)).any (·.1) = false := by rfl) :
    DE X (.Call (.Attribute o "pop" apos) [a] [] cpos) (ePopAt F F') := by
  refine pe_imp (pe_bm PySem.F.plainAttrs_list PySem.F.slot_list_pop PySem.F.type_list_pop mt_popAt ho (pa_cons ha pa_nil hs) hbase hfew hline hs hplain) ?_
  rintro sg H Q ⟨r, env, W, hE, hw, z, W', e, q⟩
  obtain ⟨x, W1, e1, e⟩ := mb_inv e
  obtain ⟨_, W1', e0, ee⟩ := mb_inv e
  obtain ⟨ew, j, ys, rfl, hc1⟩ := lstC_inv e0
  rw [ew] at ee
  obtain ⟨y, W2, e2, e7⟩ := mb_inv ee
  refine ⟨r, env, W, hE, hw, .loc j, W1, e1, fun r1 H1 v x1 w1 rx => ?_⟩
  obtain ⟨l, rfl, hl⟩ := loc_inv rx
  obtain ⟨us, h1, _⟩ := w1.ok j l _ hl hc1
  refine ⟨.inl ⟨rfl, us, .of h1⟩, r1, env, _, hE.ext x1, w1, y, W2, e2, fun r2 H2 w x2 w2 ry => ?_⟩
  cases y with
  | int n =>
    obtain rfl := ry.int_inv
    have e8 : (match W2[j]? with | some (.lst xs) => if -(2 ^ 63) ≤ n ∧ n < 2 ^ 63 then (seqIndex? n xs.length).bind fun k => xs[k]?.map fun z => (z, W2.set j (.lst (xs.eraseIdx k))) else none | _ => none) = some (z, W') := e7
    split at e8
    · rename_i xs ex
      split at e8
      · rename_i c
        obtain ⟨k', e9, e10⟩ := Option.bind_eq_some_iff.mp e8
        obtain ⟨z', e11, e12⟩ := Option.map_eq_some_iff.mp e10
        cases e12
        have hl2 := x2.get _ _ hl
        obtain ⟨vs, h1', h2'⟩ := w2.ok j l _ hl2 ex
        obtain ⟨v', ev, rv⟩ := h2'.get e11
        obtain ⟨k1, k2⟩ := put_list w2 hl2 (h2'.erase k')
        exact ⟨l, vs, n, k', v', rfl, rfl, h1', c.1, c.2, by rw [← h2'.length]; exact e9, ev, q r2 _ _ ((x1.trans x2).trans k1) k2 (rv.ext k1)⟩
      · cases e8
    · cases e8
  | _ => exact nomatch (show (none : Option (DV × Wd)) = some (z, W') from e7)
/-! ### a sum of lists that is changed later -/
def oAddC : DV → DV → M DV := fun x y W => match x, y with
  | .lst xs, .lst ys => if xs.length + ys.length ≤ sizeLine then some (.loc W.length, W ++ [.lst (xs ++ ys)]) else none
  | _, _ => none
theorem de_addC (ha : DE X a F) (hb : DE X e F') : DE X (.BinOp a .Add e pos) (eO oAddC F F') := by
  refine de_op op_cat ?_ ha hb
  intro r H W x y z W' v w Q hw e rx ry q
  cases x with
  | lst xs =>
    cases y with
    | lst ys =>
      have e' : (if xs.length + ys.length ≤ sizeLine then some (DV.loc W.length, W ++ [Cell.lst (xs ++ ys)]) else none) = some (z, W') := e
      split at e'
      · rename_i c
        cases e'
        cases rx with
        | @lst a1 vs1 _ n1 h1 t1 =>
          cases ry with
          | @lst a2 vs2 _ n2 h2 t2 =>
            refine ⟨a1, a2, vs1, vs2, rfl, rfl, h1, h2, by rw [← t1.length, ← t2.length]; exact c, fun p hp => ?_⟩
            obtain ⟨ex, w2⟩ := hw.cell (o := .lst (vs1 ++ vs2)) (c := .lst (xs ++ ys)) hp (fun z => by cases z) ⟨_, upd_same, by
              have ex : Ext r H ⟨r.rho ++ [some p], r.hid⟩ (upd H p (.lst (vs1 ++ vs2))) := ⟨rfl, fun i a q => by
                obtain ⟨l, _⟩ := List.getElem?_eq_some_iff.mp q
                show (r.rho ++ [some p])[i]? = _
                rw [List.getElem?_append_left l]; exact q, by simp, fun a m n => by
                rcases List.mem_append.mp m with m | m
                · exact absurd m n
                · have z := List.mem_singleton.mp m
                  cases z; exact hp, fun a u _ q => by rw [upd_ne (ne_of_none q hp)]; exact q⟩
              exact (t1.append t2).ext ex⟩
            refine q _ _ (.ref p) ex w2 (.loc ?_)
            show (r.rho ++ [some p])[W.length]? = _
            rw [← hw.len, List.getElem?_append_right (Nat.le_refl _)]
            simp
      · cases e'
    | _ => exact nomatch (show (none : Option (DV × Wd)) = some (z, W') from e)
  | _ => exact nomatch (show (none : Option (DV × Wd)) = some (z, W') from e)
/-! ### x in a list, by depth -/
def oInD : DV → DV → M DV := fun x y W => (toPy x).bind fun d => match y with
  | .lst ys => (toPys ys).bind fun ds => if (SeqAt.shaped d && SeqAt.shaped (.list ds)) = true then some (.bl (ds.any fun z => PyData.eqv z d), W) else none
  | _ => none
theorem c_inD (hr : Rm k X.A) : CmpR X .In (fun x y W => match oIn x y W with | some z => some z | none => oInD x y W) := by
  refine ⟨_, (op_in_seq.or op_in_sign).or (op_inD (by have := hr.1.un; omega)), od_in.or ?_⟩
  intro r H W x y z W' v w Q hw e rx ry q
  obtain ⟨d, e1, e⟩ := Option.bind_eq_some_iff.mp e
  cases y with
  | lst ys =>
    obtain ⟨ds, e2, e⟩ := Option.bind_eq_some_iff.mp (show (toPys ys).bind _ = some (z, W') from e)
    obtain ⟨c, e3⟩ := if_inv e
    cases e3
    rw [Bool.and_eq_true] at c
    exact ⟨d, ds, rx.dp e1, ry.dp (by show (toPys ys).map PyData.list = _; rw [e2]; rfl), c.1, c.2, q r H _ (Ext.refl _ _) hw (.bl _)⟩
  | _ => cases e
end
end DL
end L2

set_option maxRecDepth 100000
set_option maxHeartbeats 2000000
/-! DZ8: dicts of the module with text keys; freezing where something may be raised. -/
namespace L2
namespace DL
open PySem PySem.Spec PyProof.Rows
def litK (k : Str) : Value → Bool
  | .str x _ => decide (x = k)
  | _ => false
def litV : V → Value → Bool
  | .str s, .str t _ => decide (s = t)
  | .int i, .int j _ => decide (i = j)
  | _, _ => false
theorem litV_rel {v : V} {u : Value} (h : litV v u = true) : RelV v u := by
  unfold litV at h
  split at h
  · exact ⟨_, by rw [of_decide_eq_true h]⟩
  · exact ⟨_, by rw [of_decide_eq_true h]⟩
  · cases h
theorem litK_rel {k : Str} {u : Value} (h : litK k u = true) : ∃ t, u = .str k t := by
  unfold litK at h
  split at h
  · exact ⟨_, by rw [of_decide_eq_true h]⟩
  · cases h
def litE : List (Str × V) → List DictEntry → Bool
  | [], [] => true
  | (k, v) :: r, e :: es => litK k e.key && litV v e.val && litE r es
  | _, _ => false
def litD (K : PySem.W.Frag) (a : Addr) (kvs : List (Str × V)) : Bool := match K.lookup a with
  | some ⟨_, _, .dict es _, _⟩ => litE kvs es.toList
  | _ => false
theorem litE_find (z : Str) : ∀ {kvs : List (Str × V)} {es : List DictEntry}, litE kvs es = true → RelO (kvs.lookup z) ((es.find? fun e => e.key.isStr z).map (·.val)) ∧ ∀ e ∈ es, ∃ x t, e.key = .str x t
  | [], [], _ => ⟨trivial, fun e m => by cases m⟩
  | (k, v) :: r, e :: es, h => by
    have h' : (litK k e.key && litV v e.val && litE r es) = true := h
    rw [Bool.and_eq_true, Bool.and_eq_true] at h'
    obtain ⟨⟨h1, h2⟩, h3⟩ := h'
    obtain ⟨i1, i2⟩ := litE_find z h3
    have hk := litK_rel h1
    have hv : RelV v e.val := litV_rel h2
    obtain ⟨t, hk⟩ := hk
    refine ⟨?_, fun e' m => ?_⟩
    · rw [List.find?_cons, hk]
      by_cases c : k = z
      · subst c
        have : (Value.str k t).isStr k = true := by simp [Value.isStr]
        rw [this]
        have l : List.lookup k ((k, v) :: r) = some v := by simp [List.lookup]
        rw [l]; exact hv
      · have n : (Value.str k t).isStr z = false := by
          simp only [Value.isStr]
          exact beq_eq_false_iff_ne.mpr c
        rw [n]
        have l : List.lookup z ((k, v) :: r) = List.lookup z r := by
          rw [List.lookup_cons]
          have : (z == k) = false := beq_eq_false_iff_ne.mpr (fun q => c q.symm)
          rw [this]
        rw [l]; exact i1
    · rcases List.mem_cons.mp m with rfl | m
      · exact ⟨k, t, hk⟩
      · exact i2 e' m
  | [], _ :: _, h => by cases h
  | _ :: _, [], h => by cases h
/-- the module's dict with the name nm: its pairs -/
structure GD (K : PySem.W.Frag) (w : PySem.World) (nm : Str) (kvs : List (Str × V)) (d : Addr) : Prop where
  gl : PySem.W.nsIn K mainGlobals nm = some (some (.ref d))
  ex : ∃ es n, KDict K w d es n
  vals : ∀ z, ∃ r, PySem.W.nsIn K d z = some r ∧ RelO (kvs.lookup z) r
theorem gd_mk {K : PySem.W.Frag} {w : PySem.World} {nm : Str} {kvs : List (Str × V)} {d : Addr} {ks : List Str} (h1 : PySem.W.nsIn K mainGlobals nm = some (some (.ref d))) (h2 : He.dicW K d = some (He.keysIn w.params ks)) (h3 : litD K d kvs = true) : GD K w nm kvs d := by
  obtain ⟨es, n, D⟩ := He.dicW_ok h2
  refine ⟨h1, ⟨es, n, D⟩, fun z => ?_⟩
  have h3' : litE kvs es.toList = true := by
    unfold litD at h3
    rw [D.at_] at h3
    exact h3
  obtain ⟨i1, i2⟩ := litE_find z h3'
  obtain ⟨l⟩ := es
  refine ⟨_, ?_, i1⟩
  unfold PySem.W.nsIn
  rw [D.at_]
  dsimp only
  cases q : l.find? fun e => e.key.isStr z with
  | some e => rfl
  | none =>
    dsimp only [Option.map_none]
    rw [if_neg]
    intro c
    obtain ⟨e, m, ce⟩ := List.any_eq_true.mp c
    obtain ⟨x, t, ek⟩ := i2 e m
    unfold DictEntry.refKey at ce
    rw [ek] at ce
    cases ce
def ofV : V → DV
  | .int i => .int i
  | .str s => .str s
  | v => .cst v
/-- z in FORMS, FORMS[z], FORMS.get(z) -/
def oGIn (nm : Str) (kvs : List (Str × V)) : DV → DV → M DV := fun x y W => match x, y with
  | .str z, .gl m => if m = nm then some (.bl (kvs.lookup z).isSome, W) else none
  | _, _ => none
def oGNotIn (nm : Str) (kvs : List (Str × V)) : DV → DV → M DV := fun x y W => match x, y with
  | .str z, .gl m => if m = nm then some (.bl (!(kvs.lookup z).isSome), W) else none
  | _, _ => none
def oGIx (nm : Str) (kvs : List (Str × V)) : DV → DV → M DV := fun y x W => match x, y with
  | .str z, .gl m => if m = nm then (kvs.lookup z).map fun v => (ofV v, W) else none
  | _, _ => none
theorem gl_inv {K : PySem.W.Frag} {r : Rh} {H : Hp} {nm : Str} {v : V} (h : Rv K r H (.gl nm) v) : ∃ C, v = .ref C ∧ PySem.W.nsIn K mainGlobals nm = some (some (.ref C)) := by
  cases h with
  | gl c => exact ⟨_, rfl, c⟩
theorem ofV_rel {K : PySem.W.Frag} {r : Rh} {H : Hp} (v : V) : Rv K r H (ofV v) v := by
  cases v <;> first | exact .int _ | exact .str _ | exact .cst _
theorem isSome_rel {o : Option V} {u : Option Value} (h : RelO o u) : u.isSome = o.isSome := (RelO.isSome_eq h).symm
section
variable {X : Cx} {a b e : Expr} {F F' : ES} {pos apos cpos p : Pos} {nm : Str} {kvs : List (Str × V)} {d : Addr}
theorem c_gin (g : GD X.K X.w nm kvs d) : CmpR X .In (oGIn nm kvs) := by
  obtain ⟨es, n, D⟩ := g.ex
  refine ⟨_, op_in_kd D, ?_⟩
  intro r H W x y z W' v w Q hw e rx ry q
  unfold oGIn at e
  split at e
  · rename_i t m
    by_cases c : m = nm
    · subst c
      rw [if_pos rfl] at e
      cases e
      obtain ⟨C, rfl, hC⟩ := gl_inv ry
      have := g.gl.symm.trans hC
      cases this
      obtain rfl := rx.str_inv
      obtain ⟨u, e1, e2⟩ := g.vals t
      refine ⟨t, u, rfl, rfl, e1, ?_⟩
      rw [isSome_rel e2]
      exact q r H _ (Ext.refl _ _) hw (.bl _)
    · rw [if_neg c] at e; cases e
  · cases e
theorem c_gnotin (g : GD X.K X.w nm kvs d) : CmpR X .NotIn (oGNotIn nm kvs) := by
  obtain ⟨es, n, D⟩ := g.ex
  refine ⟨_, op_notIn_kd D, ?_⟩
  intro r H W x y z W' v w Q hw e rx ry q
  unfold oGNotIn at e
  split at e
  · rename_i t m
    by_cases c : m = nm
    · subst c
      rw [if_pos rfl] at e
      cases e
      obtain ⟨C, rfl, hC⟩ := gl_inv ry
      have := g.gl.symm.trans hC
      cases this
      obtain rfl := rx.str_inv
      obtain ⟨u, e1, e2⟩ := g.vals t
      refine ⟨t, u, rfl, rfl, e1, ?_⟩
      rw [isSome_rel e2]
      exact q r H _ (Ext.refl _ _) hw (.bl _)
    · rw [if_neg c] at e; cases e
  · cases e
theorem de_gix (g : GD X.K X.w nm kvs d) (ha : DE X a F) (hb : DE X b F') (hs : PlainIx b := by exact fun _ _ => rfl) : DE X (.Subscript a b pos) (eO (oGIx nm kvs) F F') := by
  obtain ⟨es, n, D⟩ := g.ex
  refine de_ix ix_kdict ?_ ha hb hs
  intro r H W x y z W' v w Q hw e rx ry q
  unfold oGIx at e
  split at e
  · rename_i t m
    by_cases c : m = nm
    · subst c
      rw [if_pos rfl] at e
      obtain ⟨u, e1, e2⟩ := Option.map_eq_some_iff.mp e
      cases e2
      obtain ⟨C, rfl, hC⟩ := gl_inv rx
      have := g.gl.symm.trans hC
      cases this
      obtain rfl := ry.str_inv
      obtain ⟨u', e3, e4⟩ := g.vals t
      rw [e1] at e4
      cases u' with
      | none => exact e4.elim
      | some u' => exact ⟨d, t, u, rfl, rfl, ⟨es, n, u', D.at_, D.lit, e3, e4⟩, q r H _ (Ext.refl _ _) hw (ofV_rel _)⟩
    · rw [if_neg c] at e; cases e
  · cases e
/-- FORMS.get(z) -/
def eGGet (nm : Str) (kvs : List (Str × V)) (F F' : ES) : ES := fun env => mb (F env) fun x => mb (mo (match x with | .gl m => if m = nm then some () else none | _ => none)) fun _ => mb (F' env) fun y => mo (match y with | .str z => some (((kvs.lookup z).map ofV).getD .non) | _ => none)
theorem de_gget (g : GD X.K X.w nm kvs d) (ho : DE X a F) (he : DE X e F') (m : M1 X a "get" apos e cpos := by exact ⟨rfl, rfl, rfl, rfl⟩) : DE X (.Call (.Attribute a "get" apos) [e] [] cpos) (eGGet nm kvs F F') := by
  obtain ⟨es, n, D⟩ := g.ex
  refine ⟨fun pins s σ H Q I h => ?_⟩
  obtain ⟨r, env, W, hE, hw, z, W', e0, q⟩ := h
  obtain ⟨x, W1, e1, f1⟩ := mb_inv e0
  obtain ⟨_, W1', e2, f2⟩ := mb_inv f1
  obtain ⟨y, W2, e3, f3⟩ := mb_inv f2
  obtain ⟨e4, rfl⟩ := mo_inv e2
  obtain ⟨e5, rfl⟩ := mo_inv f3
  have ex : x = .gl nm := by
    split at e4
    · split at e4
      · rename_i c; rw [c]
      · cases e4
    · cases e4
  subst ex
  have ey : ∃ t, y = .str t ∧ z = ((kvs.lookup t).map ofV).getD .non := by
    split at e5
    · exact ⟨_, rfl, (Option.some.inj e5).symm⟩
    · cases e5
  obtain ⟨t, rfl, rfl⟩ := ey
  refine wpAny_Call_method m.base m.few m.line PySem.F.plainAttrs_dict PySem.F.slot_dict_get PySem.F.type_dict_get (thn (ho.run pins s σ H (fun v H1 => ∃ r1, Ext r H r1 H1 ∧ Hw X.K r1 H1 W1' ∧ Rv X.K r1 H1 (.gl nm) v) I ⟨r, env, W, hE, hw, _, _, e1, fun r1 H1 v x1 w1 rv => ⟨r1, x1, w1, rv⟩⟩) fun u s1 ⟨x, H1, I1, rx, r1, x1, w1, rv⟩ => ?_)
  obtain ⟨C, rfl, hC⟩ := gl_inv rv
  have := g.gl.symm.trans hC
  cases this
  obtain rfl : u = Value.ref d := rx
  have hm := PySem.W.mapOf_K (prog := X.prog) (w := X.w) I1.kIn D.at_ D.lit
  refine ⟨hm.typeIs, hm.noDict, ?_⟩
  rw [m.trees]
  refine Calls.callWith_builtin rfl (Calls.evalArgs_plain (Calls.spliced_cons (thn (he.run pins s1 σ H1 (fun v H2 => ∃ r2, Ext r1 H1 r2 H2 ∧ Hw X.K r2 H2 W' ∧ Rv X.K r2 H2 (.str t) v) I1 ⟨r1, env, _, hE.ext x1, w1, _, _, e3, fun r2 H2 v x2 w2 rv2 => ⟨r2, x2, w2, rv2⟩⟩) fun iv s2 ⟨y', H2, I2, ry, r2, x2, w2, rv2⟩ => Calls.spliced_nil ?_)))
  obtain rfl := rv2.str_inv
  obtain ⟨tk, rfl⟩ := (show ∃ tk, iv = Value.str t tk from ry)
  obtain ⟨u', e6, e7⟩ := g.vals t
  have hm2 := PySem.W.mapOf_K (prog := X.prog) (w := X.w) I2.kIn D.at_ D.lit
  refine call_meetsIn PySem.F.slot_dict_get hm2.typeIs PySem.F.entry_dict_get (PySem.F.args_dict_get_2 _ _) (meets_dict_get (strKind X.prog X.w) d (strKind_is X.prog X.w t tk) D.low) ⟨_, hm2, ?_⟩
  rw [PySem.W.find_K D.at_ e6]
  refine ⟨(kvs.lookup t).getD .non, H2, I2.tok _, e7.getD rfl, ?_⟩
  refine q r2 H2 _ (x1.trans x2) w2 ?_
  cases kvs.lookup t with
  | none => exact .non
  | some v => exact ofV_rel v
end
/-! ### freezing, where something may be raised -/
def xFrz (i : Nat) (T : SX) : SX := fun n env W => match frz i n env W with
  | some (env', W') => T n env' W'
  | none => none
theorem frz_ok {K : PySem.W.Frag} {r0 : Rh} {H0 : Hp} {r : Rh} {H : Hp} {env env' : DEnv} {W W1 : Wd} {sg : St} {i : Nat} (x0 : Ext r0 H0 r H) (hE : RelE K r H env sg) (hw : Hw K r H W) (e1 : frz i r0.rho.length env W = some (env', W1)) :
    ∃ r', Ext r0 H0 r' H ∧ RelE K r' H env' sg ∧ Hw K r' H W1 := by
  obtain ⟨j, xs, h1, h2, h3, h4, h5, h6, h7, e9⟩ := frz_inv e1
  cases e9
  obtain ⟨rho, hid⟩ := r
  obtain ⟨v, hv, rv⟩ := hE.2 i _ h1
  obtain ⟨a, rfl, ha⟩ := loc_inv rv
  obtain ⟨vs, hl, rs⟩ := hw.ok j a _ ha h2
  have outa : (⟨rho.take j, hid⟩ : Rh).out a := ⟨fun m => by
    obtain ⟨i', l', e'⟩ := List.mem_iff_getElem.mp m
    have q' : (rho.take j)[i']? = some (some a) := by rw [List.getElem?_eq_getElem l', e']
    obtain ⟨q1, q2⟩ := take_get q'
    have := hw.nd i' j a q1 ha
    omega, hw.sep a (mem_of ha)⟩
  refine ⟨⟨rho.take j, hid⟩, ⟨x0.hid, fun k b qb => ?_, ?_, fun b m nb => x0.new b (List.mem_of_mem_take m) nb, x0.keep⟩, ⟨?_, fun k x qx => ?_⟩, hw.cut h7⟩
  · obtain ⟨l, _⟩ := List.getElem?_eq_some_iff.mp qb
    show (rho.take j)[k]? = _
    rw [List.getElem?_take, if_pos (Nat.lt_of_lt_of_le l h4)]
    exact x0.get k b qb
  · show _ ≤ (rho.take j).length
    rw [List.length_take]
    have := hw.len
    exact Nat.le_min.mpr ⟨h4, x0.len⟩
  · rw [List.length_set]; exact hE.1
  · by_cases hk : k = i
    · subst hk
      rw [List.getElem?_set] at qx
      split at qx
      · split at qx
        · obtain rfl := Option.some.inj (Option.some.inj qx)
          exact ⟨_, hv, .lst outa hl (Rvs.cut h5 rs)⟩
        · cases qx
      · rename_i z; exact absurd rfl z
    · rw [List.getElem?_set_ne (Ne.symm hk)] at qx
      obtain ⟨u, e1, ru⟩ := hE.2 k x qx
      refine ⟨u, e1, Rv.cut ?_ ru⟩
      have m : some x ∈ env.set i none := mem_of (i := k) (by rw [List.getElem?_set_ne (Ne.symm hk)]; exact qx)
      exact List.all_eq_true.mp h6 _ m
theorem dxs_frz {X : Cx} {Wx : WX} {i : Nat} {sts : List Stmt} {T : SX} (h : DXs X Wx sts T) : DXs X Wx sts (xFrz i T) := ⟨by
  refine pss_imp h.ps ?_
  rintro D sg H ⟨r0, H0, r, env, W, x0, hE, hw, f, W', e, q⟩
  unfold xFrz at e
  split at e
  · rename_i env' W1 e1
    obtain ⟨r', x1, hE1, w1⟩ := frz_ok x0 hE hw e1
    exact ⟨r0, H0, r', env', W1, x1, hE1, w1, f, W', e, q⟩
  · cases e⟩
end DL
end L2

set_option maxRecDepth 100000
/-! DZ9: x in y, by depth; how the later combinators are reckoned. -/
namespace L2
namespace DL
open PySem PySem.Spec PyProof.Rows
def oInA : DV → DV → M DV := fun x y W => match oIn x y W with
  | some z => some z
  | none => oInD x y W
theorem c_inA {X : Cx} {k : Nat} (hr : Rm k X.A) : CmpR X .In oInA := c_inD hr
section
variable (F F' F2 : ES) (A : EA) (B B' : EB) (G G' : DV → DV → M DV) (env : DEnv) (W : Wd) (n : Nat) (S T : SS) (P Q : SX) (X Y : EX)
@[simp] theorem r_iZG : iZG A env W = (A env W).bind fun p => zgK p.1 p.2 := by simp only [iZG, mb_apply]
@[simp] theorem zgK_two (x y : DV) : zgK [x, y] W = (partOf x).bind fun xs => (partOf y).bind fun ys => some (pairUp xs ys, W) := rfl
@[simp] theorem r_iAny : iAny F env W = (F env W).bind fun p => mo (partOf p.1) p.2 := by simp only [iAny, mb_apply]
@[simp] theorem part_lst (xs : List DV) : partOf (.lst xs) = some xs := rfl
@[simp] theorem part_tup (xs : List DV) : partOf (.tup xs) = some xs := rfl
@[simp] theorem part_str (s : Str) : partOf (.str s) = some (signs s) := rfl
def mK (G : DV → DV → M DV) (F' : ES) (env : DEnv) : DV → M DV
  | .str a => mb (F' env) fun y => G (.str a) y
  | _ => fun _ => none
@[simp] theorem r_eM : eM G F F' env W = (F env W).bind fun p => mK G F' env p.1 p.2 := by
  simp only [eM, mb_apply]
  rfl
@[simp] theorem mK_str (a : Str) : mK G F' env (.str a) W = (F' env W).bind fun q => G (.str a) q.1 q.2 := by simp only [mK, mb_apply]
@[simp] theorem r_eG1 : eG1 F F' env W = (F env W).bind fun p => (dictOf p.2 p.1).bind fun _ => (F' env p.2).bind fun q => (dictOf q.2 p.1).bind fun kvs => (keyD q.1).map fun k => ((valD kvs k).getD .non, q.2) := by
  simp only [eG1, mb_apply]
  congr 1
  funext p
  obtain ⟨x, W1⟩ := p
  cases dictOf W1 x <;> rfl
@[simp] theorem r_eGGet (nm : Str) (kvs : List (Str × V)) (m : Str) : eGGet nm kvs (eC (.gl m)) F' env W = if m = nm then (F' env W).bind fun q => mo (match q.1 with | .str z => some (((kvs.lookup z).map ofV).getD .non) | _ => none) q.2 else none := by
  simp only [eGGet, mb_apply, r_eC, Option.bind_some]
  split <;> rfl
@[simp] theorem r_eDUpd : eDUpd F F' env W = (F env W).bind fun p => (dctC p.1 p.2).bind fun u => (F' env u.2).bind fun q => dUpd p.1 q.1 q.2 := by simp only [eDUpd, mb_apply]
@[simp] theorem r_ePopAt : ePopAt F F' env W = (F env W).bind fun p => (lstC p.1 p.2).bind fun u => (F' env u.2).bind fun q => dPopAt p.1 q.1 q.2 := by simp only [ePopAt, mb_apply]
def starL : DV → Option (List DV)
  | .lst xs => some xs
  | .tup xs => some xs
  | _ => none
@[simp] theorem r_aStar : aStar F A env W = (F env W).bind fun p => (starL p.1).bind fun xs => (A env p.2).bind fun q => some (xs ++ q.1, q.2) := by
  simp only [aStar, mb_apply, mr_apply]
  congr 1
  funext p
  obtain ⟨x, W1⟩ := p
  cases x <;> rfl
@[simp] theorem starL_lst (xs : List DV) : starL (.lst xs) = some xs := rfl
/-! what may raise -/
@[simp] theorem r_xUp : xUp S n env W = (S n env W).bind fun p => some (.ok p.1, p.2) := by simp only [xUp, mb_apply, mr_apply]
def seqX (Q : SX) (n : Nat) : Fx × Wd → Option (Fx × Wd)
  | (.ok (.nx e), W) => Q n e W
  | p => some p
@[simp] theorem seqX_nx (e : DEnv) : seqX Q n (.ok (.nx e), W) = Q n e W := rfl
@[simp] theorem seqX_rt (x : DV) : seqX Q n (.ok (.rt x), W) = some (.ok (.rt x), W) := rfl
@[simp] theorem seqX_ex (x : DV) (e : DEnv) : seqX Q n (.ex x e, W) = some (.ex x e, W) := rfl
@[simp] theorem r_xSeq : xSeq P Q n env W = (P n env W).bind (seqX Q n) := by
  simp only [xSeq, mb_apply]
  congr 1
  funext p
  obtain ⟨f, W1⟩ := p
  cases f with
  | ok f => cases f <;> rfl
  | ex x e => rfl
@[simp] theorem r_xNil : xNil n env W = some (.ok (.nx env), W) := rfl
@[simp] theorem r_xIf : xIf B P Q n env W = (B env W).bind fun p => if p.1 = true then P n env p.2 else Q n env p.2 := by
  simp only [xIf, mb_apply]
  congr 1
  funext p
  split <;> rfl
@[simp] theorem r_xRaise (nm : Str) (fs : List Str) (AS : EA) : xRaise nm fs AS A n env W = (A env W).bind fun p => if (p.1.length == fs.length) = true then (kExc nm fs AS p.1 p.2).bind fun q => some (.ex q.1 env, q.2) else none := by
  simp only [xRaise, mb_apply]
  congr 1
  funext p
  split
  · simp only [mb_apply, mr_apply]
  · rfl
def loopX (g : GS) (P : SX) (n : Nat) (xs : List DV) : Fx × Wd → Option (Fx × Wd)
  | (.ok (.nx e), W) => xLoop g P n xs e W
  | (.ok (.ct e), W) => xLoop g P n xs e W
  | (.ok (.bk e), W) => some (.ok (.nx e), W)
  | (.ok (.rt v), W) => some (.ok (.rt v), W)
  | (.ex x e, W) => some (.ex x e, W)
@[simp] theorem loopX_nx (g : GS) (xs : List DV) (e : DEnv) : loopX g P n xs (.ok (.nx e), W) = xLoop g P n xs e W := rfl
@[simp] theorem loopX_rt (g : GS) (xs : List DV) (v : DV) : loopX g P n xs (.ok (.rt v), W) = some (.ok (.rt v), W) := rfl
@[simp] theorem loopX_ex (g : GS) (xs : List DV) (x : DV) (e : DEnv) : loopX g P n xs (.ex x e, W) = some (.ex x e, W) := rfl
@[simp] theorem r_xLoop0 (g : GS) : xLoop g P n [] env W = some (.ok (.nx env), W) := rfl
@[simp] theorem r_xLoop (g : GS) (x : DV) (xs : List DV) : xLoop g P n (x :: xs) env W = (g x env W).bind fun p => (P n p.1 p.2).bind (loopX g P n xs) := by
  simp only [xLoop, mb_apply]
  congr 1
  funext p
  congr 1
  funext q
  obtain ⟨f, W1⟩ := q
  cases f with
  | ok f => cases f <;> rfl
  | ex x e => rfl
@[simp] theorem r_xFor (I : IS) (g : GS) : xFor I g P n env W = (I env W).bind fun p => xLoop g P p.2.length p.1 env p.2 := by simp only [xFor, mb_apply]
@[simp] theorem r_xE : xE F env W = (F env W).bind fun p => some (.inl p.1, p.2) := by simp only [xE, mb_apply, mr_apply]
@[simp] theorem r_xCond : xCond B X Y env W = (B env W).bind fun p => if p.1 = true then X env p.2 else Y env p.2 := by
  simp only [xCond, mb_apply]
  congr 1
  funext p
  split <;> rfl
def retX (env : DEnv) : (DV ⊕ DV) × Wd → Option (Fx × Wd)
  | (.inl x, W) => some (.ok (.rt x), W)
  | (.inr x, W) => some (.ex x env, W)
def setX (i : Nat) (env : DEnv) : (DV ⊕ DV) × Wd → Option (Fx × Wd)
  | (.inl x, W) => some (.ok (.nx (env.set i (some x))), W)
  | (.inr x, W) => some (.ex x env, W)
@[simp] theorem retX_l (x : DV) : retX env (.inl x, W) = some (.ok (.rt x), W) := rfl
@[simp] theorem retX_r (x : DV) : retX env (.inr x, W) = some (.ex x env, W) := rfl
@[simp] theorem setX_l (i : Nat) (x : DV) : setX i env (.inl x, W) = some (.ok (.nx (env.set i (some x))), W) := rfl
@[simp] theorem setX_r (i : Nat) (x : DV) : setX i env (.inr x, W) = some (.ex x env, W) := rfl
@[simp] theorem r_xRet : xRet X n env W = (X env W).bind (retX env) := by
  simp only [xRet, mb_apply]
  congr 1
  funext p
  obtain ⟨f, W1⟩ := p
  cases f <;> rfl
@[simp] theorem r_xSet (i : Nat) : xSet X i n env W = (X env W).bind (setX i env) := by
  simp only [xSet, mb_apply]
  congr 1
  funext p
  obtain ⟨f, W1⟩ := p
  cases f <;> rfl
@[simp] theorem r_xF (fn : FX) : xF n fn A env W = (A env W).bind fun p => if (p.1.length == n) = true then fn p.1 p.2 else none := by
  simp only [xF, mb_apply]
  congr 1
  funext p
  split <;> rfl
@[simp] theorem r_xFK (m : Nat) (ix : List Nat) (fn : FX) : xFK n m ix fn A env W = (A env W).bind fun p => if (p.1.length == m) = true then (if ((perm ix p.1).length == n) = true then fn (perm ix p.1) p.2 else none) else none := by
  simp only [xFK, mb_apply]
  congr 1
  funext p
  split
  · split <;> rfl
  · rfl
def noX : (DV ⊕ DV) × Wd → Option (DV × Wd)
  | (.inl x, W) => some (x, W)
  | _ => none
@[simp] theorem noX_l (x : DV) : noX (.inl x, W) = some (x, W) := rfl
@[simp] theorem r_xNo : xNo X env W = (X env W).bind noX := by
  simp only [xNo, mb_apply]
  congr 1
  funext p
  obtain ⟨f, W1⟩ := p
  cases f <;> rfl
def tryK (cs : List Str) (i j : Nat) : Fx × Wd → Option (Fl × Wd)
  | (.ok f, W) => some (f, W)
  | (.ex (.exc nm fs xs) e, W) => if nm ∈ cs then some (.nx (((e.set i none).set j (some (.exc nm fs xs))).set i none), W) else none
  | _ => none
@[simp] theorem tryK_ok (cs : List Str) (i j : Nat) (f : Fl) : tryK cs i j (.ok f, W) = some (f, W) := rfl
@[simp] theorem tryK_ex (cs : List Str) (i j : Nat) (nm : Str) (fs : List Str) (xs : List DV) (e : DEnv) : tryK cs i j (.ex (.exc nm fs xs) e, W) = if nm ∈ cs then some (.nx (((e.set i none).set j (some (.exc nm fs xs))).set i none), W) else none := rfl
@[simp] theorem r_sTryK (cs : List Str) (i j : Nat) : sTryK cs i j P n env W = (P n env W).bind (tryK cs i j) := by
  simp only [sTryK, mb_apply]
  congr 1
  funext p
  obtain ⟨f, W1⟩ := p
  cases f with
  | ok f => rfl
  | ex x e =>
    cases x with
    | exc nm fs xs => show (if nm ∈ cs then mr _ else fun _ => none) W1 = _; split <;> simp [tryK, *]
    | _ => rfl
theorem runX_rt {nN : Nat} {S : SX} {xs : List DV} {W W' : Wd} {x : DV} (h : S W.length (xs.map some ++ List.replicate (nN - xs.length) none) W = some (.ok (.rt x), W')) (l : W'.length = W.length) : runX nN S xs W = some (.inl x, W') := by
  unfold runX
  rw [h]
  show (fin W.length x W').map _ = _
  rw [fin_same l]; rfl
theorem runX_ex {nN : Nat} {S : SX} {xs : List DV} {W W' : Wd} {x : DV} {e : DEnv} (h : S W.length (xs.map some ++ List.replicate (nN - xs.length) none) W = some (.ex x e, W')) : runX nN S xs W = some (.inr x, W') := by
  unfold runX
  rw [h]
end
end DL
end L2

set_option maxRecDepth 100000
/-! k26: what the defs do, as functions of the deep layer (printed by gen.py). -/
namespace L2
namespace K26
open PySem PySem.Spec PyProof.Rows DL
abbrev nms : List Str := ["Known", "BadText", "BadLine"]
def as_Known : EA := (aC (eO oAdd (eC (.str "a known name: ")) (eV 1)) aN)
def as_BadText : EA := (aC (eC (.str "a wrong text")) aN)
def as_BadLine : EA := (aC (eO oAdd (eC (.str "a wrong line: ")) (eK kStrS (aC (eV 1) aN))) aN)
def kd_FORMS : List (Str × V) := [("make", .str "n"), ("promise", .str "nb"), ("give", .str "nb"), ("cut", .str "nb"), ("clone", .str "nn"), ("keep", .str "nn"), ("drop", .str "n"), ("place", .str "nb"), ("commit", .str ""), ("stop", .str "")]
def b_is_number : SS := (sRet (eAnd (eK (kIsx nms) (aC (eV 0) (aC (eC (.cst (.ty "int"))) aN))) (eNot (eK (kIsx nms) (aC (eV 0) (aC (eC (.cst (.ty "bool"))) aN))))))
def f_is_number : List DV → M DV := runF 1 b_is_number
def b_is_name : SS := (sSeq (sIf (bOr (bNot (bT (eK (kIsx nms) (aC (eV 0) (aC (eC (.cst (.ty "str"))) aN))))) (bNot (bT (eCh oLe oLe (eC (.int 1)) (eK kLen (aC (eV 0) aN)) (eC (.int 8)))))) (sRet (eC (.bl false))) sNil)
    (sRet (eK kAll (aC (eComp [1] (iAny (eV 0)) (gN 1) bYes (eO oIn (eV 1) (eC (.str "abcdefghijklmnopqrstuvwxyz")))) aN))))
def f_is_name : List DV → M DV := runF 2 b_is_name
def b_is_part : SS := (sRet (eIf (bT (eO oEq (eV 0) (eC (.str "n")))) (eF 1 f_is_name (aC (eV 1) aN)) (eAnd (eF 1 f_is_number (aC (eV 1) aN)) (eO oGe (eV 1) (eC (.int 0))))))
def f_is_part : List DV → M DV := runF 2 b_is_part
def b_is_event : SS := (sSeq (sIf (bOr (bNot (bT (eK (kIsx nms) (aC (eV 0) (aC (eC (.cst (.ty "tuple"))) aN))))) (bOr (bT (eO oEq (eK kLen (aC (eV 0) aN)) (eC (.int 0)))) (bOr (bNot (bT (eK (kIsx nms) (aC (eO oIx (eV 0) (eC (.int 0))) (aC (eC (.cst (.ty "str"))) aN))))) (bT (eO (oGNotIn "FORMS" kd_FORMS) (eO oIx (eV 0) (eC (.int 0))) (eC (.gl "FORMS"))))))) (sRet (eC (.bl false))) sNil)
    (sSeq (sAsg (eO (oGIx "FORMS" kd_FORMS) (eC (.gl "FORMS")) (eO oIx (eV 0) (eC (.int 0)))) (gN 1))
    (sRet (eAnd (eO oEq (eK kLen (aC (eV 0) aN)) (eO oAdd (eK kLen (aC (eV 1) aN)) (eC (.int 1)))) (eK kAll (aC (eComp [2, 3] (iZG (aC (eV 1) (aC (eSl (eV 0) (oSome (eC (.int 1))) oNone) aN))) (gQ 2 (gsC (gN 2) (gsC (gN 3) gsN))) bYes (eF 2 f_is_part (aC (eV 2) (aC (eV 3) aN)))) aN))))))
def f_is_event : List DV → M DV := runF 4 b_is_event
def b_event_text : SS := (sRet (eM oJoin (eC (.str " ")) (eComp [1] (iAny (eV 0)) (gN 1) bYes (eK kStrS (aC (eV 1) aN)))))
def f_event_text : List DV → M DV := runF 2 b_event_text
def b_number_in : SS := (sSeq (sIf (bOr (bNot (bT (eCh oLe oLe (eC (.int 1)) (eK kLen (aC (eV 0) aN)) (eC (.int 6))))) (bNot (bT (eK kAll (aC (eComp [1] (iAny (eV 0)) (gN 1) bYes (eO oIn (eV 1) (eC (.str "0123456789")))) aN))))) (sRet (eC .non)) sNil)
    (sRet (eIf (bOr (bT (eO oEq (eV 0) (eC (.str "0")))) (bT (eO oNe (eO oIx (eV 0) (eC (.int 0))) (eC (.str "0"))))) (eK kIntS (aC (eV 0) aN)) (eC .non))))
def f_number_in : List DV → M DV := runF 2 b_number_in
def b_part_in : SS := (sSeq (sIf (bT (eO oEq (eV 0) (eC (.str "b")))) (sRet (eF 1 f_number_in (aC (eV 1) aN))) sNil)
    (sRet (eIf (bT (eF 1 f_is_name (aC (eV 1) aN))) (eV 1) (eC .non))))
def f_part_in : List DV → M DV := runF 2 b_part_in
def b_event_of : SS := (sSeq (sAsg (eM oSplit (eV 0) (eC (.str " "))) (gN 1))
    (sSeq (sAsg (eGGet "FORMS" kd_FORMS (eC (.gl "FORMS")) (eO oIx (eV 1) (eC (.int 0)))) (gN 2))
    (sSeq (sIf (bOr (bT (eO oIs (eV 2) (eC .non))) (bT (eO oNe (eK kLen (aC (eV 1) aN)) (eO oAdd (eK kLen (aC (eV 2) aN)) (eC (.int 1)))))) (sRet (eC .non)) sNil)
    (sSeq (sAsg (eComp [4, 5] (iZG (aC (eV 2) (aC (eSl (eV 1) (oSome (eC (.int 1))) oNone) aN))) (gQ 2 (gsC (gN 4) (gsC (gN 5) gsN))) bYes (eF 2 f_part_in (aC (eV 4) (aC (eV 5) aN)))) (gN 3))
    (sRet (eIf (bT (eO oIn (eC .non) (eV 3))) (eC .non) (eTup (aC (eO oIx (eV 1) (eC (.int 0))) (aStar (eV 3) aN)))))))))
def f_event_of : List DV → M DV := runF 6 b_event_of
def y_event_in : SX := (xSeq (xUp (sAsg (eF 1 f_event_of (aC (eV 0) aN)) (gN 1)))
    (xSeq (xIf (bT (eO oIs (eV 1) (eC .non))) (xRaise "BadText" [] as_BadText aN) xNil)
    (xUp (sRet (eV 1)))))
def fx_event_in : FX := runX 2 y_event_in
def b_events_text : SS := (sRet (eM oJoin (eC (.str "\n")) (eComp [1] (iAny (eV 0)) (gN 1) bYes (eF 1 f_event_text (aC (eV 1) aN)))))
def f_events_text : List DV → M DV := runF 2 b_events_text
def y_events_in_L1 : SX := (xSeq (xUp (sAsg (eF 1 f_event_of (aC (eV 3) aN)) (gN 4)))
    (xSeq (xIf (bT (eO oIs (eV 4) (eC .non))) (xRaise "BadLine" ["number"] as_BadLine (aC (eV 2) aN)) xNil)
    (xUp (sExpr (eApp (eV 1) (eV 4))))))
def y_events_in : SX := (xSeq (xUp (sAsg (eNew aN) (gN 1)))
    (xSeq (xFor (iE (aC (eIf (bT (eO oNe (eV 0) (eC (.str "")))) (eM oSplit (eV 0) (eC (.str "\n"))) (eLst aN)) aN)) (gQ 2 (gsC (gN 2) (gsC (gN 3) gsN))) y_events_in_L1)
    (xFrz 1 (xUp (sRet (eV 1))))))
def fx_events_in : FX := runX 5 y_events_in
def b__law_take : SS := (sSeq (sIf (bT (eO oGt (eO oIx (eV 0) (eC (.int 0))) (eC (.int 0)))) (sSeq (sAsg (eO oMod (eK kIntS (aC (eO oIx (eV 0) (eC (.int 0))) aN)) (eV 1)) (gN 2))
    (sSeq (sAsg (eO oDiv (eO oIx (eV 0) (eC (.int 0))) (eV 1)) (gSet (eV 0) (eC (.int 0))))
    (sRet (eV 2)))) sNil)
    (sSeq (sAsg (eO oAdd (eO oIx (eV 0) (eC (.int 2))) (eC (.int 1))) (gSet (eV 0) (eC (.int 2))))
    (sSeq (sAsg (eO oMod (eK kIntS (aC (eO oMul (eO oAdd (eO oIx (eV 0) (eC (.int 1))) (eO oMul (eC (.int 48271)) (eO oIx (eV 0) (eC (.int 2))))) (eO oAdd (eC (.int 39373)) (eO oIx (eV 0) (eC (.int 2))))) aN)) (eC (.int 2147483647))) (gN 3))
    (sSeq (sAsg (eO oAdd (eO oMod (eK kIntS (aC (eV 3) aN)) (eC (.int 40009))) (eC (.int 7))) (gN 4))
    (sSeq (sAsg (eO oMod (eK kIntS (aC (eO oMul (eO oAdd (eO oAdd (eV 3) (eO oIx (eV 0) (eC (.int 2)))) (eO oDiv (eO oIx (eV 0) (eC (.int 1))) (eC (.int 1000003)))) (eV 4)) aN)) (eC (.int 2147483629))) (gN 5))
    (sRet (eO oMod (eK kIntS (aC (eO oDiv (eO oMod (eK kIntS (aC (eO oAdd (eO oMul (eV 5) (eC (.int 48271))) (eV 3)) aN)) (eC (.int 2147483587))) (eC (.int 64))) aN)) (eV 1))))))))
def f__law_take : List DV → M DV := runF 6 b__law_take
def b__law_of : SS := (sRet (eO oIx (eV 1) (eF 2 f__law_take (aC (eV 0) (aC (eK kLen (aC (eV 1) aN)) aN)))))
def f__law_of : List DV → M DV := runF 2 b__law_of
def b__law_same (rec : List DV → M DV) : SS := (sSeq (sIf (bT (eK (kIsx nms) (aC (eV 1) (aC (eTup (aC (eC (.cst (.ty "list"))) (aC (eC (.cst (.ty "tuple"))) aN))) aN)))) (sSeq (sIf (bOr (bT (eO oNe (eK (kIsx nms) (aC (eV 0) (aC (eC (.cst (.ty "list"))) aN))) (eK (kIsx nms) (aC (eV 1) (aC (eC (.cst (.ty "list"))) aN))))) (bT (eO oNe (eK (kIsx nms) (aC (eV 0) (aC (eC (.cst (.ty "tuple"))) aN))) (eK (kIsx nms) (aC (eV 1) (aC (eC (.cst (.ty "tuple"))) aN)))))) (sRet (eC (.bl false))) sNil)
    (sRet (eAnd (eO oEq (eK kLen (aC (eV 0) aN)) (eK kLen (aC (eV 1) aN))) (eK kAll (aC (eComp [2, 3] (iZG (aC (eV 0) (aC (eV 1) aN))) (gQ 2 (gsC (gN 2) (gsC (gN 3) gsN))) bYes (eF 2 rec (aC (eV 2) (aC (eV 3) aN)))) aN))))) sNil)
    (sSeq (sIf (bOr (bT (eO oIs (eV 1) (eC .non))) (bT (eK (kIsx nms) (aC (eV 1) (aC (eTup (aC (eC (.cst (.ty "str"))) (aC (eC (.cst (.ty "bool"))) aN))) aN))))) (sRet (eAnd (eO oEq (eV 0) (eV 1)) (eAnd (eO oEq (eK (kIsx nms) (aC (eV 0) (aC (eC (.cst (.ty "bool"))) aN))) (eK (kIsx nms) (aC (eV 1) (aC (eC (.cst (.ty "bool"))) aN)))) (eO oEq (eO oIs (eV 0) (eC .non)) (eO oIs (eV 1) (eC .non)))))) sNil)
    (sRet (eAnd (eK (kIsx nms) (aC (eV 0) (aC (eC (.cst (.ty "int"))) aN))) (eAnd (eNot (eK (kIsx nms) (aC (eV 0) (aC (eC (.cst (.ty "bool"))) aN)))) (eO oEq (eV 0) (eV 1)))))))
def f__law_same : Nat → List DV → M DV
  | 0 => fun _ _ => none
  | d + 1 => runF 4 (b__law_same (f__law_same d))
def b__law_mixed (rec : List DV → M DV) : SS := (sSeq (sIf (bNot (bT (eK (kIsx nms) (aC (eV 1) (aC (eTup (aC (eC (.cst (.ty "list"))) (aC (eC (.cst (.ty "tuple"))) aN))) aN))))) (sRet (eV 1)) sNil)
    (sSeq (sAsg (eComp [3] (iAny (eV 1)) (gN 3) bYes (eF 2 rec (aC (eV 0) (aC (eV 3) aN)))) (gN 2))
    (sRet (eIf (bT (eO oEq (eF 2 f__law_take (aC (eV 0) (aC (eC (.int 2)) aN))) (eC (.int 0)))) (eK kTuple (aC (eV 2) aN)) (eV 2)))))
def f__law_mixed : Nat → List DV → M DV
  | 0 => fun _ _ => none
  | d + 1 => runF 4 (b__law_mixed (f__law_mixed d))
def b__law_cell_at : SS := (sRet (eIf (bT (eO oLt (eV 1) (eK kLen (aC (eV 0) aN)))) (eO oIx (eV 0) (eV 1)) (eC (.int 0))))
def f__law_cell_at : List DV → M DV := runF 2 b__law_cell_at
def b__law_box : SS := (sSeq (sAsg (eF 2 f__law_cell_at (aC (eV 0) (aC (eV 1) aN))) (gN 2))
    (sSeq (sAsg (eO oAdd (eO oAdd (eO oMod (eK kIntS (aC (eV 2) aN)) (eC (.int 2305843009213693951))) (eO oMul (eC (.int 39373)) (eV 1))) (eC (.int 61))) (gN 3))
    (sRet (eNew (aC (eO oMul (eK kAbs (aC (eV 2) aN)) (eK kIntS (aC (eO oGe (eK kAbs (aC (eV 2) aN)) (eO oPow (eC (.int 10)) (eC (.int 18)))) aN))) (aC (eV 3) (aC (eC (.int 0)) aN)))))))
def f__law_box : List DV → M DV := runF 4 b__law_box
def b__law_forms : SS := (sSeq (sAsg (eDisp [((eC (.str "make")), (eC (.str "n"))), ((eC (.str "promise")), (eC (.str "nb"))), ((eC (.str "give")), (eC (.str "nb"))), ((eC (.str "cut")), (eC (.str "nb"))), ((eC (.str "clone")), (eC (.str "nn"))), ((eC (.str "keep")), (eC (.str "nn"))), ((eC (.str "drop")), (eC (.str "n")))]) (gN 0))
    (sSeq (sExpr (eDUpd (eV 0) (eDisp [((eC (.str "place")), (eC (.str "nb"))), ((eC (.str "commit")), (eC (.str ""))), ((eC (.str "stop")), (eC (.str "")))])))
    (sRet (eV 0))))
def f__law_forms : List DV → M DV := runF 1 b__law_forms
def b__law_deed_L1 : SS := (sAsg (eO oAdd (eV 3) (eTup (aC (eF 2 f__law_of (aC (eV 0) (aC (eIf (bT (eO oEq (eV 4) (eC (.str "n")))) (eV 2) (eLst (aC (eC (.int 0)) (aC (eC (.int 1)) (aC (eC (.int 7)) (aC (eC (.int 10)) (aC (eC (.int 63)) (aC (eC (.int 999999)) aN)))))))) aN))) aN))) (gN 3))
def b__law_deed : SS := (sSeq (sAsg (eF 2 f__law_of (aC (eV 0) (aC (eLst (aC (eC (.str "make")) (aC (eC (.str "promise")) (aC (eC (.str "give")) (aC (eC (.str "cut")) (aC (eC (.str "clone")) (aC (eC (.str "keep")) (aC (eC (.str "drop")) (aC (eC (.str "place")) (aC (eC (.str "commit")) (aC (eC (.str "stop")) aN))))))))))) aN))) (gN 1))
    (sSeq (sAsg (eLst (aC (eC (.str "a")) (aC (eC (.str "b")) (aC (eC (.str "zz")) (aC (eC (.str "make")) (aC (eC (.str "commit")) (aC (eC (.str "abcdefgh")) aN))))))) (gN 2))
    (sSeq (sAsg (eTup (aC (eV 1) aN)) (gN 3))
    (sSeq (sFor (iAny (eO oDG (fun _ => f__law_forms []) (eV 1))) (gN 4) b__law_deed_L1)
    (sRet (eV 3))))))
def f__law_deed : List DV → M DV := runF 5 b__law_deed
def b__law_is_word : SS := (sRet (eAnd (eCh oLt oLt (eC (.int 0)) (eK kLen (aC (eV 0) aN)) (eC (.int 9))) (eK kAll (aC (eComp [1] (iAny (eV 0)) (gN 1) bYes (eO oIn (eV 1) (eC (.str "abcdefghijklmnopqrstuvwxyz")))) aN))))
def f__law_is_word : List DV → M DV := runF 2 b__law_is_word
def b__law_part : SS := (sSeq (sIf (bT (eO oEq (eV 0) (eC (.str "n")))) (sRet (eO oRep (eLst (aC (eV 1) aN)) (eK kIntS (aC (eF 1 f__law_is_word (aC (eV 1) aN)) aN)))) sNil)
    (sSeq (sIf (bOr (bNot (bT (eCh oLt oLt (eC (.int 0)) (eK kLen (aC (eV 1) aN)) (eC (.int 7))))) (bNot (bT (eK kAll (aC (eComp [2] (iAny (eV 1)) (gN 2) bYes (eO oIn (eV 2) (eC (.str "0123456789")))) aN))))) (sRet (eLst aN)) sNil)
    (sRet (eIf (bOr (bT (eO oEq (eV 1) (eC (.str "0")))) (bT (eO oNe (eO oIx (eV 1) (eC (.int 0))) (eC (.str "0"))))) (eLst (aC (eK kIntS (aC (eV 1) aN)) aN)) (eLst aN)))))
def f__law_part : List DV → M DV := runF 3 b__law_part
def b__law_own_reader : SS := (sSeq (sAsg (eM oSplit (eV 0) (eC (.str " "))) (gN 1))
    (sSeq (sAsg (eG1 (fun _ => f__law_forms []) (eO oIx (eV 1) (eC (.int 0)))) (gN 2))
    (sSeq (sIf (bOr (bT (eO oIs (eV 2) (eC .non))) (bT (eO oNe (eK kLen (aC (eV 1) aN)) (eO oAdd (eC (.int 1)) (eK kLen (aC (eV 2) aN)))))) (sRet (eC .non)) sNil)
    (sSeq (sAsg (eComp [4, 5] (iZG (aC (eV 2) (aC (eSl (eV 1) (oSome (eC (.int 1))) oNone) aN))) (gQ 2 (gsC (gN 4) (gsC (gN 5) gsN))) bYes (eF 2 f__law_part (aC (eV 4) (aC (eV 5) aN)))) (gN 3))
    (sRet (eIf (bT (eO oInA (eLst aN) (eV 3))) (eC .non) (eK kTuple (aC (eO oAdd (eLst (aC (eO oIx (eV 1) (eC (.int 0))) aN)) (eComp [6] (iAny (eV 3)) (gN 6) bYes (eO oIx (eV 6) (eC (.int 0))))) aN))))))))
def f__law_own_reader : List DV → M DV := runF 7 b__law_own_reader
def b__law_heard : SS := (sSeq (sAsg (eTup (aC (eC .non) (aC (eC .non) aN))) (gQ 2 (gsC (gN 2) (gsC (gN 3) gsN))))
    (sSeq (sTryK ["BadLine", "BadText", "Known"] 4 3 (xSet (xCond (bT (eO oEq (eV 0) (eC (.int 0)))) (xF 1 fx_event_in (aC (eV 1) aN)) (xFK 1 1 [0] fx_events_in (aC (eV 1) aN))) 2))
    (sSeq (sIf (bT (eO oIs (eV 3) (eC .non))) (sRet (eV 2)) sNil)
    (sSeq (sIf (bOr (bNot (bT (eK (kIsx nms) (aC (eV 3) (aC (eC (.cst (.ty "ValueError"))) aN))))) (bT (eK (kIsx nms) (aC (eV 3) (aC (eC (.gl "Known")) aN))))) (sRet (eC (.str "other"))) sNil)
    (sSeq (sIf (bT (eK (kIsx nms) (aC (eV 3) (aC (eC (.gl "BadLine")) aN)))) (sRet (eIf (bT (eK (kIsx nms) (aC (eV 3) (aC (eC (.gl "BadText")) aN)))) (eC (.str "other")) (eTup (aC (eC (.str "line")) (aC (eAt nms "number" (eV 3)) aN))))) sNil)
    (sRet (eC (.str "bad"))))))))
def f__law_heard : List DV → M DV := runF 5 b__law_heard
def b__law_due_L1 : SS := (sSeq (sAsg (eF 1 f__law_own_reader (aC (eV 3) aN)) (gN 4))
    (sSeq (sIf (bT (eO oIs (eV 4) (eC .non))) (sRet (eTup (aC (eC (.str "line")) (aC (eV 2) aN)))) sNil)
    (sExpr (eApp (eV 1) (eV 4)))))
def b__law_due : SS := (sSeq (sAsg (eNew aN) (gN 1))
    (sSeq (sFor (iE (aC (eIf (bT (eO oNe (eV 0) (eC (.str "")))) (eM oSplit (eV 0) (eC (.str "\n"))) (eLst aN)) aN)) (gQ 2 (gsC (gN 2) (gsC (gN 3) gsN))) b__law_due_L1)
    (sFrz 1 (sRet (eV 1)))))
def f__law_due : List DV → M DV := runF 5 b__law_due
def b__law_spoilt : SS := (sSeq (sPar 2 3 (aC (eF 2 f__law_take (aC (eV 0) (aC (eO oAdd (eK kLen (aC (eV 1) aN)) (eC (.int 1))) aN))) (aC (eF 2 f__law_take (aC (eV 0) (aC (eC (.int 6)) aN))) aN)))
    (sSeq (sAsg (eF 2 f__law_of (aC (eV 0) (aC (eLst (aC (eC (.str "a")) (aC (eC (.str "0")) (aC (eC (.str "1")) (aC (eC (.str " ")) (aC (eC (.str "-")) (aC (eC (.str "\n")) (aC (eC (.str "A")) (aC (eC (.str ".")) (aC (eC (.str "00")) (aC (eC (.str " 0")) (aC (eC (.str "commit")) (aC (eC (.str "\nstop")) aN))))))))))))) aN))) (gN 4))
    (sSeq (sIf (bT (eO oLt (eV 3) (eC (.int 3)))) (sRet (eO oAdd (eO oAdd (eSl (eV 1) oNone (oSome (eV 2))) (eIf (bT (eO oLt (eV 3) (eC (.int 2)))) (eV 4) (eC (.str "")))) (eSl (eV 1) (oSome (eO oAdd (eV 2) (eK kIntS (aC (eO oGt (eV 3) (eC (.int 0))) aN)))) oNone))) sNil)
    (sSeq (sIf (bT (eO oEq (eV 3) (eC (.int 3)))) (sRet (eO oAdd (eO oAdd (eSl (eV 1) oNone (oSome (eV 2))) (eSl (eV 1) (oSome (eV 2)) (oSome (eO oAdd (eV 2) (eC (.int 1)))))) (eSl (eV 1) (oSome (eV 2)) oNone))) sNil)
    (sSeq (sAsg (eM oSplitC (eV 1) (eC (.str " "))) (gN 5))
    (sSeq (sPar 6 7 (aC (eF 2 f__law_take (aC (eV 0) (aC (eK kLen (aC (eV 5) aN)) aN))) (aC (eF 2 f__law_take (aC (eV 0) (aC (eK kLen (aC (eV 5) aN)) aN))) aN)))
    (sSeq (sIf (bT (eO oEq (eV 3) (eC (.int 4)))) (sExpr (ePopAt (eV 5) (eV 6))) (sAsg (eO oIx (eV 5) (eV 7)) (gSet (eV 5) (eV 6))))
    (sFrz 5 (sRet (eM oJoin (eC (.str " ")) (eV 5)))))))))))
def f__law_spoilt : List DV → M DV := runF 8 b__law_spoilt
def b__law_things_right : SS := (sSeq (sAsg (eLst (aC (eC .non) (aC (eTup aN) (aC (eLst aN) (aC (eC (.str "commit")) (aC (eTup (aC (eC (.str "commit")) (aC (eC (.str "a")) aN))) (aC (eTup (aC (eC (.str "make")) aN)) (aC (eTup (aC (eC (.str "make")) (aC (eC (.int 1)) aN))) (aC (eTup (aC (eC (.str "make")) (aC (eC (.str "")) aN))) (aC (eTup (aC (eC (.str "make")) (aC (eC (.str "abcdefghi")) aN))) aN)))))))))) (gN 0))
    (sSeq (sAsg (eO oAdd (eV 0) (eLst (aC (eLst (aC (eC (.str "commit")) aN)) (aC (eTup (aC (eC (.str "promise")) (aC (eC (.str "a")) (aC (eNeg (eC (.int 1))) aN)))) (aC (eTup (aC (eC (.str "promise")) (aC (eC (.str "a")) (aC (eC (.bl false)) aN)))) (aC (eTup (aC (eC (.str "promise")) (aC (eC (.str "a")) (aC (eC (.str "1")) aN)))) (aC (eTup (aC (eC (.str "drop")) (aC (eC (.str "a")) (aC (eC (.str "b")) aN)))) aN))))))) (gN 0))
    (sSeq (sAsg (eO oAddC (eV 0) (eLst (aC (eTup (aC (eC (.str "clone")) (aC (eC (.str "a")) (aC (eC (.int 1)) aN)))) (aC (eTup (aC (eC (.str "keep")) (aC (eC (.str "a")) aN))) (aC (eTup (aC (eC (.str "open")) (aC (eC (.str "a")) aN))) (aC (eTup (aC (eC (.int 1)) aN)) (aC (eTup (aC (eC (.str "give")) (aC (eC (.int 1)) (aC (eC (.str "a")) aN)))) (aC (eTup (aC (eC (.str "make")) (aC (eTup (aC (eC (.str "a")) aN)) aN))) aN)))))))) (gN 0))
    (sSeq (sExpr (eApp (eV 0) (eTup (aC (eTup (aC (eC (.str "make")) aN)) (aC (eC (.str "a")) aN)))))
    (sFrz 0 (sSeq (sAsg (eLst (aC (eTup (aC (eC (.str "promise")) (aC (eC (.str "a")) (aC (eO oPow (eC (.int 10)) (eC (.int 9))) aN)))) (aC (eTup (aC (eC (.str "stop")) aN)) (aC (eTup (aC (eC (.str "keep")) (aC (eC (.str "a")) (aC (eC (.str "a")) aN)))) aN)))) (gN 1))
    (sSeq (sAsg (eO oAdd (eComp [3] (iAny (eV 0)) (gN 3) bYes (eF 1 f_is_event (aC (eV 3) aN))) (eComp [3] (iAny (eV 1)) (gN 3) bYes (eFK 1 1 [0] f_is_event (aC (eV 3) aN)))) (gN 2))
    (sRet (eF 2 (f__law_same 5) (aC (eV 2) (aC (eO oAdd (eO oRep (eLst (aC (eC (.bl false)) aN)) (eK kLen (aC (eV 0) aN))) (eO oRep (eLst (aC (eC (.bl true)) aN)) (eK kLen (aC (eV 1) aN)))) aN)))))))))))
def f__law_things_right : List DV → M DV := runF 4 b__law_things_right
def b__law_right_L1 : SS := (sSeq (sAsg (eF 2 f__law_spoilt (aC (eV 0) (aC (eV 4) aN))) (gN 10))
    (sSeq (sIf (bNot (bT (eF 2 (f__law_same 5) (aC (eF 2 f__law_heard (aC (eC (.int 1)) (aC (eV 10) aN))) (aC (eF 1 f__law_due (aC (eV 10) aN)) aN))))) (sRet (eC (.bl false))) sNil)
    (sSeq (sAsg (eF 2 f__law_spoilt (aC (eV 0) (aC (eF 2 f__law_of (aC (eV 0) (aC (eO oAdd (eV 3) (eLst (aC (eC (.str "stop")) aN))) aN))) aN))) (gN 7))
    (sSeq (sAsg (eF 1 f__law_own_reader (aC (eV 7) aN)) (gN 6))
    (sIf (bNot (bT (eF 2 (f__law_same 5) (aC (eF 2 f__law_heard (aC (eC (.int 0)) (aC (eV 7) aN))) (aC (eIf (bT (eO oIs (eV 6) (eC .non))) (eC (.str "bad")) (eV 6)) aN))))) (sRet (eC (.bl false))) sNil)))))
def b__law_right_L2 : SS := (sSeq (sAsg (eLst (aC (eF 1 f_event_text (aC (eV 6) aN)) (aC (eFK 1 1 [0] f_event_text (aC (eK kList (aC (eV 6) aN)) aN)) (aC (eF 1 f_is_event (aC (eV 6) aN)) (aC (xNo (xFK 1 1 [0] fx_event_in (aC (eV 7) aN))) aN))))) (gN 8))
    (sIf (bNot (bT (eF 2 (f__law_same 5) (aC (eV 8) (aC (eLst (aC (eV 7) (aC (eV 7) (aC (eC (.bl true)) (aC (eV 6) aN))))) aN))))) (sRet (eC (.bl false))) sNil))
def b__law_right_L3 : SS := (sSeq (sAsg (eComp [9] (iR1 (aC (eF 2 f__law_take (aC (eV 0) (aC (eC (.int 9)) aN))) aN)) (gN 9) bYes (eF 1 f__law_deed (aC (eV 0) aN))) (gN 2))
    (sSeq (sAsg (eComp [6] (iAny (eV 2)) (gN 6) bYes (eM oJoin (eC (.str " ")) (eComp [13] (iAny (eV 6)) (gN 13) bYes (eK kStrS (aC (eV 13) aN))))) (gN 3))
    (sSeq (sPar 4 5 (aC (eM oJoin (eC (.str "\n")) (eV 3)) (aC (eF 2 (f__law_mixed 4) (aC (eV 0) (aC (eK kTuple (aC (eV 2) aN)) aN))) aN)))
    (sSeq (sIf (bNot (bT (eF 2 (f__law_same 5) (aC (eLst (aC (eF 1 f_events_text (aC (eV 2) aN)) (aC (eFK 1 1 [0] f_events_text (aC (eV 5) aN)) (aC (eF 2 f__law_heard (aC (eC (.int 1)) (aC (eV 4) aN))) aN)))) (aC (eLst (aC (eV 4) (aC (eV 4) (aC (eV 2) aN)))) aN))))) (sRet (eC (.bl false))) sNil)
    (sSeq (sFor (iZG (aC (eV 2) (aC (eV 3) aN))) (gQ 2 (gsC (gN 6) (gsC (gN 7) gsN))) b__law_right_L2)
    (sFor (iR1 (aC (eC (.int 10)) aN)) (gN 9) b__law_right_L1))))))
def b__law_right : SS := (sSeq (sFor (iR1 (aC (eC (.int 4)) aN)) (gN 1) b__law_right_L3)
    (sSeq (sAsg (eLst (aC (eC (.str "")) (aC (eC (.str " ")) (aC (eC (.str "commit ")) (aC (eC (.str " commit")) (aC (eC (.str "promise a 00")) (aC (eC (.str "promise a 1000000")) (aC (eC (.str "promise a +1")) (aC (eC (.str "make abcdefghi")) aN))))))))) (gN 11))
    (sSeq (sAsg (eO oAdd (eV 11) (eLst (aC (eC (.str "Make a")) (aC (eC (.str "make A")) (aC (eC (.str "promise  a 1")) (aC (eC (.str "promise a")) (aC (eC (.str "stop\n")) aN))))))) (gN 11))
    (sSeq (sAsg (eO oAdd (eV 11) (eLst (aC (eC (.str "drop a b")) (aC (eC (.str "give a 1.0")) (aC (eC (.str "cut 1 a")) (aC (eC (.str "keep a 1")) aN)))))) (gN 11))
    (sSeq (sIf (bT (eO oNe (eComp [7] (iAny (eV 11)) (gN 7) bYes (eF 2 f__law_heard (aC (eC (.int 0)) (aC (eV 7) aN)))) (eO oRep (eLst (aC (eC (.str "bad")) aN)) (eK kLen (aC (eV 11) aN))))) (sRet (eC (.bl false))) sNil)
    (sSeq (sAsg (eComp [7] (iAny (eTup (aC (eC (.str "")) (aC (eC (.str "\n")) (aC (eC (.str "stop\n")) (aC (eC (.str "stop\n\nstop")) (aC (eC (.str "stop\ncommit")) aN))))))) (gN 7) bYes (eF 2 f__law_heard (aC (eC (.int 1)) (aC (eV 7) aN)))) (gN 8))
    (sSeq (sAsg (eLst (aC (eLst aN) (aC (eTup (aC (eC (.str "line")) (aC (eC (.int 0)) aN))) (aC (eTup (aC (eC (.str "line")) (aC (eC (.int 1)) aN))) (aC (eTup (aC (eC (.str "line")) (aC (eC (.int 1)) aN))) (aC (eLst (aC (eTup (aC (eC (.str "stop")) aN)) (aC (eTup (aC (eC (.str "commit")) aN)) aN))) aN)))))) (gN 12))
    (sRet (eAnd (eF 2 (f__law_same 5) (aC (eV 8) (aC (eV 12) aN))) (fun _ => f__law_things_right []))))))))))
def f__law_right : List DV → M DV := runF 14 b__law_right
def b_law : SS := (sRet (eK kAll (aC (eComp [1] (iR1 (aC (eO oAdd (eC (.int 1)) (eK kMin2 (aC (eC (.int 2)) (aC (eK kLen (aC (eV 0) aN)) aN)))) aN)) (gN 1) bYes (eF 1 f__law_right (aC (eF 2 f__law_box (aC (eV 0) (aC (eV 1) aN))) aN))) aN)))
def f_law : List DV → M DV := runF 2 b_law
end K26
end L2


set_option maxRecDepth 100000
namespace L2
namespace K26
open PySem PySem.Spec PyProof.Rows DL
/-! ### the box of draws -/
theorem at0 {α : Type} (a : α) (l : List α) : atI (a :: l) 0 = some a := atI_nat (j := 0) rfl
theorem at1 {α : Type} (a b : α) (l : List α) : atI (a :: b :: l) 1 = some b := atI_nat (j := 1) rfl
theorem at2 {α : Type} (a b c : α) (l : List α) : atI (a :: b :: c :: l) 2 = some c := atI_nat (j := 2) rfl
theorem ix0 (n : Nat) : ixN (n + 1) 0 = some 0 := by unfold ixN; rw [if_pos (by decide), if_pos (by omega)]; rfl
theorem ix3_2 : ixN 3 2 = some 2 := by decide
def Box (W : Wd) (b : Nat) (c : Int) : Prop := ∃ x0 x1 x2 : Int, W[b]? = some (.lst [.int x0, .int x1, .int x2]) ∧ 0 ≤ x0 ∧ 0 ≤ x1 ∧ x1 < 2 ^ 62 ∧ 0 ≤ x2 ∧ x2 ≤ c
structure Sm (W W' : Wd) (b : Nat) : Prop where
  len : W'.length = W.length
  rest : ∀ j, j ≠ b → W'[j]? = W[j]?
theorem Sm.refl (W : Wd) (b : Nat) : Sm W W b := ⟨rfl, fun _ _ => rfl⟩
theorem Sm.trans {W W1 W2 : Wd} {b : Nat} (h : Sm W W1 b) (k : Sm W1 W2 b) : Sm W W2 b := ⟨k.len.trans h.len, fun j hj => (k.rest j hj).trans (h.rest j hj)⟩
theorem Sm.set (W : Wd) (b : Nat) (c : Cell) : Sm W (W.set b c) b := ⟨List.length_set, fun j hj => List.getElem?_set_ne (Ne.symm hj)⟩
theorem get_set {W : Wd} {b : Nat} {c d : Cell} (h : W[b]? = some d) : (W.set b c)[b]? = some c := by
  obtain ⟨l, _⟩ := List.getElem?_eq_some_iff.mp h
  exact List.getElem?_set_self l
theorem oIx_loc {W : Wd} {b : Nat} {xs : List DV} (h : W[b]? = some (.lst xs)) (k : Int) : oIx (.loc b) (.int k) W = (atI xs k).map fun z => (z, W) := by
  simp [oIx, itemsOf, h]
theorem dPut_loc {W : Wd} {b : Nat} {xs : List DV} (h : W[b]? = some (.lst xs)) (v : DV) (k : Int) : dPut v (.loc b) (.int k) W = (ixN xs.length k).map fun j => ((), W.set b (.lst (xs.set j v))) := by
  simp [dPut, h]
theorem bound64_of {i : Int} (h : 0 ≤ i) (h2 : i < 2 ^ 62) : bound64 i = true := by
  unfold bound64
  have : (2 : Int) ^ 62 < 2 ^ 64 := by decide
  exact decide_eq_true ⟨by omega, by omega⟩
theorem take_spec {W : Wd} {b : Nat} {c n : Int} (hb : Box W b c) (hn : 0 < n) (hn2 : n < 1073741824) (hc : c < 1000000000) :
    ∃ v W', f__law_take [.loc b, .int n] W = some (.int v, W') ∧ 0 ≤ v ∧ v < n ∧ Box W' b (c + 1) ∧ Sm W W' b := by
  obtain ⟨x0, x1, x2, h, p0, p1, p2, p3, p4⟩ := hb
  by_cases hx : 0 < x0
  · refine ⟨x0 % n, W.set b (.lst [.int (x0 / n), .int x1, .int x2]), runF_rt ?_ List.length_set, Int.emod_nonneg _ (by omega), Int.emod_lt_of_pos _ hn, ⟨_, _, _, get_set h, Int.ediv_nonneg p0 (by omega), p1, p2, p3, by omega⟩, Sm.set _ _ _⟩
    simp [b__law_take, oIx_loc h, dPut_loc h, at0, hx, kIntS, kInt, hn, hn2, ix0]
  · have hW : (W.set b (.lst [.int x0, .int x1, .int (x2 + 1)]))[b]? = some (.lst [.int x0, .int x1, .int (x2 + 1)]) := get_set h
    have b2 : bound64 (39373 + (x2 + 1)) = true := bound64_of (by omega) (by omega)
    have b3 : bound64 (48271 : Int) = true := by decide
    obtain ⟨on, hon⟩ : ∃ on, (x1 + 48271 * (x2 + 1)) * (39373 + (x2 + 1)) % 2147483647 = on := ⟨_, rfl⟩
    have b4 : bound64 (on % 40009 + 7) = true := by
      have a1 := Int.emod_nonneg on (show (40009 : Int) ≠ 0 by decide)
      have a2 := Int.emod_lt_of_pos on (show (0 : Int) < 40009 by decide)
      exact bound64_of (by omega) (by omega)
    obtain ⟨tw, htw⟩ : ∃ tw, (on + (x2 + 1) + x1 / 1000003) * (on % 40009 + 7) % 2147483629 = tw := ⟨_, rfl⟩
    refine ⟨(tw * 48271 + on) % 2147483587 / 64 % n, W.set b (.lst [.int x0, .int x1, .int (x2 + 1)]), runF_rt ?_ List.length_set, Int.emod_nonneg _ (by omega), Int.emod_lt_of_pos _ hn, ⟨_, _, _, hW, p0, p1, p2, by omega, by omega⟩, Sm.set _ _ _⟩
    simp [b__law_take, oIx_loc h, dPut_loc h, at0, at1, at2, hx, kIntS, kInt, hn, hn2, ix3_2, oIx_loc hW, b2, b3, hon, b4, htw]
end K26
end L2

set_option maxRecDepth 100000
namespace L2
namespace K26
open PySem PySem.Spec PyProof.Rows DL
theorem ixN_lt {n : Nat} {v : Int} (h0 : 0 ≤ v) (h1 : v < n) : ixN n v = some v.toNat := by unfold ixN; rw [if_pos h0, if_pos h1]
theorem atI_lt {α : Type} {xs : List α} {v : Int} (h0 : 0 ≤ v) (h1 : v < xs.length) : ∃ x, atI xs v = some x ∧ x ∈ xs := by
  unfold atI
  rw [ixN_lt h0 h1]
  have l : v.toNat < xs.length := by omega
  exact ⟨xs[v.toNat], List.getElem?_eq_getElem l, List.getElem_mem l⟩
theorem of_spec {W : Wd} {b : Nat} {c : Int} {xs : List DV} (hb : Box W b c) (h0 : 0 < xs.length) (h1 : xs.length < 1000000) (hc : c < 1000000000) :
    ∃ x W', f__law_of [.loc b, .lst xs] W = some (x, W') ∧ x ∈ xs ∧ Box W' b (c + 1) ∧ Sm W W' b := by
  obtain ⟨v, W', e, v0, v1, hb', sm⟩ := take_spec (n := xs.length) hb (by omega) (by omega) hc
  obtain ⟨x, ex, mx⟩ := atI_lt v0 v1
  refine ⟨x, W', runF_rt ?_ sm.len, mx, hb', sm⟩
  simp [b__law_of, kLen, itemsOf, e, oIx, ex]
theorem cell_eq (ns : List Int) (k : Nat) (W : Wd) : f__law_cell_at [.scr ns, .int (k : Nat)] W = some (.int (ns.getD k 0), W) := by
  refine runF_rt ?_ rfl
  by_cases h : k < ns.length
  · have e : atI (ns.map DV.int) (k : Int) = some (.int ns[k]) := atI_nat (by rw [List.getElem?_map, List.getElem?_eq_getElem h]; rfl)
    simp [b__law_cell_at, kLen, itemsOf, oIx, e, h]
  · simp [b__law_cell_at, kLen, itemsOf, oIx, h]
theorem box_spec (ns : List Int) (k : Nat) (W : Wd) (hk : k ≤ 100) : ∃ x0 x1 : Int, f__law_box [.scr ns, .int (k : Nat)] W = some (.loc W.length, W ++ [.lst [.int x0, .int x1, .int 0]]) ∧ 0 ≤ x0 ∧ 0 ≤ x1 ∧ x1 < 2 ^ 62 := by
  obtain ⟨c, hc⟩ : ∃ c, ns.getD k 0 = c := ⟨_, rfl⟩
  have ec := cell_eq ns k W
  rw [hc] at ec
  obtain ⟨a, ha⟩ : ∃ a : Int, (if c < 0 then -c else c) = a := ⟨_, rfl⟩
  have a0 : 0 ≤ a := by rw [← ha]; split <;> omega
  have m0 := Int.emod_nonneg c (show (2305843009213693951 : Int) ≠ 0 by decide)
  have m1 := Int.emod_lt_of_pos c (show (0 : Int) < 2305843009213693951 by decide)
  have bk : bound64 (39373 : Int) = true := by decide
  obtain ⟨f, hf⟩ : ∃ f : Int, (if decide ((1000000000000000000 : Int) ≤ a) = true then (1 : Int) else 0) = f := ⟨_, rfl⟩
  have f01 : f = 1 ∨ f = 0 := by rw [← hf]; split <;> simp
  have bf : bound64 f = true := by rcases f01 with rfl | rfl <;> decide
  have big : (2 : Int) ^ 62 = 4611686018427387904 := by decide
  refine ⟨a * f, c % 2305843009213693951 + 39373 * (k : Int) + 61, runF_keep ?_ (by simp) (by simp [DV.lo]), ?_, by omega, by rw [big]; omega⟩
  · have l3 : lineOk [DV.int (a * f), DV.int (c % 2305843009213693951 + 39373 * (k : Int) + 61), DV.int 0] = true := by unfold lineOk; rw [sizeLine_eq]; rfl
    have pw : oPow (.int 10) (.int 18) W = some (.int 1000000000000000000, W) := by kernel_rfl
    simp [b__law_box, ec, kIntS, kInt, kAbs, ha, bk, pw]
    simp only [decide_eq_true_eq] at hf
    simp [hf, bf, l3]
  · rcases f01 with rfl | rfl
    · omega
    · omega
/-! ### same -/
def okS : Nat → DV → Bool
  | 0, _ => false
  | k + 1, x => match x with
    | .non => true
    | .bl _ => true
    | .int _ => true
    | .str _ => true
    | .tup xs => decide (xs.length ≤ sizeLine) && xs.all (okS k)
    | .lst xs => decide (xs.length ≤ sizeLine) && xs.all (okS k)
    | _ => false
theorem same_all (g : List DV → M DV) (W : Wd) (e0 e1 : Option DV) : ∀ (xs acc : List DV), (∀ x ∈ xs, g [x, x] W = some (.bl true, W)) → acc.length + xs.length ≤ sizeLine →
    cLoop (gQ 2 (gsC (gN 2) (gsC (gN 3) gsN))) bYes (eF 2 g (aC (eV 2) (aC (eV 3) aN))) [e0, e1, none, none] (pairUp xs xs) acc W = some (acc ++ xs.map fun _ => .bl true, W)
  | [], acc, _, _ => by simp [pairUp]
  | x :: xs, acc, h, l => by
    have e := h x List.mem_cons_self
    have ih := same_all g W e0 e1 xs (acc ++ [.bl true]) (fun y hy => h y (List.mem_cons_of_mem _ hy)) (by rw [List.length_append]; simp at l ⊢; omega)
    have l' : acc.length < sizeLine := by simp at l; omega
    simp [pairUp, e, l', ih]
theorem bools_true : ∀ xs : List DV, bools (xs.map fun _ => DV.bl true) = some (xs.map fun _ => true)
  | [] => rfl
  | x :: xs => by
    show (bools (xs.map fun _ => DV.bl true)).map (fun bs => true :: bs) = _
    rw [bools_true xs]; rfl
theorem all_true : ∀ xs : List DV, (xs.map fun _ => true).all id = true
  | [] => rfl
  | x :: xs => by simpa using all_true xs
theorem line2 (a b : DV) : lineOk [a, b] = true := by unfold lineOk; rw [sizeLine_eq]; rfl
theorem same_refl : ∀ (k : Nat) (x : DV) (W : Wd), okS k x = true → f__law_same k [x, x] W = some (.bl true, W)
  | 0, _, _, h => by cases h
  | k + 1, x, W, h => by
    refine runF_rt ?_ rfl
    have z (xs : List DV) (h : (decide (xs.length ≤ sizeLine) && xs.all (okS k)) = true) := same_all (f__law_same k) W (some (.tup xs)) (some (.tup xs)) xs [] (fun y hy => same_refl k y W (by rw [Bool.and_eq_true] at h; exact List.all_eq_true.mp h.2 y hy)) (by rw [Bool.and_eq_true] at h; simpa using of_decide_eq_true h.1)
    have z2 (xs : List DV) (h : (decide (xs.length ≤ sizeLine) && xs.all (okS k)) = true) := same_all (f__law_same k) W (some (.lst xs)) (some (.lst xs)) xs [] (fun y hy => same_refl k y W (by rw [Bool.and_eq_true] at h; exact List.all_eq_true.mp h.2 y hy)) (by rw [Bool.and_eq_true] at h; simpa using of_decide_eq_true h.1)
    cases x with
    | non => simp [b__law_same, kIsx, kIsi, tyD, clsOf, clsAll, known, isSub, line2, oIs, isN, oEq, dEq, dEqD, toPy, SeqAt.shaped, PyData.canLay0, PyData.depth, PyData.eqv]
    | bl b => simp [b__law_same, kIsx, kIsi, tyD, clsOf, clsAll, known, isSub, line2, oIs, isN]
    | int i => simp [b__law_same, kIsx, kIsi, tyD, clsOf, clsAll, known, isSub, line2, oIs, isN]
    | str i => simp [b__law_same, kIsx, kIsi, tyD, clsOf, clsAll, known, isSub, line2, oIs, isN]
    | tup xs =>
      have zz := z xs h
      simp [b__law_same, kIsx, kIsi, tyD, clsOf, clsAll, known, isSub, line2, kLen, itemsOf, mb_apply, wipeD, zz, kAll, bools_true, all_true]
    | lst xs =>
      have zz := z2 xs h
      simp [b__law_same, kIsx, kIsi, tyD, clsOf, clsAll, known, isSub, line2, kLen, itemsOf, mb_apply, wipeD, zz, kAll, bools_true, all_true]
    | loc i => cases h
    | cst v => cases h
    | scr ns => cases h
    | gl c => cases h
    | exc a b c => cases h
end K26
end L2

set_option maxRecDepth 100000
/-! k26: names, numbers, parts. -/
namespace L2
namespace K26
open PySem PySem.Spec PyProof.Rows DL
def inB (L : Str) (c : Nat) : Bool := decide (c ∈ L.cps.toList)
abbrev lets : Str := "abcdefghijklmnopqrstuvwxyz"
abbrev figs : Str := "0123456789"
theorem oIn_sign (L : Str) (c : Nat) (W : Wd) : oIn (.str ⟨#[c]⟩) (.str L) W = some (.bl (inB L c), W) := rfl
theorem sign_loop (L : Str) (k : Nat) (env : DEnv) (hk : k < env.length) (W : Wd) : ∀ (cs : List Nat) (acc : List DV), acc.length + cs.length ≤ sizeLine →
    cLoop (gN k) bYes (eO oIn (eV k) (eC (.str L))) env (cs.map fun c => DV.str ⟨#[c]⟩) acc W = some (acc ++ cs.map fun c => .bl (inB L c), W)
  | [], acc, _ => by simp
  | c :: cs, acc, l => by
    have l' : acc.length < sizeLine := by simp at l; omega
    have ih := sign_loop L k env hk W cs (acc ++ [.bl (inB L c)]) (by simp at l ⊢; omega)
    have g : (env.set k (some (DV.str ⟨#[c]⟩)))[k]? = some (some (DV.str ⟨#[c]⟩)) := by rw [List.getElem?_set_self hk]
    simp [g, oIn_sign, l', ih]
theorem bools_map (p : Nat → Bool) : ∀ cs : List Nat, bools (cs.map fun c => DV.bl (p c)) = some (cs.map p)
  | [] => rfl
  | c :: cs => by
    show (bools (cs.map fun c => DV.bl (p c))).map (fun bs => p c :: bs) = _
    rw [bools_map p cs]; rfl
theorem kAll_map (p : Nat → Bool) (cs : List Nat) (W : Wd) : kAll [.lst (cs.map fun c => DV.bl (p c))] W = some (.bl (cs.all p), W) := by
  simp [kAll, bools_map, List.all_map, Function.comp_def]
theorem signs_loop (L s : Str) (k : Nat) (env : DEnv) (hk : k < env.length) (hs : s.length ≤ sizeLine) (W : Wd) :
    cLoop (gN k) bYes (eO oIn (eV k) (eC (.str L))) env (DL.signs s) [] W = some (s.cps.toList.map fun c => .bl (inB L c), W) :=
  sign_loop L k env hk W s.cps.toList [] (by simpa [Str.length] using hs)
def nameB (s : Str) : Bool := decide (1 ≤ s.length) && decide (s.length ≤ 8) && s.cps.toList.all (inB lets)
theorem big8 {n : Nat} (h : n ≤ 8) : n ≤ sizeLine := by rw [sizeLine_eq]; omega
theorem isi_str (s : Str) (W : Wd) : kIsx nms [.str s, .cst (.ty "str")] W = some (.bl true, W) := by simp [kIsx, kIsi, tyD, clsOf, known, isSub]
theorem is_name_str (s : Str) (hs : s.length ≤ sizeLine) (W : Wd) : f_is_name [.str s] W = some (.bl (nameB s), W) := by
  refine runF_rt ?_ rfl
  have a := signs_loop lets s 1 [some (.str s), none] (by simp) hs W
  have i := isi_str s W
  by_cases h1 : 1 ≤ s.length
  · have p : 0 < s.length := h1
    have h1' : (1 : Int) ≤ (s.length : Int) := by omega
    by_cases h2 : s.length ≤ 8
    · have h2' : (s.length : Int) ≤ 8 := by omega
      simp [b_is_name, i, kLen, hs, h1', h2', p, wipeD, a, kAll_map, nameB, h1, h2]
    · have h2' : ¬ (s.length : Int) ≤ 8 := by omega
      simp [b_is_name, i, kLen, hs, h1', h2', p, nameB, h2]
  · have h1' : ¬ (1 : Int) ≤ (s.length : Int) := by omega
    have p : ¬ 0 < s.length := h1
    simp [b_is_name, i, kLen, hs, h1', p, nameB, h1]
theorem is_word_str (s : Str) (hs : s.length ≤ sizeLine) (W : Wd) : f__law_is_word [.str s] W = some (.bl (nameB s), W) := by
  refine runF_rt ?_ rfl
  have a := signs_loop lets s 1 [some (.str s), none] (by simp) hs W
  by_cases h1 : 1 ≤ s.length
  · have p : 0 < s.length := h1
    have h1' : (0 : Int) < (s.length : Int) := by omega
    by_cases h2 : s.length ≤ 8
    · have h2' : (s.length : Int) < 9 := by omega
      simp [b__law_is_word, kLen, hs, h1', h2', p, wipeD, a, kAll_map, nameB, h1, h2]
    · have h2' : ¬ (s.length : Int) < 9 := by omega
      simp [b__law_is_word, kLen, hs, h1', h2', p, nameB, h2]
  · have h1' : ¬ (0 : Int) < (s.length : Int) := by omega
    have p : ¬ 0 < s.length := h1
    simp [b__law_is_word, kLen, hs, h1', p, nameB, h1]
end K26
end L2

set_option maxRecDepth 100000
/-! k26: numbers and parts. -/
namespace L2
namespace K26
open PySem PySem.Spec PyProof.Rows DL PySem.NumText
theorem figs_list : figs.cps.toList = [48, 49, 50, 51, 52, 53, 54, 55, 56, 57] := by decide +kernel
theorem digits_all {cs : List Nat} (h : cs.all (inB figs) = true) : AllDigits cs := fun c m => by
  have := List.all_eq_true.mp h c m
  unfold inB at this
  rw [figs_list] at this
  have := of_decide_eq_true this
  simp at this
  omega
def figsB (s : Str) : Bool := decide (1 ≤ s.length) && decide (s.length ≤ 6) && s.cps.toList.all (inB figs)
def firstB (s : Str) : Bool := decide (s = "0") || !(match s.cps.toList with | c :: _ => decide ((⟨#[c]⟩ : Str) = "0") | [] => true)
def numD (s : Str) : DV := if figsB s = true then (if firstB s = true then .int ((digitsVal s.cps.toList : Nat) : Int) else .non) else .non
theorem small_size {n : Nat} (h : n ≤ 6) : n ≤ sizeLine := by rw [sizeLine_eq]; omega
theorem list_of_len {s : Str} (h : 1 ≤ s.length) : ∃ c cs, s.cps.toList = c :: cs := by
  cases e : s.cps.toList with
  | nil =>
    have : s.cps.toList.length = s.length := Array.length_toList
    rw [e] at this
    simp at this
    omega
  | cons c cs => exact ⟨c, cs, rfl⟩
theorem first_at {s : Str} {c : Nat} {cs : List Nat} (h : s.cps.toList = c :: cs) (hs : s.length ≤ sizeLine) (W : Wd) : oIx (.str s) (.int 0) W = some (.str ⟨#[c]⟩, W) := by
  simp [oIx, hs, h, at0]
theorem int_str {s : Str} (h : figsB s = true) (W : Wd) : kIntS [.str s] W = some (.int ((digitsVal s.cps.toList : Nat) : Int), W) := by
  unfold figsB at h
  simp only [Bool.and_eq_true, decide_eq_true_eq] at h
  obtain ⟨⟨h1, h2⟩, h3⟩ := h
  obtain ⟨c, cs, e⟩ := list_of_len h1
  have i := intText_digits (digits_all h3) (by rw [e]; simp) (by omega)
  have : s.length ≤ 640 := by omega
  simp [kIntS, this, i]
theorem number_in_str (s : Str) (hs : s.length ≤ sizeLine) (W : Wd) : f_number_in [.str s] W = some (numD s, W) := by
  refine runF_rt ?_ rfl
  have a := signs_loop figs s 1 [some (.str s), none] (by simp) hs W
  by_cases h1 : 1 ≤ s.length
  · have p : 0 < s.length := h1
    have h1' : (1 : Int) ≤ (s.length : Int) := by omega
    by_cases h2 : s.length ≤ 6
    · have h2' : (s.length : Int) ≤ 6 := by omega
      cases h3 : s.cps.toList.all (inB figs) with
      | false =>
        have n : numD s = .non := by unfold numD figsB; rw [h3]; simp
        have k3 : s.cps.all (inB figs) = false := by rw [← Array.all_toList]; exact h3
        simp [b_number_in, kLen, hs, h1', h2', p, wipeD, a, kAll_map, k3, n]
      | true =>
        have fb : figsB s = true := by unfold figsB; simp only [h1, h2, h3]; simp
        obtain ⟨c, cs, e⟩ := list_of_len h1
        have fa := first_at e hs W
        have k := int_str fb W
        have k3 : s.cps.all (inB figs) = true := by rw [← Array.all_toList]; exact h3
        by_cases h4 : s = "0"
        · have n : numD s = .int ((digitsVal s.cps.toList : Nat) : Int) := by unfold numD firstB; rw [if_pos fb]; simp [h4]
          subst h4
          simp [b_number_in, kLen, hs, h1', h2', p, wipeD, a, kAll_map, k3, n, k]
        · by_cases h5 : (⟨#[c]⟩ : Str) = "0"
          · have n : numD s = .non := by unfold numD firstB; rw [if_pos fb, e]; simp [h4, h5]
            simp [b_number_in, kLen, hs, h1', h2', p, wipeD, a, kAll_map, k3, n, h4, fa, h5]
          · have n : numD s = .int ((digitsVal s.cps.toList : Nat) : Int) := by unfold numD firstB; rw [if_pos fb, e]; simp [h4, h5]
            simp [b_number_in, kLen, hs, h1', h2', p, wipeD, a, kAll_map, k3, n, h4, fa, h5, k]
    · have h2' : ¬ (s.length : Int) ≤ 6 := by omega
      have n : numD s = .non := by unfold numD figsB; simp [h2]
      simp [b_number_in, kLen, hs, h1', h2', p, n]
  · have h1' : ¬ (1 : Int) ≤ (s.length : Int) := by omega
    have p : ¬ 0 < s.length := h1
    have n : numD s = .non := by unfold numD figsB; simp [h1]
    simp [b_number_in, kLen, hs, h1', p, n]
def partD (sort s : Str) : DV := if sort = "b" then numD s else if nameB s = true then .str s else .non
theorem part_in_str (sort s : Str) (hs : s.length ≤ sizeLine) (W : Wd) : f_part_in [.str sort, .str s] W = some (partD sort s, W) := by
  refine runF_rt ?_ rfl
  have n := number_in_str s hs W
  have m := is_name_str s hs W
  by_cases h : sort = "b"
  · simp [b_part_in, h, n, partD]
  · cases h2 : nameB s with
    | true => simp [b_part_in, h, m, h2, partD]
    | false => simp [b_part_in, h, m, h2, partD]
/-- what the law's own reader has: in a list, a bare one of none -/
def boxD : DV → List DV
  | .non => []
  | x => [x]
theorem rep_one (x : DV) (b : Bool) (W : Wd) : oRep (.lst [x]) (.int (if b then 1 else 0)) W = some (.lst (if b then [x] else []), W) := by
  cases b with
  | true => simp [oRep]; rw [sizeLine_eq]; decide
  | false => simp [oRep]
theorem int_bl (b : Bool) (W : Wd) : kIntS [.bl b] W = some (.int (if b then 1 else 0), W) := by cases b <;> simp [kIntS, kInt]
theorem line1 (a : DV) : lineOk [a] = true := by unfold lineOk; rw [sizeLine_eq]; rfl
theorem line0 : lineOk [] = true := by unfold lineOk; rw [sizeLine_eq]; rfl
theorem law_part_n (s : Str) (hs : s.length ≤ sizeLine) (W : Wd) : f__law_part [.str "n", .str s] W = some (.lst (boxD (partD "n" s)), W) := by
  refine runF_rt ?_ rfl
  have m := is_word_str s hs W
  have nb : ("n" : Str) ≠ "b" := by decide
  cases h2 : nameB s with
  | true =>
    have r := rep_one (.str s) true W
    simp only [if_true] at r
    simp [b__law_part, m, h2, partD, line1, int_bl, r, nb, boxD]
  | false =>
    have r := rep_one (.str s) false W
    simp at r
    simp [b__law_part, m, h2, partD, line1, int_bl, r, nb, boxD]
theorem law_part_b (s : Str) (hs : s.length ≤ sizeLine) (W : Wd) : f__law_part [.str "b", .str s] W = some (.lst (boxD (partD "b" s)), W) := by
  refine runF_rt ?_ rfl
  have nb : ¬ ("b" : Str) = "n" := by decide
  have pd : partD "b" s = numD s := by simp [partD]
  have a := signs_loop figs s 2 [some (.str "b"), some (.str s), none] (by simp) hs W
  rw [pd]
  by_cases h1 : 1 ≤ s.length
  · have p : 0 < s.length := h1
    have h1' : (0 : Int) < (s.length : Int) := by omega
    by_cases h2 : s.length ≤ 6
    · have h2' : (s.length : Int) < 7 := by omega
      cases h3 : s.cps.toList.all (inB figs) with
      | false =>
        have n : numD s = .non := by unfold numD figsB; rw [h3]; simp
        have k3 : s.cps.all (inB figs) = false := by rw [← Array.all_toList]; exact h3
        simp [b__law_part, kLen, hs, h1', h2', p, wipeD, a, kAll_map, k3, n, nb, line0, boxD]
      | true =>
        have fb : figsB s = true := by unfold figsB; simp only [h1, h2, h3]; simp
        obtain ⟨c, cs, e⟩ := list_of_len h1
        have fa := first_at e hs W
        have k := int_str fb W
        have k3 : s.cps.all (inB figs) = true := by rw [← Array.all_toList]; exact h3
        by_cases h4 : s = "0"
        · have n : numD s = .int ((digitsVal s.cps.toList : Nat) : Int) := by unfold numD firstB; rw [if_pos fb]; simp [h4]
          subst h4
          simp [b__law_part, kLen, hs, h1', h2', p, wipeD, a, kAll_map, k3, n, k, nb, line1, boxD]
        · by_cases h5 : (⟨#[c]⟩ : Str) = "0"
          · have n : numD s = .non := by unfold numD firstB; rw [if_pos fb, e]; simp [h4, h5]
            simp [b__law_part, kLen, hs, h1', h2', p, wipeD, a, kAll_map, k3, n, h4, fa, h5, nb, line0, boxD]
          · have n : numD s = .int ((digitsVal s.cps.toList : Nat) : Int) := by unfold numD firstB; rw [if_pos fb, e]; simp [h4, h5]
            simp [b__law_part, kLen, hs, h1', h2', p, wipeD, a, kAll_map, k3, n, h4, fa, h5, k, nb, line1, boxD]
    · have h2' : ¬ (s.length : Int) < 7 := by omega
      have n : numD s = .non := by unfold numD figsB; simp [h2]
      simp [b__law_part, kLen, hs, h1', h2', p, n, nb, line0, boxD]
  · have h1' : ¬ (0 : Int) < (s.length : Int) := by omega
    have p : ¬ 0 < s.length := h1
    have n : numD s = .non := by unfold numD figsB; simp [h1]
    simp [b__law_part, kLen, hs, h1', p, n, nb, line0, boxD]
end K26
end L2

set_option maxRecDepth 100000
/-! k26: the two readers of a line. -/
namespace L2
namespace K26
open PySem PySem.Spec PyProof.Rows DL PySem.NumText
/-! ### words -/
theorem joinL_len (S : List Nat) : ∀ (ps : List (List Nat)) (p : List Nat), p ∈ ps → p.length ≤ (TL.joinL S ps).length
  | [q], p, m => by
    have := List.mem_singleton.mp m
    subst this
    exact Nat.le_refl _
  | q :: q' :: r, p, m => by
    show p.length ≤ (q ++ (S ++ TL.joinL S (q' :: r))).length
    rw [List.length_append, List.length_append]
    rcases List.mem_cons.mp m with rfl | m
    · omega
    · have := joinL_len S (q' :: r) p m
      omega
theorem word_len {t y s : Str} (h : s ∈ Txt.split t y) : s.length ≤ t.length := by
  have e := StrLaws.join_split t y
  have e2 := TL.tl_join y (Txt.split t y)
  rw [e] at e2
  rw [TL.len_tl s, TL.len_tl t, e2]
  exact joinL_len _ _ _ (List.mem_map.mpr ⟨s, h, rfl⟩)
theorem split_cons (t y : Str) : ∃ w rest, Txt.split t y = w :: rest := by
  have := split_pos t y
  cases e : Txt.split t y with
  | nil => rw [e] at this; simp at this
  | cons w rest => exact ⟨w, rest, rfl⟩
/-! ### forms -/
def forms : List (Str × Str) := [("make", "n"), ("promise", "nb"), ("give", "nb"), ("cut", "nb"), ("clone", "nn"), ("keep", "nn"), ("drop", "n"), ("place", "nb"), ("commit", ""), ("stop", "")]
theorem lookup_map {α β : Type} (g : α → β) (w : Str) : ∀ l : List (Str × α), (l.map fun p => (p.1, g p.2)).lookup w = (l.lookup w).map g
  | [] => rfl
  | (k, v) :: l => by
    rw [List.map_cons, List.lookup_cons, List.lookup_cons, lookup_map g w l]
    cases w == k <;> rfl
theorem kd_eq : kd_FORMS = forms.map fun p => (p.1, V.str p.2) := rfl
theorem kd_lookup (w : Str) : ((kd_FORMS.lookup w).map ofV).getD .non = ((forms.lookup w).map DV.str).getD .non := by
  rw [kd_eq, lookup_map]
  cases forms.lookup w <;> rfl
theorem forms_four {w f : Str} (h : forms.lookup w = some f) : f = "" ∨ f = "n" ∨ f = "nb" ∨ f = "nn" := by
  have : ∀ l : List (Str × Str), l.lookup w = some f → ∃ p ∈ l, p.2 = f := by
    intro l
    induction l with
    | nil => intro h; cases h
    | cons p l ih =>
      obtain ⟨k, v⟩ := p
      intro h
      rw [List.lookup_cons] at h
      split at h
      · cases h; exact ⟨_, List.mem_cons_self, rfl⟩
      · obtain ⟨q, m, e⟩ := ih h
        exact ⟨q, List.mem_cons_of_mem _ m, e⟩
  obtain ⟨p, m, rfl⟩ := this _ h
  simp only [forms, List.mem_cons, List.not_mem_nil, or_false] at m
  rcases m with rfl | rfl | rfl | rfl | rfl | rfl | rfl | rfl | rfl | rfl <;> simp
/-! ### what a line says -/
def isNon : DV → Bool
  | .non => true
  | _ => false
def evW (w : Str) (f : Str) (rest : List Str) : DV := if rest.length = f.length then (let ps := List.zipWith (fun c s => partD ⟨#[c]⟩ s) f.cps.toList rest; if ps.any isNon = true then .non else .tup (.str w :: ps)) else .non
def evOf (t : Str) : DV := match Txt.split t " " with
  | [] => .non
  | w :: rest => match forms.lookup w with
    | none => .non
    | some f => evW w f rest
inductive PD : DV → Prop
  | non : PD .non
  | str (s : Str) : PyData.strOk s = true → PD (.str s)
  | int (i : Int) : PD (.int i)
theorem lets_small : lets.cps.toList.all (fun c => decide (c < 128)) = true := by decide +kernel
theorem name_ok {s : Str} (h : nameB s = true) : PyData.strOk s = true := by
  unfold nameB at h
  simp only [Bool.and_eq_true, decide_eq_true_eq] at h
  obtain ⟨⟨h1, h2⟩, h3⟩ := h
  have small : ∀ c ∈ s.cps.toList, c < 128 := fun c m => by
    have := List.all_eq_true.mp h3 c m
    have := of_decide_eq_true this
    exact of_decide_eq_true (List.all_eq_true.mp lets_small c this)
  unfold PyData.strOk
  rw [← Array.all_toList]
  exact List.all_eq_true.mpr fun c m => decide_eq_true (by have := small c m; omega)
theorem partD_pd (k s : Str) : PD (partD k s) := by
  unfold partD numD
  split
  · repeat' split
    all_goals first | exact .non | exact .int _
  · split
    · rename_i h; exact .str _ (name_ok h)
    · exact .non
theorem oIn_non1 {x : DV} (h : PD x) (W : Wd) : oIn .non (.lst [x]) W = some (.bl (isNon x), W) := by
  cases h <;> simp [oIn, dIn, flatD, flatDs, inV, isNon, eqV]
theorem oIn_non2 {x y : DV} (h : PD x) (h' : PD y) (W : Wd) : oIn .non (.lst [x, y]) W = some (.bl (isNon x || isNon y), W) := by
  cases h <;> cases h' <;> simp [oIn, dIn, flatD, flatDs, inV, isNon, eqV]
theorem oSplit_str {t y : Str} (hy : (y.length == 0) = false) (ht : t.length + 2 ≤ sizeLine) (W : Wd) : oSplit (.str t) (.str y) W = some (.lst ((Txt.split t y).map DV.str), W) := by
  simp only [oSplit]
  rw [if_pos ⟨hy, ht⟩]
theorem kLen_str {s : Str} (hs : s.length ≤ sizeLine) (W : Wd) : kLen [.str s] W = some (.int s.length, W) := by simp [kLen, hs]
theorem kLen_lst (xs : List DV) (W : Wd) : kLen [.lst xs] W = some (.int xs.length, W) := by simp [kLen, itemsOf]
theorem tail_lst (x : DV) (xs : List DV) (W : Wd) : dSl (.lst (x :: xs)) (some 1) none W = some (.lst xs, W) := by
  have e : HT.sIx (xs.length + 1) 0 (some 1) = 1 := by
    unfold HT.sIx
    simp
    try omega
  have e2 : HT.sIx (xs.length + 1) (xs.length + 1) none = xs.length + 1 := rfl
  simp [dSl, DL.cutD, e, e2]
theorem z2 : (2 : Nat) < sizeLine := by rw [sizeLine_eq]; decide
theorem z1 : (1 : Nat) < sizeLine := by rw [sizeLine_eq]; decide
theorem z0 : (0 : Nat) < sizeLine := by rw [sizeLine_eq]; decide
theorem line3 (a b c : DV) : lineOk [a, b, c] = true := by unfold lineOk; rw [sizeLine_eq]; rfl
theorem zw0 (f : Nat → Str → DV) : List.zipWith f ("" : Str).cps.toList [] = [] := rfl
theorem evW_0 (w : Str) : evW w "" [] = .tup [.str w] := rfl
theorem evW_1 (w a : Str) : evW w "n" [a] = if isNon (partD "n" a) = true then .non else .tup [.str w, partD "n" a] := by
  show (if ([a].length = 1) then (if ([partD "n" a]).any isNon = true then DV.non else .tup (.str w :: [partD "n" a])) else .non) = _
  simp
theorem evW_nb (w a b : Str) : evW w "nb" [a, b] = if (isNon (partD "n" a) || isNon (partD "b" b)) = true then .non else .tup [.str w, partD "n" a, partD "b" b] := by
  show (if ([a, b].length = 2) then (if ([partD "n" a, partD "b" b]).any isNon = true then DV.non else .tup (.str w :: [partD "n" a, partD "b" b])) else .non) = _
  simp
theorem evW_nn (w a b : Str) : evW w "nn" [a, b] = if (isNon (partD "n" a) || isNon (partD "n" b)) = true then .non else .tup [.str w, partD "n" a, partD "n" b] := by
  show (if ([a, b].length = 2) then (if ([partD "n" a, partD "n" b]).any isNon = true then DV.non else .tup (.str w :: [partD "n" a, partD "n" b])) else .non) = _
  simp
theorem evW_bad {w f : Str} {rest : List Str} (h : rest.length ≠ f.length) : evW w f rest = .non := by unfold evW; rw [if_neg h]
theorem sg0 : DL.signs ("" : Str) = [] := rfl
theorem sg1 : DL.signs ("n" : Str) = [.str "n"] := rfl
theorem sgb : DL.signs ("nb" : Str) = [.str "n", .str "b"] := rfl
theorem sgn : DL.signs ("nn" : Str) = [.str "n", .str "n"] := rfl
theorem len0 : ("" : Str).length = 0 := rfl
theorem len1 : ("n" : Str).length = 1 := rfl
theorem lenb : ("nb" : Str).length = 2 := rfl
theorem lenn : ("nn" : Str).length = 2 := rfl
theorem at0c (x : DV) (xs : List DV) (W : Wd) : oIx (.lst (x :: xs)) (.int 0) W = some (x, W) := by simp [oIx, itemsOf, at0]
theorem oNeI' (i j : Int) (W : Wd) : oNe (.int i) (.int j) W = some (.bl (!decide (i = j)), W) := rfl
theorem two_of {l : List Str} (h : l.length = 2) : ∃ a b, l = [a, b] := by
  match l, h with
  | [a, b], _ => exact ⟨a, b, rfl⟩
theorem event_of_str (t : Str) (ht : t.length + 2 ≤ sizeLine) (W : Wd) : f_event_of [.str t] W = some (evOf t, W) := by
  refine runF_rt ?_ rfl
  have sp := oSplit_str (t := t) (y := " ") rfl ht W
  obtain ⟨w, rest, e⟩ := split_cons t " "
  have ev : evOf t = (match forms.lookup w with | none => .non | some f => evW w f rest) := by unfold evOf; rw [e]
  rw [ev]
  rw [e] at sp
  have sz : ∀ s ∈ w :: rest, s.length ≤ sizeLine := fun s m => by
    have := word_len (t := t) (y := " ") (s := s) (by rw [e]; exact m)
    omega
  have kd := kd_lookup w
  cases hf : forms.lookup w with
  | none =>
    rw [hf] at kd
    simp at kd
    simp [b_event_of, sp, at0c, kd, toI, oIs, isN]
  | some f =>
    rw [hf] at kd
    simp only [Option.map_some, Option.getD_some] at kd
    by_cases hl : rest.length = f.length
    · rcases forms_four hf with rfl | rfl | rfl | rfl
      · rw [len0] at hl
        obtain rfl := List.length_eq_zero_iff.mp hl
        simp [b_event_of, sp, at0c, kd, toI, oIs, isN, kLen_str (show ("" : Str).length ≤ sizeLine from Nat.zero_le _), kLen_lst, len0, tail_lst, sg0, pairUp, wipeD, oIn, dIn, flatD, flatDs, inV, line1, evW_0]
      · rw [len1] at hl
        obtain ⟨a, rfl⟩ := List.length_eq_one_iff.mp hl
        have pa := part_in_str "n" a (sz a (by simp)) W
        have oi := oIn_non1 (partD_pd "n" a) W
        cases hn : isNon (partD "n" a) with
        | true =>
          rw [hn] at oi
          simp [b_event_of, sp, at0c, kd, toI, oIs, isN, kLen_str (show ("n" : Str).length ≤ sizeLine from Nat.le_of_lt z1), kLen_lst, len1, tail_lst, sg1, pairUp, wipeD, pa, z0, oi, evW_1, hn]
        | false =>
          rw [hn] at oi
          simp [b_event_of, sp, at0c, kd, toI, oIs, isN, kLen_str (show ("n" : Str).length ≤ sizeLine from Nat.le_of_lt z1), kLen_lst, len1, tail_lst, sg1, pairUp, wipeD, pa, z0, oi, evW_1, hn, line2]
      · rw [lenb] at hl
        obtain ⟨a, b, rfl⟩ := two_of hl
        have pa := part_in_str "n" a (sz a (by simp)) W
        have pb := part_in_str "b" b (sz b (by simp)) W
        have oi := oIn_non2 (partD_pd "n" a) (partD_pd "b" b) W
        cases hn : (isNon (partD "n" a) || isNon (partD "b" b)) with
        | true =>
          rw [hn] at oi
          simp [b_event_of, sp, at0c, kd, toI, oIs, isN, kLen_str (show ("nb" : Str).length ≤ sizeLine from Nat.le_of_lt z2), kLen_lst, lenb, tail_lst, sgb, pairUp, wipeD, pa, pb, z0, z1, oi]
          rw [evW_nb, if_pos hn]
        | false =>
          rw [hn] at oi
          simp [b_event_of, sp, at0c, kd, toI, oIs, isN, kLen_str (show ("nb" : Str).length ≤ sizeLine from Nat.le_of_lt z2), kLen_lst, lenb, tail_lst, sgb, pairUp, wipeD, pa, pb, z0, z1, oi, line3]
          rw [evW_nb, if_neg (by rw [hn]; decide)]
      · rw [lenn] at hl
        obtain ⟨a, b, rfl⟩ := two_of hl
        have pa := part_in_str "n" a (sz a (by simp)) W
        have pb := part_in_str "n" b (sz b (by simp)) W
        have oi := oIn_non2 (partD_pd "n" a) (partD_pd "n" b) W
        cases hn : (isNon (partD "n" a) || isNon (partD "n" b)) with
        | true =>
          rw [hn] at oi
          simp [b_event_of, sp, at0c, kd, toI, oIs, isN, kLen_str (show ("nn" : Str).length ≤ sizeLine from Nat.le_of_lt z2), kLen_lst, lenn, tail_lst, sgn, pairUp, wipeD, pa, pb, z0, z1, oi]
          rw [evW_nn, if_pos hn]
        | false =>
          rw [hn] at oi
          simp [b_event_of, sp, at0c, kd, toI, oIs, isN, kLen_str (show ("nn" : Str).length ≤ sizeLine from Nat.le_of_lt z2), kLen_lst, lenn, tail_lst, sgn, pairUp, wipeD, pa, pb, z0, z1, oi, line3]
          rw [evW_nn, if_neg (by rw [hn]; decide)]
    · have fl : f.length ≤ sizeLine := by
        rcases forms_four hf with rfl | rfl | rfl | rfl
        · exact Nat.zero_le _
        · exact Nat.le_of_lt z1
        · exact Nat.le_of_lt z2
        · exact Nat.le_of_lt z2
      have hl' : ¬ (rest.length : Int) = (f.length : Int) := by omega
      simp [b_event_of, sp, at0c, kd, toI, oIs, isN, kLen_str fl, kLen_lst, hl', hl, evW_bad hl]
end K26
end L2

set_option maxRecDepth 100000
/-! k26: the law's own reader. -/
namespace L2
namespace K26
open PySem PySem.Spec PyProof.Rows DL PySem.NumText
/-- a world in which no cell speaks of another one -/
def GW (W : Wd) : Prop := ∀ c ∈ W, ∀ n, Cell.lo n c = true
theorem GW.all {W : Wd} (h : GW W) (n : Nat) : W.all (Cell.lo n) = true := List.all_eq_true.mpr fun c m => h c m n
def kv1 : List (Key × DV) := (forms.take 7).map fun p => (.inr p.1, .str p.2)
def kv2 : List (Key × DV) := (forms.drop 7).map fun p => (.inr p.1, .str p.2)
def fkv : List (Key × DV) := forms.map fun p => (.inr p.1, .str p.2)
theorem merge_fkv : mergeD kv1 kv2 = fkv := by kernel_rfl
theorem gat (W : Wd) (c : Cell) (l : List Cell) : (W ++ c :: l)[W.length]? = some c := by rw [List.getElem?_append_right (Nat.le_refl _)]; simp
theorem gat1 (W : Wd) (c d : Cell) (l : List Cell) : (W ++ c :: d :: l)[W.length + 1]? = some d := by rw [List.getElem?_append_right (Nat.le_succ _)]; simp
theorem dictOf0 (W : Wd) (kvs : List (Key × DV)) (l : List Cell) : dictOf (W ++ .dK kvs :: l) (.loc W.length) = some kvs := by simp [dictOf, gat]
theorem dictOf1 (W : Wd) (c : Cell) (kvs : List (Key × DV)) (l : List Cell) : dictOf (W ++ c :: .dK kvs :: l) (.loc (W.length + 1)) = some kvs := by simp [dictOf, gat1]
theorem set0 (W : Wd) (c d : Cell) (l : List Cell) : (W ++ c :: l).set W.length d = W ++ d :: l := by rw [List.set_append_right _ _ (Nat.le_refl _)]; simp
theorem upd_forms (W : Wd) : dUpd (.loc W.length) (.loc (W.length + 1)) (W ++ [.dK kv1, .dK kv2]) = some (.non, W ++ [.dK fkv, .dK kv2]) := by
  have l : kv1.length + kv2.length ≤ sizeLine := by rw [sizeLine_eq]; decide
  have e : dUpd (.loc W.length) (.loc (W.length + 1)) (W ++ [.dK kv1, .dK kv2]) = (dictOf (W ++ [.dK kv1, .dK kv2]) (.loc W.length)).bind fun kvs => (dictOf (W ++ [.dK kv1, .dK kv2]) (.loc (W.length + 1))).bind fun more => if (decide (W.length ≠ W.length + 1)) = true ∧ kvs.length + more.length ≤ sizeLine then some (DV.non, (W ++ [Cell.dK kv1, Cell.dK kv2]).set W.length (Cell.dK (mergeD kvs more))) else none := rfl
  rw [e, dictOf0, Option.bind_some, dictOf1, Option.bind_some, if_pos ⟨by simp, l⟩, set0, merge_fkv]
theorem disp1 (env : DEnv) (W : Wd) : eDisp [((eC (.str "make")), (eC (.str "n"))), ((eC (.str "promise")), (eC (.str "nb"))), ((eC (.str "give")), (eC (.str "nb"))), ((eC (.str "cut")), (eC (.str "nb"))), ((eC (.str "clone")), (eC (.str "nn"))), ((eC (.str "keep")), (eC (.str "nn"))), ((eC (.str "drop")), (eC (.str "n")))] env W = some (.loc W.length, W ++ [.dK kv1]) := by kernel_rfl
theorem disp2 (env : DEnv) (W : Wd) : eDisp [((eC (.str "place")), (eC (.str "nb"))), ((eC (.str "commit")), (eC (.str ""))), ((eC (.str "stop")), (eC (.str "")))] env W = some (.loc W.length, W ++ [.dK kv2]) := by kernel_rfl
theorem forms_eq (W : Wd) : f__law_forms [] W = some (.loc W.length, W ++ [.dK fkv, .dK kv2]) := by
  refine runF_keep ?_ (by simp) (by simp [DV.lo])
  have u := upd_forms W
  have d0 : dctC (.loc W.length) (W ++ [.dK kv1]) = some ((), W ++ [.dK kv1]) := by simp [dctC, dictOf0]
  simp [b__law_forms, disp1, disp2, d0, u]
theorem val_forms (w : Str) : valD fkv (.inr w) = (forms.lookup w).map DV.str := by
  unfold fkv
  generalize forms = l
  induction l with
  | nil => rfl
  | cons p l ih =>
    obtain ⟨k, v⟩ := p
    rw [List.map_cons, List.lookup_cons]
    by_cases e : w = k
    · subst e
      simp [valD]
    · have h1 : (w == k) = false := beq_eq_false_iff_ne.mpr e
      have h2 : ¬ (Sum.inr k : Key) = Sum.inr w := fun z => e (Sum.inr.inj z).symm
      rw [h1]
      rw [← ih]
      simp [valD, List.find?_cons, h2]
theorem boxD_of {x : DV} (h : PD x) : (isNon x = true ∧ boxD x = []) ∨ (isNon x = false ∧ boxD x = [x]) := by
  cases h <;> simp [isNon, boxD]
theorem toPy_pd {x : DV} (h : PD x) : ∃ d, toPy x = some d ∧ (d = .none ∨ (∃ s, d = .str s) ∨ ∃ i, d = .int i) := by
  cases h
  · exact ⟨_, rfl, .inl rfl⟩
  · exact ⟨_, rfl, .inr (.inl ⟨_, rfl⟩)⟩
  · exact ⟨_, rfl, .inr (.inr ⟨_, rfl⟩)⟩
theorem inA_of {ys : List DV} {ds : List PyData} {b : Bool} (W : Wd) (h1 : toPys ys = some ds) (h2 : SeqAt.shaped (.list ds) = true) (h3 : ds.any (fun z => PyData.eqv z (.list [])) = b) : oInA (.lst []) (.lst ys) W = some (.bl b, W) := by
  have e : oIn (.lst []) (.lst ys) W = none := rfl
  have s0 : SeqAt.shaped (.list []) = true := by decide +kernel
  have t : toPy (.lst []) = some (.list []) := rfl
  unfold oInA
  rw [e]
  show oInD (.lst []) (.lst ys) W = _
  unfold oInD
  rw [t, Option.bind_some]
  show (toPys ys).bind _ = _
  rw [h1, Option.bind_some, s0, h2]
  simp [h3]
def pyOf : DV → PyData
  | .str s => .str s
  | .int i => .int i
  | _ => .none
def boxP (x : DV) : PyData := .list (if isNon x = true then [] else [pyOf x])
theorem boxP_ok {x : DV} (h : PD x) : toPy (.lst (boxD x)) = some (boxP x) ∧ (boxP x).canLay0 = true ∧ (boxP x).depth ≤ 2 ∧ PyData.eqv (boxP x) (.list []) = isNon x := by
  cases h with
  | non => exact ⟨rfl, rfl, by decide, rfl⟩
  | str s ok =>
    refine ⟨rfl, ?_, ?_, rfl⟩
    · show (PyData.strOk s && true) = true
      rw [ok]; rfl
    · show max 0 0 + 1 ≤ 2
      decide
  | int i => exact ⟨rfl, rfl, by show max 0 0 + 1 ≤ 2; decide, rfl⟩
theorem inA_1 {x : DV} (h : PD x) (W : Wd) : oInA (.lst []) (.lst [.lst (boxD x)]) W = some (.bl (isNon x), W) := by
  obtain ⟨a1, a2, a3, a4⟩ := boxP_ok h
  refine inA_of (ds := [boxP x]) W ?_ ?_ ?_
  · show (toPy (.lst (boxD x))).bind _ = _
    rw [a1]; rfl
  · show (((boxP x).canLay0 && true) && decide (max (boxP x).depth 0 + 1 ≤ 64)) = true
    rw [a2]
    exact decide_eq_true (by omega)
  · simp [a4]
theorem inA_2 {x y : DV} (h : PD x) (h' : PD y) (W : Wd) : oInA (.lst []) (.lst [.lst (boxD x), .lst (boxD y)]) W = some (.bl (isNon x || isNon y), W) := by
  obtain ⟨a1, a2, a3, a4⟩ := boxP_ok h
  obtain ⟨b1, b2, b3, b4⟩ := boxP_ok h'
  refine inA_of (ds := [boxP x, boxP y]) W ?_ ?_ ?_
  · show (toPy (.lst (boxD x))).bind (fun d => ((toPy (.lst (boxD y))).bind fun d => (some []).map fun ds => d :: ds).map fun ds => d :: ds) = _
    rw [a1, b1]; rfl
  · show (((boxP x).canLay0 && ((boxP y).canLay0 && true)) && decide (max (boxP x).depth (max (boxP y).depth 0) + 1 ≤ 64)) = true
    rw [a2, b2]
    exact decide_eq_true (by omega)
  · simp [a4, b4]
theorem inA_0 (W : Wd) : oInA (.lst []) (.lst []) W = some (.bl false, W) := by kernel_rfl
theorem add1 (x y : DV) (W : Wd) : oAdd (.lst [x]) (.lst [y]) W = some (.lst [x, y], W) := by
  have : 1 + 1 ≤ sizeLine := by rw [sizeLine_eq]; decide
  simp [oAdd, dAdd, this]
theorem add2 (x y z : DV) (W : Wd) : oAdd (.lst [x]) (.lst [y, z]) W = some (.lst [x, y, z], W) := by
  have : 1 + 2 ≤ sizeLine := by rw [sizeLine_eq]; decide
  simp [oAdd, dAdd, this]
theorem add0 (x : DV) (W : Wd) : oAdd (.lst [x]) (.lst []) W = some (.lst [x], W) := by
  have : 1 + 0 ≤ sizeLine := by rw [sizeLine_eq]; decide
  simp [oAdd, dAdd, this]
theorem tup_lst (xs : List DV) (W : Wd) : kTuple [.lst xs] W = some (.tup xs, W) := by simp [kTuple, itemsOf]
theorem own_body (t : Str) (ht : t.length + 2 ≤ sizeLine) (n : Nat) (W : Wd) : b__law_own_reader n [some (.str t), none, none, none, none, none, none] W = some (.rt (evOf t), W ++ [.dK fkv, .dK kv2]) := by
  have sp := oSplit_str (t := t) (y := " ") rfl ht W
  obtain ⟨w, rest, e⟩ := split_cons t " "
  have ev : evOf t = (match forms.lookup w with | none => .non | some f => evW w f rest) := by (unfold evOf; rw [e]); try rfl
  rw [ev]
  rw [e] at sp
  have sz : ∀ s ∈ w :: rest, s.length ≤ sizeLine := fun s m => by
    have := word_len (t := t) (y := " ") (s := s) (by rw [e]; exact m)
    omega
  have kd := val_forms w
  have fe := forms_eq W
  obtain ⟨V, hV⟩ : ∃ V, W ++ [Cell.dK fkv, Cell.dK kv2] = V := ⟨_, rfl⟩
  have d0 : dictOf V (.loc W.length) = some fkv := by rw [← hV]; exact dictOf0 W fkv _
  rw [hV] at fe ⊢
  cases hf : forms.lookup w with
  | none =>
    rw [hf] at kd
    simp at kd
    simp [b__law_own_reader, sp, fe, d0, at0c, keyD, kd, oIs, isN]
  | some f =>
    rw [hf] at kd
    simp only [Option.map_some] at kd
    by_cases hl : rest.length = f.length
    · rcases forms_four hf with rfl | rfl | rfl | rfl
      · rw [len0] at hl
        obtain rfl := List.length_eq_zero_iff.mp hl
        simp [b__law_own_reader, sp, fe, d0, keyD, at0c, kd, toI, oIs, isN, kLen_str (show ("" : Str).length ≤ sizeLine from Nat.zero_le _), kLen_lst, len0, tail_lst, sg0, pairUp, wipeD, line0, line1, inA_0, add0, tup_lst, evW_0]
      · rw [len1] at hl
        obtain ⟨a, rfl⟩ := List.length_eq_one_iff.mp hl
        have pa := law_part_n a (sz a (by simp)) V
        have oi := inA_1 (partD_pd "n" a) V
        cases hn : isNon (partD "n" a) with
        | true =>
          rw [hn] at oi
          simp [b__law_own_reader, sp, fe, d0, keyD, at0c, kd, toI, oIs, isN, kLen_str (show ("n" : Str).length ≤ sizeLine from Nat.le_of_lt z1), kLen_lst, len1, tail_lst, sg1, pairUp, wipeD, pa, z0, oi, evW_1, hn, line0]
        | false =>
          rw [hn] at oi
          have bx : boxD (partD "n" a) = [partD "n" a] := by
            rcases boxD_of (partD_pd "n" a) with h | h
            · rw [hn] at h; cases h.1
            · exact h.2
          rw [bx] at pa oi
          simp [b__law_own_reader, sp, fe, d0, keyD, at0c, kd, toI, oIs, isN, kLen_str (show ("n" : Str).length ≤ sizeLine from Nat.le_of_lt z1), kLen_lst, len1, tail_lst, sg1, pairUp, wipeD, pa, z0, oi, evW_1, hn, line0, line1, add1, tup_lst]
      · rw [lenb] at hl
        obtain ⟨a, b, rfl⟩ := two_of hl
        have pa := law_part_n a (sz a (by simp)) V
        have pb := law_part_b b (sz b (by simp)) V
        have oi := inA_2 (partD_pd "n" a) (partD_pd "b" b) V
        cases hn : (isNon (partD "n" a) || isNon (partD "b" b)) with
        | true =>
          rw [hn] at oi
          simp [b__law_own_reader, sp, fe, d0, keyD, at0c, kd, toI, oIs, isN, kLen_str (show ("nb" : Str).length ≤ sizeLine from Nat.le_of_lt z2), kLen_lst, lenb, tail_lst, sgb, pairUp, wipeD, pa, pb, z0, z1, oi, line0]
          rw [evW_nb, if_pos hn]
        | false =>
          rw [hn] at oi
          rw [Bool.or_eq_false_iff] at hn
          have bx : boxD (partD "n" a) = [partD "n" a] := by
            rcases boxD_of (partD_pd "n" a) with h | h
            · rw [hn.1] at h; cases h.1
            · exact h.2
          have by' : boxD (partD "b" b) = [partD "b" b] := by
            rcases boxD_of (partD_pd "b" b) with h | h
            · rw [hn.2] at h; cases h.1
            · exact h.2
          rw [bx] at pa
          rw [by'] at pb
          rw [bx, by'] at oi
          simp [b__law_own_reader, sp, fe, d0, keyD, at0c, kd, toI, oIs, isN, kLen_str (show ("nb" : Str).length ≤ sizeLine from Nat.le_of_lt z2), kLen_lst, lenb, tail_lst, sgb, pairUp, wipeD, pa, pb, z0, z1, oi, line0, line1, add2, tup_lst]
          rw [evW_nb, if_neg (by rw [hn.1, hn.2]; decide)]
      · rw [lenn] at hl
        obtain ⟨a, b, rfl⟩ := two_of hl
        have pa := law_part_n a (sz a (by simp)) V
        have pb := law_part_n b (sz b (by simp)) V
        have oi := inA_2 (partD_pd "n" a) (partD_pd "n" b) V
        cases hn : (isNon (partD "n" a) || isNon (partD "n" b)) with
        | true =>
          rw [hn] at oi
          simp [b__law_own_reader, sp, fe, d0, keyD, at0c, kd, toI, oIs, isN, kLen_str (show ("nn" : Str).length ≤ sizeLine from Nat.le_of_lt z2), kLen_lst, lenn, tail_lst, sgn, pairUp, wipeD, pa, pb, z0, z1, oi, line0]
          rw [evW_nn, if_pos hn]
        | false =>
          rw [hn] at oi
          rw [Bool.or_eq_false_iff] at hn
          have bx : boxD (partD "n" a) = [partD "n" a] := by
            rcases boxD_of (partD_pd "n" a) with h | h
            · rw [hn.1] at h; cases h.1
            · exact h.2
          have by' : boxD (partD "n" b) = [partD "n" b] := by
            rcases boxD_of (partD_pd "n" b) with h | h
            · rw [hn.2] at h; cases h.1
            · exact h.2
          rw [bx] at pa
          rw [by'] at pb
          rw [bx, by'] at oi
          simp [b__law_own_reader, sp, fe, d0, keyD, at0c, kd, toI, oIs, isN, kLen_str (show ("nn" : Str).length ≤ sizeLine from Nat.le_of_lt z2), kLen_lst, lenn, tail_lst, sgn, pairUp, wipeD, pa, pb, z0, z1, oi, line0, line1, add2, tup_lst]
          rw [evW_nn, if_neg (by rw [hn.1, hn.2]; decide)]
    · have fl : f.length ≤ sizeLine := by
        rcases forms_four hf with rfl | rfl | rfl | rfl
        · exact Nat.zero_le _
        · exact Nat.le_of_lt z1
        · exact Nat.le_of_lt z2
        · exact Nat.le_of_lt z2
      have hl' : ¬ (rest.length : Int) + 1 = 1 + (f.length : Int) := by omega
      simp [b__law_own_reader, sp, fe, d0, keyD, at0c, kd, oIs, isN, kLen_str fl, kLen_lst, hl', hl, evW_bad hl]
inductive Flat : DV → Prop
  | non : Flat .non
  | tup {xs : List DV} : (∀ x ∈ xs, PD x) → Flat (.tup xs)
theorem pd_lo {x : DV} (h : PD x) (n : Nat) : x.lo n = true := by cases h <;> rfl
theorem loL_pd (n : Nat) : ∀ xs : List DV, (∀ x ∈ xs, PD x) → DV.loL n xs = true
  | [], _ => rfl
  | x :: xs, h => by
    show (x.lo n && DV.loL n xs) = true
    rw [pd_lo (h x List.mem_cons_self) n, loL_pd n xs fun y m => h y (List.mem_cons_of_mem _ m)]; rfl
theorem own_reader (t : Str) (ht : t.length + 2 ≤ sizeLine) (W : Wd) (hW : GW W) (hlo : (evOf t).lo W.length = true) : f__law_own_reader [.str t] W = some (evOf t, W) := by
  have h := own_body t ht W.length W
  have c := runF_cut (nN := 7) (S := b__law_own_reader) (xs := [.str t]) (W := W) h (by simp) (by rw [hlo, Bool.true_and, List.take_left']; exact hW.all _; rfl)
  rw [List.take_left' rfl] at c
  exact c
end K26
end L2

set_option maxRecDepth 100000
/-! k26: events read, or the error. -/
namespace L2
namespace K26
open PySem PySem.Spec PyProof.Rows DL PySem.NumText
theorem small_num {n : Int} (h0 : 0 ≤ n) (h1 : n < 1000000) : n.natAbs.log2 < 1920 := by
  have h : n.natAbs < 2 ^ 20 := by omega
  have : n.natAbs.log2 < 20 := by
    by_cases z : n.natAbs = 0
    · rw [z]; decide
    · exact (Nat.log2_lt z).mpr h
  omega
theorem num_len {n : Int} (h0 : 0 ≤ n) (h1 : n < 1000000) : (Str.ofString (toString n)).length ≤ 6 := toString_length_le h0 (by decide) (by
  have : (10 : Int) ^ 6 = 1000000 := by decide
  omega)
theorem strI {n : Int} (h0 : 0 ≤ n) (h1 : n < 1000000) (W : Wd) : kStrS [.int n] W = some (.str (Str.ofString (toString n)), W) := by
  have := small_num h0 h1
  simp [kStrS, kStrI, this]
theorem bad_line {n : Int} (h0 : 0 ≤ n) (h1 : n < 1000000) (W : Wd) : kExc "BadLine" ["number"] as_BadLine [.int n] W = some (.exc "BadLine" ["number"] [.int n], W) := by
  have l : ("a wrong line: " : Str).length + (Str.ofString (toString n)).length ≤ sizeLine := by
    have := num_len h0 h1
    have e : ("a wrong line: " : Str).length = 14 := rfl
    rw [sizeLine_eq, e]; omega
  have k := strI h0 h1 W
  generalize Str.ofString (toString n) = u at k l
  simp [kExc, as_BadLine, k, oAdd, dAdd, l]
theorem bad_text (W : Wd) : kExc "BadText" [] as_BadText [] W = some (.exc "BadText" [] [], W) := by simp [kExc, as_BadText]
/-! ### the shape of events -/
inductive PS : DV → Prop
  | non : PS .non
  | str (s : Str) : PS (.str s)
  | int (i : Int) : PS (.int i)
theorem PD.ps {x : DV} (h : PD x) : PS x := by cases h <;> constructor
inductive Ev : DV → Prop
  | non : Ev .non
  | tup {xs : List DV} : xs.length ≤ 3 → (∀ x ∈ xs, PS x) → Ev (.tup xs)
theorem evOf_ev (t : Str) : Ev (evOf t) := by
  unfold evOf
  split
  · exact .non
  · rename_i w rest e
    split
    · exact .non
    · rename_i f hf
      by_cases hl : rest.length = f.length
      · rcases forms_four hf with rfl | rfl | rfl | rfl
        · rw [len0] at hl
          obtain rfl := List.length_eq_zero_iff.mp hl
          rw [evW_0]
          exact .tup (by simp) fun x m => by simp at m; subst m; exact .str _
        · rw [len1] at hl
          obtain ⟨a, rfl⟩ := List.length_eq_one_iff.mp hl
          rw [evW_1]
          split
          · exact .non
          · exact .tup (by simp) fun x m => by
              simp at m
              rcases m with rfl | rfl
              · exact .str _
              · exact (partD_pd _ _).ps
        · rw [lenb] at hl
          obtain ⟨a, b, rfl⟩ := two_of hl
          rw [evW_nb]
          split
          · exact .non
          · exact .tup (by simp) fun x m => by
              simp at m
              rcases m with rfl | rfl | rfl
              · exact .str _
              · exact (partD_pd _ _).ps
              · exact (partD_pd _ _).ps
        · rw [lenn] at hl
          obtain ⟨a, b, rfl⟩ := two_of hl
          rw [evW_nn]
          split
          · exact .non
          · exact .tup (by simp) fun x m => by
              simp at m
              rcases m with rfl | rfl | rfl
              · exact .str _
              · exact (partD_pd _ _).ps
              · exact (partD_pd _ _).ps
      · rw [evW_bad hl]; exact .non
theorem ps_lo {x : DV} (h : PS x) (n : Nat) : x.lo n = true := by cases h <;> rfl
theorem loL_of (n : Nat) : ∀ xs : List DV, (∀ x ∈ xs, x.lo n = true) → DV.loL n xs = true
  | [], _ => rfl
  | x :: xs, h => by
    show (x.lo n && DV.loL n xs) = true
    rw [h x List.mem_cons_self, loL_of n xs fun y m => h y (List.mem_cons_of_mem _ m)]; rfl
theorem ev_lo {x : DV} (h : Ev x) (n : Nat) : x.lo n = true := by
  cases h with
  | non => rfl
  | tup _ h => exact loL_of n _ fun y m => ps_lo (h y m) n
theorem ev_isN {x : DV} (h : Ev x) : DL.isN x = isNon x := by cases h <;> rfl
theorem read_ok (t : Str) (ht : t.length + 2 ≤ sizeLine) (W : Wd) (hW : GW W) : f__law_own_reader [.str t] W = some (evOf t, W) := own_reader t ht W hW (ev_lo (evOf_ev t) _)
/-! ### event_in -/
theorem event_in_str (t : Str) (ht : t.length + 2 ≤ sizeLine) (W : Wd) : fx_event_in [.str t] W = some (if isNon (evOf t) = true then .inr (.exc "BadText" [] []) else .inl (evOf t), W) := by
  have h := event_of_str t ht W
  have n := ev_isN (evOf_ev t)
  cases hn : isNon (evOf t) with
  | true =>
    rw [hn] at n
    refine runX_ex (e := [some (.str t), some (evOf t)]) ?_
    simp [y_event_in, h, oIs, n, bad_text]
  | false =>
    rw [hn] at n
    refine runX_rt ?_ rfl
    simp [y_event_in, h, oIs, n]
/-! ### lines -/
def linesOf (t : Str) : List Str := if t = "" then [] else Txt.split t "\n"
def evsOf : Nat → List Str → Nat ⊕ List DV
  | _, [] => .inr []
  | k, l :: ls => if isNon (evOf l) = true then .inl k else match evsOf (k + 1) ls with
    | .inl j => .inl j
    | .inr es => .inr (evOf l :: es)
theorem app_cell (W : Wd) (acc : List DV) (y : DV) (h : acc.length < sizeLine) : dApp (.loc W.length) y (W ++ [.lst acc]) = some (.non, W ++ [.lst (acc ++ [y])]) := by
  simp only [dApp, gat, h, if_true, set0]
theorem lst_cell (W : Wd) (acc : List DV) : lstC (.loc W.length) (W ++ [.lst acc]) = some ((), W ++ [.lst acc]) := by simp [lstC, gat]
abbrev tgt : GS := gQ 2 (gsC (gN 2) (gsC (gN 3) gsN))
/-- slots that speak of no cell -/
def FreeO (o : Option DV) : Prop := ∀ n, optLo n o = true
theorem ev_turn (t l : Str) (hl : l.length + 2 ≤ sizeLine) (k : Nat) (hk : k < 1000000) (W : Wd) (acc : List DV) (ha : acc.length < sizeLine) (n : Nat) (e4 : Option DV) :
    y_events_in_L1 n [some (.str t), some (.loc W.length), some (.int (k : Nat)), some (.str l), e4] (W ++ [.lst acc]) =
      if isNon (evOf l) = true then some (.ex (.exc "BadLine" ["number"] [.int (k : Nat)]) [some (.str t), some (.loc W.length), some (.int (k : Nat)), some (.str l), some (evOf l)], W ++ [.lst acc])
      else some (.ok (.nx [some (.str t), some (.loc W.length), some (.int (k : Nat)), some (.str l), some (evOf l)]), W ++ [.lst (acc ++ [evOf l])]) := by
  have h := event_of_str l hl (W ++ [.lst acc])
  have nn := ev_isN (evOf_ev l)
  have b := bad_line (n := (k : Nat)) (by omega) (by omega) (W ++ [.lst acc])
  cases hn : isNon (evOf l) with
  | true =>
    rw [hn] at nn
    simp [y_events_in_L1, h, oIs, nn, b]
  | false =>
    rw [hn] at nn
    simp [y_events_in_L1, h, oIs, nn, lst_cell, app_cell W acc _ ha]
theorem ev_loop (t : Str) (W : Wd) (n : Nat) : ∀ (ls : List Str) (k : Nat) (acc : List DV) (e2 e3 e4 : Option DV), (∀ l ∈ ls, l.length + 2 ≤ sizeLine) → acc.length + ls.length < sizeLine → k + ls.length < 1000000 → FreeO e2 → FreeO e3 → FreeO e4 →
    (∃ j, evsOf k ls = .inl j ∧ j < 1000000 ∧ ∃ env acc', xLoop tgt y_events_in_L1 n (numbered k (ls.map DV.str)) [some (.str t), some (.loc W.length), e2, e3, e4] (W ++ [.lst acc]) = some (.ex (.exc "BadLine" ["number"] [.int (j : Nat)]) env, W ++ [.lst acc'])) ∨
    (∃ es, evsOf k ls = .inr es ∧ ∃ e2' e3' e4', FreeO e2' ∧ FreeO e3' ∧ FreeO e4' ∧ xLoop tgt y_events_in_L1 n (numbered k (ls.map DV.str)) [some (.str t), some (.loc W.length), e2, e3, e4] (W ++ [.lst acc]) = some (.ok (.nx [some (.str t), some (.loc W.length), e2', e3', e4']), W ++ [.lst (acc ++ es)]))
  | [], k, acc, e2, e3, e4, _, _, _, f2, f3, f4 => .inr ⟨[], rfl, e2, e3, e4, f2, f3, f4, by simp [DL.numbered]⟩
  | l :: ls, k, acc, e2, e3, e4, hl, ha, hk, f2, f3, f4 => by
    have tn := ev_turn t l (hl l List.mem_cons_self) k (by simp at hk; omega) W acc (by simp at ha; omega) n e4
    cases hn : isNon (evOf l) with
    | true =>
      rw [hn] at tn
      refine .inl ⟨k, by simp [evsOf, hn], by simp at hk; omega, [some (.str t), some (.loc W.length), some (.int (k : Nat)), some (.str l), some (evOf l)], acc, ?_⟩
      simp [DL.numbered, tn]
    | false =>
      rw [hn] at tn
      have ih := ev_loop t W n ls (k + 1) (acc ++ [evOf l]) (some (.int (k : Nat))) (some (.str l)) (some (evOf l)) (fun x m => hl x (List.mem_cons_of_mem _ m)) (by simp at ha ⊢; omega) (by simp at hk ⊢; omega) (fun _ => rfl) (fun _ => rfl) (fun m => ev_lo (evOf_ev l) m)
      rcases ih with ⟨j, e1, hj, env, acc', e5⟩ | ⟨es, e1, e2', e3', e4', g2, g3, g4, e5⟩
      · refine .inl ⟨j, by simp [evsOf, hn, e1], hj, env, acc', ?_⟩
        simp [DL.numbered, tn, e5]
      · refine .inr ⟨evOf l :: es, by simp [evsOf, hn, e1], e2', e3', e4', g2, g3, g4, ?_⟩
        simp [DL.numbered, tn, e5]
def itE : List DV → Option (List DV)
  | [.lst xs] => some (DL.numbered 0 xs)
  | _ => none
theorem r_iE (A : EA) (env : DEnv) (W : Wd) : iE A env W = (A env W).bind fun p => mo (itE p.1) p.2 := by
  simp only [iE, mb_apply]
  congr 1
  funext p
  obtain ⟨x, W1⟩ := p
  rcases x with _ | ⟨a, _ | ⟨b, t⟩⟩
  · rfl
  · cases a <;> rfl
  · cases a <;> rfl
theorem lines_arg (t : Str) (ht : t.length + 2 ≤ sizeLine) (env : DEnv) (he : env[0]?.join = some (.str t)) (W : Wd) :
    iE (aC (eIf (bT (eO oNe (eV 0) (eC (.str "")))) (eM oSplit (eV 0) (eC (.str "\n"))) (eLst aN)) aN) env W = some (DL.numbered 0 ((linesOf t).map DV.str), W) := by
  have sp := oSplit_str (t := t) (y := "\n") rfl ht W
  by_cases h : t = ""
  · simp [r_iE, he, h, line0, itE, linesOf]
  · simp [r_iE, he, h, itE, linesOf, sp]
theorem evsOf_ev : ∀ (k : Nat) (ls : List Str) (es : List DV), evsOf k ls = .inr es → ∀ x ∈ es, Ev x
  | _, [], es, h => by cases h; intro x m; cases m
  | k, l :: ls, es, h => by
    unfold evsOf at h
    split at h
    · cases h
    · split at h
      · cases h
      · rename_i es' e
        cases h
        intro x m
        rcases List.mem_cons.mp m with rfl | m
        · exact evOf_ev l
        · exact evsOf_ev (k + 1) ls es' e x m
theorem frz_cell (W : Wd) (hW : GW W) (es : List DV) (he : ∀ x ∈ es, x.lo W.length = true) (e0 e2 e3 e4 : Option DV) (f0 : FreeO e0) (f2 : FreeO e2) (f3 : FreeO e3) (f4 : FreeO e4) :
    frz 1 W.length [e0, some (.loc W.length), e2, e3, e4] (W ++ [.lst es]) = some ([e0, some (.lst es), e2, e3, e4], W) := by
  have a : DV.loL W.length es = true := loL_of _ _ he
  have b : W.all (Cell.lo W.length) = true := hW.all _
  have c : (W ++ [Cell.lst es]).take W.length = W := List.take_left' rfl
  have g : (W ++ [Cell.lst es])[W.length]? = some (.lst es) := gat _ _ _
  have e : frz 1 W.length [e0, some (.loc W.length), e2, e3, e4] (W ++ [.lst es]) = (match (W ++ [Cell.lst es])[W.length]? with
    | some (.lst xs) => if (decide (W.length + 1 = (W ++ [Cell.lst es]).length) && decide (W.length ≤ W.length) && DV.loL W.length xs && ([e0, some (.loc W.length), e2, e3, e4].set 1 none).all (optLo W.length) && ((W ++ [Cell.lst es]).take W.length).all (Cell.lo W.length)) = true then some ([e0, some (.loc W.length), e2, e3, e4].set 1 (some (.lst xs)), (W ++ [Cell.lst es]).take W.length) else none
    | _ => none) := rfl
  rw [e, g]
  have o : ([e0, some (DV.loc W.length), e2, e3, e4].set 1 none).all (optLo W.length) = true := by
    show (optLo W.length e0 && (optLo W.length none && (optLo W.length e2 && (optLo W.length e3 && (optLo W.length e4 && true))))) = true
    rw [f0, f2, f3, f4]; rfl
  dsimp only
  rw [a, o, c, b]
  simp
theorem events_in_str (t : Str) (ht : t.length + 2 ≤ sizeLine) (hl : (linesOf t).length < 500000) (W : Wd) (hW : GW W) :
    (∃ j, evsOf 0 (linesOf t) = .inl j ∧ ∃ acc, fx_events_in [.str t] W = some (.inr (.exc "BadLine" ["number"] [.int (j : Nat)]), W ++ [.lst acc])) ∨ (∃ es, evsOf 0 (linesOf t) = .inr es ∧ fx_events_in [.str t] W = some (.inl (.lst es), W)) := by
  have lw : ∀ l ∈ linesOf t, l.length + 2 ≤ sizeLine := fun l m => by
    unfold linesOf at m
    split at m
    · cases m
    · have := word_len m
      omega
  have big : 600000 < sizeLine := by rw [sizeLine_eq]; decide
  have ia := lines_arg t ht [some (.str t), some (.loc W.length), none, none, none] rfl (W ++ [.lst []])
  rcases ev_loop t W (W ++ [Cell.lst []]).length (linesOf t) 0 [] none none none lw (by simp; omega) (by omega) (fun _ => rfl) (fun _ => rfl) (fun _ => rfl) with ⟨j, e1, hj, env, acc', e5⟩ | ⟨es, e1, e2', e3', e4', g2, g3, g4, e5⟩
  · refine .inl ⟨j, e1, acc', runX_ex (e := env) ?_⟩
    simp only [y_events_in]
    simp [eNew, mb_apply, line0, ia]
    simp at e5
    rw [e5]; rfl
  · refine .inr ⟨es, e1, runX_rt ?_ rfl⟩
    have fz := frz_cell W hW es (fun x m => ev_lo (evsOf_ev _ _ _ e1 x m) _) (some (.str t)) e2' e3' e4' (fun _ => rfl) g2 g3 g4
    simp only [y_events_in]
    simp [eNew, mb_apply, line0, ia]
    simp at e5
    rw [e5]
    simp [xFrz, fz]
end K26
end L2

set_option maxRecDepth 100000
/-! k26: what is heard, what is due. -/
namespace L2
namespace K26
open PySem PySem.Spec PyProof.Rows DL PySem.NumText
def told : Nat ⊕ List DV → DV
  | .inl j => .tup [.str "line", .int (j : Nat)]
  | .inr es => .lst es
def heard1 (t : Str) : DV := told (evsOf 0 (linesOf t))
def heard0 (t : Str) : DV := if isNon (evOf t) = true then .str "bad" else evOf t
theorem isx_exc_value (nm : Str) (fs : List Str) (xs : List DV) (h : nm = "BadLine" ∨ nm = "BadText") (W : Wd) : kIsx nms [.exc nm fs xs, .cst (.ty "ValueError")] W = some (.bl true, W) := by
  rcases h with rfl | rfl <;> kernel_rfl
theorem isx_known (nm : Str) (fs : List Str) (xs : List DV) (h : nm = "BadLine" ∨ nm = "BadText") (W : Wd) : kIsx nms [.exc nm fs xs, .gl "Known"] W = some (.bl false, W) := by
  rcases h with rfl | rfl <;> kernel_rfl
theorem isx_line (fs : List Str) (xs : List DV) (W : Wd) : kIsx nms [.exc "BadLine" fs xs, .gl "BadLine"] W = some (.bl true, W) := by kernel_rfl
theorem isx_line2 (fs : List Str) (xs : List DV) (W : Wd) : kIsx nms [.exc "BadLine" fs xs, .gl "BadText"] W = some (.bl false, W) := by kernel_rfl
theorem isx_text (fs : List Str) (xs : List DV) (W : Wd) : kIsx nms [.exc "BadText" fs xs, .gl "BadLine"] W = some (.bl false, W) := by kernel_rfl
theorem at_number (x : DV) (env : DEnv) (h : env[3]?.join = some (.exc "BadLine" ["number"] [x])) (W : Wd) : eAt nms "number" (eV 3) env W = some (x, W) := by
  have : eAt nms "number" (eV 3) env W = (eV 3 env W).bind fun p => (eAt nms "number" (eC p.1) env p.2) := by
    simp only [eAt, mb_apply, r_eC, Option.bind_some]
  rw [this, r_eV, h]
  kernel_rfl
theorem cut_all (W : Wd) (hW : GW W) (l : List Cell) : ((W ++ l).take W.length).all (Cell.lo W.length) = true := by rw [List.take_left' rfl]; exact hW.all _
theorem heard0_eq (t : Str) (ht : t.length + 2 ≤ sizeLine) (W : Wd) : f__law_heard [.int 0, .str t] W = some (heard0 t, W) := by
  have h := event_in_str t ht W
  unfold heard0
  cases hn : isNon (evOf t) with
  | true =>
    rw [hn] at h
    refine runF_rt ?_ rfl
    have i1 := isx_exc_value "BadText" [] [] (.inr rfl) W
    have i2 := isx_known "BadText" [] [] (.inr rfl) W
    have i3 := isx_text [] [] W
    simp [b__law_heard, line2, h, oIs, DL.isN, i1, i2, i3]
  | false =>
    rw [hn] at h
    refine runF_rt ?_ rfl
    simp [b__law_heard, line2, h, oIs, DL.isN]
theorem heard1_eq (t : Str) (ht : t.length + 2 ≤ sizeLine) (hl : (linesOf t).length < 500000) (W : Wd) (hW : GW W) : f__law_heard [.int 1, .str t] W = some (heard1 t, W) := by
  unfold heard1
  rcases events_in_str t ht hl W hW with ⟨j, e1, acc, e⟩ | ⟨es, e1, e⟩
  · rw [e1]
    obtain ⟨V, hV⟩ : ∃ V, W ++ [Cell.lst acc] = V := ⟨_, rfl⟩
    rw [hV] at e
    have i1 := isx_exc_value "BadLine" ["number"] [.int (j : Nat)] (.inl rfl) V
    have i2 := isx_known "BadLine" ["number"] [.int (j : Nat)] (.inl rfl) V
    have i3 := isx_line ["number"] [.int (j : Nat)] V
    have i4 := isx_line2 ["number"] [.int (j : Nat)] V
    have i5 := at_number (.int (j : Nat)) [some (.int 1), some (.str t), some .non, some (.exc "BadLine" ["number"] [.int (j : Nat)]), none] rfl V
    have b : b__law_heard W.length [some (.int 1), some (.str t), none, none, none] W = some (.rt (told (.inl j)), V) := by
      simp [b__law_heard, line2, e, perm, oIs, DL.isN, i1, i2, i3, i4, i5, told]
    have c := runF_cut (nN := 5) (S := b__law_heard) (xs := [.int 1, .str t]) (W := W) b (by rw [← hV]; simp) (by rw [← hV]; rw [cut_all W hW]; rfl)
    rw [← hV, List.take_left' rfl] at c
    exact c
  · rw [e1]
    refine runF_rt ?_ rfl
    simp [b__law_heard, line2, e, perm, oIs, DL.isN, told]
/-! ### due -/
theorem due_turn (t l : Str) (hl : l.length + 2 ≤ sizeLine) (k : Nat) (W : Wd) (hW : GW W) (acc : List DV) (hacc : ∀ x ∈ acc, Ev x) (ha : acc.length < sizeLine) (n : Nat) (e4 : Option DV) :
    b__law_due_L1 n [some (.str t), some (.loc W.length), some (.int (k : Nat)), some (.str l), e4] (W ++ [.lst acc]) =
      if isNon (evOf l) = true then some (.rt (.tup [.str "line", .int (k : Nat)]), W ++ [.lst acc])
      else some (.nx [some (.str t), some (.loc W.length), some (.int (k : Nat)), some (.str l), some (evOf l)], W ++ [.lst (acc ++ [evOf l])]) := by
  have hW' : GW (W ++ [.lst acc]) := fun c m q => by
    rcases List.mem_append.mp m with m | m
    · exact hW c m q
    · obtain rfl := List.mem_singleton.mp m
      exact loL_of q acc fun x mx => ev_lo (hacc x mx) q
  have h := read_ok l hl (W ++ [.lst acc]) hW'
  have nn := ev_isN (evOf_ev l)
  cases hn : isNon (evOf l) with
  | true =>
    rw [hn] at nn
    simp [b__law_due_L1, h, oIs, nn, line2]
  | false =>
    rw [hn] at nn
    simp [b__law_due_L1, h, oIs, nn, lst_cell, app_cell W acc _ ha]
theorem due_loop (t : Str) (W : Wd) (hW : GW W) (n : Nat) : ∀ (ls : List Str) (k : Nat) (acc : List DV) (e2 e3 e4 : Option DV), (∀ l ∈ ls, l.length + 2 ≤ sizeLine) → (∀ x ∈ acc, Ev x) → acc.length + ls.length < sizeLine → FreeO e2 → FreeO e3 → FreeO e4 →
    (∃ j, evsOf k ls = .inl j ∧ ∃ acc', sLoop tgt b__law_due_L1 n (DL.numbered k (ls.map DV.str)) [some (.str t), some (.loc W.length), e2, e3, e4] (W ++ [.lst acc]) = some (.rt (.tup [.str "line", .int (j : Nat)]), W ++ [.lst acc'])) ∨
    (∃ es, evsOf k ls = .inr es ∧ ∃ e2' e3' e4', FreeO e2' ∧ FreeO e3' ∧ FreeO e4' ∧ sLoop tgt b__law_due_L1 n (DL.numbered k (ls.map DV.str)) [some (.str t), some (.loc W.length), e2, e3, e4] (W ++ [.lst acc]) = some (.nx [some (.str t), some (.loc W.length), e2', e3', e4'], W ++ [.lst (acc ++ es)]))
  | [], k, acc, e2, e3, e4, _, _, _, f2, f3, f4 => .inr ⟨[], rfl, e2, e3, e4, f2, f3, f4, by simp [DL.numbered]⟩
  | l :: ls, k, acc, e2, e3, e4, hl, hacc, ha, f2, f3, f4 => by
    have tn := due_turn t l (hl l List.mem_cons_self) k W hW acc hacc (by simp at ha; omega) n e4
    cases hn : isNon (evOf l) with
    | true =>
      rw [hn] at tn
      refine .inl ⟨k, by simp [evsOf, hn], acc, ?_⟩
      simp [DL.numbered, tn]
    | false =>
      rw [hn] at tn
      have ih := due_loop t W hW n ls (k + 1) (acc ++ [evOf l]) (some (.int (k : Nat))) (some (.str l)) (some (evOf l)) (fun x m => hl x (List.mem_cons_of_mem _ m)) (fun x m => by
        rcases List.mem_append.mp m with m | m
        · exact hacc x m
        · obtain rfl := List.mem_singleton.mp m; exact evOf_ev l) (by simp at ha ⊢; omega) (fun _ => rfl) (fun _ => rfl) (fun m => ev_lo (evOf_ev l) m)
      rcases ih with ⟨j, e1, acc', e5⟩ | ⟨es, e1, e2', e3', e4', g2, g3, g4, e5⟩
      · refine .inl ⟨j, by simp [evsOf, hn, e1], acc', ?_⟩
        simp [DL.numbered, tn, e5]
      · refine .inr ⟨evOf l :: es, by simp [evsOf, hn, e1], e2', e3', e4', g2, g3, g4, ?_⟩
        simp [DL.numbered, tn, e5]
theorem due_eq (t : Str) (ht : t.length + 2 ≤ sizeLine) (hl : (linesOf t).length < 500000) (W : Wd) (hW : GW W) : f__law_due [.str t] W = some (heard1 t, W) := by
  have lw : ∀ l ∈ linesOf t, l.length + 2 ≤ sizeLine := fun l m => by
    unfold linesOf at m
    split at m
    · cases m
    · have := word_len m
      omega
  have big : 600000 < sizeLine := by rw [sizeLine_eq]; decide
  have ia := lines_arg t ht [some (.str t), some (.loc W.length), none, none, none] rfl (W ++ [.lst []])
  unfold heard1
  rcases due_loop t W hW (W ++ [Cell.lst []]).length (linesOf t) 0 [] none none none lw (fun x m => by cases m) (by simp; omega) (fun _ => rfl) (fun _ => rfl) (fun _ => rfl) with ⟨j, e1, acc', e5⟩ | ⟨es, e1, e2', e3', e4', g2, g3, g4, e5⟩
  · rw [e1]
    have b : b__law_due W.length [some (.str t), none, none, none, none] W = some (.rt (told (.inl j)), W ++ [.lst acc']) := by
      simp only [b__law_due]
      simp [eNew, mb_apply, line0, ia]
      simp at e5
      rw [e5]; rfl
    have c := runF_cut (nN := 5) (S := b__law_due) (xs := [.str t]) (W := W) b (by simp) (by rw [cut_all W hW]; rfl)
    rw [List.take_left' rfl] at c
    exact c
  · rw [e1]
    have fz := frz_cell W hW es (fun x m => ev_lo (evsOf_ev _ _ _ e1 x m) _) (some (.str t)) e2' e3' e4' (fun _ => rfl) g2 g3 g4
    refine runF_rt ?_ rfl
    simp only [b__law_due]
    simp [eNew, mb_apply, line0, ia]
    simp at e5
    rw [e5]
    simp [sFrz, fz, told]
end K26
end L2

set_option maxRecDepth 100000
/-! k26: the drawn deeds. -/
namespace L2
namespace K26
open PySem PySem.Spec PyProof.Rows DL PySem.NumText
theorem GW.sm {W W' : Wd} {b : Nat} {c : Int} (h : GW W) (s : Sm W W' b) (k : Box W' b c) : GW W' := fun d m n => by
  obtain ⟨i, l, e⟩ := List.mem_iff_getElem.mp m
  by_cases hi : i = b
  · subst hi
    obtain ⟨x0, x1, x2, q, _⟩ := k
    rw [List.getElem?_eq_getElem l, e] at q
    cases q
    rfl
  · have q := s.rest i hi
    rw [List.getElem?_eq_getElem l, e] at q
    exact h d (mem_of q.symm) n
def words6 : List Str := ["a", "b", "zz", "make", "commit", "abcdefgh"]
def nums6 : List Int := [0, 1, 7, 10, 63, 999999]
inductive Deed : DV → Prop
  | z {w : Str} : (w, ("" : Str)) ∈ forms → Deed (.tup [.str w])
  | n {w a : Str} : (w, ("n" : Str)) ∈ forms → a ∈ words6 → Deed (.tup [.str w, .str a])
  | nb {w a : Str} {i : Int} : (w, ("nb" : Str)) ∈ forms → a ∈ words6 → i ∈ nums6 → Deed (.tup [.str w, .str a, .int i])
  | nn {w a b : Str} : (w, ("nn" : Str)) ∈ forms → a ∈ words6 → b ∈ words6 → Deed (.tup [.str w, .str a, .str b])
theorem Box.grow {W : Wd} {b : Nat} {c : Int} (h : Box W b c) (l : List Cell) : Box (W ++ l) b c := by
  obtain ⟨x0, x1, x2, q, r⟩ := h
  refine ⟨x0, x1, x2, ?_, r⟩
  rw [List.getElem?_append_left (List.getElem?_eq_some_iff.mp q).1]; exact q
theorem Box.lt {W : Wd} {b : Nat} {c : Int} (h : Box W b c) : b < W.length := by
  obtain ⟨x0, x1, x2, q, r⟩ := h
  exact (List.getElem?_eq_some_iff.mp q).1
theorem Box.cutB {W V : Wd} {b : Nat} {c : Int} {n : Nat} (h : Box V b c) (hn : b < n) : Box (V.take n) b c := by
  obtain ⟨x0, x1, x2, q, r⟩ := h
  refine ⟨x0, x1, x2, ?_, r⟩
  rw [List.getElem?_take, if_pos hn]; exact q
theorem Sm.cutB {W V : Wd} {b : Nat} {l : List Cell} (h : Sm (W ++ l) V b) : Sm W (V.take W.length) b := by
  have hl := h.len
  rw [List.length_append] at hl
  refine ⟨by rw [List.length_take]; omega, fun j hj => ?_⟩
  rw [List.getElem?_take]
  by_cases c : j < W.length
  · rw [if_pos c, h.rest j hj, List.getElem?_append_left c]
  · rw [if_neg c, List.getElem?_eq_none (by omega)]
abbrev kinds10 : List DV := [.str "make", .str "promise", .str "give", .str "cut", .str "clone", .str "keep", .str "drop", .str "place", .str "commit", .str "stop"]
abbrev words6D : List DV := [.str "a", .str "b", .str "zz", .str "make", .str "commit", .str "abcdefgh"]
abbrev nums6D : List DV := [.int 0, .int 1, .int 7, .int 10, .int 63, .int 999999]
theorem line10 (a b c d e f g h i j : DV) : lineOk [a, b, c, d, e, f, g, h, i, j] = true := by unfold lineOk; rw [sizeLine_eq]; rfl
theorem line6 (a b c d e f : DV) : lineOk [a, b, c, d, e, f] = true := by unfold lineOk; rw [sizeLine_eq]; rfl
theorem kind_form {x : DV} (h : x ∈ kinds10) : ∃ w f, x = .str w ∧ (w, f) ∈ forms ∧ forms.lookup w = some f := by
  simp only [kinds10, List.mem_cons, List.not_mem_nil, or_false] at h
  rcases h with rfl | rfl | rfl | rfl | rfl | rfl | rfl | rfl | rfl | rfl
  all_goals first
    | exact ⟨_, "n", rfl, by simp [forms], by decide +kernel⟩
    | exact ⟨_, "nb", rfl, by simp [forms], by decide +kernel⟩
    | exact ⟨_, "nn", rfl, by simp [forms], by decide +kernel⟩
    | exact ⟨_, "", rfl, by simp [forms], by decide +kernel⟩
theorem six_word {x : DV} (h : x ∈ words6D) : ∃ a, x = .str a ∧ a ∈ words6 := by
  simp only [words6D, List.mem_cons, List.not_mem_nil, or_false] at h
  rcases h with rfl | rfl | rfl | rfl | rfl | rfl <;> exact ⟨_, rfl, by simp [words6]⟩
theorem six_num {x : DV} (h : x ∈ nums6D) : ∃ i, x = .int i ∧ i ∈ nums6 := by
  simp only [nums6D, List.mem_cons, List.not_mem_nil, or_false] at h
  rcases h with rfl | rfl | rfl | rfl | rfl | rfl <;> exact ⟨_, rfl, by simp [nums6]⟩
theorem addT1 (x y : DV) (W : Wd) : oAdd (.tup [x]) (.tup [y]) W = some (.tup [x, y], W) := by
  have : 1 + 1 ≤ sizeLine := by rw [sizeLine_eq]; decide
  simp [oAdd, dAdd, this]
theorem addT2 (x y z : DV) (W : Wd) : oAdd (.tup [x, y]) (.tup [z]) W = some (.tup [x, y, z], W) := by
  have : 2 + 1 ≤ sizeLine := by rw [sizeLine_eq]; decide
  simp [oAdd, dAdd, this]
/-- one part more -/
theorem deed_turn {W : Wd} {b : Nat} {c : Int} (hb : Box W b c) (hc : c < 1000000) (n : Nat) (w : Option DV) (xs ys : List DV) (hx : ∀ y W, oAdd (.tup xs) (.tup [y]) W = some (.tup (xs ++ [y]), W)) (s : Str) (hs : s = "n" ∨ s = "b") :
    ∃ y W', b__law_deed_L1 n [some (.loc b), w, some (.lst words6D), some (.tup xs), some (.str s)] W = some (.nx [some (.loc b), w, some (.lst words6D), some (.tup (xs ++ [y])), some (.str s)], W') ∧ Box W' b (c + 1) ∧ Sm W W' b ∧ (s = "n" → ∃ a, y = .str a ∧ a ∈ words6) ∧ (s = "b" → ∃ i, y = .int i ∧ i ∈ nums6) := by
  rcases hs with rfl | rfl
  · obtain ⟨y, W', e, m, hb', sm⟩ := of_spec (xs := words6D) hb (by decide) (by decide) (by omega)
    refine ⟨y, W', ?_, hb', sm, fun _ => six_word m, fun h => absurd h (by decide)⟩
    simp [b__law_deed_L1, e, line1, hx]
  · obtain ⟨y, W', e, m, hb', sm⟩ := of_spec (xs := nums6D) hb (by decide) (by decide) (by omega)
    have nb : ¬ ("b" : Str) = "n" := by decide
    refine ⟨y, W', ?_, hb', sm, fun h => absurd h (by decide), fun _ => six_num m⟩
    simp [b__law_deed_L1, e, line1, line6, hx, nb]
theorem deed_spec {W : Wd} {b : Nat} {c : Int} (hb : Box W b c) (hc : c < 100000) (hW : GW W) :
    ∃ d W', f__law_deed [.loc b] W = some (d, W') ∧ Deed d ∧ Box W' b (c + 3) ∧ Sm W W' b := by
  obtain ⟨x, W1, e1, m1, hb1, sm1⟩ := of_spec (xs := kinds10) hb (by decide) (by decide) (by omega)
  obtain ⟨w, f, rfl, hwf, hf⟩ := kind_form m1
  have fe := forms_eq W1
  have vf := val_forms w
  rw [hf] at vf
  have hl1 : W1.length = W.length := sm1.len
  obtain ⟨V, hV⟩ : ∃ V, W1 ++ [Cell.dK fkv, Cell.dK kv2] = V := ⟨_, rfl⟩
  have d0 : dictOf V (.loc W1.length) = some fkv := by rw [← hV]; exact dictOf0 W1 fkv _
  have hbV : Box V b (c + 1) := by rw [← hV]; exact hb1.grow _
  have smV : ∀ V', Sm V V' b → Sm W (V'.take W.length) b := fun V' h => by
    rw [← hV] at h
    have := Sm.cutB h
    rw [hl1] at this
    exact sm1.trans this
  have GWc : ∀ (V' : Wd) (c' : Int), Sm V V' b → Box V' b c' → (V'.take W.length).all (Cell.lo W.length) = true := fun V' c' h k => by
    have g : GW (V'.take W.length) := hW.sm (smV V' h) (Box.cutB (W := W) k (by have := hb.lt; omega))
    exact g.all _
  have lenV : V.length = W.length + 2 := by rw [← hV, List.length_append, hl1]; rfl
  have fin : ∀ (V' : Wd) (c' : Int) (d : DV), Sm V V' b → Box V' b c' → c' ≤ c + 3 → Deed d → (∀ k, d.lo k = true) → b__law_deed W.length [some (.loc b), none, none, none, none] W = some (.rt d, V') → ∃ d W', f__law_deed [.loc b] W = some (d, W') ∧ Deed d ∧ Box W' b (c + 3) ∧ Sm W W' b := fun V' c' d h k hc' hd lo e => by
    refine ⟨d, V'.take W.length, ?_, hd, ?_, smV V' h⟩
    · exact runF_cut (nN := 5) (S := b__law_deed) (xs := [.loc b]) (W := W) e (by rw [h.len, lenV]; omega) (by rw [lo, GWc V' c' h k]; rfl)
    · obtain ⟨x0, x1, x2, q, p1, p2, p3, p4, p5⟩ := Box.cutB (W := W) (n := W.length) k hb.lt
      exact ⟨x0, x1, x2, q, p1, p2, p3, p4, by omega⟩
  rw [hV] at fe
  rcases forms_four hf with rfl | rfl | rfl | rfl
  · refine fin V (c + 1) _ (Sm.refl _ _) hbV (by omega) (.z hwf) (fun k => rfl) ?_
    simp [b__law_deed, line10, line6, e1, line1, fe, oDG, d0, keyD, vf, sg0]
  · obtain ⟨y, V', e2, hb2, sm2, hn, _⟩ := deed_turn hbV (by omega) V.length (some (.str w)) [.str w] [] (fun y W => addT1 _ y W) "n" (.inl rfl)
    obtain ⟨a, rfl, ha⟩ := hn rfl
    refine fin V' (c + 2) _ sm2 (by rw [show c + 2 = c + 1 + 1 by omega]; exact hb2) (by omega) (.n hwf ha) (fun k => rfl) ?_
    simp [b__law_deed, line10, line6, e1, line1, fe, oDG, d0, keyD, vf, sg1]
    rw [e2]; rfl
  · obtain ⟨y, V', e2, hb2, sm2, hn, _⟩ := deed_turn hbV (by omega) V.length (some (.str w)) [.str w] [] (fun y W => addT1 _ y W) "n" (.inl rfl)
    obtain ⟨a, rfl, ha⟩ := hn rfl
    obtain ⟨z, V2, e3, hb3, sm3, _, hn2⟩ := deed_turn hb2 (by omega) V.length (some (.str w)) [.str w, .str a] [] (fun y W => addT2 _ _ y W) "b" (.inr rfl)
    obtain ⟨i, rfl, hi⟩ := hn2 rfl
    refine fin V2 (c + 3) _ (sm2.trans sm3) (by rw [show c + 3 = c + 1 + 1 + 1 by omega]; exact hb3) (by omega) (.nb hwf ha hi) (fun k => rfl) ?_
    simp [b__law_deed, line10, line6, e1, line1, fe, oDG, d0, keyD, vf, sgb]
    rw [e2]
    simp
    rw [e3]; rfl
  · obtain ⟨y, V', e2, hb2, sm2, hn, _⟩ := deed_turn hbV (by omega) V.length (some (.str w)) [.str w] [] (fun y W => addT1 _ y W) "n" (.inl rfl)
    obtain ⟨a, rfl, ha⟩ := hn rfl
    obtain ⟨z, V2, e3, hb3, sm3, hn2, _⟩ := deed_turn hb2 (by omega) V.length (some (.str w)) [.str w, .str a] [] (fun y W => addT2 _ _ y W) "n" (.inl rfl)
    obtain ⟨i, rfl, hi⟩ := hn2 rfl
    refine fin V2 (c + 3) _ (sm2.trans sm3) (by rw [show c + 3 = c + 1 + 1 + 1 by omega]; exact hb3) (by omega) (.nn hwf ha hi) (fun k => rfl) ?_
    simp [b__law_deed, line10, line6, e1, line1, fe, oDG, d0, keyD, vf, sgn]
    rw [e2]
    simp
    rw [e3]; rfl
end K26
end L2

set_option maxRecDepth 100000
/-! k26: the texts of deeds. -/
namespace L2
namespace K26
open PySem PySem.Spec PyProof.Rows DL PySem.NumText
def strOf : DV → Str
  | .str s => s
  | .int i => Str.ofString (toString i)
  | _ => ""
def partsOf : DV → List DV
  | .tup xs => xs
  | .lst xs => xs
  | _ => []
def txtOf (d : DV) : Str := Txt.join " " ((partsOf d).map strOf)
def eqS : DV → DV → Bool
  | .str a, .str b => decide (a = b)
  | .int a, .int b => decide (a = b)
  | _, _ => false
def eqL : List DV → List DV → Bool
  | [], [] => true
  | x :: xs, y :: ys => eqS x y && eqL xs ys
  | _, _ => false
def eqF : DV → DV → Bool
  | .tup xs, .tup ys => eqL xs ys
  | _, _ => false
theorem eqS_eq {x y : DV} (h : eqS x y = true) : x = y := by
  unfold eqS at h
  split at h
  · rw [of_decide_eq_true h]
  · rw [of_decide_eq_true h]
  · cases h
theorem eqL_eq : ∀ {xs ys : List DV}, eqL xs ys = true → xs = ys
  | [], [], _ => rfl
  | x :: xs, y :: ys, h => by
    have h' : (eqS x y && eqL xs ys) = true := h
    rw [Bool.and_eq_true] at h'
    rw [eqS_eq h'.1, eqL_eq h'.2]
  | [], _ :: _, h => by cases h
  | _ :: _, [], h => by cases h
theorem eqF_eq {x y : DV} (h : eqF x y = true) : x = y := by
  unfold eqF at h
  split at h
  · rw [eqL_eq h]
  · cases h
def chk (d : DV) : Bool := eqF (evOf (txtOf d)) d && (decide ((txtOf d).length ≤ 26) && (!((txtOf d).cps.toList.contains 10) && decide ((txtOf d).length ≠ 0)))
theorem chk_z : (forms.all fun p => !decide (p.2 = "") || chk (.tup [.str p.1])) = true := by kernel_rfl
theorem chk_n : (forms.all fun p => !decide (p.2 = "n") || words6.all fun a => chk (.tup [.str p.1, .str a])) = true := by kernel_rfl
theorem chk_nb : (forms.all fun p => !decide (p.2 = "nb") || words6.all fun a => nums6.all fun i => chk (.tup [.str p.1, .str a, .int i])) = true := by kernel_rfl
theorem chk_nn : (forms.all fun p => !decide (p.2 = "nn") || words6.all fun a => words6.all fun b => chk (.tup [.str p.1, .str a, .str b])) = true := by kernel_rfl
theorem deed_chk {d : DV} (h : Deed d) : chk d = true := by
  cases h with
  | z h =>
    have := List.all_eq_true.mp chk_z _ h
    simpa using this
  | n h a =>
    have := List.all_eq_true.mp chk_n _ h
    simp only [decide_true, Bool.not_true, Bool.false_or] at this
    exact List.all_eq_true.mp this _ a
  | nb h a i =>
    have := List.all_eq_true.mp chk_nb _ h
    simp only [decide_true, Bool.not_true, Bool.false_or] at this
    exact List.all_eq_true.mp (List.all_eq_true.mp this _ a) _ i
  | nn h a i =>
    have := List.all_eq_true.mp chk_nn _ h
    simp only [decide_true, Bool.not_true, Bool.false_or] at this
    exact List.all_eq_true.mp (List.all_eq_true.mp this _ a) _ i
theorem deed_ev {d : DV} (h : Deed d) : evOf (txtOf d) = d := by
  have := deed_chk h
  unfold chk at this
  rw [Bool.and_eq_true] at this
  exact eqF_eq this.1
theorem deed_len {d : DV} (h : Deed d) : (txtOf d).length ≤ 26 ∧ 10 ∉ (txtOf d).cps.toList ∧ (txtOf d).length ≠ 0 := by
  have := deed_chk h
  unfold chk at this
  simp only [Bool.and_eq_true, decide_eq_true_eq, Bool.not_eq_true'] at this
  refine ⟨this.2.1, fun m => ?_, this.2.2.2⟩
  have c : (txtOf d).cps.toList.contains 10 = true := by simpa using m
  rw [this.2.2.1] at c
  cases c
/-- what str() takes here -/
inductive Sm1 : DV → Prop
  | str (s : Str) : s.length ≤ 100 → Sm1 (.str s)
  | int (i : Int) : 0 ≤ i → i < 1000000 → Sm1 (.int i)
theorem sm1_str {x : DV} (h : Sm1 x) (W : Wd) : kStrS [x] W = some (.str (strOf x), W) := by
  cases h with
  | str s _ => rfl
  | int i h0 h1 => exact strI h0 h1 W
theorem sm1_len {x : DV} (h : Sm1 x) : (strOf x).length ≤ 100 := by
  cases h with
  | str s h => exact h
  | int i h0 h1 => exact Nat.le_trans (num_len h0 h1) (by decide)
theorem forms_keys : (forms.all fun p => decide (p.1.length ≤ 100)) = true := by kernel_rfl
theorem words_keys : (words6.all fun p => decide (p.length ≤ 100)) = true := by kernel_rfl
theorem nums_keys : (nums6.all fun p => decide (0 ≤ p ∧ p < 1000000)) = true := by kernel_rfl
theorem key_len {p : Str × Str} (h : p ∈ forms) : p.1.length ≤ 100 := of_decide_eq_true (List.all_eq_true.mp forms_keys _ h)
theorem wrd_len {p : Str} (h : p ∈ words6) : p.length ≤ 100 := of_decide_eq_true (List.all_eq_true.mp words_keys _ h)
theorem num_bd {p : Int} (h : p ∈ nums6) : 0 ≤ p ∧ p < 1000000 := of_decide_eq_true (List.all_eq_true.mp nums_keys _ h)
theorem deed_parts {d : DV} (h : Deed d) : ∃ xs, d = .tup xs ∧ xs.length ≤ 3 ∧ ∀ x ∈ xs, Sm1 x := by
  cases h with
  | z h => exact ⟨_, rfl, by simp, fun x m => by simp at m; subst m; exact .str _ (key_len h)⟩
  | n h a => exact ⟨_, rfl, by simp, fun x m => by
      simp at m
      rcases m with rfl | rfl
      · exact .str _ (key_len h)
      · exact .str _ (wrd_len a)⟩
  | nb h a i => exact ⟨_, rfl, by simp, fun x m => by
      simp at m
      rcases m with rfl | rfl | rfl
      · exact .str _ (key_len h)
      · exact .str _ (wrd_len a)
      · exact .int _ (num_bd i).1 (num_bd i).2⟩
  | nn h a b => exact ⟨_, rfl, by simp, fun x m => by
      simp at m
      rcases m with rfl | rfl | rfl
      · exact .str _ (key_len h)
      · exact .str _ (wrd_len a)
      · exact .str _ (wrd_len b)⟩
theorem str_loop (k : Nat) (env : DEnv) (hk : k < env.length) (W : Wd) : ∀ (xs acc : List DV), (∀ x ∈ xs, Sm1 x) → acc.length + xs.length ≤ sizeLine →
    cLoop (gN k) bYes (eK kStrS (aC (eV k) aN)) env xs acc W = some (acc ++ xs.map (fun x => DV.str (strOf x)), W)
  | [], acc, _, _ => by simp
  | x :: xs, acc, h, l => by
    have l' : acc.length < sizeLine := by simp at l; omega
    have ih := str_loop k env hk W xs (acc ++ [.str (strOf x)]) (fun y m => h y (List.mem_cons_of_mem _ m)) (by simp at l ⊢; omega)
    have g : (env.set k (some x))[k]? = some (some x) := by rw [List.getElem?_set_self hk]
    have s := sm1_str (h x List.mem_cons_self) W
    simp [g, s, l', ih]
theorem strsOf_map : ∀ ys : List Str, strsOf (ys.map DV.str) = some ys
  | [] => rfl
  | y :: ys => by
    show (strsOf (ys.map DV.str)).map (fun zs => y :: zs) = _
    rw [strsOf_map ys]; rfl
theorem oJoin_str (a : Str) (ys : List Str) (h : (ys.map (·.length)).sum + ys.length * a.length ≤ 16777216) (W : Wd) : oJoin (.str a) (.lst (ys.map DV.str)) W = some (.str (Txt.join a ys), W) := by
  show (strsOf (ys.map DV.str)).bind _ = _
  rw [strsOf_map, Option.bind_some, if_pos h]
theorem sum_le (n : Nat) : ∀ ys : List Str, (∀ y ∈ ys, y.length ≤ n) → (ys.map (·.length)).sum ≤ ys.length * n
  | [], _ => by simp
  | y :: ys, h => by
    have ih := sum_le n ys fun z m => h z (List.mem_cons_of_mem _ m)
    have := h y List.mem_cons_self
    simp only [List.map_cons, List.sum_cons, List.length_cons]
    rw [Nat.add_mul]; omega
theorem join_parts (xs : List DV) (h3 : xs.length ≤ 3) (h : ∀ x ∈ xs, Sm1 x) (W : Wd) : oJoin (.str " ") (.lst (xs.map fun x => DV.str (strOf x))) W = some (.str (Txt.join " " (xs.map strOf)), W) := by
  have e : (xs.map fun x => DV.str (strOf x)) = (xs.map strOf).map DV.str := by simp
  rw [e]
  refine oJoin_str _ _ ?_ W
  have s := sum_le 100 (xs.map strOf) (fun y m => by
    obtain ⟨x, mx, rfl⟩ := List.mem_map.mp m
    exact sm1_len (h x mx))
  have e1 : (" " : Str).length = 1 := rfl
  rw [e1]
  rw [List.length_map] at s ⊢
  omega
theorem sz3 {n : Nat} (h : n ≤ 3) : n ≤ sizeLine := by rw [sizeLine_eq]; omega
/-- a deed, as a tuple or a list -/
def Soft (xs : List DV) (y : DV) : Prop := y = .tup xs ∨ y = .lst xs
theorem event_text_eq {xs : List DV} {y : DV} (hy : Soft xs y) (h3 : xs.length ≤ 3) (h : ∀ x ∈ xs, Sm1 x) (W : Wd) : f_event_text [y] W = some (.str (txtOf (.tup xs)), W) := by
  refine runF_rt ?_ rfl
  have j := join_parts xs h3 h W
  have hp : partOf y = some xs := by rcases hy with rfl | rfl <;> rfl
  have l := str_loop 1 [some y, none] (by simp) W xs [] h (by simpa using sz3 h3)
  simp [b_event_text, hp, wipeD, l, j, txtOf, partsOf]
end K26
end L2

set_option maxRecDepth 100000
/-! k26: is_event; mixed; spoilt. -/
namespace L2
namespace K26
open PySem PySem.Spec PyProof.Rows DL PySem.NumText
/-! ### is_event -/
theorem tail_tup (x : DV) (xs : List DV) (W : Wd) : dSl (.tup (x :: xs)) (some 1) none W = some (.tup xs, W) := by
  have e : HT.sIx (xs.length + 1) 0 (some 1) = 1 := by
    unfold HT.sIx
    simp
    try omega
  have e2 : HT.sIx (xs.length + 1) (xs.length + 1) none = xs.length + 1 := rfl
  simp [dSl, DL.cutD, e, e2]
theorem isi_tup (xs : List DV) (W : Wd) : kIsx nms [.tup xs, .cst (.ty "tuple")] W = some (.bl true, W) := by simp [kIsx, kIsi, tyD, clsOf, known, isSub]
theorem number_int (i : Int) (W : Wd) : f_is_number [.int i] W = some (.bl true, W) := runF_rt (by simp [b_is_number, kIsx, kIsi, tyD, clsOf, known, isSub]) rfl
theorem part_n (a : Str) (h : a.length ≤ sizeLine) (W : Wd) : f_is_part [.str "n", .str a] W = some (.bl (nameB a), W) := by
  have := is_name_str a h W
  exact runF_rt (by simp [b_is_part, this]) rfl
theorem part_b (i : Int) (W : Wd) : f_is_part [.str "b", .int i] W = some (.bl (decide (0 ≤ i)), W) := by
  have nb : ¬ ("b" : Str) = "n" := by decide
  exact runF_rt (by simp [b_is_part, nb, number_int]) rfl
theorem gnot {w f : Str} (h : forms.lookup w = some f) (W : Wd) : oGNotIn "FORMS" kd_FORMS (.str w) (.gl "FORMS") W = some (.bl false, W) := by
  have e : kd_FORMS.lookup w = some (.str f) := by rw [kd_eq, lookup_map, h]; rfl
  simp [oGNotIn, e]
theorem gix {w f : Str} (h : forms.lookup w = some f) (W : Wd) : oGIx "FORMS" kd_FORMS (.gl "FORMS") (.str w) W = some (.str f, W) := by
  have e : kd_FORMS.lookup w = some (.str f) := by rw [kd_eq, lookup_map, h]; rfl
  simp [oGIx, e, ofV]
theorem at0t (x : DV) (xs : List DV) (W : Wd) : oIx (.tup (x :: xs)) (.int 0) W = some (x, W) := by simp [oIx, itemsOf, at0]
theorem kLen_tup (xs : List DV) (W : Wd) : kLen [.tup xs] W = some (.int xs.length, W) := by simp [kLen, itemsOf]
theorem forms_lookup_all : (forms.all fun p => decide (forms.lookup p.1 = some p.2)) = true := by kernel_rfl
theorem form_of {w f : Str} (h : (w, f) ∈ forms) : forms.lookup w = some f := of_decide_eq_true (List.all_eq_true.mp forms_lookup_all _ h)
theorem words_name : (words6.all nameB) = true := by kernel_rfl
theorem nums_pos : (nums6.all fun i => decide (0 ≤ i)) = true := by kernel_rfl
theorem kAll1 (b : Bool) (W : Wd) : kAll [.lst [.bl b]] W = some (.bl b, W) := by cases b <;> rfl
theorem kAll2 (a b : Bool) (W : Wd) : kAll [.lst [.bl a, .bl b]] W = some (.bl (a && b), W) := by cases a <;> cases b <;> rfl
theorem kAll0 (W : Wd) : kAll [.lst []] W = some (.bl true, W) := rfl
theorem small100 {n : Nat} (h : n ≤ 100) : n ≤ sizeLine := by rw [sizeLine_eq]; omega
theorem is_event_z {w : Str} (hf : forms.lookup w = some "") (W : Wd) : f_is_event [.tup [.str w]] W = some (.bl true, W) := by
  refine runF_rt ?_ rfl
  simp [b_is_event, isi_tup, kLen_tup, at0t, isi_str, gnot hf, gix hf, kLen_str (show ("" : Str).length ≤ sizeLine from Nat.zero_le _), len0, toI, tail_tup, sg0, pairUp, wipeD, kAll0]
theorem is_event_n {w a : Str} (hf : forms.lookup w = some "n") (ha : a.length ≤ 100) (W : Wd) : f_is_event [.tup [.str w, .str a]] W = some (.bl (nameB a), W) := by
  refine runF_rt ?_ rfl
  have p := part_n a (small100 ha) W
  simp [b_is_event, isi_tup, kLen_tup, at0t, isi_str, gnot hf, gix hf, kLen_str (show ("n" : Str).length ≤ sizeLine from Nat.le_of_lt z1), len1, toI, tail_tup, sg1, pairUp, wipeD, p, z0, kAll1]
theorem is_event_nb {w a : Str} {i : Int} (hf : forms.lookup w = some "nb") (ha : a.length ≤ 100) (W : Wd) : f_is_event [.tup [.str w, .str a, .int i]] W = some (.bl (nameB a && decide (0 ≤ i)), W) := by
  refine runF_rt ?_ rfl
  have p := part_n a (small100 ha) W
  have q := part_b i W
  simp [b_is_event, isi_tup, kLen_tup, at0t, isi_str, gnot hf, gix hf, kLen_str (show ("nb" : Str).length ≤ sizeLine from Nat.le_of_lt z2), lenb, toI, tail_tup, sgb, pairUp, wipeD, p, q, z0, z1, kAll2]
theorem is_event_nn {w a b : Str} (hf : forms.lookup w = some "nn") (ha : a.length ≤ 100) (hb : b.length ≤ 100) (W : Wd) : f_is_event [.tup [.str w, .str a, .str b]] W = some (.bl (nameB a && nameB b), W) := by
  refine runF_rt ?_ rfl
  have p := part_n a (small100 ha) W
  have q := part_n b (small100 hb) W
  simp [b_is_event, isi_tup, kLen_tup, at0t, isi_str, gnot hf, gix hf, kLen_str (show ("nn" : Str).length ≤ sizeLine from Nat.le_of_lt z2), lenn, toI, tail_tup, sgn, pairUp, wipeD, p, q, z0, z1, kAll2]
theorem is_event_deed {d : DV} (h : Deed d) (W : Wd) : f_is_event [d] W = some (.bl true, W) := by
  have nm : ∀ {a : Str}, a ∈ words6 → nameB a = true := fun h => List.all_eq_true.mp words_name _ h
  cases h with
  | z h => exact is_event_z (form_of h) W
  | n h a => rw [is_event_n (form_of h) (wrd_len a) W, nm a]
  | nb h a i =>
    have this := List.all_eq_true.mp nums_pos _ i
    rw [is_event_nb (form_of h) (wrd_len a) W, nm a, this]; rfl
  | nn h a b => rw [is_event_nn (form_of h) (wrd_len a) (wrd_len b) W, nm a, nm b]; rfl
/-! ### mixed -/
theorem isi_sm1 {x : DV} (h : Sm1 x) (W : Wd) : kIsx nms [x, .tup [.cst (.ty "list"), .cst (.ty "tuple")]] W = some (.bl false, W) := by
  cases h <;> simp [kIsx, kIsi, tyD, clsOf, clsAll, known, isSub]
theorem isi_tl (xs : List DV) (W : Wd) : kIsx nms [.tup xs, .tup [.cst (.ty "list"), .cst (.ty "tuple")]] W = some (.bl true, W) := by simp [kIsx, kIsi, tyD, clsOf, clsAll, known, isSub]
theorem mixed_sm1 (k b : Nat) {x : DV} (h : Sm1 x) (W : Wd) : f__law_mixed (k + 1) [.loc b, x] W = some (x, W) := by
  refine runF_rt ?_ rfl
  have i := isi_sm1 h W
  simp [b__law_mixed, line2, i]
theorem mix_loop0 (k b : Nat) (m : Option DV) (e2 : Option DV) (W : Wd) : ∀ (xs acc : List DV), (∀ x ∈ xs, Sm1 x) → acc.length + xs.length ≤ sizeLine →
    cLoop (gN 3) bYes (eF 2 (f__law_mixed (k + 1)) (aC (eV 0) (aC (eV 3) aN))) [some (.loc b), m, e2, none] xs acc W = some (acc ++ xs, W)
  | [], acc, _, _ => by simp
  | x :: xs, acc, h, l => by
    have l' : acc.length < sizeLine := by simp at l; omega
    have ih := mix_loop0 k b m e2 W xs (acc ++ [x]) (fun y my => h y (List.mem_cons_of_mem _ my)) (by simp at l ⊢; omega)
    have s := mixed_sm1 k b (h x List.mem_cons_self) W
    simp [s, l', ih]
theorem mixed_deed (k : Nat) {b : Nat} {W : Wd} {c : Int} (hb : Box W b c) (hc : c < 1000000) {xs : List DV} (h3 : xs.length ≤ 3) (h : ∀ x ∈ xs, Sm1 x) :
    ∃ y W', f__law_mixed (k + 2) [.loc b, .tup xs] W = some (y, W') ∧ Soft xs y ∧ Box W' b (c + 1) ∧ Sm W W' b := by
  obtain ⟨v, W', e, v0, v1, hb', sm⟩ := take_spec (n := 2) hb (by omega) (by omega) (by omega)
  have i := isi_tl xs W
  have l := mix_loop0 k b (some (.tup xs)) none W xs [] h (by simpa using sz3 h3)
  by_cases hv : v = 0
  · refine ⟨.tup xs, W', runF_rt ?_ sm.len, .inl rfl, hb', sm⟩
    subst hv
    simp [b__law_mixed, line2, i, wipeD, l, e, tup_lst]
  · refine ⟨.lst xs, W', runF_rt ?_ sm.len, .inr rfl, hb', sm⟩
    simp [b__law_mixed, line2, i, wipeD, l, e, hv]
theorem mix_loop (k b : Nat) (m e2 : Option DV) : ∀ (ds acc : List DV) (W : Wd) (c : Int), Box W b c → c + ds.length < 1000000 → (∀ d ∈ ds, Deed d) → acc.length + ds.length ≤ sizeLine →
    ∃ ys W', cLoop (gN 3) bYes (eF 2 (f__law_mixed (k + 2)) (aC (eV 0) (aC (eV 3) aN))) [some (.loc b), m, e2, none] ds acc W = some (acc ++ ys, W') ∧ Paired (fun d y => Soft (partsOf d) y) ds ys ∧ Box W' b (c + ds.length) ∧ Sm W W' b
  | [], acc, W, c, hb, _, _, _ => ⟨[], W, by simp, .nil, by simpa using hb, Sm.refl _ _⟩
  | d :: ds, acc, W, c, hb, hc, h, l => by
    have l' : acc.length < sizeLine := by simp at l; omega
    obtain ⟨xs, rfl, h3, hx⟩ := deed_parts (h d List.mem_cons_self)
    obtain ⟨y, W1, e1, sy, hb1, sm1⟩ := mixed_deed k hb (by simp at hc; omega) h3 hx
    obtain ⟨ys, W2, e2, pr, hb2, sm2⟩ := mix_loop k b m e2 ds (acc ++ [y]) W1 (c + 1) hb1 (by simp at hc ⊢; omega) (fun x mx => h x (List.mem_cons_of_mem _ mx)) (by simp at l ⊢; omega)
    refine ⟨y :: ys, W2, ?_, .cons sy pr, ?_, sm1.trans sm2⟩
    · simp [e1, l', e2]
    · have : c + ((DV.tup xs :: ds).length : Nat) = c + 1 + (ds.length : Nat) := by simp; omega
      rw [this]; exact hb2
def SoftL (ds : List DV) (y : DV) : Prop := ∃ ys, (y = .tup ys ∨ y = .lst ys) ∧ Paired (fun d y => Soft (partsOf d) y) ds ys
theorem mixed_deeds {b : Nat} {W : Wd} {c : Int} (hb : Box W b c) {ds : List DV} (hc : c + ds.length < 1000) (hd : ∀ d ∈ ds, Deed d) :
    ∃ y W', f__law_mixed 4 [.loc b, .tup ds] W = some (y, W') ∧ SoftL ds y ∧ Box W' b (c + ds.length + 1) ∧ Sm W W' b := by
  have hc0 : 0 ≤ c := by obtain ⟨x0, x1, x2, q, p1, p2, p3, p4, p5⟩ := hb; omega
  have big : 2000 < sizeLine := by rw [sizeLine_eq]; decide
  obtain ⟨ys, W1, e1, pr, hb1, sm1⟩ := mix_loop 1 b (some (.tup ds)) none ds [] W c hb (by omega) hd (by simp; omega)
  obtain ⟨v, W', e, v0, v1, hb', sm⟩ := take_spec (n := 2) hb1 (by omega) (by omega) (by omega)
  have i := isi_tl ds W
  simp only [List.nil_append] at e1
  by_cases hv : v = 0
  · refine ⟨.tup ys, W', runF_rt ?_ (sm.len.trans sm1.len), ⟨ys, .inl rfl, pr⟩, hb', sm1.trans sm⟩
    subst hv
    simp [b__law_mixed, line2, i, wipeD, e1, e, tup_lst]
  · refine ⟨.lst ys, W', runF_rt ?_ (sm.len.trans sm1.len), ⟨ys, .inr rfl, pr⟩, hb', sm1.trans sm⟩
    simp [b__law_mixed, line2, i, wipeD, e1, e, hv]
end K26
end L2

set_option maxRecDepth 100000
/-! k26: pages, spoilt texts. -/
namespace L2
namespace K26
open PySem PySem.Spec PyProof.Rows DL PySem.NumText
def pageOf (ds : List DV) : Str := Txt.join "\n" (ds.map txtOf)
theorem text_loop (env : DEnv) (he : 1 < env.length) (W : Wd) : ∀ (ds ys acc : List DV), Paired (fun d y => Soft (partsOf d) y) ds ys → (∀ d ∈ ds, Deed d) → acc.length + ds.length ≤ sizeLine →
    cLoop (gN 1) bYes (eF 1 f_event_text (aC (eV 1) aN)) env ys acc W = some (acc ++ (ds.map txtOf).map DV.str, W)
  | _, _, acc, .nil, _, _ => by simp
  | d :: ds, y :: ys, acc, .cons sy pr, h, l => by
    have l' : acc.length < sizeLine := by simp at l; omega
    obtain ⟨xs, rfl, h3, hx⟩ := deed_parts (h d List.mem_cons_self)
    have e : f_event_text [y] W = some (.str (txtOf (.tup xs)), W) := event_text_eq sy h3 hx W
    have ih := text_loop env he W ds ys (acc ++ [.str (txtOf (.tup xs))]) pr (fun x m => h x (List.mem_cons_of_mem _ m)) (by simp at l ⊢; omega)
    have g : (env.set 1 (some y))[1]? = some (some y) := by rw [List.getElem?_set_self he]
    simp [g, e, l', ih]
theorem page_join (ds : List DV) (h8 : ds.length ≤ 8) (h : ∀ d ∈ ds, Deed d) (W : Wd) : oJoin (.str "\n") (.lst ((ds.map txtOf).map DV.str)) W = some (.str (pageOf ds), W) := by
  refine oJoin_str _ _ ?_ W
  have s := sum_le 26 (ds.map txtOf) (fun y m => by
    obtain ⟨x, mx, rfl⟩ := List.mem_map.mp m
    exact (deed_len (h x mx)).1)
  have e1 : ("\n" : Str).length = 1 := rfl
  rw [e1]
  rw [List.length_map] at s ⊢
  omega
theorem events_text_eq {ds : List DV} {y : DV} (hy : SoftL ds y) (h8 : ds.length ≤ 8) (h : ∀ d ∈ ds, Deed d) (W : Wd) : f_events_text [y] W = some (.str (pageOf ds), W) := by
  obtain ⟨ys, hy, pr⟩ := hy
  refine runF_rt ?_ rfl
  have big : 2000 < sizeLine := by rw [sizeLine_eq]; decide
  have hp : partOf y = some ys := by rcases hy with rfl | rfl <;> rfl
  have j := page_join ds h8 h W
  have l := text_loop [some y, none] (by simp) W ds ys [] pr h (by simp; omega)
  simp only [List.nil_append] at l
  simp [b_events_text, hp, wipeD, l, -List.map_map]
  rw [j]; rfl
theorem self_soft : ∀ ds : List DV, (∀ d ∈ ds, Deed d) → Paired (fun d y => Soft (partsOf d) y) ds ds
  | [], _ => .nil
  | d :: ds, h => by
    obtain ⟨xs, rfl, h3, hx⟩ := deed_parts (h d List.mem_cons_self)
    exact .cons (.inl rfl) (self_soft ds fun x m => h x (List.mem_cons_of_mem _ m))
theorem lst_soft {ds : List DV} (h : ∀ d ∈ ds, Deed d) : SoftL ds (.lst ds) := ⟨ds, .inr rfl, self_soft ds h⟩
/-! ### the page read -/
theorem evs_deeds : ∀ (k : Nat) (ds : List DV), (∀ d ∈ ds, Deed d) → evsOf k (ds.map txtOf) = .inr ds
  | _, [], _ => rfl
  | k, d :: ds, h => by
    have e := deed_ev (h d List.mem_cons_self)
    have ih := evs_deeds (k + 1) ds fun x m => h x (List.mem_cons_of_mem _ m)
    have nn : isNon d = false := by
      obtain ⟨xs, rfl, _⟩ := deed_parts (h d List.mem_cons_self)
      rfl
    simp [evsOf, e, nn, ih]
theorem str_ne {s : Str} (h : s.length ≠ 0) : s ≠ "" := fun e => h (by rw [e]; rfl)
theorem lines_page {ds : List DV} (h : ∀ d ∈ ds, Deed d) : linesOf (pageOf ds) = ds.map txtOf := by
  cases ds with
  | nil => rfl
  | cons d ds =>
    have sj : Txt.split (pageOf (d :: ds)) "\n" = (d :: ds).map txtOf := TL.split_join (y := "\n") (s := 10) (S := []) rfl (by decide +kernel) (by simp) (fun p m => by
      obtain ⟨x, mx, rfl⟩ := List.mem_map.mp m
      exact (deed_len (h x mx)).2.1)
    have ne : pageOf (d :: ds) ≠ "" := fun e => by
      have w : txtOf d ∈ Txt.split (pageOf (d :: ds)) "\n" := by rw [sj]; exact List.mem_cons_self
      have := word_len w
      rw [e] at this
      have z : ("" : Str).length = 0 := rfl
      have := (deed_len (h d List.mem_cons_self)).2.2
      omega
    unfold linesOf
    rw [if_neg ne, sj]
theorem heard_page {ds : List DV} (h : ∀ d ∈ ds, Deed d) : heard1 (pageOf ds) = .lst ds := by
  unfold heard1
  rw [lines_page h, evs_deeds 0 ds h]; rfl
theorem joinL_total (n : Nat) : ∀ ps : List (List Nat), (∀ p ∈ ps, p.length ≤ n) → (TL.joinL [10] ps).length ≤ ps.length * (n + 1)
  | [], _ => by simp [TL.joinL]
  | [p], h => by
    have := h p List.mem_cons_self
    show p.length ≤ 1 * (n + 1)
    omega
  | p :: q :: r, h => by
    have a := h p List.mem_cons_self
    have b := joinL_total n (q :: r) fun x m => h x (List.mem_cons_of_mem _ m)
    show (p ++ ([10] ++ TL.joinL [10] (q :: r))).length ≤ _
    rw [List.length_append, List.length_append]
    simp only [List.length_cons, List.length_nil] at b ⊢
    simp only [Nat.add_mul] at b ⊢
    omega
theorem page_len {ds : List DV} (h8 : ds.length ≤ 8) (h : ∀ d ∈ ds, Deed d) : (pageOf ds).length ≤ 216 := by
  have e : TL.tl (pageOf ds) = TL.joinL [10] ((ds.map txtOf).map TL.tl) := by
    unfold pageOf
    rw [TL.join_eq, TL.tl_join]; rfl
  rw [TL.len_tl, e]
  have := joinL_total 26 ((ds.map txtOf).map TL.tl) (fun p m => by
    obtain ⟨s, ms, rfl⟩ := List.mem_map.mp m
    obtain ⟨d, md, rfl⟩ := List.mem_map.mp ms
    rw [← TL.len_tl]
    exact (deed_len (h d md)).1)
  simp only [List.length_map] at this
  omega
/-! ### spoilt -/
theorem join1_total (n : Nat) : ∀ ps : List (List Nat), (TL.joinL [32] ps).length ≤ (ps.map List.length).sum + ps.length
  | [] => by simp [TL.joinL]
  | [p] => by show p.length ≤ _; simp
  | p :: q :: r => by
    have b := join1_total n (q :: r)
    show (p ++ ([32] ++ TL.joinL [32] (q :: r))).length ≤ _
    rw [List.length_append, List.length_append]
    simp only [List.length_cons, List.length_nil, List.map_cons, List.sum_cons] at b ⊢
    omega
theorem addS {a b : Str} (h : a.length + b.length ≤ 10000) (W : Wd) : oAdd (.str a) (.str b) W = some (.str (a ++ b), W) := by
  have : a.length + b.length ≤ sizeLine := by rw [sizeLine_eq]; omega
  simp [oAdd, dAdd, this]
theorem slS {t : Str} (ht : t.length ≤ 1000) (lo hi : Option Int) (W : Wd) : dSl (.str t) lo hi W = some (.str (cutS t lo hi), W) := by
  have : t.length ≤ sizeLine := by rw [sizeLine_eq]; omega
  simp [dSl, this]
theorem app_len (a b : Str) : (a ++ b).length = a.length + b.length := Str.length_append a b
abbrev signs12 : List DV := [.str "a", .str "0", .str "1", .str " ", .str "-", .str "\n", .str "A", .str ".", .str "00", .str " 0", .str "commit", .str "\nstop"]
theorem line12 (a b c d e f g h i j k l : DV) : lineOk [a, b, c, d, e, f, g, h, i, j, k, l] = true := by unfold lineOk; rw [sizeLine_eq]; rfl
theorem sign_short {x : DV} (h : x ∈ signs12) : ∃ s, x = .str s ∧ s.length ≤ 6 := by
  simp only [signs12, List.mem_cons, List.not_mem_nil, or_false] at h
  rcases h with rfl | rfl | rfl | rfl | rfl | rfl | rfl | rfl | rfl | rfl | rfl | rfl <;> exact ⟨_, rfl, by decide +kernel⟩
end K26
end L2

set_option maxRecDepth 100000
/-! k26: spoilt texts. -/
namespace L2
namespace K26
open PySem PySem.Spec PyProof.Rows DL PySem.NumText
theorem last_split {V : Wd} {n : Nat} {c : Cell} (hl : V.length = n + 1) (h : V[n]? = some c) : V = V.take n ++ [c] := by
  have e : V = V.take n ++ V.drop n := (List.take_append_drop n V).symm
  have d : V.drop n = [c] := by
    have l : n < V.length := by omega
    rw [List.drop_eq_getElem_cons l, List.drop_eq_nil_of_le (by omega)]
    rw [List.getElem?_eq_getElem l] at h
    rw [Option.some.inj h]
  rw [d] at e
  exact e
theorem frz5 {V : Wd} {n m : Nat} {xs : List DV} (hV : GW V) (hn : V.length = n) (hm : m = n) (hx : ∀ x ∈ xs, ∀ k, x.lo k = true) {b : Nat} (hb : b < n) (t s : Str) (i j u v : Int) :
    frz 5 m [some (.loc b), some (.str t), some (.int i), some (.int j), some (.str s), some (.loc n), some (.int u), some (.int v)] (V ++ [.lst xs]) = some ([some (.loc b), some (.str t), some (.int i), some (.int j), some (.str s), some (.lst xs), some (.int u), some (.int v)], V) := by
  subst hn hm
  have a : DV.loL V.length xs = true := loL_of _ _ fun x m => hx x m _
  have bb : V.all (Cell.lo V.length) = true := hV.all _
  have c : (V ++ [Cell.lst xs]).take V.length = V := List.take_left' rfl
  have g : (V ++ [Cell.lst xs])[V.length]? = some (.lst xs) := gat _ _ _
  have e : ∀ env : DEnv, env[5]?.join = some (.loc V.length) → frz 5 V.length env (V ++ [.lst xs]) = (match (V ++ [Cell.lst xs])[V.length]? with
    | some (.lst xs) => if (decide (V.length + 1 = (V ++ [Cell.lst xs]).length) && decide (V.length ≤ V.length) && DV.loL V.length xs && (env.set 5 none).all (optLo V.length) && ((V ++ [Cell.lst xs]).take V.length).all (Cell.lo V.length)) = true then some (env.set 5 (some (.lst xs)), (V ++ [Cell.lst xs]).take V.length) else none
    | _ => none) := fun env h => by
      unfold frz
      rw [h]
      dsimp only
      rw [g]
  rw [e _ rfl, g]
  have o : ([some (DV.loc b), some (.str t), some (.int i), some (.int j), some (.str s), some (.loc V.length), some (.int u), some (.int v)].set 5 none).all (optLo V.length) = true := by
    show (decide (b < V.length) && _) = true
    rw [decide_eq_true hb]; rfl
  dsimp only
  rw [a, o, c, bb]
  simp
theorem map_erase : ∀ (ws : List Str) (n : Nat), (ws.map DV.str).eraseIdx n = (ws.eraseIdx n).map DV.str
  | [], _ => rfl
  | _ :: _, 0 => rfl
  | w :: ws, n + 1 => congrArg (DV.str w :: ·) (map_erase ws n)
theorem words_len (t : Str) : (Txt.split t " ").length ≤ t.length + 2 := split_le t " "
theorem join_words {t : Str} (ht : t.length ≤ 300) (ys : List Str) (hl : ys.length ≤ t.length + 2) (hy : ∀ y ∈ ys, y.length ≤ t.length) (W : Wd) :
    oJoin (.str " ") (.lst (ys.map DV.str)) W = some (.str (Txt.join " " ys), W) ∧ (Txt.join " " ys).length ≤ 100000 := by
  have s := sum_le t.length ys hy
  have m : ys.length * t.length ≤ 302 * 300 := Nat.mul_le_mul (by omega) ht
  have e1 : (" " : Str).length = 1 := rfl
  refine ⟨oJoin_str _ _ (by rw [e1]; omega) W, ?_⟩
  have e : TL.tl (Txt.join " " ys) = TL.joinL [32] (ys.map TL.tl) := by rw [TL.join_eq, TL.tl_join]; rfl
  rw [TL.len_tl, e]
  have j := join1_total 0 (ys.map TL.tl)
  have q : ((ys.map TL.tl).map List.length).sum = (ys.map (·.length)).sum := by
    rw [List.map_map]
    exact congrArg List.sum (List.map_congr_left fun y _ => (TL.len_tl y).symm)
  rw [q, List.length_map] at j
  omega
theorem oSplitC_str {t : Str} (ht : t.length + 2 ≤ sizeLine) (W : Wd) : oSplitC (.str t) (.str " ") W = some (.loc W.length, W ++ [.lst ((Txt.split t " ").map DV.str)]) := by
  simp only [oSplitC]
  rw [if_pos ⟨rfl, ht⟩]
theorem spoilt_spec {W : Wd} {b : Nat} {c : Int} (hb : Box W b c) (hc : c < 100000) (hW : GW W) (t : Str) (ht : t.length ≤ 300) :
    ∃ t' W', f__law_spoilt [.loc b, .str t] W = some (.str t', W') ∧ t'.length ≤ 100000 ∧ Box W' b (c + 5) ∧ Sm W W' b := by
  have big : 2000 < sizeLine := by rw [sizeLine_eq]; decide
  have up : ∀ {W' : Wd} {k : Int}, k ≤ c + 5 → Box W' b k → Box W' b (c + 5) := fun hk ⟨x0, x1, x2, q, p1, p2, p3, p4, p5⟩ => ⟨x0, x1, x2, q, p1, p2, p3, p4, by omega⟩
  obtain ⟨at_, W1, e1, a0, a1, hb1, sm1⟩ := take_spec (n := (t.length : Int) + 1) hb (by omega) (by omega) (by omega)
  obtain ⟨wy, W2, e2, w0, w1, hb2, sm2⟩ := take_spec (n := 6) hb1 (by omega) (by omega) (by omega)
  obtain ⟨sx, W3, e3, m3, hb3, sm3⟩ := of_spec (xs := signs12) hb2 (by decide) (by decide) (by omega)
  obtain ⟨sg, rfl, hsg⟩ := sign_short m3
  have sm := (sm1.trans sm2).trans sm3
  have kl := kLen_str (s := t) (by omega) W
  have l1 := cutS_length t none (some at_)
  by_cases h3 : wy < 3
  · by_cases h2 : wy < 2
    · by_cases h0 : 0 < wy
      · have l2 := cutS_length t (some (at_ + 1)) none
        refine ⟨cutS t none (some at_) ++ sg ++ cutS t (some (at_ + 1)) none, W3, runF_rt ?_ sm.len, ?_, up (by omega) hb3, sm⟩
        · have ad1 := addS (a := cutS t none (some at_)) (b := sg) (by omega) W3
          have ad2 := addS (a := cutS t none (some at_) ++ sg) (b := cutS t (some (at_ + 1)) none) (by rw [app_len]; omega) W3
          simp [b__law_spoilt, kl, e1, e2, line12, e3, h3, h2, h0, slS (show t.length ≤ 1000 by omega), toI, int_bl, ad1, ad2]
        · rw [app_len, app_len]; omega
      · have l2 := cutS_length t (some at_) none
        refine ⟨cutS t none (some at_) ++ sg ++ cutS t (some at_) none, W3, runF_rt ?_ sm.len, ?_, up (by omega) hb3, sm⟩
        · have ad1 := addS (a := cutS t none (some at_)) (b := sg) (by omega) W3
          have ad2 := addS (a := cutS t none (some at_) ++ sg) (b := cutS t (some at_) none) (by rw [app_len]; omega) W3
          simp [b__law_spoilt, kl, e1, e2, line12, e3, h3, h2, h0, slS (show t.length ≤ 1000 by omega), toI, int_bl, ad1, ad2]
        · rw [app_len, app_len]; omega
    · have h0 : 0 < wy := by omega
      have l2 := cutS_length t (some (at_ + 1)) none
      have z : ("" : Str).length = 0 := rfl
      refine ⟨cutS t none (some at_) ++ "" ++ cutS t (some (at_ + 1)) none, W3, runF_rt ?_ sm.len, ?_, up (by omega) hb3, sm⟩
      · have ad1 := addS (a := cutS t none (some at_)) (b := "") (by omega) W3
        have ad2 := addS (a := cutS t none (some at_) ++ "") (b := cutS t (some (at_ + 1)) none) (by rw [app_len]; omega) W3
        simp [b__law_spoilt, kl, e1, e2, line12, e3, h3, h2, h0, slS (show t.length ≤ 1000 by omega), toI, int_bl, ad1, ad2]
      · rw [app_len, app_len]; omega
  · by_cases h4 : wy = 3
    · have l2 := cutS_length t (some at_) (some (at_ + 1))
      have l3 := cutS_length t (some at_) none
      refine ⟨cutS t none (some at_) ++ cutS t (some at_) (some (at_ + 1)) ++ cutS t (some at_) none, W3, runF_rt ?_ sm.len, ?_, up (by omega) hb3, sm⟩
      · have ad1 := addS (a := cutS t none (some at_)) (b := cutS t (some at_) (some (at_ + 1))) (by omega) W3
        have ad2 := addS (a := cutS t none (some at_) ++ cutS t (some at_) (some (at_ + 1))) (b := cutS t (some at_) none) (by rw [app_len]; omega) W3
        subst h4
        simp [b__law_spoilt, kl, e1, e2, line12, e3, slS (show t.length ≤ 1000 by omega), toI, ad1, ad2]
      · rw [app_len, app_len]; omega
    · -- words
      have sp := oSplitC_str (t := t) (by omega) W3
      obtain ⟨ws, hws⟩ : ∃ ws, Txt.split t " " = ws := ⟨_, rfl⟩
      have p1 := split_pos t " "
      have wl := words_len t
      have wm : ∀ y ∈ ws, y.length ≤ t.length := fun y m => word_len (by rw [hws]; exact m)
      rw [hws] at sp p1 wl
      obtain ⟨V0, hV0⟩ : ∃ V, W3 ++ [Cell.lst (ws.map DV.str)] = V := ⟨_, rfl⟩
      rw [hV0] at sp
      have n3 : W3.length = W.length := sm.len
      have hbV : Box V0 b (c + 1 + 1 + 1) := by rw [← hV0]; exact hb3.grow _
      have hbl : b < W.length := hb.lt
      have k0 : kLen [.loc W3.length] V0 = some (.int (ws.length : Int), V0) := by rw [← hV0]; simp [kLen, itemsOf, gat]
      obtain ⟨sp1, V1, e4, s0, s1, hb4, sm4⟩ := take_spec (n := (ws.length : Int)) hbV (by omega) (by omega) (by omega)
      have g1 : V1[W3.length]? = some (.lst (ws.map DV.str)) := by rw [sm4.rest _ (by omega), ← hV0]; exact gat _ _ _
      have k1 : kLen [.loc W3.length] V1 = some (.int (ws.length : Int), V1) := by simp [kLen, itemsOf, g1]
      obtain ⟨ot, V2, e5, o0, o1, hb5, sm5⟩ := take_spec (n := (ws.length : Int)) hb4 (by omega) (by omega) (by omega)
      have smV := sm4.trans sm5
      have g2 : V2[W3.length]? = some (.lst (ws.map DV.str)) := by rw [sm5.rest _ (by omega)]; exact g1
      have lenV2 : V2.length = W3.length + 1 := by rw [smV.len, ← hV0]; simp
      have dec : V2 = V2.take W3.length ++ [.lst (ws.map DV.str)] := last_split lenV2 g2
      obtain ⟨U, hU⟩ : ∃ U, V2.take W3.length = U := ⟨_, rfl⟩
      have lenU : U.length = W3.length := by rw [← hU, List.length_take]; omega
      have smU : Sm W U b := by
        rw [← hV0] at smV
        have := Sm.cutB smV
        rw [hU] at this
        exact sm.trans this
      have hbU : Box U b (c + 5) := by
        have := Box.cutB (W := W) (n := W3.length) hb5 (by omega)
        rw [hU] at this
        exact up (by omega) this
      have gU : GW U := hW.sm smU hbU
      rw [hU] at dec
      have fz : ∀ ys : List Str, frz 5 W.length [some (.loc b), some (.str t), some (.int at_), some (.int wy), some (.str sg), some (.loc W3.length), some (.int sp1), some (.int ot)] (U ++ [.lst (ys.map DV.str)]) = some ([some (.loc b), some (.str t), some (.int at_), some (.int wy), some (.str sg), some (.lst (ys.map DV.str)), some (.int sp1), some (.int ot)], U) := fun ys =>
        frz5 gU lenU n3.symm (fun x m k => by obtain ⟨s, _, rfl⟩ := List.mem_map.mp m; rfl) (by omega) t sg at_ wy sp1 ot
      have lc : lstC (.loc W3.length) V2 = some ((), V2) := by simp [lstC, g2]
      by_cases h5 : wy = 4
      · obtain ⟨j1, j2⟩ := join_words ht (ws.eraseIdx sp1.toNat) (by have := List.length_eraseIdx_le ws sp1.toNat; omega) (fun y m => wm y (List.mem_of_mem_eraseIdx m)) U
        refine ⟨_, U, runF_rt ?_ smU.len, j2, hbU, smU⟩
        have si : seqIndex? sp1 (ws.map DV.str).length = some sp1.toNat := seqIndex_of s0 (by rw [List.length_map]; exact s1)
        have lt : sp1.toNat < ws.length := by omega
        have gt : (ws.map DV.str)[sp1.toNat]? = some (.str ws[sp1.toNat]) := by rw [List.getElem?_map, List.getElem?_eq_getElem lt]; rfl
        have er : (ws.map DV.str).eraseIdx sp1.toNat = (ws.eraseIdx sp1.toNat).map DV.str := map_erase ws _
        have pop : dPopAt (.loc W3.length) (.int sp1) V2 = some (.str ws[sp1.toNat], U ++ [.lst ((ws.eraseIdx sp1.toNat).map DV.str)]) := by
          have bd : -(2 ^ 63) ≤ sp1 ∧ sp1 < 2 ^ 63 := by
            have : (2 : Int) ^ 63 = 9223372036854775808 := by decide
            omega
          simp only [dPopAt]
          rw [g2]
          dsimp only
          rw [if_pos bd, si, Option.bind_some, gt, Option.map_some, er]
          rw [dec, ← lenU, set0]
        subst h5
        simp [b__law_spoilt, kl, e1, e2, line12, e3, sp, k0, k1, e4, e5, lc, pop, sFrz, fz, j1]
      · have lt : sp1.toNat < ws.length := by omega
        have lo : ot.toNat < ws.length := by omega
        obtain ⟨j1, j2⟩ := join_words ht (ws.set sp1.toNat ws[ot.toNat]) (by rw [List.length_set]; exact wl) (fun y m => by
          rcases List.mem_or_eq_of_mem_set m with m | rfl
          · exact wm y m
          · exact wm _ (List.getElem_mem lo)) U
        refine ⟨_, U, runF_rt ?_ smU.len, j2, hbU, smU⟩
        have ix : oIx (.loc W3.length) (.int ot) V2 = some (.str ws[ot.toNat], V2) := by
          rw [oIx_loc g2]
          have : atI (ws.map DV.str) ot = some (.str ws[ot.toNat]) := by
            unfold atI
            rw [ixN_lt o0 (by rw [List.length_map]; exact o1), Option.bind_some, List.getElem?_map, List.getElem?_eq_getElem lo]; rfl
          rw [this]; rfl
        have pt : dPut (.str ws[ot.toNat]) (.loc W3.length) (.int sp1) V2 = some ((), U ++ [.lst ((ws.set sp1.toNat ws[ot.toNat]).map DV.str)]) := by
          rw [dPut_loc g2, ixN_lt s0 (by rw [List.length_map]; exact s1), Option.map_some]
          have er : (ws.map DV.str).set sp1.toNat (.str ws[ot.toNat]) = (ws.set sp1.toNat ws[ot.toNat]).map DV.str := (List.map_set).symm
          rw [er, dec, ← lenU, set0]
        generalize ws.set sp1.toNat ws[ot.toNat] = ys at pt j1
        have fy := fz ys
        simp [b__law_spoilt, kl, e1, e2, line12, e3, h3, h4, h5, sp, k0, k1, e4, e5, ix, pt, sFrz, fy, j1]
end K26
end L2

set_option maxRecDepth 100000
/-! k26: things that are events or not. -/
namespace L2
namespace K26
open PySem PySem.Spec PyProof.Rows DL PySem.NumText
section
variable (W : Wd)
theorem name_int (i : Int) : f_is_name [.int i] W = some (.bl false, W) := runF_rt (by simp [b_is_name, kIsx, kIsi, tyD, clsOf, known, isSub]) rfl
theorem name_tup (xs : List DV) : f_is_name [.tup xs] W = some (.bl false, W) := runF_rt (by simp [b_is_name, kIsx, kIsi, tyD, clsOf, known, isSub]) rfl
theorem num_bl (b : Bool) : f_is_number [.bl b] W = some (.bl false, W) := runF_rt (by simp [b_is_number, kIsx, kIsi, tyD, clsOf, known, isSub]) rfl
theorem num_str (s : Str) : f_is_number [.str s] W = some (.bl false, W) := runF_rt (by simp [b_is_number, kIsx, kIsi, tyD, clsOf, known, isSub]) rfl
theorem pn_int (i : Int) : f_is_part [.str "n", .int i] W = some (.bl false, W) := by
  have := name_int W i
  exact runF_rt (by simp [b_is_part, this]) rfl
theorem pn_tup (xs : List DV) : f_is_part [.str "n", .tup xs] W = some (.bl false, W) := by
  have := name_tup W xs
  exact runF_rt (by simp [b_is_part, this]) rfl
theorem pb_bl (b : Bool) : f_is_part [.str "b", .bl b] W = some (.bl false, W) := by
  have nb : ¬ ("b" : Str) = "n" := by decide
  have := num_bl W b
  exact runF_rt (by simp [b_is_part, nb, this]) rfl
theorem pb_str (s : Str) : f_is_part [.str "b", .str s] W = some (.bl false, W) := by
  have nb : ¬ ("b" : Str) = "n" := by decide
  have := num_str W s
  exact runF_rt (by simp [b_is_part, nb, this]) rfl
theorem ev_other {x : DV} (h : kIsx nms [x, .cst (.ty "tuple")] W = some (.bl false, W)) : f_is_event [x] W = some (.bl false, W) := runF_rt (by simp [b_is_event, h]) rfl
theorem ev_empty : f_is_event [.tup []] W = some (.bl false, W) := runF_rt (by simp [b_is_event, isi_tup, kLen_tup]) rfl
theorem ev_nostr {x : DV} (xs : List DV) (h : kIsx nms [x, .cst (.ty "str")] W = some (.bl false, W)) : f_is_event [.tup (x :: xs)] W = some (.bl false, W) := runF_rt (by simp [b_is_event, isi_tup, kLen_tup, at0t, h]) rfl
theorem ev_open (w : Str) (xs : List DV) (h : forms.lookup w = none) : f_is_event [.tup (.str w :: xs)] W = some (.bl false, W) := by
  have e : kd_FORMS.lookup w = none := by rw [kd_eq, lookup_map, h]; rfl
  have g : oGNotIn "FORMS" kd_FORMS (.str w) (.gl "FORMS") W = some (.bl true, W) := by simp [oGNotIn, e]
  exact runF_rt (by simp [b_is_event, isi_tup, kLen_tup, at0t, isi_str, g]) rfl
theorem ev_many {w f : Str} (hf : forms.lookup w = some f) (xs : List DV) (hl : xs.length ≠ f.length) : f_is_event [.tup (.str w :: xs)] W = some (.bl false, W) := by
  have fl : f.length ≤ sizeLine := by
    rcases forms_four hf with rfl | rfl | rfl | rfl
    · exact Nat.zero_le _
    · exact Nat.le_of_lt z1
    · exact Nat.le_of_lt z2
    · exact Nat.le_of_lt z2
  have h0 : ¬ ((xs.length : Int) + 1 = 0) := by omega
  refine runF_rt ?_ rfl
  simp [b_is_event, isi_tup, kLen_tup, at0t, isi_str, gnot hf, gix hf, kLen_str fl, hl, h0, show ¬ (xs.length : Int) = (f.length : Int) by omega]
theorem ev_one {w : Str} (hf : forms.lookup w = some "n") {x : DV} {b : Bool} (p : f_is_part [.str "n", x] W = some (.bl b, W)) : f_is_event [.tup [.str w, x]] W = some (.bl b, W) := by
  refine runF_rt ?_ rfl
  simp [b_is_event, isi_tup, kLen_tup, at0t, isi_str, gnot hf, gix hf, kLen_str (show ("n" : Str).length ≤ sizeLine from Nat.le_of_lt z1), len1, toI, tail_tup, sg1, pairUp, wipeD, p, z0, kAll1]
theorem ev_nbx {w : Str} (hf : forms.lookup w = some "nb") {x y : DV} {a b : Bool} (p : f_is_part [.str "n", x] W = some (.bl a, W)) (q : f_is_part [.str "b", y] W = some (.bl b, W)) : f_is_event [.tup [.str w, x, y]] W = some (.bl (a && b), W) := by
  refine runF_rt ?_ rfl
  simp [b_is_event, isi_tup, kLen_tup, at0t, isi_str, gnot hf, gix hf, kLen_str (show ("nb" : Str).length ≤ sizeLine from Nat.le_of_lt z2), lenb, toI, tail_tup, sgb, pairUp, wipeD, p, q, z0, z1, kAll2]
theorem ev_nnx {w : Str} (hf : forms.lookup w = some "nn") {x y : DV} {a b : Bool} (p : f_is_part [.str "n", x] W = some (.bl a, W)) (q : f_is_part [.str "n", y] W = some (.bl b, W)) : f_is_event [.tup [.str w, x, y]] W = some (.bl (a && b), W) := by
  refine runF_rt ?_ rfl
  simp [b_is_event, isi_tup, kLen_tup, at0t, isi_str, gnot hf, gix hf, kLen_str (show ("nn" : Str).length ≤ sizeLine from Nat.le_of_lt z2), lenn, toI, tail_tup, sgn, pairUp, wipeD, p, q, z0, z1, kAll2]
end
abbrev odd1 : List DV := [.non, .tup [], .lst [], .str "commit", .tup [.str "commit", .str "a"], .tup [.str "make"], .tup [.str "make", .int 1], .tup [.str "make", .str ""], .tup [.str "make", .str "abcdefghi"]]
abbrev odd2 : List DV := [.lst [.str "commit"], .tup [.str "promise", .str "a", .int (-1)], .tup [.str "promise", .str "a", .bl false], .tup [.str "promise", .str "a", .str "1"], .tup [.str "drop", .str "a", .str "b"]]
abbrev odd3 : List DV := [.tup [.str "clone", .str "a", .int 1], .tup [.str "keep", .str "a"], .tup [.str "open", .str "a"], .tup [.int 1], .tup [.str "give", .int 1, .str "a"], .tup [.str "make", .tup [.str "a"]]]
abbrev odd4 : List DV := [.tup [.tup [.str "make"], .str "a"]]
abbrev odd12 : List DV := [.non, .tup [], .lst [], .str "commit", .tup [.str "commit", .str "a"], .tup [.str "make"], .tup [.str "make", .int 1], .tup [.str "make", .str ""], .tup [.str "make", .str "abcdefghi"], .lst [.str "commit"], .tup [.str "promise", .str "a", .int (-1)], .tup [.str "promise", .str "a", .bl false], .tup [.str "promise", .str "a", .str "1"], .tup [.str "drop", .str "a", .str "b"]]
abbrev odd123 : List DV := [.non, .tup [], .lst [], .str "commit", .tup [.str "commit", .str "a"], .tup [.str "make"], .tup [.str "make", .int 1], .tup [.str "make", .str ""], .tup [.str "make", .str "abcdefghi"], .lst [.str "commit"], .tup [.str "promise", .str "a", .int (-1)], .tup [.str "promise", .str "a", .bl false], .tup [.str "promise", .str "a", .str "1"], .tup [.str "drop", .str "a", .str "b"], .tup [.str "clone", .str "a", .int 1], .tup [.str "keep", .str "a"], .tup [.str "open", .str "a"], .tup [.int 1], .tup [.str "give", .int 1, .str "a"], .tup [.str "make", .tup [.str "a"]]]
abbrev odds : List DV := [.non, .tup [], .lst [], .str "commit", .tup [.str "commit", .str "a"], .tup [.str "make"], .tup [.str "make", .int 1], .tup [.str "make", .str ""], .tup [.str "make", .str "abcdefghi"], .lst [.str "commit"], .tup [.str "promise", .str "a", .int (-1)], .tup [.str "promise", .str "a", .bl false], .tup [.str "promise", .str "a", .str "1"], .tup [.str "drop", .str "a", .str "b"], .tup [.str "clone", .str "a", .int 1], .tup [.str "keep", .str "a"], .tup [.str "open", .str "a"], .tup [.int 1], .tup [.str "give", .int 1, .str "a"], .tup [.str "make", .tup [.str "a"]], .tup [.tup [.str "make"], .str "a"]]
abbrev fines : List DV := [.tup [.str "promise", .str "a", .int 1000000000], .tup [.str "stop"], .tup [.str "keep", .str "a", .str "a"]]
theorem na : nameB "a" = true := by kernel_rfl
theorem sh {s : Str} (h : s.length ≤ 100) : s.length ≤ sizeLine := small100 h
theorem odd_no (W : Wd) : ∀ x ∈ odds, f_is_event [x] W = some (.bl false, W) := by
  have pa := part_n "a" (sh (by decide +kernel)) W
  rw [na] at pa
  intro x m
  simp only [odds, List.mem_cons, List.not_mem_nil, or_false] at m
  rcases m with rfl | rfl | rfl | rfl | rfl | rfl | rfl | rfl | rfl | rfl | rfl | rfl | rfl | rfl | rfl | rfl | rfl | rfl | rfl | rfl | rfl
  · exact ev_other W (by simp [kIsx, kIsi, tyD, clsOf, known, isSub])
  · exact ev_empty W
  · exact ev_other W (by simp [kIsx, kIsi, tyD, clsOf, known, isSub])
  · exact ev_other W (by simp [kIsx, kIsi, tyD, clsOf, known, isSub])
  · exact ev_many W (f := "") (by kernel_rfl) _ (by decide)
  · exact ev_many W (f := "n") (by kernel_rfl) _ (by decide)
  · exact ev_one W (by kernel_rfl) (pn_int W 1)
  · have p := part_n "" (sh (by decide +kernel)) W
    rw [show nameB "" = false by kernel_rfl] at p
    exact ev_one W (by kernel_rfl) p
  · have p := part_n "abcdefghi" (sh (by decide +kernel)) W
    rw [show nameB "abcdefghi" = false by kernel_rfl] at p
    exact ev_one W (by kernel_rfl) p
  · exact ev_other W (by simp [kIsx, kIsi, tyD, clsOf, known, isSub])
  · exact ev_nbx W (by kernel_rfl) pa (part_b (-1) W)
  · exact ev_nbx W (by kernel_rfl) pa (pb_bl W false)
  · exact ev_nbx W (by kernel_rfl) pa (pb_str W "1")
  · exact ev_many W (f := "n") (by kernel_rfl) _ (by decide)
  · exact ev_nnx W (by kernel_rfl) pa (pn_int W 1)
  · exact ev_many W (f := "nn") (by kernel_rfl) _ (by decide)
  · exact ev_open W _ _ (by kernel_rfl)
  · exact ev_nostr W _ (by simp [kIsx, kIsi, tyD, clsOf, known, isSub])
  · exact ev_nbx W (by kernel_rfl) (pn_int W 1) (pb_str W "a")
  · exact ev_one W (by kernel_rfl) (pn_tup W _)
  · exact ev_nostr W _ (by simp [kIsx, kIsi, tyD, clsOf, known, isSub])
theorem fine_yes (W : Wd) : ∀ x ∈ fines, f_is_event [x] W = some (.bl true, W) := by
  have pa := part_n "a" (sh (by decide +kernel)) W
  rw [na] at pa
  intro x m
  simp only [fines, List.mem_cons, List.not_mem_nil, or_false] at m
  rcases m with rfl | rfl | rfl
  · exact ev_nbx W (by kernel_rfl) pa (part_b 1000000000 W)
  · exact is_event_z (by kernel_rfl) W
  · exact ev_nnx W (by kernel_rfl) pa pa
theorem ev_loopB (b : Bool) (env : DEnv) (he : env.length = 4) (W : Wd) : ∀ (xs acc : List DV), (∀ x ∈ xs, f_is_event [x] W = some (.bl b, W)) → acc.length + xs.length ≤ sizeLine →
    cLoop (gN 3) bYes (eF 1 f_is_event (aC (eV 3) aN)) env xs acc W = some (acc ++ xs.map (fun _ => .bl b), W) ∧ cLoop (gN 3) bYes (eFK 1 1 [0] f_is_event (aC (eV 3) aN)) env xs acc W = some (acc ++ xs.map (fun _ => .bl b), W)
  | [], acc, _, _ => by simp
  | x :: xs, acc, h, l => by
    have l' : acc.length < sizeLine := by simp at l; omega
    have e := h x List.mem_cons_self
    obtain ⟨i1, i2⟩ := ev_loopB b env he W xs (acc ++ [.bl b]) (fun y m => h y (List.mem_cons_of_mem _ m)) (by simp at l ⊢; omega)
    have g : (env.set 3 (some x))[3]? = some (some x) := by rw [List.getElem?_set_self (by omega)]
    constructor
    · simp [g, e, l', i1]
    · simp [g, e, l', i2, perm]
theorem things_ok (W : Wd) (hW : GW W) : f__law_things_right [] W = some (.bl true, W) := by
  refine runF_rt ?_ rfl
  have l9 : ∀ a b c d e f g h i : DV, lineOk [a, b, c, d, e, f, g, h, i] = true := fun _ _ _ _ _ _ _ _ _ => by unfold lineOk; rw [sizeLine_eq]; rfl
  have l5 : ∀ a b c d e : DV, lineOk [a, b, c, d, e] = true := fun _ _ _ _ _ => by unfold lineOk; rw [sizeLine_eq]; rfl
  have ad1 : oAdd (.lst odd1) (.lst odd2) W = some (.lst odd12, W) := by kernel_rfl
  have ad2 : oAddC (.lst odd12) (.lst odd3) W = some (.loc W.length, W ++ [.lst odd123]) := by kernel_rfl
  have lc := lst_cell W odd123
  have big : 2000 < sizeLine := by rw [sizeLine_eq]; decide
  have ap : dApp (.loc W.length) (.tup [.tup [.str "make"], .str "a"]) (W ++ [.lst odd123]) = some (.non, W ++ [.lst odds]) := app_cell W odd123 (.tup [.tup [.str "make"], .str "a"]) (by show 20 < sizeLine; omega)
  have fz : frz 0 W.length [some (.loc W.length), none, none, none] (W ++ [.lst odds]) = some ([some (.lst odds), none, none, none], W) := by
    have a : DV.loL W.length odds = true := by kernel_rfl
    have b : W.all (Cell.lo W.length) = true := hW.all _
    have c : (W ++ [Cell.lst odds]).take W.length = W := List.take_left' rfl
    have g : (W ++ [Cell.lst odds])[W.length]? = some (.lst odds) := gat _ _ _
    unfold frz
    show (match (W ++ [Cell.lst odds])[W.length]? with | some (.lst xs) => _ | _ => none) = _
    rw [g]
    dsimp only
    rw [a, c, b]
    simp [optLo]
  obtain ⟨lo, _⟩ := ev_loopB false [some (.lst odds), some (.lst fines), none, none] rfl W odds [] (odd_no W) (by show 21 ≤ sizeLine; omega)
  obtain ⟨_, lf⟩ := ev_loopB true [some (.lst odds), some (.lst fines), none, none] rfl W fines [] (fine_yes W) (by show 3 ≤ sizeLine; omega)
  have lo' : cLoop (gN 3) bYes (eF 1 f_is_event (aC (eV 3) aN)) [some (.lst odds), some (.lst fines), none, none] odds [] W = some ([.bl false, .bl false, .bl false, .bl false, .bl false, .bl false, .bl false, .bl false, .bl false, .bl false, .bl false, .bl false, .bl false, .bl false, .bl false, .bl false, .bl false, .bl false, .bl false, .bl false, .bl false], W) := lo
  have lf' : cLoop (gN 3) bYes (eFK 1 1 [0] f_is_event (aC (eV 3) aN)) [some (.lst odds), some (.lst fines), none, none] fines [] W = some ([.bl true, .bl true, .bl true], W) := lf
  have ad3 : oAdd (.lst [.bl false, .bl false, .bl false, .bl false, .bl false, .bl false, .bl false, .bl false, .bl false, .bl false, .bl false, .bl false, .bl false, .bl false, .bl false, .bl false, .bl false, .bl false, .bl false, .bl false, .bl false]) (.lst [.bl true, .bl true, .bl true]) W = some (.lst [.bl false, .bl false, .bl false, .bl false, .bl false, .bl false, .bl false, .bl false, .bl false, .bl false, .bl false, .bl false, .bl false, .bl false, .bl false, .bl false, .bl false, .bl false, .bl false, .bl false, .bl false, .bl true, .bl true, .bl true], W) := by kernel_rfl
  have rp1 : oRep (.lst [.bl false]) (.int 21) W = some (.lst [.bl false, .bl false, .bl false, .bl false, .bl false, .bl false, .bl false, .bl false, .bl false, .bl false, .bl false, .bl false, .bl false, .bl false, .bl false, .bl false, .bl false, .bl false, .bl false, .bl false, .bl false], W) := by kernel_rfl
  have rp2 : oRep (.lst [.bl true]) (.int 3) W = some (.lst [.bl true, .bl true, .bl true], W) := by kernel_rfl
  have kl1 : kLen [.lst odds] W = some (.int 21, W) := by kernel_rfl
  have kl2 : kLen [.lst fines] W = some (.int 3, W) := by kernel_rfl
  have pw : oPow (.int 10) (.int 9) W = some (.int 1000000000, W) := by kernel_rfl
  have sm := same_refl 5 (.lst [.bl false, .bl false, .bl false, .bl false, .bl false, .bl false, .bl false, .bl false, .bl false, .bl false, .bl false, .bl false, .bl false, .bl false, .bl false, .bl false, .bl false, .bl false, .bl false, .bl false, .bl false, .bl true, .bl true, .bl true]) W (by show (decide (24 ≤ sizeLine) && true) = true; rw [decide_eq_true (by omega)]; rfl)
  simp only [b__law_things_right]
  simp [l9, l5, line2, line3, line1, line0, line6, ad1, ad2, lc, ap, sFrz, fz, pw, wipeD, -r_cLoop, lo', lf', ad3, kl1, kl2, rp1, rp2, sm]
end K26
end L2

set_option maxRecDepth 100000
/-! k26: the loops of the law. -/
namespace L2
namespace K26
open PySem PySem.Spec PyProof.Rows DL PySem.NumText
/-! ### data that are the same as themselves -/
theorem okS_ps (k : Nat) {x : DV} (h : PS x) : okS (k + 1) x = true := by cases h <;> rfl
theorem okS_ev (k : Nat) {x : DV} (h : Ev x) : okS (k + 2) x = true := by
  cases h with
  | non => rfl
  | tup h3 h =>
    show (decide (_ ≤ sizeLine) && List.all _ (okS (k + 1))) = true
    rw [decide_eq_true (sz3 h3), Bool.true_and]
    exact List.all_eq_true.mpr fun x m => okS_ps k (h x m)
theorem evsOf_len : ∀ (k : Nat) (ls : List Str) (es : List DV), evsOf k ls = .inr es → es.length = ls.length
  | _, [], es, h => by cases h; rfl
  | k, l :: ls, es, h => by
    unfold evsOf at h
    split at h
    · cases h
    · split at h
      · cases h
      · rename_i es' e
        cases h
        simp [evsOf_len (k + 1) ls es' e]
theorem okS_heard1 (t : Str) (hl : (linesOf t).length < 500000) : okS 5 (heard1 t) = true := by
  unfold heard1
  have big : 600000 < sizeLine := by rw [sizeLine_eq]; decide
  cases e : evsOf 0 (linesOf t) with
  | inl j =>
    show (decide (2 ≤ sizeLine) && _) = true
    rw [decide_eq_true (by omega)]; rfl
  | inr es =>
    show (decide (es.length ≤ sizeLine) && es.all (okS 4)) = true
    have := evsOf_len _ _ _ e
    rw [decide_eq_true (by omega), Bool.true_and]
    exact List.all_eq_true.mpr fun x m => okS_ev 2 (evsOf_ev _ _ _ e x m)
theorem okS_heard0 (t : Str) : okS 5 (heard0 t) = true := by
  unfold heard0
  split
  · rfl
  · exact okS_ev 3 (evOf_ev t)
theorem deed_Ev {d : DV} (h : Deed d) : Ev d := by
  rw [← deed_ev h]; exact evOf_ev _
theorem okS_deeds {ds : List DV} (h8 : ds.length ≤ 8) (h : ∀ d ∈ ds, Deed d) (k : Nat) : okS (k + 3) (.lst ds) = true := by
  have big : 600000 < sizeLine := by rw [sizeLine_eq]; decide
  show (decide (ds.length ≤ sizeLine) && ds.all (okS (k + 2))) = true
  rw [decide_eq_true (by omega), Bool.true_and]
  exact List.all_eq_true.mpr fun x m => okS_ev k (deed_Ev (h x m))
theorem lines_len (t : Str) (ht : t.length ≤ 100000) : (linesOf t).length < 500000 := by
  unfold linesOf
  split
  · simp
  · have := split_le t "\n"
    omega
theorem size5 {t : Str} (ht : t.length ≤ 100000) : t.length + 2 ≤ sizeLine := by rw [sizeLine_eq]; omega
/-! ### the deeds -/
theorem deeds_loop (b : Nat) (env : DEnv) (he : env[0]? = some (some (.loc b))) : ∀ (zs acc : List DV) (W : Wd) (c : Int), Box W b c → GW W → c + 3 * zs.length < 10000 → acc.length + zs.length ≤ sizeLine →
    ∃ ds W', cLoop (gN 9) bYes (eF 1 f__law_deed (aC (eV 0) aN)) env zs acc W = some (acc ++ ds, W') ∧ ds.length = zs.length ∧ (∀ d ∈ ds, Deed d) ∧ Box W' b (c + 3 * zs.length) ∧ Sm W W' b
  | [], acc, W, c, hb, hW, _, _ => ⟨[], W, by simp, rfl, fun d m => (by cases m), by simpa using hb, Sm.refl _ _⟩
  | z :: zs, acc, W, c, hb, hW, hc, l => by
    have l' : acc.length < sizeLine := by simp at l; omega
    obtain ⟨d, W1, e1, hd, hb1, sm1⟩ := deed_spec hb (by simp at hc; omega) hW
    obtain ⟨ds, W2, e2, ln, hds, hb2, sm2⟩ := deeds_loop b env he zs (acc ++ [d]) W1 (c + 3) hb1 (hW.sm sm1 hb1) (by simp at hc ⊢; omega) (by simp at l ⊢; omega)
    have g : (env.set 9 (some z))[0]? = some (some (.loc b)) := by rw [List.getElem?_set_ne (by decide)]; exact he
    refine ⟨d :: ds, W2, ?_, by simp [ln], fun x m => ?_, ?_, sm1.trans sm2⟩
    · simp [g, e1, l', e2]
    · rcases List.mem_cons.mp m with rfl | m
      · exact hd
      · exact hds x m
    · have : c + 3 * ((z :: zs).length : Nat) = c + 3 + 3 * (zs.length : Nat) := by simp; omega
      rw [this]; exact hb2
theorem lines_loop (env : DEnv) (he : env.length = 14) (W : Wd) : ∀ (ds acc : List DV), (∀ d ∈ ds, Deed d) → acc.length + ds.length ≤ sizeLine →
    cLoop (gN 6) bYes (eM oJoin (eC (.str " ")) (eComp [13] (iAny (eV 6)) (gN 13) bYes (eK kStrS (aC (eV 13) aN)))) env ds acc W = some (acc ++ (ds.map txtOf).map DV.str, W)
  | [], acc, _, _ => by simp
  | d :: ds, acc, h, l => by
    have l' : acc.length < sizeLine := by simp at l; omega
    obtain ⟨xs, rfl, h3, hx⟩ := deed_parts (h d List.mem_cons_self)
    have ih := lines_loop env he W ds (acc ++ [.str (txtOf (.tup xs))]) (fun x m => h x (List.mem_cons_of_mem _ m)) (by simp at l ⊢; omega)
    have g : (env.set 6 (some (.tup xs)))[6]? = some (some (.tup xs)) := by rw [List.getElem?_set_self (by omega)]
    have j := join_parts xs h3 hx W
    have sl := str_loop 13 (wipeD (env.set 6 (some (.tup xs))) [13]) (by show 13 < ((env.set 6 _).set 13 none).length; rw [List.length_set, List.length_set]; omega) W xs [] hx (by simpa using sz3 h3)
    simp only [List.nil_append] at sl
    have jt : Txt.join " " (xs.map strOf) = txtOf (.tup xs) := rfl
    rw [jt] at j
    simp [g, sl, j, l', ih]
/-! ### the turns -/
theorem turn2 (b : Nat) (e1 e2 e3 e4 e5 e8 e9 e10 e11 e12 e13 : Option DV) (n : Nat) (W : Wd) {d : DV} (hd : Deed d) :
    b__law_right_L2 n [some (.loc b), e1, e2, e3, e4, e5, some d, some (.str (txtOf d)), e8, e9, e10, e11, e12, e13] W = some (.nx [some (.loc b), e1, e2, e3, e4, e5, some d, some (.str (txtOf d)), some (.lst [.str (txtOf d), .str (txtOf d), .bl true, d]), e9, e10, e11, e12, e13], W) := by
  obtain ⟨xs, rfl, h3, hx⟩ := deed_parts hd
  have t1 := event_text_eq (y := .tup xs) (.inl rfl) h3 hx W
  have t2 := event_text_eq (y := .lst xs) (.inr rfl) h3 hx W
  have ie := is_event_deed hd W
  have ei := event_in_str (txtOf (.tup xs)) (size5 (Nat.le_trans (deed_len hd).1 (by decide))) W
  rw [deed_ev hd] at ei
  have l4 : ∀ a b c d : DV, lineOk [a, b, c, d] = true := fun _ _ _ _ => by unfold lineOk; rw [sizeLine_eq]; rfl
  have sm := same_refl 5 (.lst [.str (txtOf (.tup xs)), .str (txtOf (.tup xs)), .bl true, .tup xs]) W (by
    show (decide (4 ≤ sizeLine) && (true && (true && (true && (okS 4 (.tup xs) && true))))) = true
    rw [decide_eq_true (by rw [sizeLine_eq]; decide), okS_ev 2 (deed_Ev hd)]; rfl)
  have kl : kList [.tup xs] W = some (.lst xs, W) := by simp [kList, itemsOf]
  simp [b__law_right_L2, t1, t2, kl, perm, ie, ei, isNon, l4, sm]
theorem turn1 {W : Wd} {b : Nat} {c : Int} (hb : Box W b c) (hc : c < 10000) (hW : GW W) {ds : List DV} (h8 : ds.length ≤ 8) (hd : ∀ d ∈ ds, Deed d) (n : Nat) (e1 e2 e5 e6 e7 e8 e9 e10 e11 e12 e13 : Option DV) :
    ∃ x6 x7 x10 W', b__law_right_L1 n [some (.loc b), e1, e2, some (.lst ((ds.map txtOf).map DV.str)), some (.str (pageOf ds)), e5, e6, e7, e8, e9, e10, e11, e12, e13] W = some (.nx [some (.loc b), e1, e2, some (.lst ((ds.map txtOf).map DV.str)), some (.str (pageOf ds)), e5, x6, x7, e8, e9, x10, e11, e12, e13], W') ∧ Box W' b (c + 11) ∧ Sm W W' b := by
  obtain ⟨t1, W1, s1, l1, hb1, sm1⟩ := spoilt_spec hb (by omega) hW (pageOf ds) (Nat.le_trans (page_len h8 hd) (by decide))
  have g1 := hW.sm sm1 hb1
  have h1 := heard1_eq t1 (size5 l1) (lines_len t1 l1) W1 g1
  have d1 := due_eq t1 (size5 l1) (lines_len t1 l1) W1 g1
  have q1 := same_refl 5 (heard1 t1) W1 (okS_heard1 t1 (lines_len t1 l1))
  obtain ⟨x, W2, o2, m2, hb2, sm2⟩ := of_spec (xs := (ds.map txtOf).map DV.str ++ [.str "stop"]) hb1 (by simp) (by simp; omega) (by omega)
  have hx : ∃ l : Str, x = .str l ∧ l.length ≤ 26 := by
    rcases List.mem_append.mp m2 with m | m
    · obtain ⟨l, ml, rfl⟩ := List.mem_map.mp m
      obtain ⟨d, md, rfl⟩ := List.mem_map.mp ml
      exact ⟨_, rfl, (deed_len (hd d md)).1⟩
    · obtain rfl := List.mem_singleton.mp m
      exact ⟨_, rfl, by decide +kernel⟩
  obtain ⟨l, rfl, hl⟩ := hx
  have g2 := g1.sm sm2 hb2
  obtain ⟨t3, W3, s3, l3, hb3, sm3⟩ := spoilt_spec hb2 (by omega) g2 l (by omega)
  have g3 := g2.sm sm3 hb3
  have r3 := read_ok t3 (size5 l3) W3 g3
  have h3 := heard0_eq t3 (size5 l3) W3
  have q3 := same_refl 5 (heard0 t3) W3 (okS_heard0 t3)
  have big : 600000 < sizeLine := by rw [sizeLine_eq]; decide
  obtain ⟨lns, hln⟩ : ∃ lns, (ds.map txtOf).map DV.str = lns := ⟨_, rfl⟩
  have ll : lns.length ≤ 8 := by rw [← hln]; simp; exact h8
  rw [hln] at o2 ⊢
  have ad : oAdd (.lst lns) (.lst [.str "stop"]) W1 = some (.lst (lns ++ [.str "stop"]), W1) := by
    have : lns.length + 1 ≤ sizeLine := by omega
    simp [oAdd, dAdd, this]
  have ei : (if isNon (evOf t3) = true then DV.str "bad" else evOf t3) = heard0 t3 := rfl
  refine ⟨some (evOf t3), some (.str t3), some (.str t1), W3, ?_, ?_, (sm1.trans sm2).trans sm3⟩
  · have nn := ev_isN (evOf_ev t3)
    cases hn : isNon (evOf t3) with
    | true =>
      rw [hn] at nn ei
      simp only [if_true] at ei
      rw [← ei] at h3 q3
      simp [b__law_right_L1, s1, h1, d1, q1, line1, ad, o2, s3, r3, h3, oIs, nn, q3]
    | false =>
      rw [hn] at nn ei
      simp at ei
      rw [← ei] at h3 q3
      simp [b__law_right_L1, s1, h1, d1, q1, line1, ad, o2, s3, r3, h3, oIs, nn, q3]
  · have : c + 11 = c + 5 + 1 + 5 := by omega
    rw [this]; exact hb3
end K26
end L2

set_option maxRecDepth 100000
/-! k26: the law is true. -/
namespace L2
namespace K26
open PySem PySem.Spec PyProof.Rows DL PySem.NumText
theorem loop1 {b : Nat} {ds : List DV} (h8 : ds.length ≤ 8) (hd : ∀ d ∈ ds, Deed d) (n : Nat) (e1 e2 e5 e8 e11 e12 e13 : Option DV) : ∀ (zs : List DV) (W : Wd) (c : Int) (e6 e7 e9 e10 : Option DV), Box W b c → GW W → c + 11 * zs.length < 10000 →
    ∃ x6 x7 x9 x10 W', sLoop (gN 9) b__law_right_L1 n zs [some (.loc b), e1, e2, some (.lst ((ds.map txtOf).map DV.str)), some (.str (pageOf ds)), e5, e6, e7, e8, e9, e10, e11, e12, e13] W = some (.nx [some (.loc b), e1, e2, some (.lst ((ds.map txtOf).map DV.str)), some (.str (pageOf ds)), e5, x6, x7, e8, x9, x10, e11, e12, e13], W') ∧ Box W' b (c + 11 * zs.length) ∧ Sm W W' b
  | [], W, c, e6, e7, e9, e10, hb, hW, _ => ⟨e6, e7, e9, e10, W, rfl, by simpa using hb, Sm.refl _ _⟩
  | z :: zs, W, c, e6, e7, e9, e10, hb, hW, hc => by
    obtain ⟨x6, x7, x10, W1, t1, hb1, sm1⟩ := turn1 hb (by simp at hc; omega) hW h8 hd n e1 e2 e5 e6 e7 e8 (some z) e10 e11 e12 e13
    obtain ⟨y6, y7, y9, y10, W2, t2, hb2, sm2⟩ := loop1 h8 hd n e1 e2 e5 e8 e11 e12 e13 zs W1 (c + 11) x6 x7 (some z) x10 hb1 (hW.sm sm1 hb1) (by simp at hc ⊢; omega)
    refine ⟨y6, y7, y9, y10, W2, ?_, ?_, sm1.trans sm2⟩
    · rw [r_sLoop, r_gN, Option.bind_some]
      simp only [List.set_cons_succ, List.set_cons_zero]
      rw [t1, Option.bind_some, loopK_nx, t2]
    · have : c + 11 * ((z :: zs).length : Nat) = c + 11 + 11 * (zs.length : Nat) := by simp; omega
      rw [this]; exact hb2
theorem loop2 (b : Nat) (n : Nat) (W : Wd) (e1 e2 e3 e4 e5 e9 e10 e11 e12 e13 : Option DV) : ∀ (ds : List DV) (e6 e7 e8 : Option DV), (∀ d ∈ ds, Deed d) →
    ∃ x6 x7 x8, sLoop (gQ 2 (gsC (gN 6) (gsC (gN 7) gsN))) b__law_right_L2 n (pairUp ds ((ds.map txtOf).map DV.str)) [some (.loc b), e1, e2, e3, e4, e5, e6, e7, e8, e9, e10, e11, e12, e13] W = some (.nx [some (.loc b), e1, e2, e3, e4, e5, x6, x7, x8, e9, e10, e11, e12, e13], W)
  | [], e6, e7, e8, _ => ⟨e6, e7, e8, rfl⟩
  | d :: ds, e6, e7, e8, h => by
    have t := turn2 b e1 e2 e3 e4 e5 e8 e9 e10 e11 e12 e13 n W (h d List.mem_cons_self)
    obtain ⟨x6, x7, x8, e⟩ := loop2 b n W e1 e2 e3 e4 e5 e9 e10 e11 e12 e13 ds (some d) (some (.str (txtOf d))) (some (.lst [.str (txtOf d), .str (txtOf d), .bl true, d])) fun x m => h x (List.mem_cons_of_mem _ m)
    refine ⟨x6, x7, x8, ?_⟩
    show sLoop _ _ n (.tup [d, .str (txtOf d)] :: pairUp ds ((ds.map txtOf).map DV.str)) _ W = _
    rw [r_sLoop]
    have g : gQ 2 (gsC (gN 6) (gsC (gN 7) gsN)) (.tup [d, .str (txtOf d)]) [some (.loc b), e1, e2, e3, e4, e5, e6, e7, e8, e9, e10, e11, e12, e13] W = some ([some (.loc b), e1, e2, e3, e4, e5, some d, some (.str (txtOf d)), e8, e9, e10, e11, e12, e13], W) := by simp
    rw [g, Option.bind_some]
    dsimp only
    rw [t, Option.bind_some, loopK_nx, e]
theorem up10 : (upFrom 0 10).length = 10 := rfl
theorem up_len (lo : Int) (n : Nat) : (upFrom lo n).length = n := by unfold upFrom; simp
theorem turn3 {W : Wd} {b : Nat} {c : Int} (hb : Box W b c) (hc : c < 700) (hW : GW W) (n : Nat) (e1 e2 e3 e4 e5 e6 e7 e8 e9 e10 e11 e12 e13 : Option DV) :
    ∃ x2 x3 x4 x5 x6 x7 x8 x9 x10 W', b__law_right_L3 n [some (.loc b), e1, e2, e3, e4, e5, e6, e7, e8, e9, e10, e11, e12, e13] W = some (.nx [some (.loc b), e1, x2, x3, x4, x5, x6, x7, x8, x9, x10, e11, e12, e13], W') ∧ Box W' b (c + 150) ∧ Sm W W' b := by
  have hc0 : 0 ≤ c := by obtain ⟨x0, x1, x2, q, p1, p2, p3, p4, p5⟩ := hb; omega
  have big : 600000 < sizeLine := by rw [sizeLine_eq]; decide
  obtain ⟨v, W1, e, v0, v1, hb1, sm1⟩ := take_spec (n := 9) hb (by omega) (by omega) (by omega)
  have g1 := hW.sm sm1 hb1
  have rg : rngOk v = true := by
    unfold rngOk
    have : (2 : Int) ^ 62 = 4611686018427387904 := by decide
    exact decide_eq_true ⟨by omega, by omega⟩
  obtain ⟨ds, W2, ed, ln, hd, hb2, sm2⟩ := deeds_loop b [some (.loc b), e1, e2, e3, e4, e5, e6, e7, e8, none, e10, e11, e12, e13] rfl (upFrom 0 v.toNat) [] W1 (c + 1) hb1 g1 (by rw [up_len]; omega) (by rw [up_len]; simp; omega)
  rw [up_len] at ln hb2
  have h8 : ds.length ≤ 8 := by omega
  have g2 := g1.sm sm2 hb2
  simp only [List.nil_append] at ed
  have el := lines_loop [some (.loc b), e1, some (.lst ds), e3, e4, e5, none, e7, e8, e9, e10, e11, e12, e13] rfl W2 ds [] hd (by simp; omega)
  simp only [List.nil_append] at el
  have pj := page_join ds h8 hd W2
  obtain ⟨lns, hln⟩ : ∃ lns, (ds.map txtOf).map DV.str = lns := ⟨_, rfl⟩
  obtain ⟨y, W3, em, sy, hb3, sm3⟩ := mixed_deeds hb2 (ds := ds) (by omega) hd
  have g3 := g2.sm sm3 hb3
  have t1 := events_text_eq (lst_soft hd) h8 hd W3
  have t2 := events_text_eq sy h8 hd W3
  have pl := page_len h8 hd
  have hh := heard1_eq (pageOf ds) (size5 (by omega)) (lines_len _ (by omega)) W3 g3
  rw [heard_page hd] at hh
  have sm0 := same_refl 5 (.lst [.str (pageOf ds), .str (pageOf ds), .lst ds]) W3 (by
    show (decide (3 ≤ sizeLine) && (true && (true && (okS 4 (.lst ds) && true)))) = true
    rw [decide_eq_true (by omega), okS_deeds h8 hd 1]; rfl)
  have tl := tup_lst ds W2
  obtain ⟨a6, a7, a8, l2⟩ := loop2 b W3.length W3 e1 (some (.lst ds)) (some (.lst lns)) (some (.str (pageOf ds))) (some y) e9 e10 e11 e12 e13 ds e6 e7 e8 hd
  obtain ⟨x6, x7, x9, x10, W4, l1, hb4, sm4⟩ := loop1 h8 hd W3.length e1 (some (.lst ds)) (some y) a8 e11 e12 e13 (upFrom 0 10) W3 (c + 1 + 3 * (v.toNat : Nat) + (ds.length : Nat) + 1) a6 a7 e9 e10 hb3 g3 (by rw [up10]; omega)
  rw [hln] at el pj l2 l1
  have r10 : rngOk 10 = true := by decide
  refine ⟨some (.lst ds), some (.lst lns), some (.str (pageOf ds)), some y, x6, x7, a8, x9, x10, W4, ?_, ?_, ((sm1.trans sm2).trans sm3).trans sm4⟩
  · have z10 : (10 : Int).toNat = 10 := rfl
    simp only [b__law_right_L3]
    simp [e, rg, wipeD, ed, el, -r_cLoop]
    rw [pj]
    simp [tl, em, t1, t2, hh, perm, line3, sm0]
    rw [l2]
    simp [r10]
    rw [l1]
  · obtain ⟨x0, x1, x2, q, p1, p2, p3, p4, p5⟩ := hb4
    refine ⟨x0, x1, x2, q, p1, p2, p3, p4, ?_⟩
    rw [up10] at p5
    omega
theorem loop3 {b : Nat} (n : Nat) (e11 e12 e13 : Option DV) : ∀ (zs : List DV) (W : Wd) (c : Int) (e1 e2 e3 e4 e5 e6 e7 e8 e9 e10 : Option DV), Box W b c → GW W → c + 150 * zs.length < 700 →
    ∃ x1 x2 x3 x4 x5 x6 x7 x8 x9 x10 W', sLoop (gN 1) b__law_right_L3 n zs [some (.loc b), e1, e2, e3, e4, e5, e6, e7, e8, e9, e10, e11, e12, e13] W = some (.nx [some (.loc b), x1, x2, x3, x4, x5, x6, x7, x8, x9, x10, e11, e12, e13], W') ∧ Box W' b (c + 150 * zs.length) ∧ Sm W W' b
  | [], W, c, e1, e2, e3, e4, e5, e6, e7, e8, e9, e10, hb, hW, _ => ⟨e1, e2, e3, e4, e5, e6, e7, e8, e9, e10, W, rfl, by simpa using hb, Sm.refl _ _⟩
  | z :: zs, W, c, e1, e2, e3, e4, e5, e6, e7, e8, e9, e10, hb, hW, hc => by
    obtain ⟨x2, x3, x4, x5, x6, x7, x8, x9, x10, W1, t1, hb1, sm1⟩ := turn3 hb (by simp at hc; omega) hW n (some z) e2 e3 e4 e5 e6 e7 e8 e9 e10 e11 e12 e13
    obtain ⟨y1, y2, y3, y4, y5, y6, y7, y8, y9, y10, W2, t2, hb2, sm2⟩ := loop3 n e11 e12 e13 zs W1 (c + 150) (some z) x2 x3 x4 x5 x6 x7 x8 x9 x10 hb1 (hW.sm sm1 hb1) (by simp at hc ⊢; omega)
    refine ⟨y1, y2, y3, y4, y5, y6, y7, y8, y9, y10, W2, ?_, ?_, sm1.trans sm2⟩
    · rw [r_sLoop, r_gN, Option.bind_some]
      simp only [List.set_cons_succ, List.set_cons_zero]
      rw [t1, Option.bind_some, loopK_nx, t2]
    · have : c + 150 * ((z :: zs).length : Nat) = c + 150 + 150 * (zs.length : Nat) := by simp; omega
      rw [this]; exact hb2
end K26
end L2

set_option maxRecDepth 100000
/-! k26: the law is true. -/
namespace L2
namespace K26
open PySem PySem.Spec PyProof.Rows DL PySem.NumText
abbrev wr1 : List DV := [.str "", .str " ", .str "commit ", .str " commit", .str "promise a 00", .str "promise a 1000000", .str "promise a +1", .str "make abcdefghi"]
abbrev wr2 : List DV := [.str "Make a", .str "make A", .str "promise  a 1", .str "promise a", .str "stop\n"]
abbrev wr3 : List DV := [.str "drop a b", .str "give a 1.0", .str "cut 1 a", .str "keep a 1"]
abbrev wr12 : List DV := [.str "", .str " ", .str "commit ", .str " commit", .str "promise a 00", .str "promise a 1000000", .str "promise a +1", .str "make abcdefghi", .str "Make a", .str "make A", .str "promise  a 1", .str "promise a", .str "stop\n"]
abbrev wr : List DV := [.str "", .str " ", .str "commit ", .str " commit", .str "promise a 00", .str "promise a 1000000", .str "promise a +1", .str "make abcdefghi", .str "Make a", .str "make A", .str "promise  a 1", .str "promise a", .str "stop\n", .str "drop a b", .str "give a 1.0", .str "cut 1 a", .str "keep a 1"]
abbrev wrS : List Str := ["", " ", "commit ", " commit", "promise a 00", "promise a 1000000", "promise a +1", "make abcdefghi", "Make a", "make A", "promise  a 1", "promise a", "stop\n", "drop a b", "give a 1.0", "cut 1 a", "keep a 1"]
theorem wrongs : (wrS.all fun s => isNon (evOf s) && decide (s.length ≤ 100)) = true := by kernel_rfl
theorem bad_loop (env : DEnv) (he : env.length = 14) (W : Wd) : ∀ (ss : List Str) (acc : List DV), (∀ s ∈ ss, isNon (evOf s) = true ∧ s.length ≤ 100) → acc.length + ss.length ≤ sizeLine →
    cLoop (gN 7) bYes (eF 2 f__law_heard (aC (eC (.int 0)) (aC (eV 7) aN))) env (ss.map DV.str) acc W = some (acc ++ ss.map (fun _ => DV.str "bad"), W)
  | [], acc, _, _ => by simp
  | s :: ss, acc, h, l => by
    have l' : acc.length < sizeLine := by simp at l; omega
    obtain ⟨h1, h2⟩ := h s List.mem_cons_self
    have e := heard0_eq s (size5 (by omega)) W
    have e0 : heard0 s = .str "bad" := by unfold heard0; rw [if_pos h1]
    rw [e0] at e
    have ih := bad_loop env he W ss (acc ++ [.str "bad"]) (fun x m => h x (List.mem_cons_of_mem _ m)) (by simp at l ⊢; omega)
    have g : (env.set 7 (some (DV.str s)))[7]? = some (some (.str s)) := by rw [List.getElem?_set_self (by omega)]
    simp [g, e, l', ih]
abbrev tx : List Str := ["", "\n", "stop\n", "stop\n\nstop", "stop\ncommit"]
abbrev dueL : List DV := [.lst [], .tup [.str "line", .int 0], .tup [.str "line", .int 1], .tup [.str "line", .int 1], .lst [.tup [.str "stop"], .tup [.str "commit"]]]
theorem five : tx.map heard1 = dueL := by kernel_rfl
theorem hear_loop (env : DEnv) (he : env.length = 14) (W : Wd) (hW : GW W) : ∀ (ss : List Str) (acc : List DV), (∀ s ∈ ss, s.length ≤ 100) → acc.length + ss.length ≤ sizeLine →
    cLoop (gN 7) bYes (eF 2 f__law_heard (aC (eC (.int 1)) (aC (eV 7) aN))) env (ss.map DV.str) acc W = some (acc ++ ss.map heard1, W)
  | [], acc, _, _ => by simp
  | s :: ss, acc, h, l => by
    have l' : acc.length < sizeLine := by simp at l; omega
    have h2 := h s List.mem_cons_self
    have e := heard1_eq s (size5 (by omega)) (lines_len s (by omega)) W hW
    have ih := hear_loop env he W hW ss (acc ++ [heard1 s]) (fun x m => h x (List.mem_cons_of_mem _ m)) (by simp at l ⊢; omega)
    have g : (env.set 7 (some (DV.str s)))[7]? = some (some (.str s)) := by rw [List.getElem?_set_self (by omega)]
    simp [g, e, l', ih]
theorem right_ok {W : Wd} {b : Nat} (hb : Box W b 0) (hW : GW W) : ∃ W', f__law_right [.loc b] W = some (.bl true, W') ∧ Box W' b 600 ∧ Sm W W' b := by
  have big : 600000 < sizeLine := by rw [sizeLine_eq]; decide
  obtain ⟨x1, x2, x3, x4, x5, x6, x7, x8, x9, x10, W1, t1, hb1, sm1⟩ := loop3 W.length none none none (upFrom 0 4) W 0 none none none none none none none none none none hb hW (by rw [up_len]; decide)
  rw [up_len] at hb1
  have g1 := hW.sm sm1 hb1
  have r4 : rngOk 4 = true := by decide
  have l8 : ∀ a b c d e f g h : DV, lineOk [a, b, c, d, e, f, g, h] = true := fun _ _ _ _ _ _ _ _ => by unfold lineOk; rw [sizeLine_eq]; rfl
  have l5 : ∀ a b c d e : DV, lineOk [a, b, c, d, e] = true := fun _ _ _ _ _ => by unfold lineOk; rw [sizeLine_eq]; rfl
  have l4 : ∀ a b c d : DV, lineOk [a, b, c, d] = true := fun _ _ _ _ => by unfold lineOk; rw [sizeLine_eq]; rfl
  have ad1 : oAdd (.lst wr1) (.lst wr2) W1 = some (.lst wr12, W1) := by kernel_rfl
  have ad2 : oAdd (.lst wr12) (.lst wr3) W1 = some (.lst wr, W1) := by kernel_rfl
  have bl := bad_loop [some (.loc b), x1, x2, x3, x4, x5, x6, none, x8, x9, x10, some (.lst wr), none, none] rfl W1 wrS [] (fun s m => by
    have := List.all_eq_true.mp wrongs s m
    rw [Bool.and_eq_true] at this
    exact ⟨this.1, of_decide_eq_true this.2⟩) (by show 17 ≤ sizeLine; omega)
  have bl' : cLoop (gN 7) bYes (eF 2 f__law_heard (aC (eC (.int 0)) (aC (eV 7) aN))) [some (.loc b), x1, x2, x3, x4, x5, x6, none, x8, x9, x10, some (.lst wr), none, none] wr [] W1 = some ([.str "bad", .str "bad", .str "bad", .str "bad", .str "bad", .str "bad", .str "bad", .str "bad", .str "bad", .str "bad", .str "bad", .str "bad", .str "bad", .str "bad", .str "bad", .str "bad", .str "bad"], W1) := bl
  have kl : kLen [.lst wr] W1 = some (.int 17, W1) := by kernel_rfl
  have rp : oRep (.lst [.str "bad"]) (.int 17) W1 = some (.lst [.str "bad", .str "bad", .str "bad", .str "bad", .str "bad", .str "bad", .str "bad", .str "bad", .str "bad", .str "bad", .str "bad", .str "bad", .str "bad", .str "bad", .str "bad", .str "bad", .str "bad"], W1) := by kernel_rfl
  have ne : oNe (.lst [.str "bad", .str "bad", .str "bad", .str "bad", .str "bad", .str "bad", .str "bad", .str "bad", .str "bad", .str "bad", .str "bad", .str "bad", .str "bad", .str "bad", .str "bad", .str "bad", .str "bad"]) (.lst [.str "bad", .str "bad", .str "bad", .str "bad", .str "bad", .str "bad", .str "bad", .str "bad", .str "bad", .str "bad", .str "bad", .str "bad", .str "bad", .str "bad", .str "bad", .str "bad", .str "bad"]) W1 = some (.bl false, W1) := by kernel_rfl
  have hl := hear_loop [some (.loc b), x1, x2, x3, x4, x5, x6, none, x8, x9, x10, some (.lst wr), none, none] rfl W1 g1 tx [] (by decide +kernel) (by show 5 ≤ sizeLine; omega)
  rw [five] at hl
  have hl' : cLoop (gN 7) bYes (eF 2 f__law_heard (aC (eC (.int 1)) (aC (eV 7) aN))) [some (.loc b), x1, x2, x3, x4, x5, x6, none, x8, x9, x10, some (.lst wr), none, none] [.str "", .str "\n", .str "stop\n", .str "stop\n\nstop", .str "stop\ncommit"] [] W1 = some (dueL, W1) := hl
  have sm := same_refl 5 (.lst dueL) W1 (by kernel_rfl)
  have th := things_ok W1 g1
  refine ⟨W1, runF_rt ?_ sm1.len, hb1, sm1⟩
  have z4 : (4 : Int).toNat = 4 := rfl
  simp only [b__law_right]
  simp [r4]
  rw [t1]
  simp [l8, l5, l4, line1, line0, line2, ad1, ad2, wipeD, -r_cLoop, bl', kl, rp, ne, hl', sm, th]
theorem law_loop (ns : List Int) : ∀ (ks : List Nat) (acc : List DV) (W : Wd), (∀ k ∈ ks, k ≤ 100) → GW W → acc.length + ks.length ≤ sizeLine →
    ∃ W', cLoop (gN 1) bYes (eF 1 f__law_right (aC (eF 2 f__law_box (aC (eV 0) (aC (eV 1) aN))) aN)) [some (.scr ns), none] (ks.map fun k => DV.int (k : Nat)) acc W = some (acc ++ ks.map (fun _ => DV.bl true), W')
  | [], acc, W, _, _, _ => ⟨W, by simp⟩
  | k :: ks, acc, W, hk, hW, l => by
    have l' : acc.length < sizeLine := by simp at l; omega
    obtain ⟨y0, y1, eb, p0, p1, p2⟩ := box_spec ns k W (hk k List.mem_cons_self)
    have b0 : Box (W ++ [.lst [.int y0, .int y1, .int 0]]) W.length 0 := ⟨y0, y1, 0, gat _ _ _, p0, p1, p2, by decide, by decide⟩
    have gw : GW (W ++ [.lst [.int y0, .int y1, .int 0]]) := fun c m n => by
      rcases List.mem_append.mp m with m | m
      · exact hW c m n
      · obtain rfl := List.mem_singleton.mp m; rfl
    obtain ⟨W1, e1, hb1, sm1⟩ := right_ok b0 gw
    obtain ⟨W2, e2⟩ := law_loop ns ks (acc ++ [.bl true]) W1 (fun j m => hk j (List.mem_cons_of_mem _ m)) (gw.sm sm1 hb1) (by simp at l ⊢; omega)
    refine ⟨W2, ?_⟩
    simp [eb, e1, l', e2]
theorem runF_any {nN : Nat} {S : SS} {xs : List DV} {W W' : Wd} {x : DV} (h : S W.length (xs.map some ++ List.replicate (nN - xs.length) none) W = some (.rt x, W')) : ∃ W'', runF nN S xs W = some (x, W'') := by
  unfold runF
  rw [h]
  show ∃ W'', fin W.length x W' = some (x, W'')
  unfold fin
  split
  · exact ⟨_, rfl⟩
  · split
    · exact ⟨_, rfl⟩
    · exact ⟨_, rfl⟩
theorem law_true (ns : List Int) (hn : ns.length ≤ 63) : ∃ W', f_law [.scr ns] [] = some (.bl true, W') := by
  obtain ⟨m, hm⟩ : ∃ m : Int, (if (ns.length : Int) < 2 then (ns.length : Int) else 2) = m := ⟨_, rfl⟩
  have m0 : 0 ≤ m ∧ m ≤ 2 := by rw [← hm]; split <;> omega
  have rg : rngOk (1 + m) = true := by
    unfold rngOk
    have : (2 : Int) ^ 62 = 4611686018427387904 := by decide
    exact decide_eq_true ⟨by omega, by omega⟩
  have big : 600000 < sizeLine := by rw [sizeLine_eq]; decide
  have up : upFrom 0 (1 + m).toNat = (List.range (1 + m).toNat).map fun k => DV.int (k : Nat) := by
    unfold upFrom
    simp
  obtain ⟨W', e⟩ := law_loop ns (List.range (1 + m).toNat) [] [] (fun k hk => by
    have := List.mem_range.mp hk
    omega) (fun c m => by cases m) (by simp; omega)
  rw [← up] at e
  have km : ∀ W, kMin2 [.int 2, .int (ns.length : Int)] W = some (.int m, W) := fun W => by
    simp [kMin2, hm]
  have kl : ∀ W, kLen [.scr ns] W = some (.int (ns.length : Int), W) := fun W => by simp [kLen, itemsOf]
  have kb : ∀ (n : Nat) (W : Wd), kAll [.lst ((List.range n).map fun _ => DV.bl true)] W = some (.bl true, W) := fun n W => by
    have this := kAll_map (fun _ => true) (List.range n) W
    rw [List.all_eq_true.mpr (fun _ _ => rfl)] at this
    exact this
  simp only [List.nil_append] at e
  have b : b_law 0 [some (.scr ns), none] [] = some (.rt (.bl true), W') := by
    simp [b_law, kl, km, rg, wipeD, e, kb, -r_cLoop]
  exact runF_any b
end K26
end L2

set_option maxRecDepth 100000
/-! k26: the walk (printed by gen.py). -/
namespace L2
namespace K26
open PySem PySem.Spec PyProof.Rows DL
def top (i : Nat) : Stmt := PySem.Challenge.pw_neverfull_k26_events_as_texts.main.body.getD i (.Pass ⟨0, 0, 0, 0⟩)
abbrev s_is_number : Stmt := top 7
abbrev s_is_name : Stmt := top 8
abbrev s_is_part : Stmt := top 15
abbrev s_is_event : Stmt := top 16
abbrev s_event_text : Stmt := top 17
abbrev s_number_in : Stmt := top 18
abbrev s_part_in : Stmt := top 19
abbrev s_event_of : Stmt := top 20
abbrev s_event_in : Stmt := top 21
abbrev s_events_text : Stmt := top 22
abbrev s_events_in : Stmt := top 23
abbrev s__law_take : Stmt := top 25
abbrev s__law_of : Stmt := top 26
abbrev s__law_same : Stmt := top 27
abbrev s__law_mixed : Stmt := top 28
abbrev s__law_cell_at : Stmt := top 29
abbrev s__law_box : Stmt := top 30
abbrev s__law_forms : Stmt := top 31
abbrev s__law_deed : Stmt := top 32
abbrev s__law_is_word : Stmt := top 33
abbrev s__law_part : Stmt := top 34
abbrev s__law_own_reader : Stmt := top 35
abbrev s__law_heard : Stmt := top 36
abbrev s__law_due : Stmt := top 37
abbrev s__law_spoilt : Stmt := top 38
abbrev s__law_things_right : Stmt := top 39
abbrev s__law_right : Stmt := top 40
abbrev s_law : Stmt := top 41
def ini (i : Nat) : Stmt := match top i with
  | .ClassDef _ _ _ b .. => b.headD (.Pass ⟨0, 0, 0, 0⟩)
  | st => st
abbrev i_Known : Stmt := ini 1
abbrev nf_Known (ad : Nat → Addr) : NdefX.NF := { name := "__init__", qual := "Known.__init__", params := defArgs i_Known, body := defBody i_Known, scope := defScope i_Known, cl := [("__class__", ad 2001)], c := ad 3001 }
abbrev i_BadText : Stmt := ini 2
abbrev nf_BadText (ad : Nat → Addr) : NdefX.NF := { name := "__init__", qual := "BadText.__init__", params := defArgs i_BadText, body := defBody i_BadText, scope := defScope i_BadText, cl := [("__class__", ad 2002)], c := ad 3002 }
abbrev i_BadLine : Stmt := ini 3
abbrev nf_BadLine (ad : Nat → Addr) : NdefX.NF := { name := "__init__", qual := "BadLine.__init__", params := defArgs i_BadLine, body := defBody i_BadLine, scope := defScope i_BadLine, cl := [("__class__", ad 2003)], c := ad 3003 }
/-- what the top has written -/
structure Txt (P : Program) (w : PySem.World) (K : PySem.W.Frag) (mg : Str → Option Value) (ad : Nat → Addr) (fd : Nat → FuncData) (tk : Nat → Tok) : Prop where
  xg_Known : mg "Known" = some (.ref (ad 1))
  xc_Known : XC K "Known" (ad 1) "ValueError" "ValueError.__new__" "ValueError.__init__" ((xBases "Known").map Value.type)
  xi_Known : XI P K (ad 1) (ad 1001) (nf_Known ad) "ValueError.__init__" (fd 1001)
  xe_Known : ExcC K (ad 1)
  xn_Known_name : PySem.W.findIn K (.ref (ad 1)) "name" = some none
  xg_BadText : mg "BadText" = some (.ref (ad 2))
  xc_BadText : XC K "BadText" (ad 2) "ValueError" "ValueError.__new__" "ValueError.__init__" ((xBases "BadText").map Value.type)
  xi_BadText : XI P K (ad 2) (ad 1002) (nf_BadText ad) "ValueError.__init__" (fd 1002)
  xe_BadText : ExcC K (ad 2)
  xg_BadLine : mg "BadLine" = some (.ref (ad 3))
  xc_BadLine : XC K "BadLine" (ad 3) "ValueError" "ValueError.__new__" "ValueError.__init__" ((xBases "BadLine").map Value.type)
  xi_BadLine : XI P K (ad 3) (ad 1003) (nf_BadLine ad) "ValueError.__init__" (fd 1003)
  xe_BadLine : ExcC K (ad 3)
  xn_BadLine_number : PySem.W.findIn K (.ref (ad 3)) "number" = some none
  g_is_number : mg "is_number" = some (.ref (ad 7))
  F_is_number : Fun K "is_number" "is_number" s_is_number (ad 7) (fd 7)
  g_is_name : mg "is_name" = some (.ref (ad 8))
  F_is_name : Fun K "is_name" "is_name" s_is_name (ad 8) (fd 8)
  g_is_part : mg "is_part" = some (.ref (ad 15))
  F_is_part : Fun K "is_part" "is_part" s_is_part (ad 15) (fd 15)
  g_is_event : mg "is_event" = some (.ref (ad 16))
  F_is_event : Fun K "is_event" "is_event" s_is_event (ad 16) (fd 16)
  g_event_text : mg "event_text" = some (.ref (ad 17))
  F_event_text : Fun K "event_text" "event_text" s_event_text (ad 17) (fd 17)
  g_number_in : mg "number_in" = some (.ref (ad 18))
  F_number_in : Fun K "number_in" "number_in" s_number_in (ad 18) (fd 18)
  g_part_in : mg "part_in" = some (.ref (ad 19))
  F_part_in : Fun K "part_in" "part_in" s_part_in (ad 19) (fd 19)
  g_event_of : mg "event_of" = some (.ref (ad 20))
  F_event_of : Fun K "event_of" "event_of" s_event_of (ad 20) (fd 20)
  g_event_in : mg "event_in" = some (.ref (ad 21))
  F_event_in : Fun K "event_in" "event_in" s_event_in (ad 21) (fd 21)
  g_events_text : mg "events_text" = some (.ref (ad 22))
  F_events_text : Fun K "events_text" "events_text" s_events_text (ad 22) (fd 22)
  g_events_in : mg "events_in" = some (.ref (ad 23))
  F_events_in : Fun K "events_in" "events_in" s_events_in (ad 23) (fd 23)
  g__law_take : mg "_law_take" = some (.ref (ad 25))
  F__law_take : Fun K "_law_take" "_law_take" s__law_take (ad 25) (fd 25)
  g__law_of : mg "_law_of" = some (.ref (ad 26))
  F__law_of : Fun K "_law_of" "_law_of" s__law_of (ad 26) (fd 26)
  g__law_same : mg "_law_same" = some (.ref (ad 27))
  F__law_same : Fun K "_law_same" "_law_same" s__law_same (ad 27) (fd 27)
  g__law_mixed : mg "_law_mixed" = some (.ref (ad 28))
  F__law_mixed : Fun K "_law_mixed" "_law_mixed" s__law_mixed (ad 28) (fd 28)
  g__law_cell_at : mg "_law_cell_at" = some (.ref (ad 29))
  F__law_cell_at : Fun K "_law_cell_at" "_law_cell_at" s__law_cell_at (ad 29) (fd 29)
  g__law_box : mg "_law_box" = some (.ref (ad 30))
  F__law_box : Fun K "_law_box" "_law_box" s__law_box (ad 30) (fd 30)
  g__law_forms : mg "_law_forms" = some (.ref (ad 31))
  F__law_forms : Fun K "_law_forms" "_law_forms" s__law_forms (ad 31) (fd 31)
  g__law_deed : mg "_law_deed" = some (.ref (ad 32))
  F__law_deed : Fun K "_law_deed" "_law_deed" s__law_deed (ad 32) (fd 32)
  g__law_is_word : mg "_law_is_word" = some (.ref (ad 33))
  F__law_is_word : Fun K "_law_is_word" "_law_is_word" s__law_is_word (ad 33) (fd 33)
  g__law_part : mg "_law_part" = some (.ref (ad 34))
  F__law_part : Fun K "_law_part" "_law_part" s__law_part (ad 34) (fd 34)
  g__law_own_reader : mg "_law_own_reader" = some (.ref (ad 35))
  F__law_own_reader : Fun K "_law_own_reader" "_law_own_reader" s__law_own_reader (ad 35) (fd 35)
  g__law_heard : mg "_law_heard" = some (.ref (ad 36))
  F__law_heard : Fun K "_law_heard" "_law_heard" s__law_heard (ad 36) (fd 36)
  g__law_due : mg "_law_due" = some (.ref (ad 37))
  F__law_due : Fun K "_law_due" "_law_due" s__law_due (ad 37) (fd 37)
  g__law_spoilt : mg "_law_spoilt" = some (.ref (ad 38))
  F__law_spoilt : Fun K "_law_spoilt" "_law_spoilt" s__law_spoilt (ad 38) (fd 38)
  g__law_things_right : mg "_law_things_right" = some (.ref (ad 39))
  F__law_things_right : Fun K "_law_things_right" "_law_things_right" s__law_things_right (ad 39) (fd 39)
  g__law_right : mg "_law_right" = some (.ref (ad 40))
  F__law_right : Fun K "_law_right" "_law_right" s__law_right (ad 40) (fd 40)
  g_law : mg "law" = some (.ref (ad 41))
  F_law : Fun K "law" "law" s_law (ad 41) (fd 41)
  g_LETTERS : mg "LETTERS" = some (.str "abcdefghijklmnopqrstuvwxyz" (tk 5))
  r_LETTERS : RelV (.str "abcdefghijklmnopqrstuvwxyz") (.str "abcdefghijklmnopqrstuvwxyz" (tk 5))
  c_LETTERS : ∀ r H, Rv K r H (.str "abcdefghijklmnopqrstuvwxyz") (.str "abcdefghijklmnopqrstuvwxyz")
  g_MOST_LETTERS : mg "MOST_LETTERS" = some (.int 8 (tk 6))
  r_MOST_LETTERS : RelV (.int 8) (.int 8 (tk 6))
  c_MOST_LETTERS : ∀ r H, Rv K r H (.int 8) (.int 8)
  g_NAME : mg "NAME" = some (.str "n" (tk 10))
  r_NAME : RelV (.str "n") (.str "n" (tk 10))
  c_NAME : ∀ r H, Rv K r H (.str "n") (.str "n")
  g_BLOCK : mg "BLOCK" = some (.str "b" (tk 11))
  r_BLOCK : RelV (.str "b") (.str "b" (tk 11))
  c_BLOCK : ∀ r H, Rv K r H (.str "b") (.str "b")
  g_FORMS : mg "FORMS" = some (.ref (ad 12))
  kd_FORMS : GD K w "FORMS" kd_FORMS (ad 12)
  g_FIGURES : mg "FIGURES" = some (.str "0123456789" (tk 13))
  r_FIGURES : RelV (.str "0123456789") (.str "0123456789" (tk 13))
  c_FIGURES : ∀ r H, Rv K r H (.str "0123456789") (.str "0123456789")
  g_MOST_FIGURES : mg "MOST_FIGURES" = some (.int 6 (tk 14))
  r_MOST_FIGURES : RelV (.int 6) (.int 6 (tk 14))
  c_MOST_FIGURES : ∀ r H, Rv K r H (.int 6) (.int 6)
  n_ValueError : mg "ValueError" = none
  n_abs : mg "abs" = none
  n_all : mg "all" = none
  n_bool : mg "bool" = none
  n_enumerate : mg "enumerate" = none
  n_int : mg "int" = none
  n_isinstance : mg "isinstance" = none
  n_len : mg "len" = none
  n_list : mg "list" = none
  n_min : mg "min" = none
  n_range : mg "range" = none
  n_str : mg "str" = none
  n_super : mg "super" = none
  n_tuple : mg "tuple" = none
  n_zip : mg "zip" = none
section
variable {P : Program} {w : PySem.World} {K : PySem.W.Frag} {mg : Str → Option Value} {base : Heap} {ad : Nat → Addr} {fd : Nat → FuncData} {tk : Nat → Tok}
set_option maxHeartbeats 4000000 in
theorem in_Known (T : Txt P w K mg ad fd tk) : IniOk P w K mg base 1 (ad 1) (ad 1001) (fd 1001) ["name"] as_Known :=
  ini_ok (k := 0) T.xc_Known T.xi_Known (NdefX.nscope_by (show NdefX.nscB (nmI ["name"]) (psI ["name"]) ["__class__"] (defScope i_Known) = true by decide +kernel)) rfl rfl rfl rfl T.n_super (fun A out s H E => (da_cons (de_add de_str (dv 1)) da_nil))
    (fun A out s H E => (pss_one (ps_st (pe_var (i := 0) rfl (Or.inl rfl)) (pe_var (i := 1) rfl (Or.inl rfl))))) (fun L => rfl) (fun L => rfl) (fun L => rfl) (fun L => rfl) (tl1 T.xc_Known T.xn_Known_name)
theorem bx_Known (T : Txt P w K mg ad fd tk) : BindsI K (fd 1001) ["name"] := by
  obtain ⟨_, _, _, doc, pm, ct, e, _⟩ := T.xi_Known.fn
  intro s a us _ hl
  rw [e]
  match us, hl with
  | [_], _ => exact .of_eq rfl
set_option maxHeartbeats 4000000 in
theorem in_BadText (T : Txt P w K mg ad fd tk) : IniOk P w K mg base 1 (ad 2) (ad 1002) (fd 1002) [] as_BadText :=
  ini_ok (k := 0) T.xc_BadText T.xi_BadText (NdefX.nscope_by (show NdefX.nscB (nmI []) (psI []) ["__class__"] (defScope i_BadText) = true by decide +kernel)) rfl rfl rfl rfl T.n_super (fun A out s H E => (da_cons de_str da_nil))
    (fun A out s H E => pss_nil) (fun L => rfl) (fun L => rfl) (fun L => rfl) (fun L => rfl) tl0
theorem bx_BadText (T : Txt P w K mg ad fd tk) : BindsI K (fd 1002) [] := by
  obtain ⟨_, _, _, doc, pm, ct, e, _⟩ := T.xi_BadText.fn
  intro s a us _ hl
  rw [e]
  match us, hl with
  | [], _ => exact .of_eq rfl
set_option maxHeartbeats 4000000 in
theorem in_BadLine (T : Txt P w K mg ad fd tk) : IniOk P w K mg base 1 (ad 3) (ad 1003) (fd 1003) ["number"] as_BadLine :=
  ini_ok (k := 0) T.xc_BadLine T.xi_BadLine (NdefX.nscope_by (show NdefX.nscB (nmI ["number"]) (psI ["number"]) ["__class__"] (defScope i_BadLine) = true by decide +kernel)) rfl rfl rfl rfl T.n_super (fun A out s H E => (da_cons (de_add de_str (de_t b_strS (by rfl) T.n_str (da_cons (dv 1) da_nil))) da_nil))
    (fun A out s H E => (pss_one (ps_st (pe_var (i := 0) rfl (Or.inl rfl)) (pe_var (i := 1) rfl (Or.inl rfl))))) (fun L => rfl) (fun L => rfl) (fun L => rfl) (fun L => rfl) (tl1 T.xc_BadLine T.xn_BadLine_number)
theorem bx_BadLine (T : Txt P w K mg ad fd tk) : BindsI K (fd 1003) ["number"] := by
  obtain ⟨_, _, _, doc, pm, ct, e, _⟩ := T.xi_BadLine.fn
  intro s a us _ hl
  rw [e]
  match us, hl with
  | [_], _ => exact .of_eq rfl
theorem xt (T : Txt P w K mg ad fd tk) : XTab K nms := by
  intro nm hn
  simp only [nms, List.mem_cons, List.not_mem_nil, or_false] at hn
  rcases hn with rfl | rfl | rfl
  · exact ⟨_, _, _, _, T.xc_Known, T.xe_Known, fun f hf => (by obtain rfl := List.mem_singleton.mp hf; exact T.xn_Known_name)⟩
  · exact ⟨_, _, _, _, T.xc_BadText, T.xe_BadText, fun f hf => (by cases hf)⟩
  · exact ⟨_, _, _, _, T.xc_BadLine, T.xe_BadLine, fun f hf => (by obtain rfl := List.mem_singleton.mp hf; exact T.xn_BadLine_number)⟩
abbrev N_is_number : List Str := ["thing"]
theorem sc_is_number : FnScope N_is_number ["thing"] (defScope s_is_number) := ⟨rfl, rfl, rfl, by decide +kernel, rfl, by decide +kernel, by decide +kernel⟩
theorem bi_is_number (T : Txt P w K mg ad fd tk) : Binds K (fd 7) ["thing"] [] := T.F_is_number.binds (ps := ["thing"]) fun _ _ _ _ _ _ us hl => match us, hl with | [_], _ => rfl
set_option maxHeartbeats 4000000 in
theorem ok_is_number (T : Txt P w K mg ad fd tk) : FnG P w K mg base CX0 1 (ad 7) (fd 7) ["thing"] (spD K 1 f_is_number) := by
  refine fnD (k := 0) T.F_is_number sc_is_number fun cdv A out s H E hr => ?_
  exact (dss_one (ds_ret (de_and (de_b (b_isx (xt T)) (by rfl) T.n_isinstance (da_cons (dv 0) (da_cons (de_ty (by rfl) T.n_int (by decide +kernel)) da_nil))) (de_one (de_not (de_b (b_isx (xt T)) (by rfl) T.n_isinstance (da_cons (dv 0) (da_cons (de_ty (by rfl) T.n_bool (by decide +kernel)) da_nil))))))))
abbrev N_is_name : List Str := ["thing", "letter"]
theorem sc_is_name : FnScope N_is_name ["thing"] (defScope s_is_name) := ⟨rfl, rfl, rfl, by decide +kernel, rfl, by decide +kernel, by decide +kernel⟩
theorem bi_is_name (T : Txt P w K mg ad fd tk) : Binds K (fd 8) ["thing"] [] := T.F_is_name.binds (ps := ["thing"]) fun _ _ _ _ _ _ us hl => match us, hl with | [_], _ => rfl
set_option maxHeartbeats 4000000 in
theorem ok_is_name (T : Txt P w K mg ad fd tk) : FnG P w K mg base CX0 1 (ad 8) (fd 8) ["thing"] (spD K 1 f_is_name) := by
  refine fnD (k := 0) T.F_is_name sc_is_name fun cdv A out s H E hr => ?_
  exact (dss_cons (ds_if (PW.pt (dw_or (dt_not (dt_val (de_b (b_isx (xt T)) (by rfl) T.n_isinstance (da_cons (dv 0) (da_cons (de_ty (by rfl) T.n_str (by decide +kernel)) da_nil))))) (dw_or1 (dt_not (dt_ch c_le c_le de_int (de_b b_len (by rfl) T.n_len (da_cons (dv 0) da_nil)) (de_glob (by rfl) T.g_MOST_LETTERS T.r_MOST_LETTERS T.c_MOST_LETTERS)))))) (dss_one (ds_ret de_bl)) dss_nil) (dss_one (ds_ret (de_b b_all (by rfl) T.n_all (da_cons (de_comp (own := [("letter", 1)]) rfl sc_is_name.nd  (di_any (dv 0)) (blkOk_by (own := [("letter", 1)]) (N := N_is_name) (sc := defScope s_is_name) (by decide +kernel)) (fun _ _ _ _ _ => (dg_name (i := 1) sc_is_name.nd rfl (by first | exact Or.inl rfl | exact Or.inr rfl))) (fun _ _ _ _ _ => dts_nil) (fun _ _ _ _ _ => (de_c c_in (dv 1) (de_glob (by rfl) T.g_LETTERS T.r_LETTERS T.c_LETTERS)))) da_nil)))))
abbrev N_is_part : List Str := ["sort", "thing"]
theorem sc_is_part : FnScope N_is_part ["sort", "thing"] (defScope s_is_part) := ⟨rfl, rfl, rfl, by decide +kernel, rfl, by decide +kernel, by decide +kernel⟩
theorem bi_is_part (T : Txt P w K mg ad fd tk) : Binds K (fd 15) ["sort", "thing"] [] := T.F_is_part.binds (ps := ["sort", "thing"]) fun _ _ _ _ _ _ us hl => match us, hl with | [_, _], _ => rfl
set_option maxHeartbeats 4000000 in
theorem ok_is_part (T : Txt P w K mg ad fd tk) : FnG P w K mg base CX0 2 (ad 15) (fd 15) ["sort", "thing"] (spD K 2 f_is_part) := by
  refine fnD (k := 1) T.F_is_part sc_is_part fun cdv A out s H E hr => ?_
  exact (dss_one (ds_ret (de_if (dt_c (c_eq hr) (dv 0) (de_glob (by rfl) T.g_NAME T.r_NAME T.c_NAME)) (de_call (ok_is_name T) (hr.le (by decide)) (by rfl) T.g_is_name T.F_is_name.kp (bi_is_name T) (da_cons (dv 1) da_nil)) (de_and (de_call (ok_is_number T) (hr.le (by decide)) (by rfl) T.g_is_number T.F_is_number.kp (bi_is_number T) (da_cons (dv 1) da_nil)) (de_one (de_c c_ge (dv 1) de_int))))))
abbrev N_is_event : List Str := ["thing", "sorts", "sort", "part"]
theorem sc_is_event : FnScope N_is_event ["thing"] (defScope s_is_event) := ⟨rfl, rfl, rfl, by decide +kernel, rfl, by decide +kernel, by decide +kernel⟩
theorem bi_is_event (T : Txt P w K mg ad fd tk) : Binds K (fd 16) ["thing"] [] := T.F_is_event.binds (ps := ["thing"]) fun _ _ _ _ _ _ us hl => match us, hl with | [_], _ => rfl
theorem kw_is_event_thing (T : Txt P w K mg ad fd tk) : KwOk K (fd 16) ["thing"] ["thing"] [0] := Fun.kw T.F_is_event fun _ _ _ _ _ _ ws hl => match ws, hl with | [_], _ => rfl
set_option maxHeartbeats 4000000 in
theorem ok_is_event (T : Txt P w K mg ad fd tk) : FnG P w K mg base CX0 3 (ad 16) (fd 16) ["thing"] (spD K 1 f_is_event) := by
  refine fnD (k := 2) T.F_is_event sc_is_event fun cdv A out s H E hr => ?_
  exact (dss_cons (ds_if (PW.pt (dw_or (dt_not (dt_val (de_b (b_isx (xt T)) (by rfl) T.n_isinstance (da_cons (dv 0) (da_cons (de_ty (by rfl) T.n_tuple (by decide +kernel)) da_nil))))) (dw_or (dt_c (c_eq hr) (de_b b_len (by rfl) T.n_len (da_cons (dv 0) da_nil)) de_int) (dw_or (dt_not (dt_val (de_b (b_isx (xt T)) (by rfl) T.n_isinstance (da_cons (de_at (dv 0) de_int) (da_cons (de_ty (by rfl) T.n_str (by decide +kernel)) da_nil))))) (dw_or1 (dt_c (c_gnotin T.kd_FORMS) (de_at (dv 0) de_int) (de_gl (by rfl) T.g_FORMS T.kd_FORMS.gl))))))) (dss_one (ds_ret de_bl)) dss_nil) (dss_cons (ds_set (i := 1) sc_is_event.nd rfl (by first | exact Or.inl rfl | exact Or.inr rfl) (de_gix T.kd_FORMS (de_gl (by rfl) T.g_FORMS T.kd_FORMS.gl) (de_at (dv 0) de_int))) (dss_one (ds_ret (de_and (de_c (c_eq hr) (de_b b_len (by rfl) T.n_len (da_cons (dv 0) da_nil)) (de_add (de_b b_len (by rfl) T.n_len (da_cons (dv 1) da_nil)) de_int)) (de_one (de_b b_all (by rfl) T.n_all (da_cons (de_comp (own := [("sort", 2), ("part", 3)]) rfl sc_is_event.nd  (di_zipG (by rfl) T.n_zip (da_cons (dv 1) (da_cons (de_slice (dv 0) (do_some de_int) do_none) da_nil))) (blkOk_by (own := [("sort", 2), ("part", 3)]) (N := N_is_event) (sc := defScope s_is_event) (by decide +kernel)) (fun _ _ _ _ _ => (dg_seq rfl (dgs_cons (dg_name (i := 2) sc_is_event.nd rfl (by first | exact Or.inl rfl | exact Or.inr rfl)) (dgs_cons (dg_name (i := 3) sc_is_event.nd rfl (by first | exact Or.inl rfl | exact Or.inr rfl)) dgs_nil)))) (fun _ _ _ _ _ => dts_nil) (fun _ _ _ _ _ => (de_call (ok_is_part T) (hr.le (by decide)) (by rfl) T.g_is_part T.F_is_part.kp (bi_is_part T) (da_cons (dv 2) (da_cons (dv 3) da_nil))))) da_nil))))))))
abbrev N_event_text : List Str := ["event", "part"]
theorem sc_event_text : FnScope N_event_text ["event"] (defScope s_event_text) := ⟨rfl, rfl, rfl, by decide +kernel, rfl, by decide +kernel, by decide +kernel⟩
theorem bi_event_text (T : Txt P w K mg ad fd tk) : Binds K (fd 17) ["event"] [] := T.F_event_text.binds (ps := ["event"]) fun _ _ _ _ _ _ us hl => match us, hl with | [_], _ => rfl
theorem kw_event_text_event (T : Txt P w K mg ad fd tk) : KwOk K (fd 17) ["event"] ["event"] [0] := Fun.kw T.F_event_text fun _ _ _ _ _ _ ws hl => match ws, hl with | [_], _ => rfl
set_option maxHeartbeats 4000000 in
theorem ok_event_text (T : Txt P w K mg ad fd tk) : FnG P w K mg base CX0 1 (ad 17) (fd 17) ["event"] (spD K 1 f_event_text) := by
  refine fnD (k := 0) T.F_event_text sc_event_text fun cdv A out s H E hr => ?_
  exact (dss_one (ds_ret (de_join de_str (de_comp (own := [("part", 1)]) rfl sc_event_text.nd  (di_any (dv 0)) (blkOk_by (own := [("part", 1)]) (N := N_event_text) (sc := defScope s_event_text) (by decide +kernel)) (fun _ _ _ _ _ => (dg_name (i := 1) sc_event_text.nd rfl (by first | exact Or.inl rfl | exact Or.inr rfl))) (fun _ _ _ _ _ => dts_nil) (fun _ _ _ _ _ => (de_t b_strS (by rfl) T.n_str (da_cons (dv 1) da_nil)))))))
abbrev N_number_in : List Str := ["word", "sign"]
theorem sc_number_in : FnScope N_number_in ["word"] (defScope s_number_in) := ⟨rfl, rfl, rfl, by decide +kernel, rfl, by decide +kernel, by decide +kernel⟩
theorem bi_number_in (T : Txt P w K mg ad fd tk) : Binds K (fd 18) ["word"] [] := T.F_number_in.binds (ps := ["word"]) fun _ _ _ _ _ _ us hl => match us, hl with | [_], _ => rfl
set_option maxHeartbeats 4000000 in
theorem ok_number_in (T : Txt P w K mg ad fd tk) : FnG P w K mg base CX0 1 (ad 18) (fd 18) ["word"] (spD K 1 f_number_in) := by
  refine fnD (k := 0) T.F_number_in sc_number_in fun cdv A out s H E hr => ?_
  exact (dss_cons (ds_if (PW.pt (dw_or (dt_not (dt_ch c_le c_le de_int (de_b b_len (by rfl) T.n_len (da_cons (dv 0) da_nil)) (de_glob (by rfl) T.g_MOST_FIGURES T.r_MOST_FIGURES T.c_MOST_FIGURES))) (dw_or1 (dt_not (dt_val (de_b b_all (by rfl) T.n_all (da_cons (de_comp (own := [("sign", 1)]) rfl sc_number_in.nd  (di_any (dv 0)) (blkOk_by (own := [("sign", 1)]) (N := N_number_in) (sc := defScope s_number_in) (by decide +kernel)) (fun _ _ _ _ _ => (dg_name (i := 1) sc_number_in.nd rfl (by first | exact Or.inl rfl | exact Or.inr rfl))) (fun _ _ _ _ _ => dts_nil) (fun _ _ _ _ _ => (de_c c_in (dv 1) (de_glob (by rfl) T.g_FIGURES T.r_FIGURES T.c_FIGURES)))) da_nil))))))) (dss_one (ds_ret de_non)) dss_nil) (dss_one (ds_ret (de_if (PW.pt (dw_or (dt_c (c_eq hr) (dv 0) de_str) (dw_or1 (dt_c (c_ne hr) (de_at (dv 0) de_int) de_str)))) (de_t b_intS (by rfl) T.n_int (da_cons (dv 0) da_nil)) de_non))))
abbrev N_part_in : List Str := ["sort", "word"]
theorem sc_part_in : FnScope N_part_in ["sort", "word"] (defScope s_part_in) := ⟨rfl, rfl, rfl, by decide +kernel, rfl, by decide +kernel, by decide +kernel⟩
theorem bi_part_in (T : Txt P w K mg ad fd tk) : Binds K (fd 19) ["sort", "word"] [] := T.F_part_in.binds (ps := ["sort", "word"]) fun _ _ _ _ _ _ us hl => match us, hl with | [_, _], _ => rfl
set_option maxHeartbeats 4000000 in
theorem ok_part_in (T : Txt P w K mg ad fd tk) : FnG P w K mg base CX0 2 (ad 19) (fd 19) ["sort", "word"] (spD K 2 f_part_in) := by
  refine fnD (k := 1) T.F_part_in sc_part_in fun cdv A out s H E hr => ?_
  exact (dss_cons (ds_if (dt_c (c_eq hr) (dv 0) (de_glob (by rfl) T.g_BLOCK T.r_BLOCK T.c_BLOCK)) (dss_one (ds_ret (de_call (ok_number_in T) (hr.le (by decide)) (by rfl) T.g_number_in T.F_number_in.kp (bi_number_in T) (da_cons (dv 1) da_nil)))) dss_nil) (dss_one (ds_ret (de_if (dt_val (de_call (ok_is_name T) (hr.le (by decide)) (by rfl) T.g_is_name T.F_is_name.kp (bi_is_name T) (da_cons (dv 1) da_nil))) (dv 1) de_non))))
abbrev N_event_of : List Str := ["text", "words", "sorts", "parts", "sort", "word"]
theorem sc_event_of : FnScope N_event_of ["text"] (defScope s_event_of) := ⟨rfl, rfl, rfl, by decide +kernel, rfl, by decide +kernel, by decide +kernel⟩
theorem bi_event_of (T : Txt P w K mg ad fd tk) : Binds K (fd 20) ["text"] [] := T.F_event_of.binds (ps := ["text"]) fun _ _ _ _ _ _ us hl => match us, hl with | [_], _ => rfl
set_option maxHeartbeats 4000000 in
theorem ok_event_of (T : Txt P w K mg ad fd tk) : FnG P w K mg base CX0 3 (ad 20) (fd 20) ["text"] (spD K 1 f_event_of) := by
  refine fnD (k := 2) T.F_event_of sc_event_of fun cdv A out s H E hr => ?_
  exact (dss_cons (ds_set (i := 1) sc_event_of.nd rfl (by first | exact Or.inl rfl | exact Or.inr rfl) (de_split (dv 0) de_str)) (dss_cons (ds_set (i := 2) sc_event_of.nd rfl (by first | exact Or.inl rfl | exact Or.inr rfl) (de_gget T.kd_FORMS (de_gl (by rfl) T.g_FORMS T.kd_FORMS.gl) (de_at (dv 1) de_int))) (dss_cons (ds_if (PW.pt (dw_or (dt_c c_is (dv 2) de_non) (dw_or1 (dt_c (c_ne hr) (de_b b_len (by rfl) T.n_len (da_cons (dv 1) da_nil)) (de_add (de_b b_len (by rfl) T.n_len (da_cons (dv 2) da_nil)) de_int))))) (dss_one (ds_ret de_non)) dss_nil) (dss_cons (ds_setLc (i := 3) (own := [("sort", 4), ("word", 5)]) rfl sc_event_of.nd rfl rfl (sw_true rfl rfl rfl (by decide +kernel)) (di_zipG (by rfl) T.n_zip (da_cons (dv 2) (da_cons (de_slice (dv 1) (do_some de_int) do_none) da_nil))) (blkOk_by (own := [("sort", 4), ("word", 5)]) (N := N_event_of) (sc := defScope s_event_of) (by decide +kernel)) (fun _ _ _ _ _ => (dg_seq rfl (dgs_cons (dg_name (i := 4) sc_event_of.nd rfl (by first | exact Or.inl rfl | exact Or.inr rfl)) (dgs_cons (dg_name (i := 5) sc_event_of.nd rfl (by first | exact Or.inl rfl | exact Or.inr rfl)) dgs_nil)))) (fun _ _ _ _ _ => dts_nil) (fun _ _ _ _ _ => (de_call (ok_part_in T) (hr.le (by decide)) (by rfl) T.g_part_in T.F_part_in.kp (bi_part_in T) (da_cons (dv 4) (da_cons (dv 5) da_nil))))) (dss_one (ds_ret (de_if (dt_c c_in de_non (dv 3)) de_non (de_tup (da_cons (de_at (dv 1) de_int) (da_star (dv 3) da_nil))))))))))
abbrev N_event_in : List Str := ["text", "found"]
theorem sc_event_in : FnScope N_event_in ["text"] (defScope s_event_in) := ⟨rfl, rfl, rfl, by decide +kernel, rfl, by decide +kernel, by decide +kernel⟩
theorem bi_event_in (T : Txt P w K mg ad fd tk) : Binds K (fd 21) ["text"] [] := T.F_event_in.binds (ps := ["text"]) fun _ _ _ _ _ _ us hl => match us, hl with | [_], _ => rfl
theorem kw_event_in_text (T : Txt P w K mg ad fd tk) : KwOk K (fd 21) ["text"] ["text"] [0] := Fun.kw T.F_event_in fun _ _ _ _ _ _ ws hl => match ws, hl with | [_], _ => rfl
set_option maxHeartbeats 4000000 in
theorem okx_event_in (T : Txt P w K mg ad fd tk) : FnG P w K mg base (CX P w) 4 (ad 21) (fd 21) ["text"] (spX K 1 fx_event_in) := by
  refine fnX (k := 3) T.F_event_in sc_event_in fun cdv A out s H E hr tk po => ?_
  exact (dxs_cons (dx_up (ds_set (i := 1) sc_event_in.nd rfl (by first | exact Or.inl rfl | exact Or.inr rfl) (de_call (ok_event_of T) (hr.le (by decide)) (by rfl) T.g_event_of T.F_event_of.kp (bi_event_of T) (da_cons (dv 0) da_nil)))) (dxs_cons (dx_if (dt_c c_is (dv 1) de_non) (dxs_one (dx_raise0 rfl tk T.xc_BadText T.xi_BadText T.xe_BadText (in_BadText T) (hr.le (by decide)).1 (by rfl) T.xg_BadText (bx_BadText T))) dxs_nil) (dxs_one (dx_up (ds_ret (dv 1))))))
abbrev N_events_text : List Str := ["events", "event"]
theorem sc_events_text : FnScope N_events_text ["events"] (defScope s_events_text) := ⟨rfl, rfl, rfl, by decide +kernel, rfl, by decide +kernel, by decide +kernel⟩
theorem bi_events_text (T : Txt P w K mg ad fd tk) : Binds K (fd 22) ["events"] [] := T.F_events_text.binds (ps := ["events"]) fun _ _ _ _ _ _ us hl => match us, hl with | [_], _ => rfl
theorem kw_events_text_events (T : Txt P w K mg ad fd tk) : KwOk K (fd 22) ["events"] ["events"] [0] := Fun.kw T.F_events_text fun _ _ _ _ _ _ ws hl => match ws, hl with | [_], _ => rfl
set_option maxHeartbeats 4000000 in
theorem ok_events_text (T : Txt P w K mg ad fd tk) : FnG P w K mg base CX0 2 (ad 22) (fd 22) ["events"] (spD K 1 f_events_text) := by
  refine fnD (k := 1) T.F_events_text sc_events_text fun cdv A out s H E hr => ?_
  exact (dss_one (ds_ret (de_join de_str (de_comp (own := [("event", 1)]) rfl sc_events_text.nd  (di_any (dv 0)) (blkOk_by (own := [("event", 1)]) (N := N_events_text) (sc := defScope s_events_text) (by decide +kernel)) (fun _ _ _ _ _ => (dg_name (i := 1) sc_events_text.nd rfl (by first | exact Or.inl rfl | exact Or.inr rfl))) (fun _ _ _ _ _ => dts_nil) (fun _ _ _ _ _ => (de_call (ok_event_text T) (hr.le (by decide)) (by rfl) T.g_event_text T.F_event_text.kp (bi_event_text T) (da_cons (dv 1) da_nil)))))))
abbrev N_events_in : List Str := ["text", "found", "number", "line", "event"]
theorem sc_events_in : FnScope N_events_in ["text"] (defScope s_events_in) := ⟨rfl, rfl, rfl, by decide +kernel, rfl, by decide +kernel, by decide +kernel⟩
theorem bi_events_in (T : Txt P w K mg ad fd tk) : Binds K (fd 23) ["text"] [] := T.F_events_in.binds (ps := ["text"]) fun _ _ _ _ _ _ us hl => match us, hl with | [_], _ => rfl
theorem kw_events_in_text (T : Txt P w K mg ad fd tk) : KwOk K (fd 23) ["text"] ["text"] [0] := Fun.kw T.F_events_in fun _ _ _ _ _ _ ws hl => match ws, hl with | [_], _ => rfl
set_option maxHeartbeats 4000000 in
theorem okx_events_in (T : Txt P w K mg ad fd tk) : FnG P w K mg base (CX P w) 4 (ad 23) (fd 23) ["text"] (spX K 1 fx_events_in) := by
  refine fnX (k := 3) T.F_events_in sc_events_in fun cdv A out s H E hr tk po => ?_
  exact (dxs_cons (dx_up (ds_set (i := 1) sc_events_in.nd rfl (by first | exact Or.inl rfl | exact Or.inr rfl) (de_new da_nil))) (dxs_cons (dx_for (ss := [2, 3]) po rfl (di_enum (by rfl) T.n_enumerate (da_cons (de_if (dt_c (c_ne hr) (dv 0) de_str) (de_split (dv 0) de_str) (de_lst da_nil)) da_nil)) (dg_seq rfl (dgs_cons (dg_name (i := 2) sc_events_in.nd rfl (by first | exact Or.inl rfl | exact Or.inr rfl)) (dgs_cons (dg_name (i := 3) sc_events_in.nd rfl (by first | exact Or.inl rfl | exact Or.inr rfl)) dgs_nil))) (dxs_cons (dx_up (ds_set (i := 4) sc_events_in.nd rfl (by first | exact Or.inl rfl | exact Or.inr rfl) (de_call (ok_event_of T) (hr.le (by decide)) (by rfl) T.g_event_of T.F_event_of.kp (bi_event_of T) (da_cons (dv 3) da_nil)))) (dxs_cons (dx_if (dt_c c_is (dv 4) de_non) (dxs_one (dx_raise rfl tk T.xc_BadLine T.xi_BadLine T.xe_BadLine (in_BadLine T) (hr.le (by decide)).1 (by rfl) T.xg_BadLine (bx_BadLine T) (da_cons (dv 2) da_nil))) dxs_nil) (dxs_one (dx_up (ds_expr (de_append (dv 1) (dv 4)))))))) (dxs_frz (i := 1) (dxs_one (dx_up (ds_ret (dv 1)))))))
abbrev N__law_take : List Str := ["_law_box_here", "_law_below_so", "_law_drawn", "_law_once_so", "_law_far_so", "_law_twice"]
theorem sc__law_take : FnScope N__law_take ["_law_box_here", "_law_below_so"] (defScope s__law_take) := ⟨rfl, rfl, rfl, by decide +kernel, rfl, by decide +kernel, by decide +kernel⟩
theorem bi__law_take (T : Txt P w K mg ad fd tk) : Binds K (fd 25) ["_law_box_here", "_law_below_so"] [] := T.F__law_take.binds (ps := ["_law_box_here", "_law_below_so"]) fun _ _ _ _ _ _ us hl => match us, hl with | [_, _], _ => rfl
set_option maxHeartbeats 4000000 in
theorem ok__law_take (T : Txt P w K mg ad fd tk) : FnG P w K mg base CX0 1 (ad 25) (fd 25) ["_law_box_here", "_law_below_so"] (spD K 2 f__law_take) := by
  refine fnD (k := 0) T.F__law_take sc__law_take fun cdv A out s H E hr => ?_
  exact (dss_cons (ds_if (dt_c c_gt (de_at (dv 0) de_int) de_int) (dss_cons (ds_set (i := 2) sc__law_take.nd rfl (by first | exact Or.inl rfl | exact Or.inr rfl) (de_mod (de_t b_intS (by rfl) T.n_int (da_cons (de_at (dv 0) de_int) da_nil)) (dv 1))) (dss_cons (ds_asg (ss := [0]) (de_div (de_at (dv 0) de_int) (dv 1)) (dg_set (dv 0) de_int)) (dss_one (ds_ret (dv 2))))) dss_nil) (dss_cons (ds_asg (ss := [0]) (de_add (de_at (dv 0) de_int) de_int) (dg_set (dv 0) de_int)) (dss_cons (ds_set (i := 3) sc__law_take.nd rfl (by first | exact Or.inl rfl | exact Or.inr rfl) (de_mod (de_t b_intS (by rfl) T.n_int (da_cons (de_mul (de_add (de_at (dv 0) de_int) (de_mul de_int (de_at (dv 0) de_int))) (de_add de_int (de_at (dv 0) de_int))) da_nil)) de_int)) (dss_cons (ds_set (i := 4) sc__law_take.nd rfl (by first | exact Or.inl rfl | exact Or.inr rfl) (de_add (de_mod (de_t b_intS (by rfl) T.n_int (da_cons (dv 3) da_nil)) de_int) de_int)) (dss_cons (ds_set (i := 5) sc__law_take.nd rfl (by first | exact Or.inl rfl | exact Or.inr rfl) (de_mod (de_t b_intS (by rfl) T.n_int (da_cons (de_mul (de_add (de_add (dv 3) (de_at (dv 0) de_int)) (de_div (de_at (dv 0) de_int) de_int)) (dv 4)) da_nil)) de_int)) (dss_one (ds_ret (de_mod (de_t b_intS (by rfl) T.n_int (da_cons (de_div (de_mod (de_t b_intS (by rfl) T.n_int (da_cons (de_add (de_mul (dv 5) de_int) (dv 3)) da_nil)) de_int) de_int) da_nil)) (dv 1)))))))))
abbrev N__law_of : List Str := ["_law_box_here", "_law_some"]
theorem sc__law_of : FnScope N__law_of ["_law_box_here", "_law_some"] (defScope s__law_of) := ⟨rfl, rfl, rfl, by decide +kernel, rfl, by decide +kernel, by decide +kernel⟩
theorem bi__law_of (T : Txt P w K mg ad fd tk) : Binds K (fd 26) ["_law_box_here", "_law_some"] [] := T.F__law_of.binds (ps := ["_law_box_here", "_law_some"]) fun _ _ _ _ _ _ us hl => match us, hl with | [_, _], _ => rfl
set_option maxHeartbeats 4000000 in
theorem ok__law_of (T : Txt P w K mg ad fd tk) : FnG P w K mg base CX0 2 (ad 26) (fd 26) ["_law_box_here", "_law_some"] (spD K 2 f__law_of) := by
  refine fnD (k := 1) T.F__law_of sc__law_of fun cdv A out s H E hr => ?_
  exact (dss_one (ds_ret (de_at (dv 1) (de_call (ok__law_take T) (hr.le (by decide)) (by rfl) T.g__law_take T.F__law_take.kp (bi__law_take T) (da_cons (dv 0) (da_cons (de_b b_len (by rfl) T.n_len (da_cons (dv 1) da_nil)) da_nil))))))
abbrev N__law_same : List Str := ["_law_found", "_law_due_here", "_law_mine", "_law_its"]
theorem sc__law_same : FnScope N__law_same ["_law_found", "_law_due_here"] (defScope s__law_same) := ⟨rfl, rfl, rfl, by decide +kernel, rfl, by decide +kernel, by decide +kernel⟩
theorem bi__law_same (T : Txt P w K mg ad fd tk) : Binds K (fd 27) ["_law_found", "_law_due_here"] [] := T.F__law_same.binds (ps := ["_law_found", "_law_due_here"]) fun _ _ _ _ _ _ us hl => match us, hl with | [_, _], _ => rfl
set_option maxHeartbeats 4000000 in
theorem body__law_same (T : Txt P w K mg ad fd tk) {k : Nat} {fn : List DV → M DV} (R : FnG P w K mg base CX0 k (ad 27) (fd 27) ["_law_found", "_law_due_here"] (spD K 2 fn)) (hk : 0 ≤ k) (cdv : Value) (A : Around) (out : List Env) (s : Shared) (H : Hp) (E : XK) (hr : Rm k (A.deeper (envOfC "_law_same" (defScope s__law_same) s.heap.objs.size (ad 27) cdv))) :
    DSs (cxOf CX0 P w K mg base N__law_same "_law_same" (defScope s__law_same) (ad 27) cdv A out s H E).nox (defBody s__law_same) (b__law_same fn) := by
  exact (dss_cons (ds_if (dt_val (de_b (b_isx (xt T)) (by rfl) T.n_isinstance (da_cons (dv 1) (da_cons (de_tup (da_cons (de_ty (by rfl) T.n_list (by decide +kernel)) (da_cons (de_ty (by rfl) T.n_tuple (by decide +kernel)) da_nil))) da_nil)))) (dss_cons (ds_if (PW.pt (dw_or (dt_c (c_ne hr) (de_b (b_isx (xt T)) (by rfl) T.n_isinstance (da_cons (dv 0) (da_cons (de_ty (by rfl) T.n_list (by decide +kernel)) da_nil))) (de_b (b_isx (xt T)) (by rfl) T.n_isinstance (da_cons (dv 1) (da_cons (de_ty (by rfl) T.n_list (by decide +kernel)) da_nil)))) (dw_or1 (dt_c (c_ne hr) (de_b (b_isx (xt T)) (by rfl) T.n_isinstance (da_cons (dv 0) (da_cons (de_ty (by rfl) T.n_tuple (by decide +kernel)) da_nil))) (de_b (b_isx (xt T)) (by rfl) T.n_isinstance (da_cons (dv 1) (da_cons (de_ty (by rfl) T.n_tuple (by decide +kernel)) da_nil))))))) (dss_one (ds_ret de_bl)) dss_nil) (dss_one (ds_ret (de_and (de_c (c_eq hr) (de_b b_len (by rfl) T.n_len (da_cons (dv 0) da_nil)) (de_b b_len (by rfl) T.n_len (da_cons (dv 1) da_nil))) (de_one (de_b b_all (by rfl) T.n_all (da_cons (de_comp (own := [("_law_mine", 2), ("_law_its", 3)]) rfl sc__law_same.nd  (di_zipG (by rfl) T.n_zip (da_cons (dv 0) (da_cons (dv 1) da_nil))) (blkOk_by (own := [("_law_mine", 2), ("_law_its", 3)]) (N := N__law_same) (sc := defScope s__law_same) (by decide +kernel)) (fun _ _ _ _ _ => (dg_seq rfl (dgs_cons (dg_name (i := 2) sc__law_same.nd rfl (by first | exact Or.inl rfl | exact Or.inr rfl)) (dgs_cons (dg_name (i := 3) sc__law_same.nd rfl (by first | exact Or.inl rfl | exact Or.inr rfl)) dgs_nil)))) (fun _ _ _ _ _ => dts_nil) (fun _ _ _ _ _ => (de_call R (hr.le (by omega)) (by rfl) T.g__law_same T.F__law_same.kp (bi__law_same T) (da_cons (dv 2) (da_cons (dv 3) da_nil))))) da_nil))))))) dss_nil) (dss_cons (ds_if (PW.pt (dw_or (dt_c c_is (dv 1) de_non) (dw_or1 (dt_val (de_b (b_isx (xt T)) (by rfl) T.n_isinstance (da_cons (dv 1) (da_cons (de_tup (da_cons (de_ty (by rfl) T.n_str (by decide +kernel)) (da_cons (de_ty (by rfl) T.n_bool (by decide +kernel)) da_nil))) da_nil))))))) (dss_one (ds_ret (de_and (de_c (c_eq hr) (dv 0) (dv 1)) (de_and (de_c (c_eq hr) (de_b (b_isx (xt T)) (by rfl) T.n_isinstance (da_cons (dv 0) (da_cons (de_ty (by rfl) T.n_bool (by decide +kernel)) da_nil))) (de_b (b_isx (xt T)) (by rfl) T.n_isinstance (da_cons (dv 1) (da_cons (de_ty (by rfl) T.n_bool (by decide +kernel)) da_nil)))) (de_one (de_c (c_eq hr) (de_c c_is (dv 0) de_non) (de_c c_is (dv 1) de_non))))))) dss_nil) (dss_one (ds_ret (de_and (de_b (b_isx (xt T)) (by rfl) T.n_isinstance (da_cons (dv 0) (da_cons (de_ty (by rfl) T.n_int (by decide +kernel)) da_nil))) (de_and (de_not (de_b (b_isx (xt T)) (by rfl) T.n_isinstance (da_cons (dv 0) (da_cons (de_ty (by rfl) T.n_bool (by decide +kernel)) da_nil)))) (de_one (de_c (c_eq hr) (dv 0) (dv 1)))))))))
theorem ok__law_same (T : Txt P w K mg ad fd tk) : ∀ d : Nat, FnG P w K mg base CX0 (1 + d) (ad 27) (fd 27) ["_law_found", "_law_due_here"] (spD K 2 (f__law_same d))
  | 0 => ⟨fun vs H Q E h => by obtain ⟨_, _, xs, l, _, rs, _⟩ := h; rw [← rs.length]; exact l, fun _ _ _ _ _ _ _ _ _ _ _ _ _ h => by obtain ⟨_, _, _, _, _, _, _, _, e, _⟩ := h; cases e⟩
  | d + 1 => fnD (k := 1 + d) T.F__law_same sc__law_same fun cdv A out s H E hr => body__law_same T (ok__law_same T d) (by omega) cdv A out s H E hr
abbrev N__law_mixed : List Str := ["_law_box_here", "_law_matter", "_law_bits", "_law_bit"]
theorem sc__law_mixed : FnScope N__law_mixed ["_law_box_here", "_law_matter"] (defScope s__law_mixed) := ⟨rfl, rfl, rfl, by decide +kernel, rfl, by decide +kernel, by decide +kernel⟩
theorem bi__law_mixed (T : Txt P w K mg ad fd tk) : Binds K (fd 28) ["_law_box_here", "_law_matter"] [] := T.F__law_mixed.binds (ps := ["_law_box_here", "_law_matter"]) fun _ _ _ _ _ _ us hl => match us, hl with | [_, _], _ => rfl
set_option maxHeartbeats 4000000 in
theorem body__law_mixed (T : Txt P w K mg ad fd tk) {k : Nat} {fn : List DV → M DV} (R : FnG P w K mg base CX0 k (ad 28) (fd 28) ["_law_box_here", "_law_matter"] (spD K 2 fn)) (hk : 1 ≤ k) (cdv : Value) (A : Around) (out : List Env) (s : Shared) (H : Hp) (E : XK) (hr : Rm k (A.deeper (envOfC "_law_mixed" (defScope s__law_mixed) s.heap.objs.size (ad 28) cdv))) :
    DSs (cxOf CX0 P w K mg base N__law_mixed "_law_mixed" (defScope s__law_mixed) (ad 28) cdv A out s H E).nox (defBody s__law_mixed) (b__law_mixed fn) := by
  exact (dss_cons (ds_if (dt_not (dt_val (de_b (b_isx (xt T)) (by rfl) T.n_isinstance (da_cons (dv 1) (da_cons (de_tup (da_cons (de_ty (by rfl) T.n_list (by decide +kernel)) (da_cons (de_ty (by rfl) T.n_tuple (by decide +kernel)) da_nil))) da_nil))))) (dss_one (ds_ret (dv 1))) dss_nil) (dss_cons (ds_setLc (i := 2) (own := [("_law_bit", 3)]) rfl sc__law_mixed.nd rfl rfl (sw_true rfl rfl rfl (by decide +kernel)) (di_any (dv 1)) (blkOk_by (own := [("_law_bit", 3)]) (N := N__law_mixed) (sc := defScope s__law_mixed) (by decide +kernel)) (fun _ _ _ _ _ => (dg_name (i := 3) sc__law_mixed.nd rfl (by first | exact Or.inl rfl | exact Or.inr rfl))) (fun _ _ _ _ _ => dts_nil) (fun _ _ _ _ _ => (de_call R (hr.le (by omega)) (by rfl) T.g__law_mixed T.F__law_mixed.kp (bi__law_mixed T) (da_cons (dv 0) (da_cons (dv 3) da_nil))))) (dss_one (ds_ret (de_if (dt_c (c_eq hr) (de_call (ok__law_take T) (hr.le (by omega)) (by rfl) T.g__law_take T.F__law_take.kp (bi__law_take T) (da_cons (dv 0) (da_cons de_int da_nil))) de_int) (de_t b_tuple (by rfl) T.n_tuple (da_cons (dv 2) da_nil)) (dv 2))))))
theorem ok__law_mixed (T : Txt P w K mg ad fd tk) : ∀ d : Nat, FnG P w K mg base CX0 (2 + d) (ad 28) (fd 28) ["_law_box_here", "_law_matter"] (spD K 2 (f__law_mixed d))
  | 0 => ⟨fun vs H Q E h => by obtain ⟨_, _, xs, l, _, rs, _⟩ := h; rw [← rs.length]; exact l, fun _ _ _ _ _ _ _ _ _ _ _ _ _ h => by obtain ⟨_, _, _, _, _, _, _, _, e, _⟩ := h; cases e⟩
  | d + 1 => fnD (k := 2 + d) T.F__law_mixed sc__law_mixed fun cdv A out s H E hr => body__law_mixed T (ok__law_mixed T d) (by omega) cdv A out s H E hr
abbrev N__law_cell_at : List Str := ["_law_script", "_law_k"]
theorem sc__law_cell_at : FnScope N__law_cell_at ["_law_script", "_law_k"] (defScope s__law_cell_at) := ⟨rfl, rfl, rfl, by decide +kernel, rfl, by decide +kernel, by decide +kernel⟩
theorem bi__law_cell_at (T : Txt P w K mg ad fd tk) : Binds K (fd 29) ["_law_script", "_law_k"] [] := T.F__law_cell_at.binds (ps := ["_law_script", "_law_k"]) fun _ _ _ _ _ _ us hl => match us, hl with | [_, _], _ => rfl
set_option maxHeartbeats 4000000 in
theorem ok__law_cell_at (T : Txt P w K mg ad fd tk) : FnG P w K mg base CX0 1 (ad 29) (fd 29) ["_law_script", "_law_k"] (spD K 2 f__law_cell_at) := by
  refine fnD (k := 0) T.F__law_cell_at sc__law_cell_at fun cdv A out s H E hr => ?_
  exact (dss_one (ds_ret (de_if (dt_c c_lt (dv 1) (de_b b_len (by rfl) T.n_len (da_cons (dv 0) da_nil))) (de_at (dv 0) (dv 1)) de_int)))
abbrev N__law_box : List Str := ["_law_script", "_law_k", "_law_cell", "_law_rest"]
theorem sc__law_box : FnScope N__law_box ["_law_script", "_law_k"] (defScope s__law_box) := ⟨rfl, rfl, rfl, by decide +kernel, rfl, by decide +kernel, by decide +kernel⟩
theorem bi__law_box (T : Txt P w K mg ad fd tk) : Binds K (fd 30) ["_law_script", "_law_k"] [] := T.F__law_box.binds (ps := ["_law_script", "_law_k"]) fun _ _ _ _ _ _ us hl => match us, hl with | [_, _], _ => rfl
set_option maxHeartbeats 4000000 in
theorem ok__law_box (T : Txt P w K mg ad fd tk) : FnG P w K mg base CX0 2 (ad 30) (fd 30) ["_law_script", "_law_k"] (spD K 2 f__law_box) := by
  refine fnD (k := 1) T.F__law_box sc__law_box fun cdv A out s H E hr => ?_
  exact (dss_cons (ds_set (i := 2) sc__law_box.nd rfl (by first | exact Or.inl rfl | exact Or.inr rfl) (de_call (ok__law_cell_at T) (hr.le (by decide)) (by rfl) T.g__law_cell_at T.F__law_cell_at.kp (bi__law_cell_at T) (da_cons (dv 0) (da_cons (dv 1) da_nil)))) (dss_cons (ds_set (i := 3) sc__law_box.nd rfl (by first | exact Or.inl rfl | exact Or.inr rfl) (de_add (de_add (de_mod (de_t b_intS (by rfl) T.n_int (da_cons (dv 2) da_nil)) de_int) (de_mul de_int (dv 1))) de_int)) (dss_one (ds_ret (de_new (da_cons (de_mul (de_b b_abs (by rfl) T.n_abs (da_cons (dv 2) da_nil)) (de_t b_intS (by rfl) T.n_int (da_cons (de_c c_ge (de_b b_abs (by rfl) T.n_abs (da_cons (dv 2) da_nil)) (de_pow de_int de_int)) da_nil))) (da_cons (dv 3) (da_cons de_int da_nil))))))))
abbrev N__law_forms : List Str := ["_law_found"]
theorem sc__law_forms : FnScope N__law_forms [] (defScope s__law_forms) := ⟨rfl, rfl, rfl, by decide +kernel, rfl, by decide +kernel, by decide +kernel⟩
theorem bi__law_forms (T : Txt P w K mg ad fd tk) : Binds K (fd 31) [] [] := T.F__law_forms.binds (ps := []) fun _ _ _ _ _ _ us hl => match us, hl with | [], _ => rfl
set_option maxHeartbeats 4000000 in
theorem ok__law_forms (T : Txt P w K mg ad fd tk) : FnG P w K mg base CX0 1 (ad 31) (fd 31) [] (spD K 0 f__law_forms) := by
  refine fnD (k := 0) T.F__law_forms sc__law_forms fun cdv A out s H E hr => ?_
  exact (dss_cons (ds_set (i := 0) sc__law_forms.nd rfl (by first | exact Or.inl rfl | exact Or.inr rfl) (de_disp (DPs.cons de_str de_str (DPs.cons de_str de_str (DPs.cons de_str de_str (DPs.cons de_str de_str (DPs.cons de_str de_str (DPs.cons de_str de_str (DPs.cons de_str de_str DPs.nil))))))))) (dss_cons (ds_expr (de_dupd (dv 0) (de_disp (DPs.cons de_str de_str (DPs.cons de_str de_str (DPs.cons de_str de_str DPs.nil)))))) (dss_one (ds_ret (dv 0)))))
abbrev N__law_deed : List Str := ["_law_box_here", "_law_word", "_law_words_so", "_law_found", "_law_sort"]
theorem sc__law_deed : FnScope N__law_deed ["_law_box_here"] (defScope s__law_deed) := ⟨rfl, rfl, rfl, by decide +kernel, rfl, by decide +kernel, by decide +kernel⟩
theorem bi__law_deed (T : Txt P w K mg ad fd tk) : Binds K (fd 32) ["_law_box_here"] [] := T.F__law_deed.binds (ps := ["_law_box_here"]) fun _ _ _ _ _ _ us hl => match us, hl with | [_], _ => rfl
set_option maxHeartbeats 4000000 in
theorem ok__law_deed (T : Txt P w K mg ad fd tk) : FnG P w K mg base CX0 3 (ad 32) (fd 32) ["_law_box_here"] (spD K 1 f__law_deed) := by
  refine fnD (k := 2) T.F__law_deed sc__law_deed fun cdv A out s H E hr => ?_
  exact (dss_cons (ds_set (i := 1) sc__law_deed.nd rfl (by first | exact Or.inl rfl | exact Or.inr rfl) (de_call (ok__law_of T) (hr.le (by decide)) (by rfl) T.g__law_of T.F__law_of.kp (bi__law_of T) (da_cons (dv 0) (da_cons (de_lst (da_cons de_str (da_cons de_str (da_cons de_str (da_cons de_str (da_cons de_str (da_cons de_str (da_cons de_str (da_cons de_str (da_cons de_str (da_cons de_str da_nil))))))))))) da_nil)))) (dss_cons (ds_set (i := 2) sc__law_deed.nd rfl (by first | exact Or.inl rfl | exact Or.inr rfl) (de_lst (da_cons de_str (da_cons de_str (da_cons de_str (da_cons de_str (da_cons de_str (da_cons de_str da_nil)))))))) (dss_cons (ds_set (i := 3) sc__law_deed.nd rfl (by first | exact Or.inl rfl | exact Or.inr rfl) (de_tup (da_cons (dv 1) da_nil))) (dss_cons (ds_for (ss := [4]) PassesOwn.never rfl (di_any (de_dget hr (de_call0 (ok__law_forms T) (hr.le (by decide)) (by rfl) T.g__law_forms T.F__law_forms.kp (bi__law_forms T)) (dv 1))) (dg_name (i := 4) sc__law_deed.nd rfl (by first | exact Or.inl rfl | exact Or.inr rfl)) (dss_one (ds_set (i := 3) sc__law_deed.nd rfl (by first | exact Or.inl rfl | exact Or.inr rfl) (de_add (dv 3) (de_tup (da_cons (de_call (ok__law_of T) (hr.le (by decide)) (by rfl) T.g__law_of T.F__law_of.kp (bi__law_of T) (da_cons (dv 0) (da_cons (de_if (dt_c (c_eq hr) (dv 4) de_str) (dv 2) (de_lst (da_cons de_int (da_cons de_int (da_cons de_int (da_cons de_int (da_cons de_int (da_cons de_int da_nil)))))))) da_nil))) da_nil)))))) (dss_one (ds_ret (dv 3)))))))
abbrev N__law_is_word : List Str := ["_law_word", "_law_sign"]
theorem sc__law_is_word : FnScope N__law_is_word ["_law_word"] (defScope s__law_is_word) := ⟨rfl, rfl, rfl, by decide +kernel, rfl, by decide +kernel, by decide +kernel⟩
theorem bi__law_is_word (T : Txt P w K mg ad fd tk) : Binds K (fd 33) ["_law_word"] [] := T.F__law_is_word.binds (ps := ["_law_word"]) fun _ _ _ _ _ _ us hl => match us, hl with | [_], _ => rfl
set_option maxHeartbeats 4000000 in
theorem ok__law_is_word (T : Txt P w K mg ad fd tk) : FnG P w K mg base CX0 1 (ad 33) (fd 33) ["_law_word"] (spD K 1 f__law_is_word) := by
  refine fnD (k := 0) T.F__law_is_word sc__law_is_word fun cdv A out s H E hr => ?_
  exact (dss_one (ds_ret (de_and (de_ch c_lt c_lt de_int (de_b b_len (by rfl) T.n_len (da_cons (dv 0) da_nil)) de_int) (de_one (de_b b_all (by rfl) T.n_all (da_cons (de_comp (own := [("_law_sign", 1)]) rfl sc__law_is_word.nd  (di_any (dv 0)) (blkOk_by (own := [("_law_sign", 1)]) (N := N__law_is_word) (sc := defScope s__law_is_word) (by decide +kernel)) (fun _ _ _ _ _ => (dg_name (i := 1) sc__law_is_word.nd rfl (by first | exact Or.inl rfl | exact Or.inr rfl))) (fun _ _ _ _ _ => dts_nil) (fun _ _ _ _ _ => (de_c c_in (dv 1) de_str))) da_nil))))))
abbrev N__law_part : List Str := ["_law_sort", "_law_word", "_law_sign"]
theorem sc__law_part : FnScope N__law_part ["_law_sort", "_law_word"] (defScope s__law_part) := ⟨rfl, rfl, rfl, by decide +kernel, rfl, by decide +kernel, by decide +kernel⟩
theorem bi__law_part (T : Txt P w K mg ad fd tk) : Binds K (fd 34) ["_law_sort", "_law_word"] [] := T.F__law_part.binds (ps := ["_law_sort", "_law_word"]) fun _ _ _ _ _ _ us hl => match us, hl with | [_, _], _ => rfl
set_option maxHeartbeats 4000000 in
theorem ok__law_part (T : Txt P w K mg ad fd tk) : FnG P w K mg base CX0 2 (ad 34) (fd 34) ["_law_sort", "_law_word"] (spD K 2 f__law_part) := by
  refine fnD (k := 1) T.F__law_part sc__law_part fun cdv A out s H E hr => ?_
  exact (dss_cons (ds_if (dt_c (c_eq hr) (dv 0) de_str) (dss_one (ds_ret (de_rep (de_lst (da_cons (dv 1) da_nil)) (de_t b_intS (by rfl) T.n_int (da_cons (de_call (ok__law_is_word T) (hr.le (by decide)) (by rfl) T.g__law_is_word T.F__law_is_word.kp (bi__law_is_word T) (da_cons (dv 1) da_nil)) da_nil))))) dss_nil) (dss_cons (ds_if (PW.pt (dw_or (dt_not (dt_ch c_lt c_lt de_int (de_b b_len (by rfl) T.n_len (da_cons (dv 1) da_nil)) de_int)) (dw_or1 (dt_not (dt_val (de_b b_all (by rfl) T.n_all (da_cons (de_comp (own := [("_law_sign", 2)]) rfl sc__law_part.nd  (di_any (dv 1)) (blkOk_by (own := [("_law_sign", 2)]) (N := N__law_part) (sc := defScope s__law_part) (by decide +kernel)) (fun _ _ _ _ _ => (dg_name (i := 2) sc__law_part.nd rfl (by first | exact Or.inl rfl | exact Or.inr rfl))) (fun _ _ _ _ _ => dts_nil) (fun _ _ _ _ _ => (de_c c_in (dv 2) de_str))) da_nil))))))) (dss_one (ds_ret (de_lst da_nil))) dss_nil) (dss_one (ds_ret (de_if (PW.pt (dw_or (dt_c (c_eq hr) (dv 1) de_str) (dw_or1 (dt_c (c_ne hr) (de_at (dv 1) de_int) de_str)))) (de_lst (da_cons (de_t b_intS (by rfl) T.n_int (da_cons (dv 1) da_nil)) da_nil)) (de_lst da_nil))))))
abbrev N__law_own_reader : List Str := ["_law_line", "_law_words_so", "_law_sorts", "_law_parts_so", "_law_sort", "_law_word", "_law_some"]
theorem sc__law_own_reader : FnScope N__law_own_reader ["_law_line"] (defScope s__law_own_reader) := ⟨rfl, rfl, rfl, by decide +kernel, rfl, by decide +kernel, by decide +kernel⟩
theorem bi__law_own_reader (T : Txt P w K mg ad fd tk) : Binds K (fd 35) ["_law_line"] [] := T.F__law_own_reader.binds (ps := ["_law_line"]) fun _ _ _ _ _ _ us hl => match us, hl with | [_], _ => rfl
set_option maxHeartbeats 4000000 in
theorem ok__law_own_reader (T : Txt P w K mg ad fd tk) : FnG P w K mg base CX0 3 (ad 35) (fd 35) ["_law_line"] (spD K 1 f__law_own_reader) := by
  refine fnD (k := 2) T.F__law_own_reader sc__law_own_reader fun cdv A out s H E hr => ?_
  exact (dss_cons (ds_set (i := 1) sc__law_own_reader.nd rfl (by first | exact Or.inl rfl | exact Or.inr rfl) (de_split (dv 0) de_str)) (dss_cons (ds_set (i := 2) sc__law_own_reader.nd rfl (by first | exact Or.inl rfl | exact Or.inr rfl) (de_dget1 hr (de_call0 (ok__law_forms T) (hr.le (by decide)) (by rfl) T.g__law_forms T.F__law_forms.kp (bi__law_forms T)) (de_at (dv 1) de_int))) (dss_cons (ds_if (PW.pt (dw_or (dt_c c_is (dv 2) de_non) (dw_or1 (dt_c (c_ne hr) (de_b b_len (by rfl) T.n_len (da_cons (dv 1) da_nil)) (de_add de_int (de_b b_len (by rfl) T.n_len (da_cons (dv 2) da_nil))))))) (dss_one (ds_ret de_non)) dss_nil) (dss_cons (ds_setLc (i := 3) (own := [("_law_sort", 4), ("_law_word", 5)]) rfl sc__law_own_reader.nd rfl rfl (sw_true rfl rfl rfl (by decide +kernel)) (di_zipG (by rfl) T.n_zip (da_cons (dv 2) (da_cons (de_slice (dv 1) (do_some de_int) do_none) da_nil))) (blkOk_by (own := [("_law_sort", 4), ("_law_word", 5)]) (N := N__law_own_reader) (sc := defScope s__law_own_reader) (by decide +kernel)) (fun _ _ _ _ _ => (dg_seq rfl (dgs_cons (dg_name (i := 4) sc__law_own_reader.nd rfl (by first | exact Or.inl rfl | exact Or.inr rfl)) (dgs_cons (dg_name (i := 5) sc__law_own_reader.nd rfl (by first | exact Or.inl rfl | exact Or.inr rfl)) dgs_nil)))) (fun _ _ _ _ _ => dts_nil) (fun _ _ _ _ _ => (de_call (ok__law_part T) (hr.le (by decide)) (by rfl) T.g__law_part T.F__law_part.kp (bi__law_part T) (da_cons (dv 4) (da_cons (dv 5) da_nil))))) (dss_one (ds_ret (de_if (dt_c (c_inA hr) (de_lst da_nil) (dv 3)) de_non (de_t b_tuple (by rfl) T.n_tuple (da_cons (de_add (de_lst (da_cons (de_at (dv 1) de_int) da_nil)) (de_comp (own := [("_law_some", 6)]) rfl sc__law_own_reader.nd  (di_any (dv 3)) (blkOk_by (own := [("_law_some", 6)]) (N := N__law_own_reader) (sc := defScope s__law_own_reader) (by decide +kernel)) (fun _ _ _ _ _ => (dg_name (i := 6) sc__law_own_reader.nd rfl (by first | exact Or.inl rfl | exact Or.inr rfl))) (fun _ _ _ _ _ => dts_nil) (fun _ _ _ _ _ => (de_at (dv 6) de_int)))) da_nil)))))))))
abbrev N__law_heard : List Str := ["_law_door", "_law_line", "_law_found", "_law_caught", "error"]
theorem sc__law_heard : FnScope N__law_heard ["_law_door", "_law_line"] (defScope s__law_heard) := ⟨rfl, rfl, rfl, by decide +kernel, rfl, by decide +kernel, by decide +kernel⟩
theorem bi__law_heard (T : Txt P w K mg ad fd tk) : Binds K (fd 36) ["_law_door", "_law_line"] [] := T.F__law_heard.binds (ps := ["_law_door", "_law_line"]) fun _ _ _ _ _ _ us hl => match us, hl with | [_, _], _ => rfl
set_option maxHeartbeats 4000000 in
theorem ok__law_heard (T : Txt P w K mg ad fd tk) : FnG P w K mg base CX0 5 (ad 36) (fd 36) ["_law_door", "_law_line"] (spD K 2 f__law_heard) := by
  refine fnD (k := 4) T.F__law_heard sc__law_heard fun cdv A out s H E hr => ?_
  exact (dss_cons (ds_asg (ss := [2, 3]) (de_tup (da_cons de_non (da_cons de_non da_nil))) (dg_seq rfl (dgs_cons (dg_name (i := 2) sc__law_heard.nd rfl (by first | exact Or.inl rfl | exact Or.inr rfl)) (dgs_cons (dg_name (i := 3) sc__law_heard.nd rfl (by first | exact Or.inl rfl | exact Or.inr rfl)) dgs_nil)))) (dss_cons (ds_try (i := 4) (j := 3) (xt T) (show ("BadLine" : Str) ∈ nms by decide) (show ("BadText" : Str) ∈ nms by decide) (show ("Known" : Str) ∈ nms by decide) rfl rfl sc__law_heard.nd rfl rfl rfl rfl T.xg_BadLine T.xg_BadText T.xg_Known T.xc_BadLine.gl T.xc_BadText.gl T.xc_Known.gl (fun Wx pn xe tk po => (dxs_one (dx_set (i := 2) sc__law_heard.nd rfl (by first | exact Or.inl rfl | exact Or.inr rfl) (dex_if (dt_c (c_eq hr) (dv 0) de_int) (dex_call (okx_event_in T) tk (hr.le (by decide)) (by rfl) T.g_event_in T.F_event_in.kp (bi_event_in T) (da_cons (dv 1) da_nil)) (dex_callK (okx_events_in T) tk (hr.le (by decide)) (by rfl) T.g_events_in T.F_events_in.kp (kw_events_in_text T) (dk_cons (dv 1) dk_nil))))))) (dss_cons (ds_if (dt_c c_is (dv 3) de_non) (dss_one (ds_ret (dv 2))) dss_nil) (dss_cons (ds_if (PW.pt (dw_or (dt_not (dt_val (de_b (b_isx (xt T)) (by rfl) T.n_isinstance (da_cons (dv 3) (da_cons (de_ty (by rfl) T.n_ValueError (by decide +kernel)) da_nil))))) (dw_or1 (dt_val (de_b (b_isx (xt T)) (by rfl) T.n_isinstance (da_cons (dv 3) (da_cons (de_gl (by rfl) T.xg_Known T.xc_Known.gl) da_nil))))))) (dss_one (ds_ret de_str)) dss_nil) (dss_cons (ds_if (dt_val (de_b (b_isx (xt T)) (by rfl) T.n_isinstance (da_cons (dv 3) (da_cons (de_gl (by rfl) T.xg_BadLine T.xc_BadLine.gl) da_nil)))) (dss_one (ds_ret (de_if (dt_val (de_b (b_isx (xt T)) (by rfl) T.n_isinstance (da_cons (dv 3) (da_cons (de_gl (by rfl) T.xg_BadText T.xc_BadText.gl) da_nil)))) de_str (de_tup (da_cons de_str (da_cons (de_xf (xt T) (dv 3)) da_nil)))))) dss_nil) (dss_one (ds_ret de_str)))))))
abbrev N__law_due : List Str := ["_law_line", "_law_found", "_law_at", "_law_part_here", "_law_deed_here"]
theorem sc__law_due : FnScope N__law_due ["_law_line"] (defScope s__law_due) := ⟨rfl, rfl, rfl, by decide +kernel, rfl, by decide +kernel, by decide +kernel⟩
theorem bi__law_due (T : Txt P w K mg ad fd tk) : Binds K (fd 37) ["_law_line"] [] := T.F__law_due.binds (ps := ["_law_line"]) fun _ _ _ _ _ _ us hl => match us, hl with | [_], _ => rfl
set_option maxHeartbeats 4000000 in
theorem ok__law_due (T : Txt P w K mg ad fd tk) : FnG P w K mg base CX0 4 (ad 37) (fd 37) ["_law_line"] (spD K 1 f__law_due) := by
  refine fnD (k := 3) T.F__law_due sc__law_due fun cdv A out s H E hr => ?_
  exact (dss_cons (ds_set (i := 1) sc__law_due.nd rfl (by first | exact Or.inl rfl | exact Or.inr rfl) (de_new da_nil)) (dss_cons (ds_for (ss := [2, 3]) PassesOwn.never rfl (di_enum (by rfl) T.n_enumerate (da_cons (de_if (dt_c (c_ne hr) (dv 0) de_str) (de_split (dv 0) de_str) (de_lst da_nil)) da_nil)) (dg_seq rfl (dgs_cons (dg_name (i := 2) sc__law_due.nd rfl (by first | exact Or.inl rfl | exact Or.inr rfl)) (dgs_cons (dg_name (i := 3) sc__law_due.nd rfl (by first | exact Or.inl rfl | exact Or.inr rfl)) dgs_nil))) (dss_cons (ds_set (i := 4) sc__law_due.nd rfl (by first | exact Or.inl rfl | exact Or.inr rfl) (de_call (ok__law_own_reader T) (hr.le (by decide)) (by rfl) T.g__law_own_reader T.F__law_own_reader.kp (bi__law_own_reader T) (da_cons (dv 3) da_nil))) (dss_cons (ds_if (dt_c c_is (dv 4) de_non) (dss_one (ds_ret (de_tup (da_cons de_str (da_cons (dv 2) da_nil))))) dss_nil) (dss_one (ds_expr (de_append (dv 1) (dv 4))))))) (dss_frz (i := 1) (dss_one (ds_ret (dv 1))))))
abbrev N__law_spoilt : List Str := ["_law_box_here", "_law_line", "_law_at", "_law_way_so", "_law_sign", "_law_words_so", "_law_spot", "_law_other"]
theorem sc__law_spoilt : FnScope N__law_spoilt ["_law_box_here", "_law_line"] (defScope s__law_spoilt) := ⟨rfl, rfl, rfl, by decide +kernel, rfl, by decide +kernel, by decide +kernel⟩
theorem bi__law_spoilt (T : Txt P w K mg ad fd tk) : Binds K (fd 38) ["_law_box_here", "_law_line"] [] := T.F__law_spoilt.binds (ps := ["_law_box_here", "_law_line"]) fun _ _ _ _ _ _ us hl => match us, hl with | [_, _], _ => rfl
set_option maxHeartbeats 4000000 in
theorem ok__law_spoilt (T : Txt P w K mg ad fd tk) : FnG P w K mg base CX0 3 (ad 38) (fd 38) ["_law_box_here", "_law_line"] (spD K 2 f__law_spoilt) := by
  refine fnD (k := 2) T.F__law_spoilt sc__law_spoilt fun cdv A out s H E hr => ?_
  exact (dss_cons (ds_two (i := 2) (j := 3) rfl sc__law_spoilt.nd rfl rfl (by decide) rfl rfl (da_cons (de_call (ok__law_take T) (hr.le (by decide)) (by rfl) T.g__law_take T.F__law_take.kp (bi__law_take T) (da_cons (dv 0) (da_cons (de_add (de_b b_len (by rfl) T.n_len (da_cons (dv 1) da_nil)) de_int) da_nil))) (da_cons (de_call (ok__law_take T) (hr.le (by decide)) (by rfl) T.g__law_take T.F__law_take.kp (bi__law_take T) (da_cons (dv 0) (da_cons de_int da_nil))) da_nil)) rfl) (dss_cons (ds_set (i := 4) sc__law_spoilt.nd rfl (by first | exact Or.inl rfl | exact Or.inr rfl) (de_call (ok__law_of T) (hr.le (by decide)) (by rfl) T.g__law_of T.F__law_of.kp (bi__law_of T) (da_cons (dv 0) (da_cons (de_lst (da_cons de_str (da_cons de_str (da_cons de_str (da_cons de_str (da_cons de_str (da_cons de_str (da_cons de_str (da_cons de_str (da_cons de_str (da_cons de_str (da_cons de_str (da_cons de_str da_nil))))))))))))) da_nil)))) (dss_cons (ds_if (dt_c c_lt (dv 3) de_int) (dss_one (ds_ret (de_add (de_add (de_slice (dv 1) do_none (do_some (dv 2))) (de_if (dt_c c_lt (dv 3) de_int) (dv 4) de_str)) (de_slice (dv 1) (do_some (de_add (dv 2) (de_t b_intS (by rfl) T.n_int (da_cons (de_c c_gt (dv 3) de_int) da_nil)))) do_none)))) dss_nil) (dss_cons (ds_if (dt_c (c_eq hr) (dv 3) de_int) (dss_one (ds_ret (de_add (de_add (de_slice (dv 1) do_none (do_some (dv 2))) (de_slice (dv 1) (do_some (dv 2)) (do_some (de_add (dv 2) de_int)))) (de_slice (dv 1) (do_some (dv 2)) do_none)))) dss_nil) (dss_cons (ds_set (i := 5) sc__law_spoilt.nd rfl (by first | exact Or.inl rfl | exact Or.inr rfl) (de_splitC (dv 1) de_str)) (dss_cons (ds_two (i := 6) (j := 7) rfl sc__law_spoilt.nd rfl rfl (by decide) rfl rfl (da_cons (de_call (ok__law_take T) (hr.le (by decide)) (by rfl) T.g__law_take T.F__law_take.kp (bi__law_take T) (da_cons (dv 0) (da_cons (de_b b_len (by rfl) T.n_len (da_cons (dv 5) da_nil)) da_nil))) (da_cons (de_call (ok__law_take T) (hr.le (by decide)) (by rfl) T.g__law_take T.F__law_take.kp (bi__law_take T) (da_cons (dv 0) (da_cons (de_b b_len (by rfl) T.n_len (da_cons (dv 5) da_nil)) da_nil))) da_nil)) rfl) (dss_cons (ds_if (dt_c (c_eq hr) (dv 3) de_int) (dss_one (ds_expr (de_popAt (dv 5) (dv 6)))) (dss_one (ds_asg (ss := [5, 6]) (de_at (dv 5) (dv 7)) (dg_set (dv 5) (dv 6))))) (dss_frz (i := 5) (dss_one (ds_ret (de_join de_str (dv 5))))))))))))
abbrev N__law_things_right : List Str := ["_law_odd", "_law_fine", "_law_told_so", "_law_matter"]
theorem sc__law_things_right : FnScope N__law_things_right [] (defScope s__law_things_right) := ⟨rfl, rfl, rfl, by decide +kernel, rfl, by decide +kernel, by decide +kernel⟩
theorem bi__law_things_right (T : Txt P w K mg ad fd tk) : Binds K (fd 39) [] [] := T.F__law_things_right.binds (ps := []) fun _ _ _ _ _ _ us hl => match us, hl with | [], _ => rfl
set_option maxHeartbeats 4000000 in
theorem ok__law_things_right (T : Txt P w K mg ad fd tk) : FnG P w K mg base CX0 7 (ad 39) (fd 39) [] (spD K 0 f__law_things_right) := by
  refine fnD (k := 6) T.F__law_things_right sc__law_things_right fun cdv A out s H E hr => ?_
  exact (dss_cons (ds_set (i := 0) sc__law_things_right.nd rfl (by first | exact Or.inl rfl | exact Or.inr rfl) (de_lst (da_cons de_non (da_cons (de_tup da_nil) (da_cons (de_lst da_nil) (da_cons de_str (da_cons (de_tup (da_cons de_str (da_cons de_str da_nil))) (da_cons (de_tup (da_cons de_str da_nil)) (da_cons (de_tup (da_cons de_str (da_cons de_int da_nil))) (da_cons (de_tup (da_cons de_str (da_cons de_str da_nil))) (da_cons (de_tup (da_cons de_str (da_cons de_str da_nil))) da_nil))))))))))) (dss_cons (ds_set (i := 0) sc__law_things_right.nd rfl (by first | exact Or.inl rfl | exact Or.inr rfl) (de_add (dv 0) (de_lst (da_cons (de_lst (da_cons de_str da_nil)) (da_cons (de_tup (da_cons de_str (da_cons de_str (da_cons (de_neg de_int) da_nil)))) (da_cons (de_tup (da_cons de_str (da_cons de_str (da_cons de_bl da_nil)))) (da_cons (de_tup (da_cons de_str (da_cons de_str (da_cons de_str da_nil)))) (da_cons (de_tup (da_cons de_str (da_cons de_str (da_cons de_str da_nil)))) da_nil)))))))) (dss_cons (ds_set (i := 0) sc__law_things_right.nd rfl (by first | exact Or.inl rfl | exact Or.inr rfl) (de_addC (dv 0) (de_lst (da_cons (de_tup (da_cons de_str (da_cons de_str (da_cons de_int da_nil)))) (da_cons (de_tup (da_cons de_str (da_cons de_str da_nil))) (da_cons (de_tup (da_cons de_str (da_cons de_str da_nil))) (da_cons (de_tup (da_cons de_int da_nil)) (da_cons (de_tup (da_cons de_str (da_cons de_int (da_cons de_str da_nil)))) (da_cons (de_tup (da_cons de_str (da_cons (de_tup (da_cons de_str da_nil)) da_nil))) da_nil))))))))) (dss_cons (ds_expr (de_append (dv 0) (de_tup (da_cons (de_tup (da_cons de_str da_nil)) (da_cons de_str da_nil))))) (dss_frz (i := 0) (dss_cons (ds_set (i := 1) sc__law_things_right.nd rfl (by first | exact Or.inl rfl | exact Or.inr rfl) (de_lst (da_cons (de_tup (da_cons de_str (da_cons de_str (da_cons (de_pow de_int de_int) da_nil)))) (da_cons (de_tup (da_cons de_str da_nil)) (da_cons (de_tup (da_cons de_str (da_cons de_str (da_cons de_str da_nil)))) da_nil))))) (dss_cons (ds_set (i := 2) sc__law_things_right.nd rfl (by first | exact Or.inl rfl | exact Or.inr rfl) (de_add (de_comp (own := [("_law_matter", 3)]) rfl sc__law_things_right.nd  (di_any (dv 0)) (blkOk_by (own := [("_law_matter", 3)]) (N := N__law_things_right) (sc := defScope s__law_things_right) (by decide +kernel)) (fun _ _ _ _ _ => (dg_name (i := 3) sc__law_things_right.nd rfl (by first | exact Or.inl rfl | exact Or.inr rfl))) (fun _ _ _ _ _ => dts_nil) (fun _ _ _ _ _ => (de_call (ok_is_event T) (hr.le (by decide)) (by rfl) T.g_is_event T.F_is_event.kp (bi_is_event T) (da_cons (dv 3) da_nil)))) (de_comp (own := [("_law_matter", 3)]) rfl sc__law_things_right.nd  (di_any (dv 1)) (blkOk_by (own := [("_law_matter", 3)]) (N := N__law_things_right) (sc := defScope s__law_things_right) (by decide +kernel)) (fun _ _ _ _ _ => (dg_name (i := 3) sc__law_things_right.nd rfl (by first | exact Or.inl rfl | exact Or.inr rfl))) (fun _ _ _ _ _ => dts_nil) (fun _ _ _ _ _ => (de_callK0 (ok_is_event T) (hr.le (by decide)) (by rfl) T.g_is_event T.F_is_event.kp (kw_is_event_thing T) (dk_cons (dv 3) dk_nil)))))) (dss_one (ds_ret (de_call (ok__law_same T 5) (hr.le (by decide)) (by rfl) T.g__law_same T.F__law_same.kp (bi__law_same T) (da_cons (dv 2) (da_cons (de_add (de_rep (de_lst (da_cons de_bl da_nil)) (de_b b_len (by rfl) T.n_len (da_cons (dv 0) da_nil))) (de_rep (de_lst (da_cons de_bl da_nil)) (de_b b_len (by rfl) T.n_len (da_cons (dv 1) da_nil)))) da_nil))))))))))))
abbrev N__law_right : List Str := ["_law_box_here", "_law_turn", "_law_some", "_law_lines", "_law_page", "_law_soft", "_law_deed_here", "_law_line", "_law_told_so", "_law_again", "_law_tale", "_law_wrong", "_law_due_here", "_law_part_here"]
theorem sc__law_right : FnScope N__law_right ["_law_box_here"] (defScope s__law_right) := ⟨rfl, rfl, rfl, by decide +kernel, rfl, by decide +kernel, by decide +kernel⟩
theorem bi__law_right (T : Txt P w K mg ad fd tk) : Binds K (fd 40) ["_law_box_here"] [] := T.F__law_right.binds (ps := ["_law_box_here"]) fun _ _ _ _ _ _ us hl => match us, hl with | [_], _ => rfl
set_option maxHeartbeats 4000000 in
theorem ok__law_right (T : Txt P w K mg ad fd tk) : FnG P w K mg base CX0 8 (ad 40) (fd 40) ["_law_box_here"] (spD K 1 f__law_right) := by
  refine fnD (k := 7) T.F__law_right sc__law_right fun cdv A out s H E hr => ?_
  exact (dss_cons (ds_for (ss := [1]) PassesOwn.never rfl (di_r1 (by rfl) T.n_range (da_cons de_int da_nil)) (dg_name (i := 1) sc__law_right.nd rfl (by first | exact Or.inl rfl | exact Or.inr rfl)) (dss_cons (ds_setLc (i := 2) (own := [("_law_again", 9)]) rfl sc__law_right.nd rfl rfl (sw_true rfl rfl rfl (by decide +kernel)) (di_r1 (by rfl) T.n_range (da_cons (de_call (ok__law_take T) (hr.le (by decide)) (by rfl) T.g__law_take T.F__law_take.kp (bi__law_take T) (da_cons (dv 0) (da_cons de_int da_nil))) da_nil)) (blkOk_by (own := [("_law_again", 9)]) (N := N__law_right) (sc := defScope s__law_right) (by decide +kernel)) (fun _ _ _ _ _ => (dg_name (i := 9) sc__law_right.nd rfl (by first | exact Or.inl rfl | exact Or.inr rfl))) (fun _ _ _ _ _ => dts_nil) (fun _ _ _ _ _ => (de_call (ok__law_deed T) (hr.le (by decide)) (by rfl) T.g__law_deed T.F__law_deed.kp (bi__law_deed T) (da_cons (dv 0) da_nil)))) (dss_cons (ds_setLc (i := 3) (own := [("_law_deed_here", 6)]) rfl sc__law_right.nd rfl rfl (sw_true rfl rfl rfl (by decide +kernel)) (di_any (dv 2)) (blkOk_by (own := [("_law_deed_here", 6)]) (N := N__law_right) (sc := defScope s__law_right) (by decide +kernel)) (fun _ _ _ _ _ => (dg_name (i := 6) sc__law_right.nd rfl (by first | exact Or.inl rfl | exact Or.inr rfl))) (fun _ _ _ _ _ => dts_nil) (fun _ _ _ _ _ => (de_join de_str (de_comp (own := [("_law_part_here", 13)]) rfl sc__law_right.nd  (di_any (dv 6)) (blkOk_by (own := [("_law_part_here", 13)]) (N := N__law_right) (sc := ({ kind := PySem.ScopeKind.function, names := [(PySem.Str.ofString ".0", PySem.NameKind.local), (PySem.Str.ofString "_law_deed_here", PySem.NameKind.local)], isGenerator := false, isCoroutine := false, more := [] : PySem.Scope })) (by decide +kernel)) (fun _ _ _ _ _ => (dg_name (i := 13) sc__law_right.nd rfl (by first | exact Or.inl rfl | exact Or.inr rfl))) (fun _ _ _ _ _ => dts_nil) (fun _ _ _ _ _ => (de_t b_strS (by rfl) T.n_str (da_cons (dv 13) da_nil))))))) (dss_cons (ds_two (i := 4) (j := 5) rfl sc__law_right.nd rfl rfl (by decide) rfl rfl (da_cons (de_join de_str (dv 3)) (da_cons (de_call (ok__law_mixed T 4) (hr.le (by decide)) (by rfl) T.g__law_mixed T.F__law_mixed.kp (bi__law_mixed T) (da_cons (dv 0) (da_cons (de_t b_tuple (by rfl) T.n_tuple (da_cons (dv 2) da_nil)) da_nil))) da_nil)) rfl) (dss_cons (ds_if (dt_not (dt_val (de_call (ok__law_same T 5) (hr.le (by decide)) (by rfl) T.g__law_same T.F__law_same.kp (bi__law_same T) (da_cons (de_lst (da_cons (de_call (ok_events_text T) (hr.le (by decide)) (by rfl) T.g_events_text T.F_events_text.kp (bi_events_text T) (da_cons (dv 2) da_nil)) (da_cons (de_callK0 (ok_events_text T) (hr.le (by decide)) (by rfl) T.g_events_text T.F_events_text.kp (kw_events_text_events T) (dk_cons (dv 5) dk_nil)) (da_cons (de_call (ok__law_heard T) (hr.le (by decide)) (by rfl) T.g__law_heard T.F__law_heard.kp (bi__law_heard T) (da_cons de_int (da_cons (dv 4) da_nil))) da_nil)))) (da_cons (de_lst (da_cons (dv 4) (da_cons (dv 4) (da_cons (dv 2) da_nil)))) da_nil))))) (dss_one (ds_ret de_bl)) dss_nil) (dss_cons (ds_for (ss := [6, 7]) PassesOwn.never rfl (di_zipG (by rfl) T.n_zip (da_cons (dv 2) (da_cons (dv 3) da_nil))) (dg_seq rfl (dgs_cons (dg_name (i := 6) sc__law_right.nd rfl (by first | exact Or.inl rfl | exact Or.inr rfl)) (dgs_cons (dg_name (i := 7) sc__law_right.nd rfl (by first | exact Or.inl rfl | exact Or.inr rfl)) dgs_nil))) (dss_cons (ds_set (i := 8) sc__law_right.nd rfl (by first | exact Or.inl rfl | exact Or.inr rfl) (de_lst (da_cons (de_call (ok_event_text T) (hr.le (by decide)) (by rfl) T.g_event_text T.F_event_text.kp (bi_event_text T) (da_cons (dv 6) da_nil)) (da_cons (de_callK0 (ok_event_text T) (hr.le (by decide)) (by rfl) T.g_event_text T.F_event_text.kp (kw_event_text_event T) (dk_cons (de_t b_list (by rfl) T.n_list (da_cons (dv 6) da_nil)) dk_nil)) (da_cons (de_call (ok_is_event T) (hr.le (by decide)) (by rfl) T.g_is_event T.F_is_event.kp (bi_is_event T) (da_cons (dv 6) da_nil)) (da_cons (de_no (dex_callK (okx_event_in T) takes_no (hr.le (by decide)) (by rfl) T.g_event_in T.F_event_in.kp (kw_event_in_text T) (dk_cons (dv 7) dk_nil))) da_nil)))))) (dss_one (ds_if (dt_not (dt_val (de_call (ok__law_same T 5) (hr.le (by decide)) (by rfl) T.g__law_same T.F__law_same.kp (bi__law_same T) (da_cons (dv 8) (da_cons (de_lst (da_cons (dv 7) (da_cons (dv 7) (da_cons de_bl (da_cons (dv 6) da_nil))))) da_nil))))) (dss_one (ds_ret de_bl)) dss_nil)))) (dss_one (ds_for (ss := [9]) PassesOwn.never rfl (di_r1 (by rfl) T.n_range (da_cons de_int da_nil)) (dg_name (i := 9) sc__law_right.nd rfl (by first | exact Or.inl rfl | exact Or.inr rfl)) (dss_cons (ds_set (i := 10) sc__law_right.nd rfl (by first | exact Or.inl rfl | exact Or.inr rfl) (de_call (ok__law_spoilt T) (hr.le (by decide)) (by rfl) T.g__law_spoilt T.F__law_spoilt.kp (bi__law_spoilt T) (da_cons (dv 0) (da_cons (dv 4) da_nil)))) (dss_cons (ds_if (dt_not (dt_val (de_call (ok__law_same T 5) (hr.le (by decide)) (by rfl) T.g__law_same T.F__law_same.kp (bi__law_same T) (da_cons (de_call (ok__law_heard T) (hr.le (by decide)) (by rfl) T.g__law_heard T.F__law_heard.kp (bi__law_heard T) (da_cons de_int (da_cons (dv 10) da_nil))) (da_cons (de_call (ok__law_due T) (hr.le (by decide)) (by rfl) T.g__law_due T.F__law_due.kp (bi__law_due T) (da_cons (dv 10) da_nil)) da_nil))))) (dss_one (ds_ret de_bl)) dss_nil) (dss_cons (ds_set (i := 7) sc__law_right.nd rfl (by first | exact Or.inl rfl | exact Or.inr rfl) (de_call (ok__law_spoilt T) (hr.le (by decide)) (by rfl) T.g__law_spoilt T.F__law_spoilt.kp (bi__law_spoilt T) (da_cons (dv 0) (da_cons (de_call (ok__law_of T) (hr.le (by decide)) (by rfl) T.g__law_of T.F__law_of.kp (bi__law_of T) (da_cons (dv 0) (da_cons (de_add (dv 3) (de_lst (da_cons de_str da_nil))) da_nil))) da_nil)))) (dss_cons (ds_set (i := 6) sc__law_right.nd rfl (by first | exact Or.inl rfl | exact Or.inr rfl) (de_call (ok__law_own_reader T) (hr.le (by decide)) (by rfl) T.g__law_own_reader T.F__law_own_reader.kp (bi__law_own_reader T) (da_cons (dv 7) da_nil))) (dss_one (ds_if (dt_not (dt_val (de_call (ok__law_same T 5) (hr.le (by decide)) (by rfl) T.g__law_same T.F__law_same.kp (bi__law_same T) (da_cons (de_call (ok__law_heard T) (hr.le (by decide)) (by rfl) T.g__law_heard T.F__law_heard.kp (bi__law_heard T) (da_cons de_int (da_cons (dv 7) da_nil))) (da_cons (de_if (dt_c c_is (dv 6) de_non) de_str (dv 6)) da_nil))))) (dss_one (ds_ret de_bl)) dss_nil)))))))))))))) (dss_cons (ds_set (i := 11) sc__law_right.nd rfl (by first | exact Or.inl rfl | exact Or.inr rfl) (de_lst (da_cons de_str (da_cons de_str (da_cons de_str (da_cons de_str (da_cons de_str (da_cons de_str (da_cons de_str (da_cons de_str da_nil)))))))))) (dss_cons (ds_set (i := 11) sc__law_right.nd rfl (by first | exact Or.inl rfl | exact Or.inr rfl) (de_add (dv 11) (de_lst (da_cons de_str (da_cons de_str (da_cons de_str (da_cons de_str (da_cons de_str da_nil)))))))) (dss_cons (ds_set (i := 11) sc__law_right.nd rfl (by first | exact Or.inl rfl | exact Or.inr rfl) (de_add (dv 11) (de_lst (da_cons de_str (da_cons de_str (da_cons de_str (da_cons de_str da_nil))))))) (dss_cons (ds_if (dt_c (c_ne hr) (de_comp (own := [("_law_line", 7)]) rfl sc__law_right.nd  (di_any (dv 11)) (blkOk_by (own := [("_law_line", 7)]) (N := N__law_right) (sc := defScope s__law_right) (by decide +kernel)) (fun _ _ _ _ _ => (dg_name (i := 7) sc__law_right.nd rfl (by first | exact Or.inl rfl | exact Or.inr rfl))) (fun _ _ _ _ _ => dts_nil) (fun _ _ _ _ _ => (de_call (ok__law_heard T) (hr.le (by decide)) (by rfl) T.g__law_heard T.F__law_heard.kp (bi__law_heard T) (da_cons de_int (da_cons (dv 7) da_nil))))) (de_rep (de_lst (da_cons de_str da_nil)) (de_b b_len (by rfl) T.n_len (da_cons (dv 11) da_nil)))) (dss_one (ds_ret de_bl)) dss_nil) (dss_cons (ds_setLc (i := 8) (own := [("_law_line", 7)]) rfl sc__law_right.nd rfl rfl (sw_true rfl rfl rfl (by decide +kernel)) (di_any (de_tup (da_cons de_str (da_cons de_str (da_cons de_str (da_cons de_str (da_cons de_str da_nil))))))) (blkOk_by (own := [("_law_line", 7)]) (N := N__law_right) (sc := defScope s__law_right) (by decide +kernel)) (fun _ _ _ _ _ => (dg_name (i := 7) sc__law_right.nd rfl (by first | exact Or.inl rfl | exact Or.inr rfl))) (fun _ _ _ _ _ => dts_nil) (fun _ _ _ _ _ => (de_call (ok__law_heard T) (hr.le (by decide)) (by rfl) T.g__law_heard T.F__law_heard.kp (bi__law_heard T) (da_cons de_int (da_cons (dv 7) da_nil))))) (dss_cons (ds_set (i := 12) sc__law_right.nd rfl (by first | exact Or.inl rfl | exact Or.inr rfl) (de_lst (da_cons (de_lst da_nil) (da_cons (de_tup (da_cons de_str (da_cons de_int da_nil))) (da_cons (de_tup (da_cons de_str (da_cons de_int da_nil))) (da_cons (de_tup (da_cons de_str (da_cons de_int da_nil))) (da_cons (de_lst (da_cons (de_tup (da_cons de_str da_nil)) (da_cons (de_tup (da_cons de_str da_nil)) da_nil))) da_nil))))))) (dss_one (ds_ret (de_and (de_call (ok__law_same T 5) (hr.le (by decide)) (by rfl) T.g__law_same T.F__law_same.kp (bi__law_same T) (da_cons (dv 8) (da_cons (dv 12) da_nil))) (de_one (de_call0 (ok__law_things_right T) (hr.le (by decide)) (by rfl) T.g__law_things_right T.F__law_things_right.kp (bi__law_things_right T)))))))))))))
abbrev N_law : List Str := ["_law_script", "_law_k"]
theorem sc_law : FnScope N_law ["_law_script"] (defScope s_law) := ⟨rfl, rfl, rfl, by decide +kernel, rfl, by decide +kernel, by decide +kernel⟩
theorem bi_law (T : Txt P w K mg ad fd tk) : Binds K (fd 41) ["_law_script"] [] := T.F_law.binds (ps := ["_law_script"]) fun _ _ _ _ _ _ us hl => match us, hl with | [_], _ => rfl
set_option maxHeartbeats 4000000 in
theorem ok_law (T : Txt P w K mg ad fd tk) : FnG P w K mg base CX0 9 (ad 41) (fd 41) ["_law_script"] (spD K 1 f_law) := by
  refine fnD (k := 8) T.F_law sc_law fun cdv A out s H E hr => ?_
  exact (dss_one (ds_ret (de_b b_all (by rfl) T.n_all (da_cons (de_comp (own := [("_law_k", 1)]) rfl sc_law.nd  (di_r1 (by rfl) T.n_range (da_cons (de_add de_int (de_b b_min2 (by rfl) T.n_min (da_cons de_int (da_cons (de_b b_len (by rfl) T.n_len (da_cons (dv 0) da_nil)) da_nil)))) da_nil)) (blkOk_by (own := [("_law_k", 1)]) (N := N_law) (sc := defScope s_law) (by decide +kernel)) (fun _ _ _ _ _ => (dg_name (i := 1) sc_law.nd rfl (by first | exact Or.inl rfl | exact Or.inr rfl))) (fun _ _ _ _ _ => dts_nil) (fun _ _ _ _ _ => (de_call (ok__law_right T) (hr.le (by decide)) (by rfl) T.g__law_right T.F__law_right.kp (bi__law_right T) (da_cons (de_call (ok__law_box T) (hr.le (by decide)) (by rfl) T.g__law_box T.F__law_box.kp (bi__law_box T) (da_cons (dv 0) (da_cons (dv 1) da_nil))) da_nil)))) da_nil))))
end
end K26
end L2

set_option maxRecDepth 100000
namespace L2
namespace K26
open PySem PySem.Spec PyProof.Rows DL
theorem all_mk {P : Program} {w : PySem.World} {K : PySem.W.Frag} {h : Heap} {mg : Str → Option Value} {fa : Addr} (X : K.In h) (G : h.Ns mainGlobals mg) (hfa : mg "law" = some (.ref fa))
    {f7 : Addr} {od7 an7 : Option Addr} {sl7 : Array (Option Value)} {oc7 kV7 dc7 pm7 cd7 ct7 : Value}
    {f8 : Addr} {od8 an8 : Option Addr} {sl8 : Array (Option Value)} {oc8 kV8 dc8 pm8 cd8 ct8 : Value}
    {f15 : Addr} {od15 an15 : Option Addr} {sl15 : Array (Option Value)} {oc15 kV15 dc15 pm15 cd15 ct15 : Value}
    {f16 : Addr} {od16 an16 : Option Addr} {sl16 : Array (Option Value)} {oc16 kV16 dc16 pm16 cd16 ct16 : Value}
    {f17 : Addr} {od17 an17 : Option Addr} {sl17 : Array (Option Value)} {oc17 kV17 dc17 pm17 cd17 ct17 : Value}
    {f18 : Addr} {od18 an18 : Option Addr} {sl18 : Array (Option Value)} {oc18 kV18 dc18 pm18 cd18 ct18 : Value}
    {f19 : Addr} {od19 an19 : Option Addr} {sl19 : Array (Option Value)} {oc19 kV19 dc19 pm19 cd19 ct19 : Value}
    {f20 : Addr} {od20 an20 : Option Addr} {sl20 : Array (Option Value)} {oc20 kV20 dc20 pm20 cd20 ct20 : Value}
    {f21 : Addr} {od21 an21 : Option Addr} {sl21 : Array (Option Value)} {oc21 kV21 dc21 pm21 cd21 ct21 : Value}
    {f22 : Addr} {od22 an22 : Option Addr} {sl22 : Array (Option Value)} {oc22 kV22 dc22 pm22 cd22 ct22 : Value}
    {f23 : Addr} {od23 an23 : Option Addr} {sl23 : Array (Option Value)} {oc23 kV23 dc23 pm23 cd23 ct23 : Value}
    {f25 : Addr} {od25 an25 : Option Addr} {sl25 : Array (Option Value)} {oc25 kV25 dc25 pm25 cd25 ct25 : Value}
    {f26 : Addr} {od26 an26 : Option Addr} {sl26 : Array (Option Value)} {oc26 kV26 dc26 pm26 cd26 ct26 : Value}
    {f27 : Addr} {od27 an27 : Option Addr} {sl27 : Array (Option Value)} {oc27 kV27 dc27 pm27 cd27 ct27 : Value}
    {f28 : Addr} {od28 an28 : Option Addr} {sl28 : Array (Option Value)} {oc28 kV28 dc28 pm28 cd28 ct28 : Value}
    {f29 : Addr} {od29 an29 : Option Addr} {sl29 : Array (Option Value)} {oc29 kV29 dc29 pm29 cd29 ct29 : Value}
    {f30 : Addr} {od30 an30 : Option Addr} {sl30 : Array (Option Value)} {oc30 kV30 dc30 pm30 cd30 ct30 : Value}
    {f31 : Addr} {od31 an31 : Option Addr} {sl31 : Array (Option Value)} {oc31 kV31 dc31 pm31 cd31 ct31 : Value}
    {f32 : Addr} {od32 an32 : Option Addr} {sl32 : Array (Option Value)} {oc32 kV32 dc32 pm32 cd32 ct32 : Value}
    {f33 : Addr} {od33 an33 : Option Addr} {sl33 : Array (Option Value)} {oc33 kV33 dc33 pm33 cd33 ct33 : Value}
    {f34 : Addr} {od34 an34 : Option Addr} {sl34 : Array (Option Value)} {oc34 kV34 dc34 pm34 cd34 ct34 : Value}
    {f35 : Addr} {od35 an35 : Option Addr} {sl35 : Array (Option Value)} {oc35 kV35 dc35 pm35 cd35 ct35 : Value}
    {f36 : Addr} {od36 an36 : Option Addr} {sl36 : Array (Option Value)} {oc36 kV36 dc36 pm36 cd36 ct36 : Value}
    {f37 : Addr} {od37 an37 : Option Addr} {sl37 : Array (Option Value)} {oc37 kV37 dc37 pm37 cd37 ct37 : Value}
    {f38 : Addr} {od38 an38 : Option Addr} {sl38 : Array (Option Value)} {oc38 kV38 dc38 pm38 cd38 ct38 : Value}
    {f39 : Addr} {od39 an39 : Option Addr} {sl39 : Array (Option Value)} {oc39 kV39 dc39 pm39 cd39 ct39 : Value}
    {f40 : Addr} {od40 an40 : Option Addr} {sl40 : Array (Option Value)} {oc40 kV40 dc40 pm40 cd40 ct40 : Value}
    {f41 : Addr} {od41 an41 : Option Addr} {sl41 : Array (Option Value)} {oc41 kV41 dc41 pm41 cd41 ct41 : Value}
    {f1 g1 q1 cd1 : Addr} {xQ1 : Str} {xN1 : Addr} {xb1 xs1 : List Value} {xsn1 : List Str} {xab1 : Bool} {xco1 : Option Bool} {xd1 : Option Addr} {x0_1 x1_1 x2_1 x3_1 x5_1 : Option Value}
    {yo1 yd1 yp1 yc1 ro1 eo1 : Value} {yod1 rod1 eod1 : Option Addr} {ysl1 rsl1 esl1 : Array (Option Value)} {rv1 : Array Value} {fl1 : Str} {tf1 : Tok}
    {f2 g2 q2 cd2 : Addr} {xQ2 : Str} {xN2 : Addr} {xb2 xs2 : List Value} {xsn2 : List Str} {xab2 : Bool} {xco2 : Option Bool} {xd2 : Option Addr} {x0_2 x1_2 x2_2 x3_2 x5_2 : Option Value}
    {yo2 yd2 yp2 yc2 ro2 eo2 : Value} {yod2 rod2 eod2 : Option Addr} {ysl2 rsl2 esl2 : Array (Option Value)} {rv2 : Array Value} {fl2 : Str} {tf2 : Tok}
    {f3 g3 q3 cd3 : Addr} {xQ3 : Str} {xN3 : Addr} {xb3 xs3 : List Value} {xsn3 : List Str} {xab3 : Bool} {xco3 : Option Bool} {xd3 : Option Addr} {x0_3 x1_3 x2_3 x3_3 x5_3 : Option Value}
    {yo3 yd3 yp3 yc3 ro3 eo3 : Value} {yod3 rod3 eod3 : Option Addr} {ysl3 rsl3 esl3 : Array (Option Value)} {rv3 : Array Value} {fl3 : Str} {tf3 : Tok}
    {t5 : Tok}
    {t6 : Tok}
    {t10 : Tok}
    {t11 : Tok}
    {f12 : Addr}
    {t13 : Tok}
    {t14 : Tok}
    (a7 : PySem.W.nsIn K mainGlobals "is_number" = some (some (.ref f7))) (l7 : K.lookup f7 = some ⟨oc7, od7, .func (PySem.W.fnOf "is_number" "is_number" (defArgs s_is_number) (defBody s_is_number) (defScope s_is_number) .none kV7 dc7 pm7 an7 cd7 ct7), sl7⟩) (c7 : PySem.W.codeIn K cd7 "is_number" = true) (k7 : PySem.W.keepIn K (.ref f7) = true)
    (a8 : PySem.W.nsIn K mainGlobals "is_name" = some (some (.ref f8))) (l8 : K.lookup f8 = some ⟨oc8, od8, .func (PySem.W.fnOf "is_name" "is_name" (defArgs s_is_name) (defBody s_is_name) (defScope s_is_name) .none kV8 dc8 pm8 an8 cd8 ct8), sl8⟩) (c8 : PySem.W.codeIn K cd8 "is_name" = true) (k8 : PySem.W.keepIn K (.ref f8) = true)
    (a15 : PySem.W.nsIn K mainGlobals "is_part" = some (some (.ref f15))) (l15 : K.lookup f15 = some ⟨oc15, od15, .func (PySem.W.fnOf "is_part" "is_part" (defArgs s_is_part) (defBody s_is_part) (defScope s_is_part) .none kV15 dc15 pm15 an15 cd15 ct15), sl15⟩) (c15 : PySem.W.codeIn K cd15 "is_part" = true) (k15 : PySem.W.keepIn K (.ref f15) = true)
    (a16 : PySem.W.nsIn K mainGlobals "is_event" = some (some (.ref f16))) (l16 : K.lookup f16 = some ⟨oc16, od16, .func (PySem.W.fnOf "is_event" "is_event" (defArgs s_is_event) (defBody s_is_event) (defScope s_is_event) .none kV16 dc16 pm16 an16 cd16 ct16), sl16⟩) (c16 : PySem.W.codeIn K cd16 "is_event" = true) (k16 : PySem.W.keepIn K (.ref f16) = true)
    (a17 : PySem.W.nsIn K mainGlobals "event_text" = some (some (.ref f17))) (l17 : K.lookup f17 = some ⟨oc17, od17, .func (PySem.W.fnOf "event_text" "event_text" (defArgs s_event_text) (defBody s_event_text) (defScope s_event_text) .none kV17 dc17 pm17 an17 cd17 ct17), sl17⟩) (c17 : PySem.W.codeIn K cd17 "event_text" = true) (k17 : PySem.W.keepIn K (.ref f17) = true)
    (a18 : PySem.W.nsIn K mainGlobals "number_in" = some (some (.ref f18))) (l18 : K.lookup f18 = some ⟨oc18, od18, .func (PySem.W.fnOf "number_in" "number_in" (defArgs s_number_in) (defBody s_number_in) (defScope s_number_in) .none kV18 dc18 pm18 an18 cd18 ct18), sl18⟩) (c18 : PySem.W.codeIn K cd18 "number_in" = true) (k18 : PySem.W.keepIn K (.ref f18) = true)
    (a19 : PySem.W.nsIn K mainGlobals "part_in" = some (some (.ref f19))) (l19 : K.lookup f19 = some ⟨oc19, od19, .func (PySem.W.fnOf "part_in" "part_in" (defArgs s_part_in) (defBody s_part_in) (defScope s_part_in) .none kV19 dc19 pm19 an19 cd19 ct19), sl19⟩) (c19 : PySem.W.codeIn K cd19 "part_in" = true) (k19 : PySem.W.keepIn K (.ref f19) = true)
    (a20 : PySem.W.nsIn K mainGlobals "event_of" = some (some (.ref f20))) (l20 : K.lookup f20 = some ⟨oc20, od20, .func (PySem.W.fnOf "event_of" "event_of" (defArgs s_event_of) (defBody s_event_of) (defScope s_event_of) .none kV20 dc20 pm20 an20 cd20 ct20), sl20⟩) (c20 : PySem.W.codeIn K cd20 "event_of" = true) (k20 : PySem.W.keepIn K (.ref f20) = true)
    (a21 : PySem.W.nsIn K mainGlobals "event_in" = some (some (.ref f21))) (l21 : K.lookup f21 = some ⟨oc21, od21, .func (PySem.W.fnOf "event_in" "event_in" (defArgs s_event_in) (defBody s_event_in) (defScope s_event_in) .none kV21 dc21 pm21 an21 cd21 ct21), sl21⟩) (c21 : PySem.W.codeIn K cd21 "event_in" = true) (k21 : PySem.W.keepIn K (.ref f21) = true)
    (a22 : PySem.W.nsIn K mainGlobals "events_text" = some (some (.ref f22))) (l22 : K.lookup f22 = some ⟨oc22, od22, .func (PySem.W.fnOf "events_text" "events_text" (defArgs s_events_text) (defBody s_events_text) (defScope s_events_text) .none kV22 dc22 pm22 an22 cd22 ct22), sl22⟩) (c22 : PySem.W.codeIn K cd22 "events_text" = true) (k22 : PySem.W.keepIn K (.ref f22) = true)
    (a23 : PySem.W.nsIn K mainGlobals "events_in" = some (some (.ref f23))) (l23 : K.lookup f23 = some ⟨oc23, od23, .func (PySem.W.fnOf "events_in" "events_in" (defArgs s_events_in) (defBody s_events_in) (defScope s_events_in) .none kV23 dc23 pm23 an23 cd23 ct23), sl23⟩) (c23 : PySem.W.codeIn K cd23 "events_in" = true) (k23 : PySem.W.keepIn K (.ref f23) = true)
    (a25 : PySem.W.nsIn K mainGlobals "_law_take" = some (some (.ref f25))) (l25 : K.lookup f25 = some ⟨oc25, od25, .func (PySem.W.fnOf "_law_take" "_law_take" (defArgs s__law_take) (defBody s__law_take) (defScope s__law_take) .none kV25 dc25 pm25 an25 cd25 ct25), sl25⟩) (c25 : PySem.W.codeIn K cd25 "_law_take" = true) (k25 : PySem.W.keepIn K (.ref f25) = true)
    (a26 : PySem.W.nsIn K mainGlobals "_law_of" = some (some (.ref f26))) (l26 : K.lookup f26 = some ⟨oc26, od26, .func (PySem.W.fnOf "_law_of" "_law_of" (defArgs s__law_of) (defBody s__law_of) (defScope s__law_of) .none kV26 dc26 pm26 an26 cd26 ct26), sl26⟩) (c26 : PySem.W.codeIn K cd26 "_law_of" = true) (k26 : PySem.W.keepIn K (.ref f26) = true)
    (a27 : PySem.W.nsIn K mainGlobals "_law_same" = some (some (.ref f27))) (l27 : K.lookup f27 = some ⟨oc27, od27, .func (PySem.W.fnOf "_law_same" "_law_same" (defArgs s__law_same) (defBody s__law_same) (defScope s__law_same) .none kV27 dc27 pm27 an27 cd27 ct27), sl27⟩) (c27 : PySem.W.codeIn K cd27 "_law_same" = true) (k27 : PySem.W.keepIn K (.ref f27) = true)
    (a28 : PySem.W.nsIn K mainGlobals "_law_mixed" = some (some (.ref f28))) (l28 : K.lookup f28 = some ⟨oc28, od28, .func (PySem.W.fnOf "_law_mixed" "_law_mixed" (defArgs s__law_mixed) (defBody s__law_mixed) (defScope s__law_mixed) .none kV28 dc28 pm28 an28 cd28 ct28), sl28⟩) (c28 : PySem.W.codeIn K cd28 "_law_mixed" = true) (k28 : PySem.W.keepIn K (.ref f28) = true)
    (a29 : PySem.W.nsIn K mainGlobals "_law_cell_at" = some (some (.ref f29))) (l29 : K.lookup f29 = some ⟨oc29, od29, .func (PySem.W.fnOf "_law_cell_at" "_law_cell_at" (defArgs s__law_cell_at) (defBody s__law_cell_at) (defScope s__law_cell_at) .none kV29 dc29 pm29 an29 cd29 ct29), sl29⟩) (c29 : PySem.W.codeIn K cd29 "_law_cell_at" = true) (k29 : PySem.W.keepIn K (.ref f29) = true)
    (a30 : PySem.W.nsIn K mainGlobals "_law_box" = some (some (.ref f30))) (l30 : K.lookup f30 = some ⟨oc30, od30, .func (PySem.W.fnOf "_law_box" "_law_box" (defArgs s__law_box) (defBody s__law_box) (defScope s__law_box) .none kV30 dc30 pm30 an30 cd30 ct30), sl30⟩) (c30 : PySem.W.codeIn K cd30 "_law_box" = true) (k30 : PySem.W.keepIn K (.ref f30) = true)
    (a31 : PySem.W.nsIn K mainGlobals "_law_forms" = some (some (.ref f31))) (l31 : K.lookup f31 = some ⟨oc31, od31, .func (PySem.W.fnOf "_law_forms" "_law_forms" (defArgs s__law_forms) (defBody s__law_forms) (defScope s__law_forms) .none kV31 dc31 pm31 an31 cd31 ct31), sl31⟩) (c31 : PySem.W.codeIn K cd31 "_law_forms" = true) (k31 : PySem.W.keepIn K (.ref f31) = true)
    (a32 : PySem.W.nsIn K mainGlobals "_law_deed" = some (some (.ref f32))) (l32 : K.lookup f32 = some ⟨oc32, od32, .func (PySem.W.fnOf "_law_deed" "_law_deed" (defArgs s__law_deed) (defBody s__law_deed) (defScope s__law_deed) .none kV32 dc32 pm32 an32 cd32 ct32), sl32⟩) (c32 : PySem.W.codeIn K cd32 "_law_deed" = true) (k32 : PySem.W.keepIn K (.ref f32) = true)
    (a33 : PySem.W.nsIn K mainGlobals "_law_is_word" = some (some (.ref f33))) (l33 : K.lookup f33 = some ⟨oc33, od33, .func (PySem.W.fnOf "_law_is_word" "_law_is_word" (defArgs s__law_is_word) (defBody s__law_is_word) (defScope s__law_is_word) .none kV33 dc33 pm33 an33 cd33 ct33), sl33⟩) (c33 : PySem.W.codeIn K cd33 "_law_is_word" = true) (k33 : PySem.W.keepIn K (.ref f33) = true)
    (a34 : PySem.W.nsIn K mainGlobals "_law_part" = some (some (.ref f34))) (l34 : K.lookup f34 = some ⟨oc34, od34, .func (PySem.W.fnOf "_law_part" "_law_part" (defArgs s__law_part) (defBody s__law_part) (defScope s__law_part) .none kV34 dc34 pm34 an34 cd34 ct34), sl34⟩) (c34 : PySem.W.codeIn K cd34 "_law_part" = true) (k34 : PySem.W.keepIn K (.ref f34) = true)
    (a35 : PySem.W.nsIn K mainGlobals "_law_own_reader" = some (some (.ref f35))) (l35 : K.lookup f35 = some ⟨oc35, od35, .func (PySem.W.fnOf "_law_own_reader" "_law_own_reader" (defArgs s__law_own_reader) (defBody s__law_own_reader) (defScope s__law_own_reader) .none kV35 dc35 pm35 an35 cd35 ct35), sl35⟩) (c35 : PySem.W.codeIn K cd35 "_law_own_reader" = true) (k35 : PySem.W.keepIn K (.ref f35) = true)
    (a36 : PySem.W.nsIn K mainGlobals "_law_heard" = some (some (.ref f36))) (l36 : K.lookup f36 = some ⟨oc36, od36, .func (PySem.W.fnOf "_law_heard" "_law_heard" (defArgs s__law_heard) (defBody s__law_heard) (defScope s__law_heard) .none kV36 dc36 pm36 an36 cd36 ct36), sl36⟩) (c36 : PySem.W.codeIn K cd36 "_law_heard" = true) (k36 : PySem.W.keepIn K (.ref f36) = true)
    (a37 : PySem.W.nsIn K mainGlobals "_law_due" = some (some (.ref f37))) (l37 : K.lookup f37 = some ⟨oc37, od37, .func (PySem.W.fnOf "_law_due" "_law_due" (defArgs s__law_due) (defBody s__law_due) (defScope s__law_due) .none kV37 dc37 pm37 an37 cd37 ct37), sl37⟩) (c37 : PySem.W.codeIn K cd37 "_law_due" = true) (k37 : PySem.W.keepIn K (.ref f37) = true)
    (a38 : PySem.W.nsIn K mainGlobals "_law_spoilt" = some (some (.ref f38))) (l38 : K.lookup f38 = some ⟨oc38, od38, .func (PySem.W.fnOf "_law_spoilt" "_law_spoilt" (defArgs s__law_spoilt) (defBody s__law_spoilt) (defScope s__law_spoilt) .none kV38 dc38 pm38 an38 cd38 ct38), sl38⟩) (c38 : PySem.W.codeIn K cd38 "_law_spoilt" = true) (k38 : PySem.W.keepIn K (.ref f38) = true)
    (a39 : PySem.W.nsIn K mainGlobals "_law_things_right" = some (some (.ref f39))) (l39 : K.lookup f39 = some ⟨oc39, od39, .func (PySem.W.fnOf "_law_things_right" "_law_things_right" (defArgs s__law_things_right) (defBody s__law_things_right) (defScope s__law_things_right) .none kV39 dc39 pm39 an39 cd39 ct39), sl39⟩) (c39 : PySem.W.codeIn K cd39 "_law_things_right" = true) (k39 : PySem.W.keepIn K (.ref f39) = true)
    (a40 : PySem.W.nsIn K mainGlobals "_law_right" = some (some (.ref f40))) (l40 : K.lookup f40 = some ⟨oc40, od40, .func (PySem.W.fnOf "_law_right" "_law_right" (defArgs s__law_right) (defBody s__law_right) (defScope s__law_right) .none kV40 dc40 pm40 an40 cd40 ct40), sl40⟩) (c40 : PySem.W.codeIn K cd40 "_law_right" = true) (k40 : PySem.W.keepIn K (.ref f40) = true)
    (a41 : PySem.W.nsIn K mainGlobals "law" = some (some (.ref f41))) (l41 : K.lookup f41 = some ⟨oc41, od41, .func (PySem.W.fnOf "law" "law" (defArgs s_law) (defBody s_law) (defScope s_law) .none kV41 dc41 pm41 an41 cd41 ct41), sl41⟩) (c41 : PySem.W.codeIn K cd41 "law" = true) (k41 : PySem.W.keepIn K (.ref f41) = true)
    (xa1 : PySem.W.nsIn K mainGlobals "Known" = some (some (.ref f1)))
    (xl1 : K.lookup f1 = some (DXE.exC "Known" xQ1 f1 xN1 xb1 ((xBases "Known").map Value.type) true xsn1 xs1 xab1 xco1 xd1 x0_1 x1_1 x2_1 x3_1 x5_1 "ValueError.__new__"))
    (xs1 : PySem.W.findIn K (.ref f1) "__setattr__" = some (some (.builtin "object.__setattr__")))
    (xu1 : PySem.W.subIn K (.ref f1) (.type "ValueError") = some true)
    (xk1 : PySem.W.keepIn K (.ref f1) = true)
    (xi1 : PySem.W.findIn K (.ref f1) "__init__" = some (some (.ref g1)))
    (xt1 : PySem.W.typeIn K (.ref g1) = some (.type "function"))
    (xf1 : K.lookup g1 = some ⟨yo1, yod1, .func (PySem.W.fnX "__init__" "Known.__init__" (defArgs i_Known) (defBody i_Known) (defScope i_Known) [("__class__", q1)] .none .none yd1 yp1 none (.ref cd1) yc1), ysl1⟩)
    (xc1 : PySem.W.codeIn K (.ref cd1) "Known.__init__" = true)
    (xr1 : K.lookup cd1 = some ⟨ro1, rod1, .fields rv1, rsl1⟩)
    (xv1 : rv1[2]? = some (.str fl1 tf1))
    (xw1 : ((P.main.file : Str) == fl1) = true)
    (xe1 : K.lookup q1 = some ⟨eo1, eod1, .cell (some (.ref f1)), esl1⟩)
    (xp1 : PySem.W.ks_superIn K f1 f1 "__init__" = some (some (.builtin "ValueError.__init__")))
    (xm1 : PySem.W.mroIn K f1 (.ref f1) = some true)
    (y1_1 : PySem.W.findIn K (.ref f1) "__getattribute__" = some (some (.builtin "BaseException.__getattribute__")))
    (y2_1 : PySem.W.findIn K (.ref f1) "__getattr__" = some none)
    (y3_1 : PySem.W.subIn K (.ref f1) (.type "BaseException") = some true)
    (y4_1 : PySem.W.hasDictIn K f1 = true)
    (y5_1 : PySem.W.findIn K (.ref f1) "__class__" = some (some (.builtin "object.__class__")))
    (y6_1 : PySem.W.specialIn K (.builtin "object.__class__") "__get__" = some (some (.builtin "getset_descriptor.__get__")))
    (y7_1 : PySem.W.takesIn K (.builtin "object.__class__") = some true)
    (y8_1 : PySem.W.mroIn K f1 (.type "object") = some true)
    (xn_name_1 : PySem.W.findIn K (.ref f1) "name" = some none)
    (xa2 : PySem.W.nsIn K mainGlobals "BadText" = some (some (.ref f2)))
    (xl2 : K.lookup f2 = some (DXE.exC "BadText" xQ2 f2 xN2 xb2 ((xBases "BadText").map Value.type) true xsn2 xs2 xab2 xco2 xd2 x0_2 x1_2 x2_2 x3_2 x5_2 "ValueError.__new__"))
    (xs2 : PySem.W.findIn K (.ref f2) "__setattr__" = some (some (.builtin "object.__setattr__")))
    (xu2 : PySem.W.subIn K (.ref f2) (.type "ValueError") = some true)
    (xk2 : PySem.W.keepIn K (.ref f2) = true)
    (xi2 : PySem.W.findIn K (.ref f2) "__init__" = some (some (.ref g2)))
    (xt2 : PySem.W.typeIn K (.ref g2) = some (.type "function"))
    (xf2 : K.lookup g2 = some ⟨yo2, yod2, .func (PySem.W.fnX "__init__" "BadText.__init__" (defArgs i_BadText) (defBody i_BadText) (defScope i_BadText) [("__class__", q2)] .none .none yd2 yp2 none (.ref cd2) yc2), ysl2⟩)
    (xc2 : PySem.W.codeIn K (.ref cd2) "BadText.__init__" = true)
    (xr2 : K.lookup cd2 = some ⟨ro2, rod2, .fields rv2, rsl2⟩)
    (xv2 : rv2[2]? = some (.str fl2 tf2))
    (xw2 : ((P.main.file : Str) == fl2) = true)
    (xe2 : K.lookup q2 = some ⟨eo2, eod2, .cell (some (.ref f2)), esl2⟩)
    (xp2 : PySem.W.ks_superIn K f2 f2 "__init__" = some (some (.builtin "ValueError.__init__")))
    (xm2 : PySem.W.mroIn K f2 (.ref f2) = some true)
    (y1_2 : PySem.W.findIn K (.ref f2) "__getattribute__" = some (some (.builtin "BaseException.__getattribute__")))
    (y2_2 : PySem.W.findIn K (.ref f2) "__getattr__" = some none)
    (y3_2 : PySem.W.subIn K (.ref f2) (.type "BaseException") = some true)
    (y4_2 : PySem.W.hasDictIn K f2 = true)
    (y5_2 : PySem.W.findIn K (.ref f2) "__class__" = some (some (.builtin "object.__class__")))
    (y6_2 : PySem.W.specialIn K (.builtin "object.__class__") "__get__" = some (some (.builtin "getset_descriptor.__get__")))
    (y7_2 : PySem.W.takesIn K (.builtin "object.__class__") = some true)
    (y8_2 : PySem.W.mroIn K f2 (.type "object") = some true)
    (xa3 : PySem.W.nsIn K mainGlobals "BadLine" = some (some (.ref f3)))
    (xl3 : K.lookup f3 = some (DXE.exC "BadLine" xQ3 f3 xN3 xb3 ((xBases "BadLine").map Value.type) true xsn3 xs3 xab3 xco3 xd3 x0_3 x1_3 x2_3 x3_3 x5_3 "ValueError.__new__"))
    (xs3 : PySem.W.findIn K (.ref f3) "__setattr__" = some (some (.builtin "object.__setattr__")))
    (xu3 : PySem.W.subIn K (.ref f3) (.type "ValueError") = some true)
    (xk3 : PySem.W.keepIn K (.ref f3) = true)
    (xi3 : PySem.W.findIn K (.ref f3) "__init__" = some (some (.ref g3)))
    (xt3 : PySem.W.typeIn K (.ref g3) = some (.type "function"))
    (xf3 : K.lookup g3 = some ⟨yo3, yod3, .func (PySem.W.fnX "__init__" "BadLine.__init__" (defArgs i_BadLine) (defBody i_BadLine) (defScope i_BadLine) [("__class__", q3)] .none .none yd3 yp3 none (.ref cd3) yc3), ysl3⟩)
    (xc3 : PySem.W.codeIn K (.ref cd3) "BadLine.__init__" = true)
    (xr3 : K.lookup cd3 = some ⟨ro3, rod3, .fields rv3, rsl3⟩)
    (xv3 : rv3[2]? = some (.str fl3 tf3))
    (xw3 : ((P.main.file : Str) == fl3) = true)
    (xe3 : K.lookup q3 = some ⟨eo3, eod3, .cell (some (.ref f3)), esl3⟩)
    (xp3 : PySem.W.ks_superIn K f3 f3 "__init__" = some (some (.builtin "ValueError.__init__")))
    (xm3 : PySem.W.mroIn K f3 (.ref f3) = some true)
    (y1_3 : PySem.W.findIn K (.ref f3) "__getattribute__" = some (some (.builtin "BaseException.__getattribute__")))
    (y2_3 : PySem.W.findIn K (.ref f3) "__getattr__" = some none)
    (y3_3 : PySem.W.subIn K (.ref f3) (.type "BaseException") = some true)
    (y4_3 : PySem.W.hasDictIn K f3 = true)
    (y5_3 : PySem.W.findIn K (.ref f3) "__class__" = some (some (.builtin "object.__class__")))
    (y6_3 : PySem.W.specialIn K (.builtin "object.__class__") "__get__" = some (some (.builtin "getset_descriptor.__get__")))
    (y7_3 : PySem.W.takesIn K (.builtin "object.__class__") = some true)
    (y8_3 : PySem.W.mroIn K f3 (.type "object") = some true)
    (xn_number_3 : PySem.W.findIn K (.ref f3) "number" = some none)
    (xo : PySem.W.nsIn K cStatics "thirdparty.any" = some none) (xq : (P.main.scope.names.lookup ("super" : Str)).isSome = false)
    (a5 : PySem.W.nsIn K mainGlobals "LETTERS" = some (some (.str "abcdefghijklmnopqrstuvwxyz" t5)))
    (a6 : PySem.W.nsIn K mainGlobals "MOST_LETTERS" = some (some (.int 8 t6)))
    (a10 : PySem.W.nsIn K mainGlobals "NAME" = some (some (.str "n" t10)))
    (a11 : PySem.W.nsIn K mainGlobals "BLOCK" = some (some (.str "b" t11)))
    (a12 : PySem.W.nsIn K mainGlobals "FORMS" = some (some (.ref f12))) (d12 : He.dicW K f12 = some (He.keysIn w.params ["make", "promise", "give", "cut", "clone", "keep", "drop", "place", "commit", "stop"])) (e12 : litD K f12 kd_FORMS = true)
    (a13 : PySem.W.nsIn K mainGlobals "FIGURES" = some (some (.str "0123456789" t13)))
    (a14 : PySem.W.nsIn K mainGlobals "MOST_FIGURES" = some (some (.int 6 t14)))
    (z_ValueError : PySem.W.nsIn K mainGlobals "ValueError" = some none)
    (z_abs : PySem.W.nsIn K mainGlobals "abs" = some none)
    (z_all : PySem.W.nsIn K mainGlobals "all" = some none)
    (z_bool : PySem.W.nsIn K mainGlobals "bool" = some none)
    (z_enumerate : PySem.W.nsIn K mainGlobals "enumerate" = some none)
    (z_int : PySem.W.nsIn K mainGlobals "int" = some none)
    (z_isinstance : PySem.W.nsIn K mainGlobals "isinstance" = some none)
    (z_len : PySem.W.nsIn K mainGlobals "len" = some none)
    (z_list : PySem.W.nsIn K mainGlobals "list" = some none)
    (z_min : PySem.W.nsIn K mainGlobals "min" = some none)
    (z_range : PySem.W.nsIn K mainGlobals "range" = some none)
    (z_str : PySem.W.nsIn K mainGlobals "str" = some none)
    (z_super : PySem.W.nsIn K mainGlobals "super" = some none)
    (z_tuple : PySem.W.nsIn K mainGlobals "tuple" = some none)
    (z_zip : PySem.W.nsIn K mainGlobals "zip" = some none) :
    ∃ fd : FuncData, (∀ (s : Shared) (u : Value), BindsTo s fd ⟨[u], []⟩ [("_law_script", u)]) ∧ ∀ base : Heap, K.In base → base.Ns mainGlobals mg → FnG P w K mg base CX0 9 fa fd ["_law_script"] (spD K 1 f_law) := by
  have e := hfa.symm.trans (PySem.W.mg_of X G a41)
  cases e
  have T : Txt P w K mg (fun i => match i with | 7 => f7 | 8 => f8 | 15 => f15 | 16 => f16 | 17 => f17 | 18 => f18 | 19 => f19 | 20 => f20 | 21 => f21 | 22 => f22 | 23 => f23 | 25 => f25 | 26 => f26 | 27 => f27 | 28 => f28 | 29 => f29 | 30 => f30 | 31 => f31 | 32 => f32 | 33 => f33 | 34 => f34 | 35 => f35 | 36 => f36 | 37 => f37 | 38 => f38 | 39 => f39 | 40 => f40 | 41 => fa | 12 => f12 | 1 => f1 | 1001 => g1 | 2001 => q1 | 3001 => cd1 | 2 => f2 | 1002 => g2 | 2002 => q2 | 3002 => cd2 | 3 => f3 | 1003 => g3 | 2003 => q3 | 3003 => cd3 | _ => 0)
      (fun i => match i with | 1001 => (PySem.W.fnX "__init__" "Known.__init__" (defArgs i_Known) (defBody i_Known) (defScope i_Known) [("__class__", q1)] .none .none yd1 yp1 none (.ref cd1) yc1) | 1002 => (PySem.W.fnX "__init__" "BadText.__init__" (defArgs i_BadText) (defBody i_BadText) (defScope i_BadText) [("__class__", q2)] .none .none yd2 yp2 none (.ref cd2) yc2) | 1003 => (PySem.W.fnX "__init__" "BadLine.__init__" (defArgs i_BadLine) (defBody i_BadLine) (defScope i_BadLine) [("__class__", q3)] .none .none yd3 yp3 none (.ref cd3) yc3) | 7 => (PySem.W.fnOf "is_number" "is_number" (defArgs s_is_number) (defBody s_is_number) (defScope s_is_number) .none kV7 dc7 pm7 an7 cd7 ct7) | 8 => (PySem.W.fnOf "is_name" "is_name" (defArgs s_is_name) (defBody s_is_name) (defScope s_is_name) .none kV8 dc8 pm8 an8 cd8 ct8) | 15 => (PySem.W.fnOf "is_part" "is_part" (defArgs s_is_part) (defBody s_is_part) (defScope s_is_part) .none kV15 dc15 pm15 an15 cd15 ct15) | 16 => (PySem.W.fnOf "is_event" "is_event" (defArgs s_is_event) (defBody s_is_event) (defScope s_is_event) .none kV16 dc16 pm16 an16 cd16 ct16) | 17 => (PySem.W.fnOf "event_text" "event_text" (defArgs s_event_text) (defBody s_event_text) (defScope s_event_text) .none kV17 dc17 pm17 an17 cd17 ct17) | 18 => (PySem.W.fnOf "number_in" "number_in" (defArgs s_number_in) (defBody s_number_in) (defScope s_number_in) .none kV18 dc18 pm18 an18 cd18 ct18) | 19 => (PySem.W.fnOf "part_in" "part_in" (defArgs s_part_in) (defBody s_part_in) (defScope s_part_in) .none kV19 dc19 pm19 an19 cd19 ct19) | 20 => (PySem.W.fnOf "event_of" "event_of" (defArgs s_event_of) (defBody s_event_of) (defScope s_event_of) .none kV20 dc20 pm20 an20 cd20 ct20) | 21 => (PySem.W.fnOf "event_in" "event_in" (defArgs s_event_in) (defBody s_event_in) (defScope s_event_in) .none kV21 dc21 pm21 an21 cd21 ct21) | 22 => (PySem.W.fnOf "events_text" "events_text" (defArgs s_events_text) (defBody s_events_text) (defScope s_events_text) .none kV22 dc22 pm22 an22 cd22 ct22) | 23 => (PySem.W.fnOf "events_in" "events_in" (defArgs s_events_in) (defBody s_events_in) (defScope s_events_in) .none kV23 dc23 pm23 an23 cd23 ct23) | 25 => (PySem.W.fnOf "_law_take" "_law_take" (defArgs s__law_take) (defBody s__law_take) (defScope s__law_take) .none kV25 dc25 pm25 an25 cd25 ct25) | 26 => (PySem.W.fnOf "_law_of" "_law_of" (defArgs s__law_of) (defBody s__law_of) (defScope s__law_of) .none kV26 dc26 pm26 an26 cd26 ct26) | 27 => (PySem.W.fnOf "_law_same" "_law_same" (defArgs s__law_same) (defBody s__law_same) (defScope s__law_same) .none kV27 dc27 pm27 an27 cd27 ct27) | 28 => (PySem.W.fnOf "_law_mixed" "_law_mixed" (defArgs s__law_mixed) (defBody s__law_mixed) (defScope s__law_mixed) .none kV28 dc28 pm28 an28 cd28 ct28) | 29 => (PySem.W.fnOf "_law_cell_at" "_law_cell_at" (defArgs s__law_cell_at) (defBody s__law_cell_at) (defScope s__law_cell_at) .none kV29 dc29 pm29 an29 cd29 ct29) | 30 => (PySem.W.fnOf "_law_box" "_law_box" (defArgs s__law_box) (defBody s__law_box) (defScope s__law_box) .none kV30 dc30 pm30 an30 cd30 ct30) | 31 => (PySem.W.fnOf "_law_forms" "_law_forms" (defArgs s__law_forms) (defBody s__law_forms) (defScope s__law_forms) .none kV31 dc31 pm31 an31 cd31 ct31) | 32 => (PySem.W.fnOf "_law_deed" "_law_deed" (defArgs s__law_deed) (defBody s__law_deed) (defScope s__law_deed) .none kV32 dc32 pm32 an32 cd32 ct32) | 33 => (PySem.W.fnOf "_law_is_word" "_law_is_word" (defArgs s__law_is_word) (defBody s__law_is_word) (defScope s__law_is_word) .none kV33 dc33 pm33 an33 cd33 ct33) | 34 => (PySem.W.fnOf "_law_part" "_law_part" (defArgs s__law_part) (defBody s__law_part) (defScope s__law_part) .none kV34 dc34 pm34 an34 cd34 ct34) | 35 => (PySem.W.fnOf "_law_own_reader" "_law_own_reader" (defArgs s__law_own_reader) (defBody s__law_own_reader) (defScope s__law_own_reader) .none kV35 dc35 pm35 an35 cd35 ct35) | 36 => (PySem.W.fnOf "_law_heard" "_law_heard" (defArgs s__law_heard) (defBody s__law_heard) (defScope s__law_heard) .none kV36 dc36 pm36 an36 cd36 ct36) | 37 => (PySem.W.fnOf "_law_due" "_law_due" (defArgs s__law_due) (defBody s__law_due) (defScope s__law_due) .none kV37 dc37 pm37 an37 cd37 ct37) | 38 => (PySem.W.fnOf "_law_spoilt" "_law_spoilt" (defArgs s__law_spoilt) (defBody s__law_spoilt) (defScope s__law_spoilt) .none kV38 dc38 pm38 an38 cd38 ct38) | 39 => (PySem.W.fnOf "_law_things_right" "_law_things_right" (defArgs s__law_things_right) (defBody s__law_things_right) (defScope s__law_things_right) .none kV39 dc39 pm39 an39 cd39 ct39) | 40 => (PySem.W.fnOf "_law_right" "_law_right" (defArgs s__law_right) (defBody s__law_right) (defScope s__law_right) .none kV40 dc40 pm40 an40 cd40 ct40) | 41 => (PySem.W.fnOf "law" "law" (defArgs s_law) (defBody s_law) (defScope s_law) .none kV41 dc41 pm41 an41 cd41 ct41) | _ => (PySem.W.fnX "__init__" "Known.__init__" (defArgs i_Known) (defBody i_Known) (defScope i_Known) [("__class__", q1)] .none .none yd1 yp1 none (.ref cd1) yc1))
      (fun i => match i with | 5 => t5 | 6 => t6 | 10 => t10 | 11 => t11 | 13 => t13 | 14 => t14 | _ => 0) :=
    { xg_Known := PySem.W.mg_of X G xa1,
      xc_Known := ⟨F.excBase_ValueError, PySem.W.kxs_ValueError, F.store_ValueError, xa1, ⟨_, _, _, _, _, _, _, _, _, _, _, _, _, xl1⟩, xs1, xu1, xk1⟩,
      xi_Known := ⟨xi1, xt1, ⟨_, _, _, _, _, _, rfl, xf1⟩, xc1, ⟨_, _, _, _, _, _, xr1, xv1, xw1⟩, ⟨_, _, _, _, rfl, xe1⟩, xo, xp1, xm1, xq⟩,
      xe_Known := ⟨y1_1, y2_1, y3_1, y4_1, y5_1, y6_1, y7_1, y8_1⟩,
      xn_Known_name := xn_name_1,
      xg_BadText := PySem.W.mg_of X G xa2,
      xc_BadText := ⟨F.excBase_ValueError, PySem.W.kxs_ValueError, F.store_ValueError, xa2, ⟨_, _, _, _, _, _, _, _, _, _, _, _, _, xl2⟩, xs2, xu2, xk2⟩,
      xi_BadText := ⟨xi2, xt2, ⟨_, _, _, _, _, _, rfl, xf2⟩, xc2, ⟨_, _, _, _, _, _, xr2, xv2, xw2⟩, ⟨_, _, _, _, rfl, xe2⟩, xo, xp2, xm2, xq⟩,
      xe_BadText := ⟨y1_2, y2_2, y3_2, y4_2, y5_2, y6_2, y7_2, y8_2⟩,
      xg_BadLine := PySem.W.mg_of X G xa3,
      xc_BadLine := ⟨F.excBase_ValueError, PySem.W.kxs_ValueError, F.store_ValueError, xa3, ⟨_, _, _, _, _, _, _, _, _, _, _, _, _, xl3⟩, xs3, xu3, xk3⟩,
      xi_BadLine := ⟨xi3, xt3, ⟨_, _, _, _, _, _, rfl, xf3⟩, xc3, ⟨_, _, _, _, _, _, xr3, xv3, xw3⟩, ⟨_, _, _, _, rfl, xe3⟩, xo, xp3, xm3, xq⟩,
      xe_BadLine := ⟨y1_3, y2_3, y3_3, y4_3, y5_3, y6_3, y7_3, y8_3⟩,
      xn_BadLine_number := xn_number_3,
      g_is_number := PySem.W.mg_of X G a7,
      F_is_number := fun_mk (st := s_is_number) l7 c7 k7,
      g_is_name := PySem.W.mg_of X G a8,
      F_is_name := fun_mk (st := s_is_name) l8 c8 k8,
      g_is_part := PySem.W.mg_of X G a15,
      F_is_part := fun_mk (st := s_is_part) l15 c15 k15,
      g_is_event := PySem.W.mg_of X G a16,
      F_is_event := fun_mk (st := s_is_event) l16 c16 k16,
      g_event_text := PySem.W.mg_of X G a17,
      F_event_text := fun_mk (st := s_event_text) l17 c17 k17,
      g_number_in := PySem.W.mg_of X G a18,
      F_number_in := fun_mk (st := s_number_in) l18 c18 k18,
      g_part_in := PySem.W.mg_of X G a19,
      F_part_in := fun_mk (st := s_part_in) l19 c19 k19,
      g_event_of := PySem.W.mg_of X G a20,
      F_event_of := fun_mk (st := s_event_of) l20 c20 k20,
      g_event_in := PySem.W.mg_of X G a21,
      F_event_in := fun_mk (st := s_event_in) l21 c21 k21,
      g_events_text := PySem.W.mg_of X G a22,
      F_events_text := fun_mk (st := s_events_text) l22 c22 k22,
      g_events_in := PySem.W.mg_of X G a23,
      F_events_in := fun_mk (st := s_events_in) l23 c23 k23,
      g__law_take := PySem.W.mg_of X G a25,
      F__law_take := fun_mk (st := s__law_take) l25 c25 k25,
      g__law_of := PySem.W.mg_of X G a26,
      F__law_of := fun_mk (st := s__law_of) l26 c26 k26,
      g__law_same := PySem.W.mg_of X G a27,
      F__law_same := fun_mk (st := s__law_same) l27 c27 k27,
      g__law_mixed := PySem.W.mg_of X G a28,
      F__law_mixed := fun_mk (st := s__law_mixed) l28 c28 k28,
      g__law_cell_at := PySem.W.mg_of X G a29,
      F__law_cell_at := fun_mk (st := s__law_cell_at) l29 c29 k29,
      g__law_box := PySem.W.mg_of X G a30,
      F__law_box := fun_mk (st := s__law_box) l30 c30 k30,
      g__law_forms := PySem.W.mg_of X G a31,
      F__law_forms := fun_mk (st := s__law_forms) l31 c31 k31,
      g__law_deed := PySem.W.mg_of X G a32,
      F__law_deed := fun_mk (st := s__law_deed) l32 c32 k32,
      g__law_is_word := PySem.W.mg_of X G a33,
      F__law_is_word := fun_mk (st := s__law_is_word) l33 c33 k33,
      g__law_part := PySem.W.mg_of X G a34,
      F__law_part := fun_mk (st := s__law_part) l34 c34 k34,
      g__law_own_reader := PySem.W.mg_of X G a35,
      F__law_own_reader := fun_mk (st := s__law_own_reader) l35 c35 k35,
      g__law_heard := PySem.W.mg_of X G a36,
      F__law_heard := fun_mk (st := s__law_heard) l36 c36 k36,
      g__law_due := PySem.W.mg_of X G a37,
      F__law_due := fun_mk (st := s__law_due) l37 c37 k37,
      g__law_spoilt := PySem.W.mg_of X G a38,
      F__law_spoilt := fun_mk (st := s__law_spoilt) l38 c38 k38,
      g__law_things_right := PySem.W.mg_of X G a39,
      F__law_things_right := fun_mk (st := s__law_things_right) l39 c39 k39,
      g__law_right := PySem.W.mg_of X G a40,
      F__law_right := fun_mk (st := s__law_right) l40 c40 k40,
      g_law := PySem.W.mg_of X G a41,
      F_law := fun_mk (st := s_law) l41 c41 k41,
      g_LETTERS := PySem.W.mg_of X G a5,
      r_LETTERS := ⟨_, rfl⟩,
      c_LETTERS := fun r H => .str _,
      g_MOST_LETTERS := PySem.W.mg_of X G a6,
      r_MOST_LETTERS := ⟨_, rfl⟩,
      c_MOST_LETTERS := fun r H => .int _,
      g_NAME := PySem.W.mg_of X G a10,
      r_NAME := ⟨_, rfl⟩,
      c_NAME := fun r H => .str _,
      g_BLOCK := PySem.W.mg_of X G a11,
      r_BLOCK := ⟨_, rfl⟩,
      c_BLOCK := fun r H => .str _,
      g_FORMS := PySem.W.mg_of X G a12,
      kd_FORMS := gd_mk a12 d12 e12,
      g_FIGURES := PySem.W.mg_of X G a13,
      r_FIGURES := ⟨_, rfl⟩,
      c_FIGURES := fun r H => .str _,
      g_MOST_FIGURES := PySem.W.mg_of X G a14,
      r_MOST_FIGURES := ⟨_, rfl⟩,
      c_MOST_FIGURES := fun r H => .int _,
      n_ValueError := PySem.W.mg_none_of X G z_ValueError,
      n_abs := PySem.W.mg_none_of X G z_abs,
      n_all := PySem.W.mg_none_of X G z_all,
      n_bool := PySem.W.mg_none_of X G z_bool,
      n_enumerate := PySem.W.mg_none_of X G z_enumerate,
      n_int := PySem.W.mg_none_of X G z_int,
      n_isinstance := PySem.W.mg_none_of X G z_isinstance,
      n_len := PySem.W.mg_none_of X G z_len,
      n_list := PySem.W.mg_none_of X G z_list,
      n_min := PySem.W.mg_none_of X G z_min,
      n_range := PySem.W.mg_none_of X G z_range,
      n_str := PySem.W.mg_none_of X G z_str,
      n_super := PySem.W.mg_none_of X G z_super,
      n_tuple := PySem.W.mg_none_of X G z_tuple,
      n_zip := PySem.W.mg_none_of X G z_zip }
  exact ⟨_, fun s u => .of_eq rfl, fun base _ _ => ok_law T⟩
end K26
end L2
open PySem PySem.W PyProof.Rows
set_option maxHeartbeats 0 in
theorem PySem.Challenge.cw_neverfull_k26_events_as_texts_holds : PySem.Challenge.rw_neverfull_k26_events_as_texts.Holds := by
  w_on; o_law; k_head; (case hw => w_witness2)
  k_fill
  refine L2.DL.end_law (l := PySem.Challenge.rw_neverfull_k26_events_as_texts) (n := 63) (k := 9) (x := "_law_script") (fn := L2.K26.f_law) rfl (by decide) rfl ⟨rfl, by decide, by decide⟩ (fun w h Y => PySem.W.kIn_of Y) ?F L2.K26.law_true
  case F =>
    intro w mg fa h KX G hmg
    refine' L2.K26.all_mk KX G hmg ?a7 ?l7 ?c7 ?k7 ?a8 ?l8 ?c8 ?k8 ?a15 ?l15 ?c15 ?k15 ?a16 ?l16 ?c16 ?k16 ?a17 ?l17 ?c17 ?k17 ?a18 ?l18 ?c18 ?k18 ?a19 ?l19 ?c19 ?k19 ?a20 ?l20 ?c20 ?k20 ?a21 ?l21 ?c21 ?k21 ?a22 ?l22 ?c22 ?k22 ?a23 ?l23 ?c23 ?k23 ?a25 ?l25 ?c25 ?k25 ?a26 ?l26 ?c26 ?k26 ?a27 ?l27 ?c27 ?k27 ?a28 ?l28 ?c28 ?k28 ?a29 ?l29 ?c29 ?k29 ?a30 ?l30 ?c30 ?k30 ?a31 ?l31 ?c31 ?k31 ?a32 ?l32 ?c32 ?k32 ?a33 ?l33 ?c33 ?k33 ?a34 ?l34 ?c34 ?k34 ?a35 ?l35 ?c35 ?k35 ?a36 ?l36 ?c36 ?k36 ?a37 ?l37 ?c37 ?k37 ?a38 ?l38 ?c38 ?k38 ?a39 ?l39 ?c39 ?k39 ?a40 ?l40 ?c40 ?k40 ?a41 ?l41 ?c41 ?k41 ?xa1 ?xl1 ?xs1 ?xu1 ?xk1 ?xi1 ?xt1 ?xf1 ?xc1 ?xr1 ?xv1 ?xw1 ?xe1 ?xp1 ?xm1 ?y1_1 ?y2_1 ?y3_1 ?y4_1 ?y5_1 ?y6_1 ?y7_1 ?y8_1 ?xn_name_1 ?xa2 ?xl2 ?xs2 ?xu2 ?xk2 ?xi2 ?xt2 ?xf2 ?xc2 ?xr2 ?xv2 ?xw2 ?xe2 ?xp2 ?xm2 ?y1_2 ?y2_2 ?y3_2 ?y4_2 ?y5_2 ?y6_2 ?y7_2 ?y8_2 ?xa3 ?xl3 ?xs3 ?xu3 ?xk3 ?xi3 ?xt3 ?xf3 ?xc3 ?xr3 ?xv3 ?xw3 ?xe3 ?xp3 ?xm3 ?y1_3 ?y2_3 ?y3_3 ?y4_3 ?y5_3 ?y6_3 ?y7_3 ?y8_3 ?xn_number_3 ?xo ?xq ?a5 ?a6 ?a10 ?a11 ?a12 ?d12 ?e12 ?a13 ?a14 ?z_ValueError ?z_abs ?z_all ?z_bool ?z_enumerate ?z_int ?z_isinstance ?z_len ?z_list ?z_min ?z_range ?z_str ?z_super ?z_tuple ?z_zip
    (case a7 => first | k_is | rfl | kernel_rfl)
    (case l7 => first | k_is | rfl | kernel_rfl)
    (case c7 => first | k_is | rfl | kernel_rfl)
    (case k7 => first | k_is | rfl | kernel_rfl)
    (case a8 => first | k_is | rfl | kernel_rfl)
    (case l8 => first | k_is | rfl | kernel_rfl)
    (case c8 => first | k_is | rfl | kernel_rfl)
    (case k8 => first | k_is | rfl | kernel_rfl)
    (case a15 => first | k_is | rfl | kernel_rfl)
    (case l15 => first | k_is | rfl | kernel_rfl)
    (case c15 => first | k_is | rfl | kernel_rfl)
    (case k15 => first | k_is | rfl | kernel_rfl)
    (case a16 => first | k_is | rfl | kernel_rfl)
    (case l16 => first | k_is | rfl | kernel_rfl)
    (case c16 => first | k_is | rfl | kernel_rfl)
    (case k16 => first | k_is | rfl | kernel_rfl)
    (case a17 => first | k_is | rfl | kernel_rfl)
    (case l17 => first | k_is | rfl | kernel_rfl)
    (case c17 => first | k_is | rfl | kernel_rfl)
    (case k17 => first | k_is | rfl | kernel_rfl)
    (case a18 => first | k_is | rfl | kernel_rfl)
    (case l18 => first | k_is | rfl | kernel_rfl)
    (case c18 => first | k_is | rfl | kernel_rfl)
    (case k18 => first | k_is | rfl | kernel_rfl)
    (case a19 => first | k_is | rfl | kernel_rfl)
    (case l19 => first | k_is | rfl | kernel_rfl)
    (case c19 => first | k_is | rfl | kernel_rfl)
    (case k19 => first | k_is | rfl | kernel_rfl)
    (case a20 => first | k_is | rfl | kernel_rfl)
    (case l20 => first | k_is | rfl | kernel_rfl)
    (case c20 => first | k_is | rfl | kernel_rfl)
    (case k20 => first | k_is | rfl | kernel_rfl)
    (case a21 => first | k_is | rfl | kernel_rfl)
    (case l21 => first | k_is | rfl | kernel_rfl)
    (case c21 => first | k_is | rfl | kernel_rfl)
    (case k21 => first | k_is | rfl | kernel_rfl)
    (case a22 => first | k_is | rfl | kernel_rfl)
    (case l22 => first | k_is | rfl | kernel_rfl)
    (case c22 => first | k_is | rfl | kernel_rfl)
    (case k22 => first | k_is | rfl | kernel_rfl)
    (case a23 => first | k_is | rfl | kernel_rfl)
    (case l23 => first | k_is | rfl | kernel_rfl)
    (case c23 => first | k_is | rfl | kernel_rfl)
    (case k23 => first | k_is | rfl | kernel_rfl)
    (case a25 => first | k_is | rfl | kernel_rfl)
    (case l25 => first | k_is | rfl | kernel_rfl)
    (case c25 => first | k_is | rfl | kernel_rfl)
    (case k25 => first | k_is | rfl | kernel_rfl)
    (case a26 => first | k_is | rfl | kernel_rfl)
    (case l26 => first | k_is | rfl | kernel_rfl)
    (case c26 => first | k_is | rfl | kernel_rfl)
    (case k26 => first | k_is | rfl | kernel_rfl)
    (case a27 => first | k_is | rfl | kernel_rfl)
    (case l27 => first | k_is | rfl | kernel_rfl)
    (case c27 => first | k_is | rfl | kernel_rfl)
    (case k27 => first | k_is | rfl | kernel_rfl)
    (case a28 => first | k_is | rfl | kernel_rfl)
    (case l28 => first | k_is | rfl | kernel_rfl)
    (case c28 => first | k_is | rfl | kernel_rfl)
    (case k28 => first | k_is | rfl | kernel_rfl)
    (case a29 => first | k_is | rfl | kernel_rfl)
    (case l29 => first | k_is | rfl | kernel_rfl)
    (case c29 => first | k_is | rfl | kernel_rfl)
    (case k29 => first | k_is | rfl | kernel_rfl)
    (case a30 => first | k_is | rfl | kernel_rfl)
    (case l30 => first | k_is | rfl | kernel_rfl)
    (case c30 => first | k_is | rfl | kernel_rfl)
    (case k30 => first | k_is | rfl | kernel_rfl)
    (case a31 => first | k_is | rfl | kernel_rfl)
    (case l31 => first | k_is | rfl | kernel_rfl)
    (case c31 => first | k_is | rfl | kernel_rfl)
    (case k31 => first | k_is | rfl | kernel_rfl)
    (case a32 => first | k_is | rfl | kernel_rfl)
    (case l32 => first | k_is | rfl | kernel_rfl)
    (case c32 => first | k_is | rfl | kernel_rfl)
    (case k32 => first | k_is | rfl | kernel_rfl)
    (case a33 => first | k_is | rfl | kernel_rfl)
    (case l33 => first | k_is | rfl | kernel_rfl)
    (case c33 => first | k_is | rfl | kernel_rfl)
    (case k33 => first | k_is | rfl | kernel_rfl)
    (case a34 => first | k_is | rfl | kernel_rfl)
    (case l34 => first | k_is | rfl | kernel_rfl)
    (case c34 => first | k_is | rfl | kernel_rfl)
    (case k34 => first | k_is | rfl | kernel_rfl)
    (case a35 => first | k_is | rfl | kernel_rfl)
    (case l35 => first | k_is | rfl | kernel_rfl)
    (case c35 => first | k_is | rfl | kernel_rfl)
    (case k35 => first | k_is | rfl | kernel_rfl)
    (case a36 => first | k_is | rfl | kernel_rfl)
    (case l36 => first | k_is | rfl | kernel_rfl)
    (case c36 => first | k_is | rfl | kernel_rfl)
    (case k36 => first | k_is | rfl | kernel_rfl)
    (case a37 => first | k_is | rfl | kernel_rfl)
    (case l37 => first | k_is | rfl | kernel_rfl)
    (case c37 => first | k_is | rfl | kernel_rfl)
    (case k37 => first | k_is | rfl | kernel_rfl)
    (case a38 => first | k_is | rfl | kernel_rfl)
    (case l38 => first | k_is | rfl | kernel_rfl)
    (case c38 => first | k_is | rfl | kernel_rfl)
    (case k38 => first | k_is | rfl | kernel_rfl)
    (case a39 => first | k_is | rfl | kernel_rfl)
    (case l39 => first | k_is | rfl | kernel_rfl)
    (case c39 => first | k_is | rfl | kernel_rfl)
    (case k39 => first | k_is | rfl | kernel_rfl)
    (case a40 => first | k_is | rfl | kernel_rfl)
    (case l40 => first | k_is | rfl | kernel_rfl)
    (case c40 => first | k_is | rfl | kernel_rfl)
    (case k40 => first | k_is | rfl | kernel_rfl)
    (case a41 => first | k_is | rfl | kernel_rfl)
    (case l41 => first | k_is | rfl | kernel_rfl)
    (case c41 => first | k_is | rfl | kernel_rfl)
    (case k41 => first | k_is | rfl | kernel_rfl)
    (case xa1 => first | k_is | ks_is | rfl | kernel_rfl | decide)
    (case xl1 => first | k_is | ks_is | rfl | kernel_rfl | decide)
    (case xs1 => first | k_is | ks_is | rfl | kernel_rfl | decide)
    (case xu1 => first | k_is | ks_is | rfl | kernel_rfl | decide)
    (case xk1 => first | k_is | ks_is | rfl | kernel_rfl | decide)
    (case xi1 => first | k_is | ks_is | rfl | kernel_rfl | decide)
    (case xt1 => first | k_is | ks_is | rfl | kernel_rfl | decide)
    (case xf1 => first | k_is | ks_is | rfl | kernel_rfl | decide)
    (case xc1 => first | k_is | ks_is | rfl | kernel_rfl | decide)
    (case xr1 => first | k_is | ks_is | rfl | kernel_rfl | decide)
    (case xv1 => first | k_is | ks_is | rfl | kernel_rfl | decide)
    (case xw1 => first | k_is | ks_is | rfl | kernel_rfl | decide)
    (case xe1 => first | k_is | ks_is | rfl | kernel_rfl | decide)
    (case xp1 => first | k_is | ks_is | rfl | kernel_rfl | decide)
    (case xm1 => first | k_is | ks_is | rfl | kernel_rfl | decide)
    (case y1_1 => first | k_is | ks_is | rfl | kernel_rfl | decide)
    (case y2_1 => first | k_is | ks_is | rfl | kernel_rfl | decide)
    (case y3_1 => first | k_is | ks_is | rfl | kernel_rfl | decide)
    (case y4_1 => first | k_is | ks_is | rfl | kernel_rfl | decide)
    (case y5_1 => first | k_is | ks_is | rfl | kernel_rfl | decide)
    (case y6_1 => first | k_is | ks_is | rfl | kernel_rfl | decide)
    (case y7_1 => first | k_is | ks_is | rfl | kernel_rfl | decide)
    (case y8_1 => first | k_is | ks_is | rfl | kernel_rfl | decide)
    (case xn_name_1 => first | k_is | ks_is | rfl | kernel_rfl | decide)
    (case xa2 => first | k_is | ks_is | rfl | kernel_rfl | decide)
    (case xl2 => first | k_is | ks_is | rfl | kernel_rfl | decide)
    (case xs2 => first | k_is | ks_is | rfl | kernel_rfl | decide)
    (case xu2 => first | k_is | ks_is | rfl | kernel_rfl | decide)
    (case xk2 => first | k_is | ks_is | rfl | kernel_rfl | decide)
    (case xi2 => first | k_is | ks_is | rfl | kernel_rfl | decide)
    (case xt2 => first | k_is | ks_is | rfl | kernel_rfl | decide)
    (case xf2 => first | k_is | ks_is | rfl | kernel_rfl | decide)
    (case xc2 => first | k_is | ks_is | rfl | kernel_rfl | decide)
    (case xr2 => first | k_is | ks_is | rfl | kernel_rfl | decide)
    (case xv2 => first | k_is | ks_is | rfl | kernel_rfl | decide)
    (case xw2 => first | k_is | ks_is | rfl | kernel_rfl | decide)
    (case xe2 => first | k_is | ks_is | rfl | kernel_rfl | decide)
    (case xp2 => first | k_is | ks_is | rfl | kernel_rfl | decide)
    (case xm2 => first | k_is | ks_is | rfl | kernel_rfl | decide)
    (case y1_2 => first | k_is | ks_is | rfl | kernel_rfl | decide)
    (case y2_2 => first | k_is | ks_is | rfl | kernel_rfl | decide)
    (case y3_2 => first | k_is | ks_is | rfl | kernel_rfl | decide)
    (case y4_2 => first | k_is | ks_is | rfl | kernel_rfl | decide)
    (case y5_2 => first | k_is | ks_is | rfl | kernel_rfl | decide)
    (case y6_2 => first | k_is | ks_is | rfl | kernel_rfl | decide)
    (case y7_2 => first | k_is | ks_is | rfl | kernel_rfl | decide)
    (case y8_2 => first | k_is | ks_is | rfl | kernel_rfl | decide)
    (case xa3 => first | k_is | ks_is | rfl | kernel_rfl | decide)
    (case xl3 => first | k_is | ks_is | rfl | kernel_rfl | decide)
    (case xs3 => first | k_is | ks_is | rfl | kernel_rfl | decide)
    (case xu3 => first | k_is | ks_is | rfl | kernel_rfl | decide)
    (case xk3 => first | k_is | ks_is | rfl | kernel_rfl | decide)
    (case xi3 => first | k_is | ks_is | rfl | kernel_rfl | decide)
    (case xt3 => first | k_is | ks_is | rfl | kernel_rfl | decide)
    (case xf3 => first | k_is | ks_is | rfl | kernel_rfl | decide)
    (case xc3 => first | k_is | ks_is | rfl | kernel_rfl | decide)
    (case xr3 => first | k_is | ks_is | rfl | kernel_rfl | decide)
    (case xv3 => first | k_is | ks_is | rfl | kernel_rfl | decide)
    (case xw3 => first | k_is | ks_is | rfl | kernel_rfl | decide)
    (case xe3 => first | k_is | ks_is | rfl | kernel_rfl | decide)
    (case xp3 => first | k_is | ks_is | rfl | kernel_rfl | decide)
    (case xm3 => first | k_is | ks_is | rfl | kernel_rfl | decide)
    (case y1_3 => first | k_is | ks_is | rfl | kernel_rfl | decide)
    (case y2_3 => first | k_is | ks_is | rfl | kernel_rfl | decide)
    (case y3_3 => first | k_is | ks_is | rfl | kernel_rfl | decide)
    (case y4_3 => first | k_is | ks_is | rfl | kernel_rfl | decide)
    (case y5_3 => first | k_is | ks_is | rfl | kernel_rfl | decide)
    (case y6_3 => first | k_is | ks_is | rfl | kernel_rfl | decide)
    (case y7_3 => first | k_is | ks_is | rfl | kernel_rfl | decide)
    (case y8_3 => first | k_is | ks_is | rfl | kernel_rfl | decide)
    (case xn_number_3 => first | k_is | ks_is | rfl | kernel_rfl | decide)
    (case xo => first | k_is | ks_is | rfl | kernel_rfl | decide)
    (case xq => first | k_is | ks_is | rfl | kernel_rfl | decide)
    (case a5 => first | k_is | rfl | kernel_rfl)
    (case a6 => first | k_is | rfl | kernel_rfl)
    (case a10 => first | k_is | rfl | kernel_rfl)
    (case a11 => first | k_is | rfl | kernel_rfl)
    (case a12 => first | k_is | rfl | kernel_rfl)
    (case d12 => first | k_is | rfl | kernel_rfl)
    (case e12 => first | k_is | rfl | kernel_rfl)
    (case a13 => first | k_is | rfl | kernel_rfl)
    (case a14 => first | k_is | rfl | kernel_rfl)
    (case z_ValueError => first | k_is | rfl | kernel_rfl)
    (case z_abs => first | k_is | rfl | kernel_rfl)
    (case z_all => first | k_is | rfl | kernel_rfl)
    (case z_bool => first | k_is | rfl | kernel_rfl)
    (case z_enumerate => first | k_is | rfl | kernel_rfl)
    (case z_int => first | k_is | rfl | kernel_rfl)
    (case z_isinstance => first | k_is | rfl | kernel_rfl)
    (case z_len => first | k_is | rfl | kernel_rfl)
    (case z_list => first | k_is | rfl | kernel_rfl)
    (case z_min => first | k_is | rfl | kernel_rfl)
    (case z_range => first | k_is | rfl | kernel_rfl)
    (case z_str => first | k_is | rfl | kernel_rfl)
    (case z_super => first | k_is | rfl | kernel_rfl)
    (case z_tuple => first | k_is | rfl | kernel_rfl)
    (case z_zip => first | k_is | rfl | kernel_rfl)
