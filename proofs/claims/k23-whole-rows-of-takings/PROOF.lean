import PyProof.Rows.All
import Wide.All
import OpenK.AllK
import Wide.FinOn
import HandS.ForMost
import HandS.ForExc
import HandS.IsInst
import HandS.TryMany
import HandS.Defaults
import HandS.Style
import HandS.HeadEnd
import HandS.HeadHook1
import HandS.HeadHook2
import HandS.Head0
import HandS.Head1
import HandS.Head2
import HandS.ExcIs
import PySem.Challenge.RW_gleanyard_k23_whole_rows_of_takings
set_option Elab.async false
set_option linter.all false
set_option maxRecDepth 100000
set_option autoImplicit false
namespace Gm
open PySem PySem.Spec PyProof.Rows L2
/-! ## values and stores of the mirror -/
mutual
inductive D where
  | non | bl (b : Bool) | int (i : Int) | str (x : Str)
  | tup (xs : List D) | lst (xs : List D) | scr (ns : List Int) | dct (kv : List (Key × D)) | ref (n : Nat) | own (o : O) | bor (o : O) | exn
inductive O where
  | lst (xs : List D) | dK (kv : List (Key × D)) | ins (c : Nat) (fs : List (Str × D)) | dead
end
abbrev Store := List O
abbrev Sl := L2.St
abbrev Env := List (Option D)
inductive R (t : Type) where
  | ok (a : t) (s : Store) | exc (c : Nat) (s : Store) | no
inductive SR where
  | nx (e : Env) (s : Store) | rt (d : D) (s : Store) | bk (e : Env) (s : Store) | ct (e : Env) (s : Store) | exc (c : Nat) (e : Env) (s : Store) | no
abbrev Ex := Env → Store → R D
abbrev Tx := Env → Store → R Bool
abbrev Ax := Env → Store → R (List D)
abbrev Sx := Env → Store → SR
abbrev Fx := List D → Store → R D

/-! ## the ground: the written part, the classes -/
structure Gc where
  K : PySem.W.Frag
  A : Nat → Addr
  x : Option Addr
structure Wd where
  m : List Addr
  s : Store
  H : Hp
  T : List Addr
def Wd.Live (w : Wd) (p : Addr) : Prop := ∃ (n : Nat) (o : O), w.m[n]? = some p ∧ w.s[n]? = some o ∧ o ≠ O.dead
def KL (K : PySem.W.Frag) (a : Addr) (xs : List V) : Prop :=
  ∃ (o : Obj) (its : Array Value) (n : Nat), K.lookup a = some o ∧ o.cls = .type "list" ∧ o.dict = none ∧ o.data = .seq its n ∧ its.size ≤ sizeLine ∧ Vals xs its.toList
section
variable (g : Gc)
mutual
def Rv (w : Wd) : D → V → Prop
  | .non, v => v = .non
  | .bl b, v => v = .bl b
  | .int i, v => v = .int i
  | .str x, v => v = .str x
  | .tup xs, v => ∃ p ys, v = .ref p ∧ SqT g.K w.H p ys ∧ RvL w xs ys
  | .lst xs, v => ∃ p ys, v = .ref p ∧ w.H p = some (.lst ys) ∧ ¬ w.Live p ∧ p ∉ w.T ∧ RvL w xs ys
  | .scr ns, v => ∃ p, v = .ref p ∧ ((∃ o, w.H p = some (.frz o (.lst (ns.map V.int)))) ∨ KL g.K p (ns.map V.int))
  | .dct kv, v => ∃ p ys, v = .ref p ∧ w.H p = some (.dK ys) ∧ ¬ w.Live p ∧ p ∉ w.T ∧ RvK w kv ys
  | .ref n, v => ∃ p, v = .ref p ∧ w.m[n]? = some p
  | .own _, _ => False
  | .bor _, _ => False
  | .exn, _ => False
def RvL (w : Wd) : List D → List V → Prop
  | [], ys => ys = []
  | d :: r, ys => ∃ y t, ys = y :: t ∧ Rv w d y ∧ RvL w r t
def RvK (w : Wd) : List (Key × D) → List (Key × V) → Prop
  | [], ys => ys = []
  | (k, d) :: r, ys => ∃ y t, ys = (k, y) :: t ∧ Rv w d y ∧ RvK w r t
end
def RvF (w : Wd) : List (Str × D) → List (Str × V) → Prop
  | [], ys => ys = []
  | (k, d) :: r, ys => ∃ y t, ys = (k, y) :: t ∧ Rv g w d y ∧ RvF w r t
/-- an object that may be written, at its address -/
def Ro (w : Wd) (p : Addr) : O → Prop
  | .lst xs => ∃ ys, w.H p = some (.lst ys) ∧ RvL g w xs ys
  | .dK kv => ∃ ys, w.H p = some (.dK ys) ∧ RvK g w kv ys
  | .ins c fs => ∃ dx ys, w.H p = some (.ins (g.A c) dx ys) ∧ RvF g w fs ys
  | .dead => ∃ o, w.H p = some o
/-- the store stands -/
structure Rst (w : Wd) : Prop where
  len : w.m.length = w.s.length
  nd : w.m.Nodup
  tt : ∀ p ∈ w.T, p ∉ w.m ∧ ∃ o, w.H p = some o
  ce : ∀ (n : Nat) (p : Addr) (o : O), w.m[n]? = some p → w.s[n]? = some o → Ro g w p o
/-- what is passed on: ex may be written -/
structure Ext (ex : List Addr) (w w' : Wd) : Prop where
  pre : ∃ t, w'.m = w.m ++ t
  keep : ∀ (p : Addr) (o : HO), w.H p = some o → ¬ w.Live p → p ∉ ex → w'.H p = some o
  new : ∀ p, w'.Live p → w.Live p ∨ w.H p = none ∨ p ∈ ex
  nm : ∀ p, p ∈ w'.m → p ∈ w.m ∨ w.H p = none ∨ p ∈ ex
end
section
variable {g : Gc} {w w' : Wd} {ex : List Addr}
theorem Rst.trk (r : Rst g w) {p : Addr} (h : p ∈ w.m) : ∃ o, w.H p = some o := by
  obtain ⟨n, hn, e⟩ := List.mem_iff_getElem.mp h
  have h1 : w.m[n]? = some p := by rw [List.getElem?_eq_getElem hn, e]
  have h2 : n < w.s.length := by rw [← r.len]; exact hn
  have c := r.ce n p _ h1 (List.getElem?_eq_getElem h2)
  cases q : w.s[n] with
  | lst xs => rw [q] at c; obtain ⟨ys, e, _⟩ := c; exact ⟨_, e⟩
  | dK xs => rw [q] at c; obtain ⟨ys, e, _⟩ := c; exact ⟨_, e⟩
  | ins a xs => rw [q] at c; obtain ⟨_, ys, e, _⟩ := c; exact ⟨_, e⟩
  | dead => rw [q] at c; exact c
theorem Wd.Live.mem {p : Addr} (h : w.Live p) : p ∈ w.m := by
  obtain ⟨n, o, h1, _⟩ := h
  exact List.mem_of_getElem? h1
theorem Rst.fresh (r : Rst g w) {p : Addr} (h : w.H p = none) : p ∉ w.m := fun hm => by
  obtain ⟨o, e⟩ := r.trk hm
  rw [h] at e; cases e
theorem Rst.mut (r : Rst g w) {p : Addr} (h : w.Live p) : Mut (w.H p) := by
  obtain ⟨n, o, h1, h2, h3⟩ := h
  have c := r.ce n p o h1 h2
  cases o with
  | lst xs => obtain ⟨ys, e, _⟩ := c; rw [e]; trivial
  | dK xs => obtain ⟨ys, e, _⟩ := c; rw [e]; trivial
  | ins a xs => obtain ⟨_, ys, e, _⟩ := c; rw [e]; trivial
  | dead => exact absurd rfl h3
theorem Ext.refl : Ext ex w w := ⟨⟨[], by simp⟩, fun _ _ h _ _ => h, fun _ h => .inl h, fun _ h => .inl h⟩
theorem Ext.get (e : Ext ex w w') {n : Nat} {p : Addr} (h : w.m[n]? = some p) : w'.m[n]? = some p := by
  obtain ⟨t, q⟩ := e.pre
  rw [q, List.getElem?_append_left (List.getElem?_eq_some_iff.mp h).1]
  exact h
/-- when a value is carried on -/
structure Cy (g : Gc) (ex : List Addr) (w w' : Wd) : Prop where
  r : Rst g w
  e : Ext ex w w'
  mx : ∀ p ∈ ex, Mut (w.H p)
  xt : ∀ p ∈ ex, p ∈ w.T
  nt : ∀ p ∈ w'.T, p ∈ w.T ∨ w.H p = none
theorem Cy.of (r : Rst g w) (e : Ext [] w w') (t : w'.T = w.T) : Cy g [] w w' := ⟨r, e, by simp, by simp, fun p h => .inl (t ▸ h)⟩
theorem Cy.keepT (c : Cy g ex w w') {p : Addr} {o : HO} (h : w.H p = some o) (nm : ¬ Mut (some o)) : w'.H p = some o := by
  refine c.e.keep p o h (fun l => ?_) (fun x => ?_)
  · have := c.r.mut l; rw [h] at this; exact nm this
  · have := c.mx p x; rw [h] at this; exact nm this
theorem Cy.rdT (c : Cy g ex w w') {p : Addr} {ys : List V} (h : SqT g.K w.H p ys) : SqT g.K w'.H p ys := by
  rcases h with (h | ⟨o, h⟩) | h
  · exact .inl (.inl (c.keepT h fun z => z))
  · exact .inl (.inr ⟨o, c.keepT h fun z => z⟩)
  · exact .inr h
theorem Cy.keepN (c : Cy g ex w w') {p : Addr} {o : HO} (h : w.H p = some o) (nl : ¬ w.Live p) (nt : p ∉ w.T) : w'.H p = some o ∧ ¬ w'.Live p ∧ p ∉ w'.T := by
  refine ⟨c.e.keep p o h nl (fun x => nt (c.xt p x)), fun l => ?_, fun x => ?_⟩
  · rcases c.e.new p l with l | l | l
    · exact nl l
    · rw [h] at l; cases l
    · exact nt (c.xt p l)
  · rcases c.nt p x with l | l
    · exact nt l
    · rw [h] at l; cases l
mutual
theorem Rv.mono (c : Cy g ex w w') : ∀ (d : D) (v : V), Rv g w d v → Rv g w' d v
  | .non, v, h => by unfold Rv at *; exact h
  | .bl b, v, h => by unfold Rv at *; exact h
  | .int i, v, h => by unfold Rv at *; exact h
  | .str x, v, h => by unfold Rv at *; exact h
  | .tup xs, v, h => by
    unfold Rv at *
    obtain ⟨p, ys, e, q, r⟩ := h
    exact ⟨p, ys, e, c.rdT q, RvL.mono c xs ys r⟩
  | .lst xs, v, h => by
    unfold Rv at *
    obtain ⟨p, ys, e, q, n1, n2, r⟩ := h
    obtain ⟨a, b, d⟩ := c.keepN q n1 n2
    exact ⟨p, ys, e, a, b, d, RvL.mono c xs ys r⟩
  | .scr ns, v, h => by
    unfold Rv at *
    obtain ⟨p, e, q⟩ := h
    refine ⟨p, e, ?_⟩
    rcases q with ⟨o, q⟩ | q
    · exact .inl ⟨o, c.keepT q fun z => z⟩
    · exact .inr q
  | .dct kv, v, h => by
    unfold Rv at *
    obtain ⟨p, ys, e, q, n1, n2, r⟩ := h
    obtain ⟨a, b, d⟩ := c.keepN q n1 n2
    exact ⟨p, ys, e, a, b, d, RvK.mono c kv ys r⟩
  | .ref n, v, h => by
    unfold Rv at *
    obtain ⟨p, e, q⟩ := h
    exact ⟨p, e, c.e.get q⟩
  | .own _, v, h => by unfold Rv at h; exact h.elim
  | .bor _, v, h => by unfold Rv at h; exact h.elim
  | .exn, v, h => by unfold Rv at h; exact h.elim
theorem RvL.mono (c : Cy g ex w w') : ∀ (ds : List D) (ys : List V), RvL g w ds ys → RvL g w' ds ys
  | [], ys, h => by unfold RvL at *; exact h
  | d :: r, ys, h => by
    unfold RvL at *
    obtain ⟨y, t, e, a, b⟩ := h
    exact ⟨y, t, e, Rv.mono c d y a, RvL.mono c r t b⟩
theorem RvK.mono (c : Cy g ex w w') : ∀ (ds : List (Key × D)) (ys : List (Key × V)), RvK g w ds ys → RvK g w' ds ys
  | [], ys, h => by unfold RvK at *; exact h
  | (k, d) :: r, ys, h => by
    unfold RvK at *
    obtain ⟨y, t, e, a, b⟩ := h
    exact ⟨y, t, e, Rv.mono c d y a, RvK.mono c r t b⟩
end
theorem RvF.mono (c : Cy g ex w w') : ∀ (ds : List (Str × D)) (ys : List (Str × V)), RvF g w ds ys → RvF g w' ds ys
  | [], ys, h => by unfold RvF at *; exact h
  | (k, d) :: r, ys, h => by
    unfold RvF at *
    obtain ⟨y, t, e, a, b⟩ := h
    exact ⟨y, t, e, Rv.mono c d y a, RvF.mono c r t b⟩
end
end Gm

set_option Elab.async false
set_option linter.all false
set_option maxRecDepth 100000
set_option autoImplicit false
namespace Gm
open PySem PySem.Spec PyProof.Rows L2
def Fzo : O → Prop
  | .lst _ => True
  | .dK _ => True
  | _ => False
section
variable (g : Gc)
/-- an operand: a value, or a list of the frame's own that is read -/
def Po (w : Wd) : D → V → Prop
  | .bor o, v => ∃ p, v = .ref p ∧ Ro g w p o ∧ p ∉ w.m
  | .exn, v => ∃ a, g.x = some a ∧ v = .ref a
  | d, v => Rv g w d v
/-- what a slot holds -/
def Sv (w : Wd) : D → V → Prop
  | .own o, v => ∃ p, v = .ref p ∧ Fzo o ∧ Ro g w p o ∧ p ∉ w.m ∧ p ∈ w.T
  | .exn, v => ∃ a, g.x = some a ∧ v = .ref a
  | d, v => Rv g w d v
structure Re (w : Wd) (env : Env) (σ : Sl) : Prop where
  st : Rst g w
  len : env.length = σ.length
  sl : ∀ (i : Nat) (d : D), env[i]? = some (some d) → ∃ v, σ[i]? = some (some v) ∧ Sv g w d v
def fz : D → D
  | .own (.lst xs) => .lst xs
  | .own (.dK kv) => .dct kv
  | d => d
/-- a result: a value; a new list that nothing else leads to -/
def Px (H0 : Hp) (w : Wd) : D → V → Prop
  | .own o, v => ∃ p, v = .ref p ∧ H0 p = none ∧ p ∉ w.T ∧ Fzo o ∧ Rst g { w with T := p :: w.T } ∧ Ro g { w with T := p :: w.T } p o
  | .bor o, v => Rst g w ∧ ∃ p, v = .ref p ∧ Ro g w p o ∧ p ∉ w.m
  | .exn, v => Rst g w ∧ ∃ a, g.x = some a ∧ v = .ref a
  | d, v => Rst g w ∧ Rv g w d v
/-- the wish of a mirror's answer -/
def Post {α β : Type} (Pr : Hp → Wd → α → β → Prop) (W : WX) (w : Wd) (σ : Sl) (Q : β → Hp → Prop) : R α → Prop
  | .ok a s' => ∀ (w' : Wd) (b : β), w'.s = s' → w'.T = w.T → Ext [] w w' → Pr w.H w' a b → Q b w'.H
  | .exc c s' => ∀ (w' : Wd), w'.s = s' → w'.T = w.T → Ext [] w w' → Rst g w' → W (.ref (g.A c)) none σ w'.H
  | .no => False
def tEv (W : WX) (e : Ex) : TE := fun σ H Q => ∃ (w : Wd) (env : Env), w.H = H ∧ Re g w env σ ∧ Post g (Px g) W w σ Q (e env w.s)
def Pb (_ : Hp) (w : Wd) (a b : Bool) : Prop := Rst g w ∧ a = b
def tTe (W : WX) (e : Tx) : TT := fun σ H Q => ∃ (w : Wd) (env : Env), w.H = H ∧ Re g w env σ ∧ Post g (Pb g) W w σ Q (e env w.s)
def Pl (_ : Hp) (w : Wd) (ds : List D) (vs : List V) : Prop := Rst g w ∧ RvL g w ds vs
def tAe (W : WX) (e : Ax) : TA := fun σ H Q => ∃ (w : Wd) (env : Env), w.H = H ∧ Re g w env σ ∧ Post g (Pl g) W w σ Q (e env w.s)
end
/-! ### what is read -/
def dr (s : Store) : D → Option O
  | .ref n => s[n]?
  | .lst xs => some (.lst xs)
  | .scr ns => some (.lst (ns.map D.int))
  | .dct kv => some (.dK kv)
  | .bor o => some o
  | _ => none
/-- .. where it may stand beside a list of one's own -/
def drM (s : Store) : D → Option O
  | .scr _ => none
  | d => dr s d
section
variable {g : Gc} {w w' : Wd} {env : Env} {σ : Sl} {W : WX} {H0 : Hp}
theorem Ext.trans {w1 w2 w3 : Wd} (a : Ext [] w1 w2) (b : Ext [] w2 w3) : Ext [] w1 w3 := by
  have back : ∀ p, w2.H p = none → w1.Live p ∨ w1.H p = none := fun p l => by
    by_cases q : w1.Live p
    · exact .inl q
    · refine .inr ?_
      cases e : w1.H p with
      | none => rfl
      | some o => rw [a.keep p o e q (by simp)] at l; cases l
  refine ⟨?_, fun p o h nl _ => ?_, fun p l => ?_, fun p l => ?_⟩
  · obtain ⟨t, e⟩ := a.pre
    obtain ⟨u, f⟩ := b.pre
    exact ⟨t ++ u, by rw [f, e, List.append_assoc]⟩
  · have h1 := a.keep p o h nl (by simp)
    refine b.keep p o h1 (fun l => ?_) (by simp)
    rcases a.new p l with l | l | l
    · exact nl l
    · rw [h] at l; cases l
    · cases l
  · rcases b.new p l with l | l | l
    · exact a.new p l
    · rcases back p l with q | q
      · exact .inl q
      · exact .inr (.inl q)
    · cases l
  · rcases b.nm p l with l | l | l
    · exact a.nm p l
    · rcases back p l with q | q
      · exact .inl q.mem
      · exact .inr (.inl q)
    · cases l
theorem Rst.inT (r : Rst g w) {T : List Addr} (h : ∀ p ∈ T, p ∈ w.T) : Rst g { w with T := T } := by
  have c : Cy g [] w { w with T := T } := ⟨r, ⟨⟨[], by simp⟩, fun _ _ e _ _ => e, fun _ l => .inl l, fun _ l => .inl l⟩, by simp, by simp, fun p q => .inl (h p q)⟩
  refine ⟨r.len, r.nd, fun p q => r.tt p (h p q), fun n p o a b => ?_⟩
  have q := r.ce n p o a b
  cases o with
  | lst xs => obtain ⟨ys, e, z⟩ := q; exact ⟨ys, e, RvL.mono c _ _ z⟩
  | dK xs => obtain ⟨ys, e, z⟩ := q; exact ⟨ys, e, RvK.mono c _ _ z⟩
  | ins a xs => obtain ⟨dx, ys, e, z⟩ := q; exact ⟨dx, ys, e, RvF.mono c _ _ z⟩
  | dead => exact q
theorem Cy.sub (r : Rst g w) {T : List Addr} (h : ∀ p ∈ T, p ∈ w.T) : Cy g [] w { w with T := T } :=
  ⟨r, ⟨⟨[], by simp⟩, fun _ _ e _ _ => e, fun _ l => .inl l, fun _ l => .inl l⟩, by simp, by simp, fun p q => .inl (h p q)⟩
theorem Ro.mono {p : Addr} {o : O} {ex : List Addr} (c : Cy g ex w w') (h : Ro g w p o) (nl : ¬ w.Live p) (nx : p ∉ ex) : Ro g w' p o := by
  cases o with
  | lst xs => obtain ⟨ys, e, z⟩ := h; exact ⟨ys, c.e.keep _ _ e nl nx, RvL.mono c _ _ z⟩
  | dK xs => obtain ⟨ys, e, z⟩ := h; exact ⟨ys, c.e.keep _ _ e nl nx, RvK.mono c _ _ z⟩
  | ins a xs => obtain ⟨dx, ys, e, z⟩ := h; exact ⟨dx, ys, c.e.keep _ _ e nl nx, RvF.mono c _ _ z⟩
  | dead => obtain ⟨o, e⟩ := h; exact ⟨o, c.e.keep _ _ e nl nx⟩
theorem Ro.trk {p : Addr} {o : O} (h : Ro g w p o) : ∃ u, w.H p = some u := by
  cases o with
  | lst xs => obtain ⟨ys, e, z⟩ := h; exact ⟨_, e⟩
  | dK xs => obtain ⟨ys, e, z⟩ := h; exact ⟨_, e⟩
  | ins a xs => obtain ⟨dx, ys, e, z⟩ := h; exact ⟨_, e⟩
  | dead => exact h
theorem Ext.out (e : Ext [] w w') {p : Addr} (h : ∃ u, w.H p = some u) (n : p ∉ w.m) : p ∉ w'.m := fun q => by
  rcases e.nm p q with l | l | l
  · exact n l
  · obtain ⟨u, h⟩ := h; rw [h] at l; cases l
  · cases l
theorem nolive {p : Addr} (n : p ∉ w.m) : ¬ w.Live p := fun l => n l.mem
theorem Po.mono {d : D} {v : V} (c : Cy g [] w w') (h : Po g w d v) : Po g w' d v := by
  cases d with
  | bor o =>
    obtain ⟨p, e, r, n⟩ := h
    exact ⟨p, e, r.mono c (nolive n) (by simp), c.e.out r.trk n⟩
  | own o => exact Rv.mono c _ _ h
  | non => exact Rv.mono c _ _ h
  | bl b => exact Rv.mono c _ _ h
  | int i => exact Rv.mono c _ _ h
  | str x => exact Rv.mono c _ _ h
  | tup xs => exact Rv.mono c _ _ h
  | lst xs => exact Rv.mono c _ _ h
  | scr xs => exact Rv.mono c _ _ h
  | dct xs => exact Rv.mono c _ _ h
  | ref n => exact Rv.mono c _ _ h
  | exn => exact h
theorem Sv.mono {d : D} {v : V} (c : Cy g [] w w') (hT : ∀ p ∈ w.T, p ∈ w'.T) (h : Sv g w d v) : Sv g w' d v := by
  cases d with
  | own o =>
    obtain ⟨p, e, fo, r, n, t⟩ := h
    exact ⟨p, e, fo, r.mono c (nolive n) (by simp), c.e.out r.trk n, hT p t⟩
  | bor o => exact Rv.mono c _ _ h
  | non => exact Rv.mono c _ _ h
  | bl b => exact Rv.mono c _ _ h
  | int i => exact Rv.mono c _ _ h
  | str x => exact Rv.mono c _ _ h
  | tup xs => exact Rv.mono c _ _ h
  | lst xs => exact Rv.mono c _ _ h
  | scr xs => exact Rv.mono c _ _ h
  | dct xs => exact Rv.mono c _ _ h
  | ref n => exact Rv.mono c _ _ h
  | exn => exact h
theorem Re.mono (c : Cy g [] w w') (r' : Rst g w') (hT : ∀ p ∈ w.T, p ∈ w'.T) (h : Re g w env σ) : Re g w' env σ :=
  ⟨r', h.len, fun i d e => let ⟨v, a, b⟩ := h.sl i d e; ⟨v, a, b.mono c hT⟩⟩
theorem Rv.nofz {d : D} {v : V} (h : Rv g w d v) : fz d = d := by
  cases d with
  | own o => unfold Rv at h; exact h.elim
  | _ => rfl
theorem Rv.po {d : D} {v : V} (h : Rv g w d v) : Po g w d v := by
  cases d with
  | bor o => unfold Rv at h; exact h.elim
  | exn => unfold Rv at h; exact h.elim
  | _ => exact h
/-- a result as an operand -/
theorem Px.fz {d : D} {v : V} (h : Px g H0 w d v) : Rst g w ∧ Po g w (fz d) v := by
  cases d with
  | own o =>
    obtain ⟨p, e, h0, nt, fo, r, q⟩ := h
    have c : Cy g [] { w with T := p :: w.T } w := Cy.sub (w := { w with T := p :: w.T }) r (T := w.T) (fun x hx => List.mem_cons_of_mem _ hx)
    have r' : Rst g w := r.inT (w := { w with T := p :: w.T }) (T := w.T) (fun x hx => List.mem_cons_of_mem _ hx)
    have nm : p ∉ w.m := (r.tt p (List.mem_cons_self)).1
    refine ⟨r', ?_⟩
    cases o with
    | lst xs =>
      obtain ⟨ys, e1, z⟩ := q
      show Rv g w (.lst xs) v
      unfold Rv
      exact ⟨p, ys, e, e1, nolive nm, nt, RvL.mono c _ _ z⟩
    | dK kv =>
      obtain ⟨ys, e1, z⟩ := q
      show Rv g w (.dct kv) v
      unfold Rv
      exact ⟨p, ys, e, e1, nolive nm, nt, RvK.mono c _ _ z⟩
    | ins a b => exact fo.elim
    | dead => exact fo.elim
  | bor o => exact h
  | non => exact h
  | bl b => exact h
  | int i => exact h
  | str x => exact h
  | tup xs => exact h
  | lst xs => exact h
  | scr xs => exact h
  | dct xs => exact h
  | ref n => exact h
  | exn => exact h
theorem Px.of {d : D} {v : V} (r : Rst g w) (h : Rv g w d v) : Px g H0 w d v := by
  cases d with
  | own o => unfold Rv at h; exact h.elim
  | bor o => unfold Rv at h; exact h.elim
  | exn => unfold Rv at h; exact h.elim
  | _ => exact ⟨r, h⟩
theorem RvL.length : ∀ {ds : List D} {vs : List V}, RvL g w ds vs → vs.length = ds.length
  | [], vs, h => by unfold RvL at h; subst h; rfl
  | d :: r, vs, h => by
    unfold RvL at h
    obtain ⟨y, t, e, _, b⟩ := h
    subst e
    simp [RvL.length b]
theorem RvL.get : ∀ {ds : List D} {vs : List V} {i : Nat} {d : D}, RvL g w ds vs → ds[i]? = some d → ∃ v, vs[i]? = some v ∧ Rv g w d v
  | [], vs, i, d, h, e => by simp at e
  | a :: r, vs, i, d, h, e => by
    unfold RvL at h
    obtain ⟨y, t, e1, h1, h2⟩ := h
    subst e1
    cases i with
    | zero => simp at e; subst e; exact ⟨y, rfl, h1⟩
    | succ j => simp at e; obtain ⟨v, a, b⟩ := RvL.get h2 e; exact ⟨v, by simpa using a, b⟩
theorem RvL.ints : ∀ {ns : List Int}, RvL g w (ns.map D.int) (ns.map V.int)
  | [] => by unfold RvL; rfl
  | a :: r => by
    show RvL g w (D.int a :: r.map D.int) (V.int a :: r.map V.int)
    unfold RvL
    exact ⟨_, _, rfl, by unfold Rv; rfl, RvL.ints⟩
theorem RvL.app : ∀ {ds es : List D} {vs us : List V}, RvL g w ds vs → RvL g w es us → RvL g w (ds ++ es) (vs ++ us)
  | [], es, vs, us, h, k => by unfold RvL at h; subst h; exact k
  | a :: r, es, vs, us, h, k => by
    unfold RvL at h
    obtain ⟨y, t, e1, h1, h2⟩ := h
    subst e1
    show RvL g w (a :: (r ++ es)) (y :: (t ++ us))
    unfold RvL
    exact ⟨_, _, rfl, h1, RvL.app h2 k⟩
theorem RvL.one {d : D} {v : V} (h : Rv g w d v) : RvL g w [d] [v] := by
  unfold RvL; exact ⟨_, _, rfl, h, by unfold RvL; rfl⟩
theorem RvL.take : ∀ (n : Nat) {ds : List D} {vs : List V}, RvL g w ds vs → RvL g w (ds.take n) (vs.take n)
  | 0, ds, vs, _ => by simp [RvL]
  | n + 1, [], vs, h => by unfold RvL at h; subst h; simp [RvL]
  | n + 1, a :: r, vs, h => by
    unfold RvL at h
    obtain ⟨y, t, e1, h1, h2⟩ := h
    subst e1
    simp only [List.take_succ_cons]
    unfold RvL
    exact ⟨_, _, rfl, h1, RvL.take n h2⟩
theorem RvL.drop : ∀ (n : Nat) {ds : List D} {vs : List V}, RvL g w ds vs → RvL g w (ds.drop n) (vs.drop n)
  | 0, ds, vs, h => by simpa using h
  | n + 1, [], vs, h => by unfold RvL at h; subst h; simp [RvL]
  | n + 1, a :: r, vs, h => by
    unfold RvL at h
    obtain ⟨y, t, e1, h1, h2⟩ := h
    subst e1
    simpa using RvL.drop n h2
theorem RvL.set {d : D} {v : V} (k : Rv g w d v) : ∀ {ds : List D} {vs : List V} (n : Nat), RvL g w ds vs → RvL g w (ds.set n d) (vs.set n v)
  | [], vs, n, h => by unfold RvL at h; subst h; simp [RvL]
  | a :: r, vs, n, h => by
    unfold RvL at h
    obtain ⟨y, t, e1, h1, h2⟩ := h
    subst e1
    cases n with
    | zero => simp only [List.set_cons_zero]; unfold RvL; exact ⟨_, _, rfl, k, h2⟩
    | succ n => simp only [List.set_cons_succ]; unfold RvL; exact ⟨_, _, rfl, h1, RvL.set k n h2⟩
theorem RvL.none {ds : List D} {vs : List V} {i : Nat} (h : RvL g w ds vs) (e : ds[i]? = Option.none) : vs[i]? = Option.none := by
  rw [List.getElem?_eq_none_iff] at *
  rw [h.length]; exact e
/-- what may be read at an address -/
def RoR (g : Gc) (w : Wd) (p : Addr) : O → Prop
  | .lst xs => ∃ ys, SqL g.K w.H p ys ∧ RvL g w xs ys
  | o => Ro g w p o
theorem Ro.r {p : Addr} {o : O} (h : Ro g w p o) : RoR g w p o := by
  cases o with
  | lst xs => obtain ⟨ys, e, z⟩ := h; exact ⟨ys, SqL.of e, z⟩
  | _ => exact h
theorem drM_ok {d : D} {v : V} {o : O} (r : Rst g w) (h : Po g w d v) (e : drM w.s d = some o) : ∃ p, v = .ref p ∧ Ro g w p o := by
  cases d with
  | ref n =>
    have h : Rv g w (.ref n) v := h
    unfold Rv at h
    obtain ⟨p, e1, e2⟩ := h
    exact ⟨p, e1, r.ce n p o e2 e⟩
  | lst xs =>
    have h : Rv g w (.lst xs) v := h
    unfold Rv at h
    obtain ⟨p, ys, e1, e2, _, _, e3⟩ := h
    cases e
    exact ⟨p, e1, ys, e2, e3⟩
  | dct xs =>
    have h : Rv g w (.dct xs) v := h
    unfold Rv at h
    obtain ⟨p, ys, e1, e2, _, _, e3⟩ := h
    cases e
    exact ⟨p, e1, ys, e2, e3⟩
  | bor o' =>
    obtain ⟨p, e1, q, _⟩ := h
    cases e
    exact ⟨p, e1, q⟩
  | scr ns => cases e
  | own o => cases e
  | non => cases e
  | bl b => cases e
  | int i => cases e
  | str x => cases e
  | tup xs => cases e
  | exn => cases e
theorem dr_ok {d : D} {v : V} {o : O} (r : Rst g w) (h : Po g w d v) (e : dr w.s d = some o) : ∃ p, v = .ref p ∧ RoR g w p o := by
  cases d with
  | scr ns =>
    have h : Rv g w (.scr ns) v := h
    unfold Rv at h
    obtain ⟨p, e1, q⟩ := h
    cases e
    refine ⟨p, e1, ns.map V.int, ?_, RvL.ints⟩
    rcases q with ⟨b, q⟩ | q
    · exact .inl (.inr ⟨b, q⟩)
    · exact .inr q
  | _ => obtain ⟨p, a, b⟩ := drM_ok r h e; exact ⟨p, a, b.r⟩
/-! ### a new thing -/
theorem upd_old {H : Hp} {p q : Addr} {u x : HO} (hp : H p = Option.none) (e : H q = some x) : upd H p u q = some x := by
  rw [upd_ne (ne_of_none e hp)]; exact e
theorem new_ext {p : Addr} {u : HO} {T : List Addr} (hp : w.H p = Option.none) : Ext [] w { w with H := upd w.H p u, T := T } :=
  ⟨⟨[], by simp⟩, fun q o e _ _ => upd_old hp e, fun _ l => .inl l, fun _ l => .inl l⟩
theorem new_cy (r : Rst g w) {p : Addr} {u : HO} (hp : w.H p = Option.none) {T : List Addr} (hT : ∀ q ∈ T, q ∈ w.T ∨ q = p) : Cy g [] w { w with H := upd w.H p u, T := T } :=
  ⟨r, new_ext hp, by simp, by simp, fun q h => (hT q h).imp id (fun e => by rw [e]; exact hp)⟩
theorem Rst.new (r : Rst g w) {p : Addr} {u : HO} (hp : w.H p = Option.none) {T : List Addr} (hT : ∀ q ∈ T, q ∈ w.T ∨ q = p) : Rst g { w with H := upd w.H p u, T := T } := by
  have c : Cy g [] w { w with H := upd w.H p u, T := T } := new_cy r hp hT
  refine ⟨r.len, r.nd, fun q hq => ?_, fun n q o a b => ?_⟩
  · rcases hT q hq with h | h
    · obtain ⟨o, e⟩ := (r.tt q h).2
      exact ⟨(r.tt q h).1, o, upd_old hp e⟩
    · subst h
      exact ⟨r.fresh hp, u, upd_same⟩
  · have h := r.ce n q o a b
    cases o with
    | lst xs => obtain ⟨ys, e, z⟩ := h; exact ⟨ys, upd_old hp e, RvL.mono c _ _ z⟩
    | dK xs => obtain ⟨ys, e, z⟩ := h; exact ⟨ys, upd_old hp e, RvK.mono c _ _ z⟩
    | ins a xs => obtain ⟨dx, ys, e, z⟩ := h; exact ⟨dx, ys, upd_old hp e, RvF.mono c _ _ z⟩
    | dead => obtain ⟨o, e⟩ := h; exact ⟨o, upd_old hp e⟩
theorem Rst.ntT (r : Rst g w) {p : Addr} (hp : w.H p = Option.none) : p ∉ w.T := fun h => by
  obtain ⟨o, e⟩ := (r.tt p h).2
  rw [hp] at e; cases e
/-- a new list of related items, as a result -/
theorem Px.newL (r : Rst g w) {p : Addr} {ds : List D} {vs : List V} (hp : w.H p = Option.none) (h : RvL g w ds vs) : Px g w.H { w with H := upd w.H p (.lst vs) } (.own (.lst ds)) (.ref p) := by
  have hT : ∀ q ∈ p :: w.T, q ∈ w.T ∨ q = p := fun q hq => by
    rcases List.mem_cons.mp hq with e | e
    · exact .inr e
    · exact .inl e
  exact ⟨p, rfl, hp, r.ntT hp, trivial, r.new hp hT, vs, upd_same, RvL.mono (new_cy r hp hT) _ _ h⟩
theorem Px.newD (r : Rst g w) {p : Addr} {ds : List (Key × D)} {vs : List (Key × V)} (hp : w.H p = Option.none) (h : RvK g w ds vs) : Px g w.H { w with H := upd w.H p (.dK vs) } (.own (.dK ds)) (.ref p) := by
  have hT : ∀ q ∈ p :: w.T, q ∈ w.T ∨ q = p := fun q hq => by
    rcases List.mem_cons.mp hq with e | e
    · exact .inr e
    · exact .inl e
  exact ⟨p, rfl, hp, r.ntT hp, trivial, r.new hp hT, vs, upd_same, RvK.mono (new_cy r hp hT) _ _ h⟩
theorem Px.newT (r : Rst g w) {p : Addr} {ds : List D} {vs : List V} (hp : w.H p = Option.none) (h : RvL g w ds vs) : Px g w.H { w with H := upd w.H p (.tup vs) } (.tup ds) (.ref p) := by
  have hT : ∀ q ∈ w.T, q ∈ w.T ∨ q = p := fun q hq => .inl hq
  refine ⟨r.new hp hT, ?_⟩
  unfold Rv
  exact ⟨p, vs, rfl, SqT.of upd_same, RvL.mono (new_cy r hp hT) _ _ h⟩
end
end Gm

set_option Elab.async false
set_option linter.all false
set_option maxRecDepth 100000
set_option autoImplicit false
set_option maxHeartbeats 1000000
namespace Gm
open PySem PySem.Spec PyProof.Rows L2
/-- the classes; the caught error within a suite -/
structure Ga where
  cl : Nat → Addr
  x : Option Addr
abbrev gx (X : Cx) (A : Ga) : Gc := ⟨X.K, A.cl, A.x⟩
section
variable {X : Cx} {e : Expr}
theorem peW {t t' : TE} (h : PE X e t) (k : ∀ σ H Q, t' σ H Q → t σ H Q) : PE X e t' := ⟨fun pins s σ H Q I q => h.run pins s σ H Q I (k σ H Q q)⟩
theorem ptW {t t' : TT} (h : PT X e t) (k : ∀ σ H Q, t' σ H Q → t σ H Q) : PT X e t' := ⟨fun pins s σ H Q I q => h.run pins s σ H Q I (k σ H Q q)⟩
theorem pwW {t t' : TT} (h : PW X e t) (k : ∀ σ H Q, t' σ H Q → t σ H Q) : PW X e t' := ⟨fun wh pins s σ H Q I q => h.run wh pins s σ H Q I (k σ H Q q)⟩
theorem paW {es : List Expr} {t t' : TA} (h : PA X es t) (k : ∀ σ H Q, t' σ H Q → t σ H Q) : PA X es t' := ⟨fun pos pins s σ H Q I q => h.run pos pins s σ H Q I (k σ H Q q)⟩
end
/-! ### the mirror's words for expressions -/
def eVar (i : Nat) : Ex := fun env s => match env[i]? with
  | some (some (.own o)) => .ok (.bor o) s
  | some (some d) => .ok d s
  | _ => .no
def eC (d : D) : Ex := fun _ s => .ok d s
def eOp2 (f : Store → D → D → R D) (a b : Ex) : Ex := fun env s => match a env s with
  | .ok x s1 => (match b env s1 with
    | .ok y s2 => f s2 (fz x) (fz y)
    | .exc c s2 => .exc c s2
    | .no => .no)
  | .exc c s1 => .exc c s1
  | .no => .no
def eOp1 (f : Store → D → R D) (a : Ex) : Ex := fun env s => match a env s with
  | .ok x s1 => f s1 (fz x)
  | .exc c s1 => .exc c s1
  | .no => .no
section
variable {g : Gc} {w w' : Wd} {env : Env} {σ : Sl} {W : WX} {H0 : Hp}
/-- what a step on operands asks: no exception -/
def PostV (g : Gc) (w : Wd) (Q : VK) : R D → Prop
  | .ok d s' => ∀ (w' : Wd) (v : V), w'.s = s' → w'.T = w.T → Ext [] w w' → Px g w.H w' d v → Q v w'.H
  | _ => False
def Snd2 (g : Gc) (f : Store → D → D → R D) (r : R2) : Prop := ∀ (w : Wd) (a b : D) (x y : V) (Q : VK), Rst g w → Po g w a x → Po g w b y → PostV g w Q (f w.s a b) → r x y w.H Q
def Snd1 (g : Gc) (f : Store → D → R D) (r : V → Hp → VK → Prop) : Prop := ∀ (w : Wd) (a : D) (x : V) (Q : VK), Rst g w → Po g w a x → PostV g w Q (f w.s a) → r x w.H Q
theorem PostV.pure {Q : VK} {d : D} {v : V} (h : PostV g w Q (.ok d w.s)) (r : Rst g w) (q : Rv g w d v) : Q v w.H := h w v rfl rfl Ext.refl (.of r q)
/-- a run's first step -/
theorem Post.step {α β γ δ : Type} {Pr : Hp → Wd → α → β → Prop} {Pr' : Hp → Wd → γ → δ → Prop} {Q : β → Hp → Prop} {Q' : δ → Hp → Prop} {m : R α} {m' : R γ} (h : Post g Pr' W w σ Q' m')
    (he : ∀ c s, m = .exc c s → m' = .exc c s) (hn : m = .no → m' = .no)
    (hk : ∀ (a : α) (s' : Store) (w' : Wd) (b : β), m = .ok a s' → w'.s = s' → w'.T = w.T → Ext [] w w' → Pr w.H w' a b → Q b w'.H) : Post g Pr W w σ Q m := by
  cases e : m with
  | ok a s' => exact fun w' b h1 h2 h3 h4 => hk a s' w' b e h1 h2 h3 h4
  | exc c s' => rw [he c s' e] at h; exact h
  | no => rw [hn e] at h; exact h
theorem Re.next (re : Re g w env σ) (r' : Rst g w') (e : Ext [] w w') (t : w'.T = w.T) : Re g w' env σ := re.mono (Cy.of re.st e t) r' (fun p h => by rw [t]; exact h)
/-- behind a first step -/
theorem Post.next {α β : Type} {Pr : Hp → Wd → α → β → Prop} {Q : β → Hp → Prop} {m : R α} (h : Post g Pr W w σ Q m) (e : Ext [] w w') (t : w'.T = w.T) (hPr : ∀ (a : α) (b : β) (w'' : Wd), Ext [] w w' → Pr w'.H w'' a b → Pr w.H w'' a b) : Post g Pr W w' σ Q m := by
  cases m with
  | ok a s' => exact fun w2 b h1 h2 h3 h4 => h w2 b h1 (h2.trans t) (e.trans h3) (hPr a b w2 e h4)
  | exc c s' => exact fun w2 h1 h2 h3 h4 => h w2 h1 (h2.trans t) (e.trans h3) h4
  | no => exact h
theorem back {p : Addr} (r : Rst g w) (r' : Rst g w') (e : Ext [] w w') (h : w'.H p = Option.none) : w.H p = Option.none := by
  cases q : w.H p with
  | none => rfl
  | some o =>
    by_cases l : w.Live p
    · have hm : p ∈ w'.m := by
        obtain ⟨t, q⟩ := e.pre
        rw [q]; exact List.mem_append_left _ l.mem
      obtain ⟨u, z⟩ := r'.trk hm
      rw [h] at z; cases z
    · have := e.keep p o q l (by simp)
      rw [h] at this; cases this
theorem Px.back {d : D} {v : V} {w2 : Wd} (r : Rst g w) (r' : Rst g w') (e : Ext [] w w') (h : Px g w'.H w2 d v) : Px g w.H w2 d v := by
  cases d with
  | own o => obtain ⟨p, a, b, c⟩ := h; exact ⟨p, a, Gm.back r r' e b, c⟩
  | bor o => exact h
  | non => exact h
  | bl b => exact h
  | int i => exact h
  | str x => exact h
  | tup xs => exact h
  | lst xs => exact h
  | scr xs => exact h
  | dct xs => exact h
  | ref n => exact h
  | exn => exact h
theorem PostV.next {Q : VK} {m : R D} (r : Rst g w) (r' : Rst g w') (e : Ext [] w w') (t : w'.T = w.T) (h : Post g (Px g) W w σ Q m) (hne : ∀ c s, m ≠ .exc c s) : PostV g w' Q m := by
  cases m with
  | ok a s' => exact fun w2 b h1 h2 h3 h4 => h w2 b h1 (h2.trans t) (e.trans h3) (h4.back r r' e)
  | exc c s' => exact absurd rfl (hne c s')
  | no => exact h
theorem tOp_snd {f : Store → D → D → R D} {r : R2} {a b : Ex} (hf : Snd2 g f r) (hne : ∀ s x y c s', f s x y ≠ .exc c s') {H : Hp} {Q : VK} (h : tEv g W (eOp2 f a b) σ H Q) : tOp r (tEv g W a) (tEv g W b) σ H Q := by
  obtain ⟨w, env, rfl, re, h⟩ := h
  refine ⟨w, env, rfl, re, ?_⟩
  refine Post.step (m' := eOp2 f a b env w.s) h (fun c s e => by simp only [eOp2, e]) (fun e => by simp only [eOp2, e]) fun x s1 w1 v ea hs1 ht1 e1 p1 => ?_
  obtain ⟨r1, o1⟩ := p1.fz
  refine ⟨w1, env, rfl, re.next r1 e1 ht1, ?_⟩
  refine Post.step (m' := eOp2 f a b env w.s) (h.next e1 ht1 fun _ _ w2 _ q => q.back re.st r1 e1) (fun c s e => by rw [hs1] at e; simp only [eOp2, ea, e]) (fun e => by rw [hs1] at e; simp only [eOp2, ea, e]) fun y s2 w2 u eb hs2 ht2 e2 p2 => ?_
  obtain ⟨r2, o2⟩ := p2.fz
  have em : eOp2 f a b env w.s = f w2.s (fz x) (fz y) := by
    rw [hs1] at eb
    simp only [eOp2, ea, eb, hs2]
  rw [em] at h
  exact hf w2 (fz x) (fz y) v u Q r2 (o1.mono (Cy.of r1 e2 ht2)) o2 (PostV.next re.st r2 (e1.trans e2) (ht2.trans ht1) h fun c s => hne _ _ _ _ _)
theorem tUn_snd {f : Store → D → R D} {r : V → Hp → VK → Prop} {a : Ex} (hf : Snd1 g f r) (hne : ∀ s x c s', f s x ≠ .exc c s') {H : Hp} {Q : VK} (h : tEv g W (eOp1 f a) σ H Q) : tEv g W a σ H fun x H1 => r x H1 Q := by
  obtain ⟨w, env, rfl, re, h⟩ := h
  refine ⟨w, env, rfl, re, ?_⟩
  refine Post.step (m' := eOp1 f a env w.s) h (fun c s e => by simp only [eOp1, e]) (fun e => by simp only [eOp1, e]) fun x s1 w1 v ea hs1 ht1 e1 p1 => ?_
  obtain ⟨r1, o1⟩ := p1.fz
  have em : eOp1 f a env w.s = f w1.s (fz x) := by simp only [eOp1, ea, hs1]
  rw [em] at h
  exact hf w1 (fz x) v Q r1 o1 (PostV.next re.st r1 e1 ht1 h fun c s => hne _ _ _ _)
end
section
variable {X : Cx} {A : Ga} {W : WX} {a b : Expr} {ma mb : Ex} {pos : Pos}
theorem meG_var {g : Gc} (hg : g.K = X.K) (i : Nat) {x : Str} (hN : X.N[i]? = some x := by rfl) (hv : Vis X.env.scope x := by first | exact Or.inl rfl | exact Or.inr (Or.inl rfl) | exact Or.inr (Or.inr rfl)) (hd : (x == ("__debug__" : Str)) = false := by decide)
    (hcd : (x == ("__classdict__" : Str)) = false := by decide) : PE X (.Name x pos) (tEv g W (eVar i)) := by
  refine peW (pe_var hN hv hd hcd) fun σ H Q h => ?_
  obtain ⟨w, env, rfl, re, h⟩ := h
  cases e : env[i]? with
  | none => simp only [eVar, e] at h; exact h.elim
  | some o =>
    cases o with
    | none => simp only [eVar, e] at h; exact h.elim
    | some d =>
      obtain ⟨v, hv, sv⟩ := re.sl i d e
      refine ⟨v, hv, ?_⟩
      cases d with
      | own o =>
        simp only [eVar, e] at h
        obtain ⟨p, e1, _, ro, nm, _⟩ := sv
        exact h w v rfl rfl Ext.refl ⟨re.st, p, e1, ro, nm⟩
      | bor o => exact (show False by simpa [Sv, Rv] using sv).elim
      | non => simp only [eVar, e] at h; exact h w v rfl rfl Ext.refl (.of re.st sv)
      | bl b => simp only [eVar, e] at h; exact h w v rfl rfl Ext.refl (.of re.st sv)
      | int n => simp only [eVar, e] at h; exact h w v rfl rfl Ext.refl (.of re.st sv)
      | str n => simp only [eVar, e] at h; exact h w v rfl rfl Ext.refl (.of re.st sv)
      | tup n => simp only [eVar, e] at h; exact h w v rfl rfl Ext.refl (.of re.st sv)
      | lst n => simp only [eVar, e] at h; exact h w v rfl rfl Ext.refl (.of re.st sv)
      | scr n => simp only [eVar, e] at h; exact h w v rfl rfl Ext.refl (.of re.st sv)
      | dct n => simp only [eVar, e] at h; exact h w v rfl rfl Ext.refl (.of re.st sv)
      | ref n => simp only [eVar, e] at h; exact h w v rfl rfl Ext.refl (.of re.st sv)
      | exn => simp only [eVar, e] at h; exact h w v rfl rfl Ext.refl ⟨re.st, sv⟩
theorem me_var (i : Nat) {x : Str} (hN : X.N[i]? = some x := by rfl) (hv : Vis X.env.scope x := by first | exact Or.inl rfl | exact Or.inr (Or.inl rfl) | exact Or.inr (Or.inr rfl)) (hd : (x == ("__debug__" : Str)) = false := by decide)
    (hcd : (x == ("__classdict__" : Str)) = false := by decide) : PE X (.Name x pos) (tEv (gx X A) W (eVar i)) := meG_var rfl i hN hv hd hcd
theorem tC_snd {g : Gc} {d : D} {v : V} (hr : ∀ w, Rv g w d v) {σ : Sl} {H : Hp} {Q : VK} (h : tEv g W (eC d) σ H Q) : tC v σ H Q := by
  obtain ⟨w, env, rfl, re, h⟩ := h
  exact h w v rfl rfl Ext.refl (.of re.st (hr w))
theorem me_int {i : Int} {j} : PE X (.Constant (.int i) j pos) (tEv (gx X A) W (eC (.int i))) := peW pe_int fun _ _ _ h => tC_snd (fun w => by unfold Rv; rfl) h
theorem me_bl {i : Bool} {j} : PE X (.Constant (.bool i) j pos) (tEv (gx X A) W (eC (.bl i))) := peW pe_bl fun _ _ _ h => tC_snd (fun w => by unfold Rv; rfl) h
theorem me_non {j} : PE X (.Constant .none j pos) (tEv (gx X A) W (eC .non)) := peW pe_non fun _ _ _ h => tC_snd (fun w => by unfold Rv; rfl) h
theorem me_str {x : Str} {j} : PE X (.Constant (.str x) j pos) (tEv (gx X A) W (eC (.str x))) := peW pe_str fun _ _ _ h => tC_snd (fun w => by unfold Rv; rfl) h
/-- a number of the module's top -/
theorem me_num {x : Str} {i : Int} (hg : Gl X x) (hm : ∃ t, X.mg x = some (.int i t)) (hd : (x == ("__debug__" : Str)) = false := by decide) : PE X (.Name x pos) (tEv (gx X A) W (eC (.int i))) := by
  obtain ⟨t, hm⟩ := hm
  exact peW (pe_glob (v := .int i) hg hm ⟨t, rfl⟩ hd) fun _ _ _ h => tC_snd (fun w => by unfold Rv; rfl) h
theorem me_op {op : Operator} {f : Store → D → D → R D} {r : R2} (ho : OpR X (binaryOp op) r) (hf : Snd2 (gx X A) f r) (hne : ∀ s x y c s', f s x y ≠ .exc c s') (ha : PE X a (tEv (gx X A) W ma)) (hb : PE X b (tEv (gx X A) W mb)) :
    PE X (.BinOp a op b pos) (tEv (gx X A) W (eOp2 f ma mb)) := peW (pe_op ho ha hb) fun _ _ _ h => tOp_snd hf hne h
theorem me_cmp {op : CmpOp} {f : Store → D → D → R D} {r : R2} (ho : OpR X (compareOp op) r) (hf : Snd2 (gx X A) f r) (hne : ∀ s x y c s', f s x y ≠ .exc c s') (hm : behindInMarks op b = false) (ha : PE X a (tEv (gx X A) W ma)) (hb : PE X b (tEv (gx X A) W mb)) :
    PE X (.Compare a [op] [b] pos) (tEv (gx X A) W (eOp2 f ma mb)) := peW (pe_cmpR ho ha hb hm) fun _ _ _ h => tOp_snd hf hne h
theorem me_ix0 {f : Store → D → D → R D} {r : R2} (ho : IxR X r) (hf : Snd2 (gx X A) f r) (hne : ∀ s x y c s', f s x y ≠ .exc c s') (hs : PlainIx b) (ha : PE X a (tEv (gx X A) W ma)) (hb : PE X b (tEv (gx X A) W mb)) :
    PE X (.Subscript a b pos) (tEv (gx X A) W (eOp2 f ma mb)) := peW (pe_ix ho ha hb hs) fun _ _ _ h => tOp_snd hf hne h
theorem me_un {op : UnaryOp} {f : Store → D → R D} {r : V → Hp → VK → Prop} (ho : UnR X (unaryOp op) r) (hf : Snd1 (gx X A) f r) (hne : ∀ s x c s', f s x ≠ .exc c s') (ha : PE X a (tEv (gx X A) W ma)) :
    PE X (.UnaryOp op a pos) (tEv (gx X A) W (eOp1 f ma)) := peW (pe_un ho ha) fun _ _ _ h => tUn_snd hf hne h
end
end Gm

set_option Elab.async false
set_option linter.all false
set_option maxRecDepth 100000
set_option autoImplicit false
set_option maxHeartbeats 1000000
namespace Gm
open PySem PySem.Spec PyProof.Rows L2
/-! ### steps on numbers -/
def fI (c : Int → Int → Bool) (f : Int → Int → D) : Store → D → D → R D := fun s a b => match a, b with
  | .int i, .int j => if c i j = true then .ok (f i j) s else .no
  | _, _ => .no
abbrev cT : Int → Int → Bool := fun _ _ => true
def fSub := fI cT fun i j => .int (i - j)
def fDiv := fI (fun _ j => decide (0 < j) && decide (j < 1073741824)) fun i j => .int (i / j)
def fMod := fI (fun _ j => decide (0 < j)) fun i j => .int (i % j)
def fPow := fI (fun i j => decide (0 ≤ j) && decide (j ≤ 1000000) && decide (i.natAbs < 18446744073709551616)) fun i j => .int (i ^ j.toNat)
def fLt := fI cT fun i j => .bl (decide (i < j))
def fLe := fI cT fun i j => .bl (decide (i ≤ j))
def fGt := fI cT fun i j => .bl (decide (j < i))
def fGe := fI cT fun i j => .bl (decide (j ≤ i))
def fCat : Store → D → D → R D := fun s a b => match drM s a, drM s b with
  | some (.lst xs), some (.lst ys) => if xs.length + ys.length ≤ 16777216 then .ok (.own (.lst (xs ++ ys))) s else .no
  | _, _ => .no
def fAdd : Store → D → D → R D := fun s a b => match a, b with
  | .int i, .int j => .ok (.int (i + j)) s
  | .str x, .str y => if x.length + y.length ≤ 16777216 then .ok (.str (x ++ y)) s else .no
  | _, _ => fCat s a b
def fRep : Store → D → D → R D := fun s a b => match drM s a, b with
  | some (.lst xs), .int k => if k < 9223372036854775808 ∧ -9223372036854775808 ≤ k ∧ xs.length * k.toNat ≤ 16777216 then .ok (.own (.lst (List.replicate k.toNat xs).flatten)) s else .no
  | _, _ => .no
def cMul (i j : Int) : Bool := (decide (-(18446744073709551616) < i) && decide (i < 18446744073709551616)) || (decide (-(18446744073709551616) < j) && decide (j < 18446744073709551616))
def fMul : Store → D → D → R D := fun s a b => match a, b with
  | .int i, .int j => if cMul i j = true then .ok (.int (i * j)) s else .no
  | _, _ => fRep s a b
def fIx : Store → D → D → R D := fun s a b => match b with
  | .int i => (match a with
    | .tup xs => (match atI xs i with
      | some d => .ok d s
      | none => .no)
    | _ => (match dr s a with
      | some (.lst xs) => (match atI xs i with
        | some d => .ok d s
        | none => .no)
      | _ => .no))
  | _ => .no
/-! ### == -/
def toPy (s : Store) : Nat → D → Option PyData
  | 0, _ => none
  | n + 1, d => match d with
    | .non => some .none
    | .bl b => some (.bool b)
    | .int i => some (.int i)
    | .str x => some (.str x)
    | .tup xs => (xs.mapM (toPy s n)).map PyData.tuple
    | d => (match dr s d with
      | some (.lst xs) => (xs.mapM (toPy s n)).map PyData.list
      | _ => none)
def fEq : Store → D → D → R D := fun s a b => match toPy s 9 a, toPy s 9 b with
  | some d, some e => if d.canLay0 = true ∧ e.canLay0 = true then .ok (.bl (PyData.eqv d e)) s else .no
  | _, _ => .no
def fNe : Store → D → D → R D := fun s a b => match toPy s 9 a, toPy s 9 b with
  | some d, some e => if d.canLay0 = true ∧ e.canLay0 = true then .ok (.bl (!PyData.eqv d e)) s else .no
  | _, _ => .no
/-! ### in -/
def flD : D → Option V
  | .non => some .non
  | .bl b => some (.bl b)
  | .int i => some (.int i)
  | .str x => some (.str x)
  | _ => none
def seqD (s : Store) : D → Option (List D)
  | .tup xs => some xs
  | d => match dr s d with
    | some (.lst xs) => some xs
    | _ => none
def fIn (neg : Bool) : Store → D → D → R D := fun s a b => match flD a, (seqD s b).bind fun xs => xs.mapM flD with
  | some x, some ys => .ok (.bl (if neg then !inV x ys else inV x ys)) s
  | _, _ => .no
def fIsN : Store → D → D → R D := fun s a b => match b with
  | .non => (match a with
    | .non => .ok (.bl true) s
    | .bor _ => .ok (.bl false) s
    | .own _ => .no
    | _ => .ok (.bl false) s)
  | _ => .no
def fNotN : Store → D → D → R D := fun s a b => match b with
  | .non => (match a with
    | .non => .ok (.bl false) s
    | .bor _ => .ok (.bl true) s
    | .own _ => .no
    | _ => .ok (.bl true) s)
  | _ => .no
def fNeg : Store → D → R D := fun s a => match a with
  | .int i => .ok (.int (-i)) s
  | _ => .no
def fLen : Store → D → R D := fun s a => match a with
  | .tup xs => .ok (.int xs.length) s
  | .str x => if x.length ≤ 16777216 then .ok (.int x.length) s else .no
  | _ => (match dr s a with
    | some (.lst xs) => .ok (.int xs.length) s
    | _ => .no)
section
variable {g : Gc} {w : Wd}
theorem po_int {i : Int} {x : V} (h : Po g w (.int i) x) : x = .int i := by
  have h : Rv g w (.int i) x := h
  unfold Rv at h; exact h
theorem po_str {i : Str} {x : V} (h : Po g w (.str i) x) : x = .str i := by
  have h : Rv g w (.str i) x := h
  unfold Rv at h; exact h
theorem rv_int {i : Int} : Rv g w (.int i) (.int i) := by unfold Rv; rfl
theorem rv_bl {i : Bool} : Rv g w (.bl i) (.bl i) := by unfold Rv; rfl
theorem rv_str {i : Str} : Rv g w (.str i) (.str i) := by unfold Rv; rfl
theorem rv_non : Rv g w .non .non := by unfold Rv; rfl
theorem snd_I {c : Int → Int → Bool} {f : Int → Int → D} {C : Int → Int → Prop} {k : Int → Int → V} (hc : ∀ i j, c i j = true → C i j) (hr : ∀ (w : Wd) i j, Rv g w (f i j) (k i j)) : Snd2 g (fI c f) (rI C k) := by
  intro w a b x y Q r pa pb h
  unfold fI at h
  split at h
  · rename_i i j
    split at h
    · rename_i hcc
      exact ⟨i, j, po_int pa, po_int pb, hc i j hcc, h.pure r (hr w i j)⟩
    · exact h.elim
  · exact h.elim
theorem snd_I0 {f : Int → Int → D} {k : Int → Int → V} (hr : ∀ (w : Wd) i j, Rv g w (f i j) (k i j)) : Snd2 g (fI cT f) (rI0 k) := by
  intro w a b x y Q r pa pb h
  obtain ⟨i, j, h1, h2, _, h3⟩ := snd_I (C := fun _ _ => True) (fun _ _ _ => trivial) hr w a b x y Q r pa pb h
  exact ⟨i, j, h1, h2, h3⟩
theorem ne_I {c : Int → Int → Bool} {f : Int → Int → D} : ∀ s x y k s', fI c f s x y ≠ .exc k s' := by
  intro s x y k s'
  unfold fI
  split
  · split <;> exact fun z => nomatch z
  · exact fun z => nomatch z
theorem drM_lst {a : D} {x : V} {xs : List D} (r : Rst g w) (h : Po g w a x) (e : drM w.s a = some (.lst xs)) : ∃ p ys, x = .ref p ∧ w.H p = some (.lst ys) ∧ RvL g w xs ys := by
  obtain ⟨p, e1, ys, e2, e3⟩ := drM_ok r h e
  exact ⟨p, ys, e1, e2, e3⟩
theorem dr_lst {a : D} {x : V} {xs : List D} (r : Rst g w) (h : Po g w a x) (e : dr w.s a = some (.lst xs)) : ∃ p ys, x = .ref p ∧ SqL g.K w.H p ys ∧ RvL g w xs ys := by
  obtain ⟨p, e1, ys, e2, e3⟩ := dr_ok r h e
  exact ⟨p, ys, e1, e2, e3⟩
theorem snd_cat : Snd2 g fCat rCat := by
  intro w a b x y Q r pa pb h
  unfold fCat at h
  split at h
  · rename_i xs ys ea eb
    split at h
    · rename_i hl
      obtain ⟨p, us, e1, e2, e3⟩ := drM_lst r pa ea
      obtain ⟨q, vs, k1, k2, k3⟩ := drM_lst r pb eb
      refine ⟨p, q, us, vs, e1, k1, e2, k2, ?_, fun l hl' => ?_⟩
      · rw [e3.length, k3.length, sizeLine_eq]; exact hl
      · exact h { w with H := upd w.H l (.lst (us ++ vs)) } _ rfl rfl (new_ext hl') (Px.newL r hl' (e3.app k3))
    · exact h.elim
  · exact h.elim
theorem snd_add : Snd2 g fAdd (fun x y H Q => rI0 (fun i j => .int (i + j)) x y H Q ∨ (∃ i j, x = .str i ∧ y = .str j ∧ i.length + j.length ≤ sizeLine ∧ Q (.str (i ++ j)) H) ∨ rCat x y H Q) := by
  intro w a b x y Q r pa pb h
  unfold fAdd at h
  split at h
  · rename_i i j
    exact .inl ⟨i, j, po_int pa, po_int pb, h.pure r rv_int⟩
  · rename_i i j
    split at h
    · rename_i hl
      exact .inr (.inl ⟨i, j, po_str pa, po_str pb, by rw [sizeLine_eq]; exact hl, h.pure r rv_str⟩)
    · exact h.elim
  · exact .inr (.inr (snd_cat w a b x y Q r pa pb h))
theorem ne_cat : ∀ s x y k s', fCat s x y ≠ .exc k s' := by
  intro s x y k s'
  unfold fCat
  split
  · split <;> exact fun z => nomatch z
  · exact fun z => nomatch z
theorem ne_add : ∀ s x y k s', fAdd s x y ≠ .exc k s' := by
  intro s x y k s'
  unfold fAdd
  split
  · exact fun z => nomatch z
  · split <;> exact fun z => nomatch z
  · exact ne_cat _ _ _ _ _
theorem RvL.flat : ∀ {n : Nat} {xs : List D} {ys : List V}, RvL g w xs ys → RvL g w (List.replicate n xs).flatten (List.replicate n ys).flatten
  | 0, _, _, _ => by simp [RvL]
  | n + 1, xs, ys, h => by
    rw [List.replicate_succ, List.replicate_succ, List.flatten_cons, List.flatten_cons]
    exact h.app (RvL.flat h)
theorem snd_rep : Snd2 g fRep rRep := by
  intro w a b x y Q r pa pb h
  unfold fRep at h
  split at h
  · rename_i xs k ea
    split at h
    · rename_i hl
      obtain ⟨p, us, e1, e2, e3⟩ := drM_lst r pa ea
      refine ⟨p, k, us, e1, po_int pb, e2, by omega, by omega, ?_, fun l hl' => ?_⟩
      · rw [e3.length, sizeLine_eq]; exact hl.2.2
      · exact h { w with H := upd w.H l (.lst (List.replicate k.toNat us).flatten) } _ rfl rfl (new_ext hl') (Px.newL r hl' e3.flat)
    · exact h.elim
  · exact h.elim
theorem cMul_ok {i j : Int} (h : cMul i j = true) : CMul i j := by
  unfold cMul at h
  simp only [Bool.or_eq_true, Bool.and_eq_true, decide_eq_true_eq] at h
  unfold CMul
  omega
theorem snd_mul : Snd2 g fMul (fun x y H Q => rI CMul (fun i j => .int (i * j)) x y H Q ∨ rRep x y H Q) := by
  intro w a b x y Q r pa pb h
  unfold fMul at h
  split at h
  · rename_i i j
    split at h
    · rename_i hc
      exact .inl ⟨i, j, po_int pa, po_int pb, cMul_ok hc, h.pure r rv_int⟩
    · exact h.elim
  · exact .inr (snd_rep w a b x y Q r pa pb h)
theorem ne_mul : ∀ s x y k s', fMul s x y ≠ .exc k s' := by
  intro s x y k s'
  unfold fMul fRep
  split
  · split <;> exact fun z => nomatch z
  · split
    · split <;> exact fun z => nomatch z
    · exact fun z => nomatch z
theorem RvL.atI {xs : List D} {ys : List V} {i : Int} {d : D} (h : RvL g w xs ys) (e : L2.atI xs i = some d) : ∃ v, L2.atI ys i = some v ∧ Rv g w d v := by
  unfold L2.atI at *
  rw [h.length]
  cases q : ixN xs.length i with
  | none => rw [q] at e; cases e
  | some j =>
    rw [q] at e
    exact h.get e
theorem snd_ix : Snd2 g fIx (rIx g.K) := by
  intro w a b x y Q r pa pb h
  unfold fIx at h
  split at h
  · rename_i i
    split at h
    · rename_i xs
      split at h
      · rename_i d e
        have pa' : Rv g w (.tup xs) x := pa
        unfold Rv at pa'
        obtain ⟨p, ys, e1, e2, e3⟩ := pa'
        obtain ⟨v, k1, k2⟩ := e3.atI e
        exact .inr (.inl ⟨p, ys, i, v, e1, po_int pb, e2, k1, h.pure r k2⟩)
      · exact h.elim
    · split at h
      · rename_i xs ed
        split at h
        · rename_i d e
          obtain ⟨p, ys, e1, e2, e3⟩ := dr_lst r pa ed
          obtain ⟨v, k1, k2⟩ := e3.atI e
          exact .inl ⟨p, ys, i, v, e1, po_int pb, e2, k1, h.pure r k2⟩
        · exact h.elim
      · exact h.elim
  · exact h.elim
theorem ne_ix : ∀ s x y k s', fIx s x y ≠ .exc k s' := by
  intro s x y k s'
  unfold fIx
  repeat' split
  all_goals exact fun z => nomatch z
/-! ### == -/
theorem mapM_ok {f : D → Option PyData} {K : PySem.W.Frag} {H : Hp} (hf : ∀ (d : D) (v : V) (p : PyData), Rv g w d v → f d = some p → Dp K H v p) : ∀ (xs : List D) (ys : List V) (ps : List PyData), RvL g w xs ys → xs.mapM f = some ps → DpAll K H ys ps
  | [], ys, ps, h, e => by
    unfold RvL at h; subst h
    simp at e; subst e; exact .nil
  | d :: r, ys, ps, h, e => by
    unfold RvL at h
    obtain ⟨y, t, e1, h1, h2⟩ := h
    subst e1
    rw [List.mapM_cons] at e
    cases q : f d with
    | none => rw [q] at e; cases e
    | some p =>
      rw [q] at e
      cases q2 : r.mapM f with
      | none => rw [q2] at e; cases e
      | some ps' =>
        rw [q2] at e
        cases e
        exact .cons (hf d y p h1 q) (mapM_ok hf r t ps' h2 q2)
theorem mapM_dp {f : D → Option PyData} {n : Nat} (hf : ∀ (d : D) (p : PyData), f d = some p → p.depth ≤ n) : ∀ (xs : List D) (ps : List PyData), xs.mapM f = some ps → PyData.depthAll ps ≤ n
  | [], ps, e => by simp at e; subst e; simp [PyData.depthAll]
  | d :: r, ps, e => by
    rw [List.mapM_cons] at e
    cases q : f d with
    | none => rw [q] at e; cases e
    | some p =>
      rw [q] at e
      cases q2 : r.mapM f with
      | none => rw [q2] at e; cases e
      | some ps' =>
        rw [q2] at e
        cases e
        have h1 := hf d p q
        have h2 := mapM_dp hf r ps' q2
        simp only [PyData.depthAll]
        omega
theorem toPy_depth (s : Store) : ∀ (n : Nat) (d : D) (p : PyData), toPy s n d = some p → p.depth ≤ n
  | 0, _, _, e => by cases e
  | n + 1, d, p, e => by
    unfold toPy at e
    split at e
    · cases e; simp [PyData.depth]
    · cases e; simp [PyData.depth]
    · cases e; simp [PyData.depth]
    · cases e; simp [PyData.depth]
    · rename_i xs
      cases q : xs.mapM (toPy s n) with
      | none => rw [q] at e; cases e
      | some ps =>
        rw [q] at e; cases e
        have := mapM_dp (toPy_depth s n) xs ps q
        simp only [PyData.depth]; omega
    · split at e
      · rename_i xs _
        cases q : xs.mapM (toPy s n) with
        | none => rw [q] at e; cases e
        | some ps =>
          rw [q] at e; cases e
          have := mapM_dp (toPy_depth s n) xs ps q
          simp only [PyData.depth]; omega
      · cases e
theorem toPy_ok (r : Rst g w) : ∀ (n : Nat) (d : D) (v : V) (p : PyData), Po g w d v → toPy w.s n d = some p → Dp g.K w.H v p
  | 0, _, _, _, _, e => by cases e
  | n + 1, d, v, p, h, e => by
    have ih : ∀ (d : D) (v : V) (p : PyData), Rv g w d v → toPy w.s n d = some p → Dp g.K w.H v p := fun d v p h e => toPy_ok r n d v p h.po e
    unfold toPy at e
    split at e
    · have h : Rv g w .non v := h
      unfold Rv at h; subst h; cases e; exact .non
    · rename_i b
      have h : Rv g w (.bl b) v := h
      unfold Rv at h; subst h; cases e; exact .bl _
    · rename_i b
      have h : Rv g w (.int b) v := h
      unfold Rv at h; subst h; cases e; exact .int _
    · rename_i b
      have h : Rv g w (.str b) v := h
      unfold Rv at h; subst h; cases e; exact .str _
    · rename_i xs
      have h : Rv g w (.tup xs) v := h
      unfold Rv at h
      obtain ⟨q, ys, e1, e2, e3⟩ := h
      subst e1
      cases q2 : xs.mapM (toPy w.s n) with
      | none => rw [q2] at e; cases e
      | some ps => rw [q2] at e; cases e; exact .tup e2 (mapM_ok ih xs ys ps e3 q2)
    · split at e
      · rename_i xs ed
        obtain ⟨q, ys, e1, e2, e3⟩ := dr_lst r h ed
        subst e1
        cases q2 : xs.mapM (toPy w.s n) with
        | none => rw [q2] at e; cases e
        | some ps => rw [q2] at e; cases e; exact .lst e2 (mapM_ok ih xs ys ps e3 q2)
      · cases e
theorem shaped_of {s : Store} {d : D} {p : PyData} (e : toPy s 9 d = some p) (h : p.canLay0 = true) : SeqAt.shaped p = true := by
  unfold SeqAt.shaped
  have := toPy_depth s 9 d p e
  rw [h]
  simp only [Bool.true_and, decide_eq_true_eq]
  omega
theorem snd_eq : Snd2 g fEq (rEqD g.K) := by
  intro w a b x y Q r pa pb h
  unfold fEq at h
  split at h
  · rename_i d e ea eb
    split at h
    · rename_i hs
      exact ⟨d, e, toPy_ok r _ _ _ _ pa ea, toPy_ok r _ _ _ _ pb eb, shaped_of ea hs.1, shaped_of eb hs.2, h.pure r rv_bl⟩
    · exact h.elim
  · exact h.elim
theorem snd_ne : Snd2 g fNe (rNeD g.K) := by
  intro w a b x y Q r pa pb h
  unfold fNe at h
  split at h
  · rename_i d e ea eb
    split at h
    · rename_i hs
      exact ⟨d, e, toPy_ok r _ _ _ _ pa ea, toPy_ok r _ _ _ _ pb eb, shaped_of ea hs.1, shaped_of eb hs.2, h.pure r rv_bl⟩
    · exact h.elim
  · exact h.elim
theorem ne_eq : ∀ s x y k s', fEq s x y ≠ .exc k s' := by
  intro s x y k s'
  unfold fEq
  repeat' split
  all_goals exact fun z => nomatch z
theorem ne_ne : ∀ s x y k s', fNe s x y ≠ .exc k s' := by
  intro s x y k s'
  unfold fNe
  repeat' split
  all_goals exact fun z => nomatch z
/-! ### in -/
theorem flD_ok {d : D} {v x : V} (h : Po g w d v) (e : flD d = some x) : v = x ∧ flatV x = true := by
  cases d with
  | non => cases e; have h : Rv g w .non v := h; unfold Rv at h; exact ⟨h, rfl⟩
  | bl b => cases e; have h : Rv g w (.bl b) v := h; unfold Rv at h; exact ⟨h, rfl⟩
  | int b => cases e; have h : Rv g w (.int b) v := h; unfold Rv at h; exact ⟨h, rfl⟩
  | str b => cases e; have h : Rv g w (.str b) v := h; unfold Rv at h; exact ⟨h, rfl⟩
  | _ => cases e
theorem flL_ok : ∀ {xs : List D} {ys zs : List V}, RvL g w xs ys → xs.mapM flD = some zs → ys = zs ∧ zs.all flatV = true
  | [], ys, zs, h, e => by
    unfold RvL at h; subst h
    simp at e; subst e; exact ⟨rfl, rfl⟩
  | d :: r, ys, zs, h, e => by
    unfold RvL at h
    obtain ⟨y, t, e1, h1, h2⟩ := h
    subst e1
    rw [List.mapM_cons] at e
    cases q : flD d with
    | none => rw [q] at e; cases e
    | some p =>
      rw [q] at e
      cases q2 : r.mapM flD with
      | none => rw [q2] at e; cases e
      | some ps' =>
        rw [q2] at e
        cases e
        obtain ⟨a, b⟩ := flD_ok h1.po q
        obtain ⟨a2, b2⟩ := flL_ok h2 q2
        subst a; subst a2
        exact ⟨rfl, by simp [b, b2]⟩
theorem seqD_ok {d : D} {v : V} {xs : List D} (r : Rst g w) (h : Po g w d v) (e : seqD w.s d = some xs) : ∃ p ys, v = .ref p ∧ (SqL g.K w.H p ys ∨ SqT g.K w.H p ys) ∧ RvL g w xs ys := by
  unfold seqD at e
  split at e
  · rename_i zs
    cases e
    have h : Rv g w (.tup xs) v := h
    unfold Rv at h
    obtain ⟨q, ys, e1, e2, e3⟩ := h
    exact ⟨q, ys, e1, .inr e2, e3⟩
  · split at e
    · rename_i zs ed
      cases e
      obtain ⟨q, ys, e1, e2, e3⟩ := dr_lst r h ed
      exact ⟨q, ys, e1, .inl e2, e3⟩
    · cases e
theorem snd_in {neg : Bool} : Snd2 g (fIn neg) (rIn g.K neg) := by
  intro w a b x y Q r pa pb h
  unfold fIn at h
  split at h
  · rename_i u zs e1 e2
    cases q : seqD w.s b with
    | none => rw [q] at e2; cases e2
    | some ds =>
      rw [q] at e2
      obtain ⟨p, ys, k1, k2, k3⟩ := seqD_ok r pb q
      obtain ⟨a1, a2⟩ := flD_ok pa e1
      obtain ⟨b1, b2⟩ := flL_ok k3 e2
      subst a1; subst b1
      exact ⟨p, ys, k1, k2, a2, b2, h.pure r rv_bl⟩
  · exact h.elim
theorem ne_in {neg : Bool} : ∀ s x y k s', fIn neg s x y ≠ .exc k s' := by
  intro s x y k s'
  unfold fIn
  repeat' split
  all_goals exact fun z => nomatch z
theorem po_nn {d : D} {x : V} (h : Po g w d x) (hd : d ≠ .non) : x ≠ .non := by
  cases d with
  | non => exact absurd rfl hd
  | bl b => have h : Rv g w (.bl b) x := h; unfold Rv at h; subst h; exact fun z => nomatch z
  | int b => have h : Rv g w (.int b) x := h; unfold Rv at h; subst h; exact fun z => nomatch z
  | str b => have h : Rv g w (.str b) x := h; unfold Rv at h; subst h; exact fun z => nomatch z
  | tup b => have h : Rv g w (.tup b) x := h; unfold Rv at h; obtain ⟨p, _, rfl, _⟩ := h; exact fun z => nomatch z
  | lst b => have h : Rv g w (.lst b) x := h; unfold Rv at h; obtain ⟨p, _, rfl, _⟩ := h; exact fun z => nomatch z
  | scr b => have h : Rv g w (.scr b) x := h; unfold Rv at h; obtain ⟨p, rfl, _⟩ := h; exact fun z => nomatch z
  | dct b => have h : Rv g w (.dct b) x := h; unfold Rv at h; obtain ⟨p, _, rfl, _⟩ := h; exact fun z => nomatch z
  | ref b => have h : Rv g w (.ref b) x := h; unfold Rv at h; obtain ⟨p, rfl, _⟩ := h; exact fun z => nomatch z
  | own b => have h : Rv g w (.own b) x := h; unfold Rv at h; exact h.elim
  | bor b => obtain ⟨p, rfl, _⟩ := h; exact fun z => nomatch z
  | exn => obtain ⟨a, _, rfl⟩ := h; exact fun z => nomatch z
theorem po_non {x : V} (h : Po g w .non x) : x = .non := by
  have h : Rv g w .non x := h
  unfold Rv at h; exact h
theorem snd_isN : Snd2 g fIsN (fun x y H Q => y = .non ∧ Q (.bl (decide (x = .non))) H) := by
  intro w a b x y Q r pa pb h
  unfold fIsN at h
  split at h
  · refine ⟨po_non pb, ?_⟩
    split at h
    · rw [po_non pa]; exact h.pure r rv_bl
    · rw [decide_eq_false (po_nn pa fun z => nomatch z)]; exact h.pure r rv_bl
    · exact h.elim
    · rename_i n1 n2 n3
      rw [decide_eq_false (po_nn pa n1)]; exact h.pure r rv_bl
  · exact h.elim
theorem snd_notN : Snd2 g fNotN (fun x y H Q => y = .non ∧ Q (.bl (!decide (x = .non))) H) := by
  intro w a b x y Q r pa pb h
  unfold fNotN at h
  split at h
  · refine ⟨po_non pb, ?_⟩
    split at h
    · rw [po_non pa]; exact h.pure r rv_bl
    · rw [decide_eq_false (po_nn pa fun z => nomatch z)]; exact h.pure r rv_bl
    · exact h.elim
    · rename_i n1 n2 n3
      rw [decide_eq_false (po_nn pa n1)]; exact h.pure r rv_bl
  · exact h.elim
theorem ne_isN : ∀ s x y k s', fIsN s x y ≠ .exc k s' := by
  intro s x y k s'
  unfold fIsN
  repeat' split
  all_goals exact fun z => nomatch z
theorem ne_notN : ∀ s x y k s', fNotN s x y ≠ .exc k s' := by
  intro s x y k s'
  unfold fNotN
  repeat' split
  all_goals exact fun z => nomatch z
theorem snd_neg : Snd1 g fNeg (rU fun i => .int (-i)) := by
  intro w a x Q r pa h
  unfold fNeg at h
  split at h
  · rename_i i; exact ⟨i, po_int pa, h.pure r rv_int⟩
  · exact h.elim
theorem ne_neg : ∀ s x k s', fNeg s x ≠ .exc k s' := by
  intro s x k s'
  unfold fNeg
  split
  all_goals exact fun z => nomatch z
theorem snd_len : Snd1 g fLen (fun x H Q => ∃ z n, [x] = [z] ∧ LenV g.K z H n ∧ Q (.int n) H) := by
  intro w a x Q r pa h
  unfold fLen at h
  split at h
  · rename_i xs
    have pa' : Rv g w (.tup xs) x := pa
    unfold Rv at pa'
    obtain ⟨p, ys, e1, e2, e3⟩ := pa'
    subst e1
    exact ⟨_, xs.length, rfl, .inr ⟨ys, e2, e3.length.symm⟩, h.pure r rv_int⟩
  · rename_i z
    split at h
    · rename_i hl
      rw [po_str pa]
      exact ⟨_, z.length, rfl, ⟨by rw [sizeLine_eq]; exact hl, rfl⟩, h.pure r rv_int⟩
    · exact h.elim
  · split at h
    · rename_i xs ed
      obtain ⟨p, ys, e1, e2, e3⟩ := dr_lst r pa ed
      subst e1
      exact ⟨_, xs.length, rfl, .inl ⟨ys, e2, e3.length.symm⟩, h.pure r rv_int⟩
    · exact h.elim
theorem ne_len : ∀ s x k s', fLen s x ≠ .exc k s' := by
  intro s x k s'
  unfold fLen
  repeat' split
  all_goals exact fun z => nomatch z
end
end Gm

set_option Elab.async false
set_option linter.all false
set_option maxRecDepth 100000
set_option autoImplicit false
set_option maxHeartbeats 1000000
namespace Gm
open PySem PySem.Spec PyProof.Rows L2
/-! ### tests -/
def tq (e : Ex) : Tx := fun env s => match e env s with
  | .ok (.bl b) s' => .ok b s'
  | .ok _ _ => .no
  | .exc c s' => .exc c s'
  | .no => .no
def tNotX (t : Tx) : Tx := fun env s => match t env s with
  | .ok b s' => .ok (!b) s'
  | .exc c s' => .exc c s'
  | .no => .no
def tAndX (t u : Tx) : Tx := fun env s => match t env s with
  | .ok true s' => u env s'
  | .ok false s' => .ok false s'
  | .exc c s' => .exc c s'
  | .no => .no
def tOrX (t u : Tx) : Tx := fun env s => match t env s with
  | .ok true s' => .ok true s'
  | .ok false s' => u env s'
  | .exc c s' => .exc c s'
  | .no => .no
def eAnd (a b : Ex) : Ex := fun env s => match tq a env s with
  | .ok true s' => b env s'
  | .ok false s' => .ok (.bl false) s'
  | .exc c s' => .exc c s'
  | .no => .no
def eOr (a b : Ex) : Ex := fun env s => match tq a env s with
  | .ok true s' => .ok (.bl true) s'
  | .ok false s' => b env s'
  | .exc c s' => .exc c s'
  | .no => .no
def eNot (a : Ex) : Ex := fun env s => match tq a env s with
  | .ok b s' => .ok (.bl (!b)) s'
  | .exc c s' => .exc c s'
  | .no => .no
def eIf (t : Tx) (a b : Ex) : Ex := fun env s => match t env s with
  | .ok true s' => a env s'
  | .ok false s' => b env s'
  | .exc c s' => .exc c s'
  | .no => .no
/-! ### argument lists, displays -/
def snk : D → Option D
  | .own _ => none
  | .bor _ => none
  | .exn => none
  | d => some d
def aNil : Ax := fun _ s => .ok [] s
def aCons (e : Ex) (r : Ax) : Ax := fun env s => match e env s with
  | .ok x s1 => (match snk (fz x) with
    | some d => (match r env s1 with
      | .ok ds s2 => .ok (d :: ds) s2
      | .exc c s2 => .exc c s2
      | .no => .no)
    | none => .no)
  | .exc c s1 => .exc c s1
  | .no => .no
def eTup (a : Ax) : Ex := fun env s => match a env s with
  | .ok ds s' => if ds.length ≤ 16777216 then .ok (.tup ds) s' else .no
  | .exc c s' => .exc c s'
  | .no => .no
def eLst (a : Ax) : Ex := fun env s => match a env s with
  | .ok ds s' => if ds.length ≤ 16777216 then .ok (.own (.lst ds)) s' else .no
  | .exc c s' => .exc c s'
  | .no => .no
/-! ### slices -/
def cutD (xs : List D) (lo hi : Option Int) : List D := (xs.drop (HT.sIx xs.length 0 lo)).take (HT.sIx xs.length xs.length hi - HT.sIx xs.length 0 lo)
abbrev Ox := Env → Store → R (Option Int)
def oNo : Ox := fun _ s => .ok none s
def oSo (e : Ex) : Ox := fun env s => match e env s with
  | .ok (.int i) s' => .ok (some i) s'
  | .ok _ _ => .no
  | .exc c s' => .exc c s'
  | .no => .no
def fSl (s : Store) (a : D) (lo hi : Option Int) : R D := match dr s a with
  | some (.lst xs) => .ok (.own (.lst (cutD xs lo hi))) s
  | _ => .no
def eSl (a : Ex) (lo hi : Ox) : Ex := fun env s => match a env s with
  | .ok x s1 => (match lo env s1 with
    | .ok l s2 => (match hi env s2 with
      | .ok h s3 => fSl s3 (fz x) l h
      | .exc c s' => .exc c s'
      | .no => .no)
    | .exc c s' => .exc c s'
    | .no => .no)
  | .exc c s' => .exc c s'
  | .no => .no
/-! ### kinds -/
def tyD (s : Store) : D → Option String
  | .non => some "NoneType"
  | .bl _ => some "bool"
  | .int _ => some "int"
  | .str _ => some "str"
  | .tup _ => some "tuple"
  | d => (match dr s d with
    | some (.lst _) => some "list"
    | some (.dK _) => some "dict"
    | _ => none)
def fIsi (T : String) : Store → D → R D := fun s a => match tyD s a with
  | some t => (match kitB t T with
    | some b => .ok (.bl b) s
    | none => .no)
  | none => .no
section
variable {g : Gc} {w w' : Wd} {env : Env} {σ : Sl} {W : WX} {H : Hp} {a b : Ex} {Q : VK}
theorem Px.rst {H0 : Hp} {d : D} {v : V} (h : Px g H0 w d v) : Rst g w := h.fz.1
theorem tq_ok {Q : Bool → Hp → Prop} (h : tTe g W (tq a) σ H Q) : tEv g W a σ H fun x H1 => ∃ k, x = .bl k ∧ Q k H1 := by
  obtain ⟨w, env, rfl, re, h⟩ := h
  refine ⟨w, env, rfl, re, ?_⟩
  refine Post.step (m' := tq a env w.s) h (fun c s e => by simp only [tq, e]) (fun e => by simp only [tq, e]) fun x s1 w1 v ea hs1 ht1 e1 p1 => ?_
  cases x with
  | bl k =>
    simp only [tq, ea] at h
    obtain ⟨r1, q⟩ : Rst g w1 ∧ Rv g w1 (.bl k) v := p1
    unfold Rv at q
    exact ⟨k, q, h w1 k hs1 ht1 e1 ⟨r1, rfl⟩⟩
  | _ => simp only [tq, ea] at h; exact h.elim
theorem Pb.back {w1 w2 : Wd} {x y : Bool} {H1 H2 : Hp} (h : Pb g H1 w2 x y) : Pb g H2 w2 x y := h
theorem tNot_ok {t : Tx} {Q : Bool → Hp → Prop} (h : tTe g W (tNotX t) σ H Q) : tNot (tTe g W t) σ H Q := by
  obtain ⟨w, env, rfl, re, h⟩ := h
  refine ⟨w, env, rfl, re, ?_⟩
  refine Post.step (m' := tNotX t env w.s) h (fun c s e => by simp only [tNotX, e]) (fun e => by simp only [tNotX, e]) fun x s1 w1 v ea hs1 ht1 e1 p1 => ?_
  obtain ⟨r1, rfl⟩ := p1
  simp only [tNotX, ea] at h
  exact h w1 _ hs1 ht1 e1 ⟨r1, rfl⟩
theorem tAnd_ok {t u : Tx} {Q : Bool → Hp → Prop} (h : tTe g W (tAndX t u) σ H Q) : tAnd (tTe g W t) (tTe g W u) σ H Q := by
  obtain ⟨w, env, rfl, re, h⟩ := h
  refine ⟨w, env, rfl, re, ?_⟩
  refine Post.step (m' := tAndX t u env w.s) h (fun c s e => by simp only [tAndX, e]) (fun e => by simp only [tAndX, e]) fun x s1 w1 v ea hs1 ht1 e1 p1 => ?_
  obtain ⟨r1, rfl⟩ := p1
  cases x with
  | true =>
    simp only [tAndX, ea, ← hs1] at h
    exact iteT ⟨w1, env, rfl, re.next r1 e1 ht1, h.next e1 ht1 fun _ _ _ _ q => q⟩
  | false =>
    simp only [tAndX, ea] at h
    exact iteF (h w1 _ hs1 ht1 e1 ⟨r1, rfl⟩)
theorem tOr_ok {t u : Tx} {Q : Bool → Hp → Prop} (h : tTe g W (tOrX t u) σ H Q) : tOr (tTe g W t) (tTe g W u) σ H Q := by
  obtain ⟨w, env, rfl, re, h⟩ := h
  refine ⟨w, env, rfl, re, ?_⟩
  refine Post.step (m' := tOrX t u env w.s) h (fun c s e => by simp only [tOrX, e]) (fun e => by simp only [tOrX, e]) fun x s1 w1 v ea hs1 ht1 e1 p1 => ?_
  obtain ⟨r1, rfl⟩ := p1
  cases x with
  | false =>
    simp only [tOrX, ea, ← hs1] at h
    exact iteF ⟨w1, env, rfl, re.next r1 e1 ht1, h.next e1 ht1 fun _ _ _ _ q => q⟩
  | true =>
    simp only [tOrX, ea] at h
    exact iteT (h w1 _ hs1 ht1 e1 ⟨r1, rfl⟩)
theorem eAnd_ok (h : tEv g W (eAnd a b) σ H Q) : tAndV (tEv g W a) (tEv g W b) σ H Q := by
  obtain ⟨w, env, rfl, re, h⟩ := h
  have h2 : tEv g W a σ w.H fun x H1 => ∃ k, x = .bl k ∧ (if k = true then tEv g W b σ H1 Q else Q (.bl false) H1) := by
    refine tq_ok ⟨w, env, rfl, re, ?_⟩
    refine Post.step (m' := eAnd a b env w.s) h (fun c s e => by simp only [eAnd, e]) (fun e => by simp only [eAnd, e]) fun x s1 w1 v ea hs1 ht1 e1 p1 => ?_
    obtain ⟨r1, rfl⟩ := p1
    cases x with
    | true =>
      simp only [eAnd, ea, ← hs1] at h
      exact iteT ⟨w1, env, rfl, re.next r1 e1 ht1, h.next e1 ht1 fun _ _ _ _ q => q.back re.st r1 e1⟩
    | false =>
      simp only [eAnd, ea] at h
      exact iteF (h w1 _ hs1 ht1 e1 (.of r1 rv_bl))
  exact h2
theorem eOr_ok (h : tEv g W (eOr a b) σ H Q) : tOrV (tEv g W a) (tEv g W b) σ H Q := by
  obtain ⟨w, env, rfl, re, h⟩ := h
  have h2 : tEv g W a σ w.H fun x H1 => ∃ k, x = .bl k ∧ (if k = true then Q (.bl true) H1 else tEv g W b σ H1 Q) := by
    refine tq_ok ⟨w, env, rfl, re, ?_⟩
    refine Post.step (m' := eOr a b env w.s) h (fun c s e => by simp only [eOr, e]) (fun e => by simp only [eOr, e]) fun x s1 w1 v ea hs1 ht1 e1 p1 => ?_
    obtain ⟨r1, rfl⟩ := p1
    cases x with
    | false =>
      simp only [eOr, ea, ← hs1] at h
      exact iteF ⟨w1, env, rfl, re.next r1 e1 ht1, h.next e1 ht1 fun _ _ _ _ q => q.back re.st r1 e1⟩
    | true =>
      simp only [eOr, ea] at h
      exact iteT (h w1 _ hs1 ht1 e1 (.of r1 rv_bl))
  exact h2
theorem eNot_ok (h : tEv g W (eNot a) σ H Q) : tNotV (tEv g W a) σ H Q := by
  obtain ⟨w, env, rfl, re, h⟩ := h
  have h2 : tEv g W a σ w.H fun x H1 => ∃ k, x = .bl k ∧ Q (.bl (!k)) H1 := by
    refine tq_ok ⟨w, env, rfl, re, ?_⟩
    refine Post.step (m' := eNot a env w.s) h (fun c s e => by simp only [eNot, e]) (fun e => by simp only [eNot, e]) fun x s1 w1 v ea hs1 ht1 e1 p1 => ?_
    obtain ⟨r1, rfl⟩ := p1
    simp only [eNot, ea] at h
    exact h w1 _ hs1 ht1 e1 (.of r1 rv_bl)
  exact h2
theorem eIf_ok {t : Tx} (h : tEv g W (eIf t a b) σ H Q) : tIf (tTe g W t) (tEv g W a) (tEv g W b) σ H Q := by
  obtain ⟨w, env, rfl, re, h⟩ := h
  refine ⟨w, env, rfl, re, ?_⟩
  refine Post.step (m' := eIf t a b env w.s) h (fun c s e => by simp only [eIf, e]) (fun e => by simp only [eIf, e]) fun x s1 w1 v ea hs1 ht1 e1 p1 => ?_
  obtain ⟨r1, rfl⟩ := p1
  cases x with
  | true =>
    simp only [eIf, ea, ← hs1] at h
    exact iteT ⟨w1, env, rfl, re.next r1 e1 ht1, h.next e1 ht1 fun _ _ _ _ q => q.back re.st r1 e1⟩
  | false =>
    simp only [eIf, ea, ← hs1] at h
    exact iteF ⟨w1, env, rfl, re.next r1 e1 ht1, h.next e1 ht1 fun _ _ _ _ q => q.back re.st r1 e1⟩
theorem snk_ok {x d : D} {v : V} (h : Po g w (fz x) v) (e : snk (fz x) = some d) : Rv g w d v := by
  generalize fz x = y at h e
  cases y with
  | own o => cases e
  | bor o => cases e
  | exn => cases e
  | _ => cases e; exact h
theorem aNil_ok {Q : List V → Hp → Prop} (h : tAe g W aNil σ H Q) : tNil σ H Q := by
  obtain ⟨w, env, rfl, re, h⟩ := h
  exact h w [] rfl rfl Ext.refl ⟨re.st, by unfold RvL; rfl⟩
theorem aCons_ok {r : Ax} {Q : List V → Hp → Prop} (h : tAe g W (aCons a r) σ H Q) : tCons (tEv g W a) (tAe g W r) σ H Q := by
  obtain ⟨w, env, rfl, re, h⟩ := h
  refine ⟨w, env, rfl, re, ?_⟩
  refine Post.step (m' := aCons a r env w.s) h (fun c s e => by simp only [aCons, e]) (fun e => by simp only [aCons, e]) fun x s1 w1 v ea hs1 ht1 e1 p1 => ?_
  obtain ⟨r1, o1⟩ := p1.fz
  cases es : snk (fz x) with
  | none => simp only [aCons, ea, es] at h; exact h.elim
  | some d =>
    have rd := snk_ok o1 es
    refine ⟨w1, env, rfl, re.next r1 e1 ht1, ?_⟩
    refine Post.step (m' := aCons a r env w.s) (h.next e1 ht1 fun _ _ _ _ q => q) (fun c s e => by rw [hs1] at e; simp only [aCons, ea, es, e]) (fun e => by rw [hs1] at e; simp only [aCons, ea, es, e]) fun ds s2 w2 vs eb hs2 ht2 e2 p2 => ?_
    obtain ⟨r2, q2⟩ := p2
    rw [hs1] at eb
    simp only [aCons, ea, es, eb] at h
    refine h w2 (v :: vs) hs2 (ht2.trans ht1) (e1.trans e2) ⟨r2, ?_⟩
    unfold RvL
    exact ⟨v, vs, rfl, Rv.mono (Cy.of r1 e2 ht2) _ _ rd, q2⟩
theorem eTup_ok {r : Ax} (h : tEv g W (eTup r) σ H Q) : tTup (tAe g W r) σ H Q := by
  obtain ⟨w, env, rfl, re, h⟩ := h
  refine ⟨w, env, rfl, re, ?_⟩
  refine Post.step (m' := eTup r env w.s) h (fun c s e => by simp only [eTup, e]) (fun e => by simp only [eTup, e]) fun ds s1 w1 vs ea hs1 ht1 e1 p1 => ?_
  obtain ⟨r1, q1⟩ := p1
  simp only [eTup, ea] at h
  split at h
  · rename_i hl
    refine ⟨by rw [q1.length, sizeLine_eq]; exact hl, fun p hp => ?_⟩
    exact h { w1 with H := upd w1.H p (.tup vs) } _ hs1 ht1 (e1.trans (new_ext hp)) ((Px.newT r1 hp q1).back re.st r1 e1)
  · exact h.elim
theorem eLst_ok {r : Ax} (h : tEv g W (eLst r) σ H Q) : tLst (tAe g W r) σ H Q := by
  obtain ⟨w, env, rfl, re, h⟩ := h
  refine ⟨w, env, rfl, re, ?_⟩
  refine Post.step (m' := eLst r env w.s) h (fun c s e => by simp only [eLst, e]) (fun e => by simp only [eLst, e]) fun ds s1 w1 vs ea hs1 ht1 e1 p1 => ?_
  obtain ⟨r1, q1⟩ := p1
  simp only [eLst, ea] at h
  split at h
  · rename_i hl
    refine ⟨by rw [q1.length, sizeLine_eq]; exact hl, fun p hp => ?_⟩
    exact h { w1 with H := upd w1.H p (.lst vs) } _ hs1 ht1 (e1.trans (new_ext hp)) ((Px.newL r1 hp q1).back re.st r1 e1)
  · exact h.elim
/-! slices -/
def Pp (_ : Hp) (w : Wd) (a b : Option Int) : Prop := Rst g w ∧ a = b
def tOe (g : Gc) (W : WX) (e : Ox) : TO := fun σ H Q => ∃ (w : Wd) (env : Env), w.H = H ∧ Re g w env σ ∧ Post g (Pp (g := g)) W w σ Q (e env w.s)
theorem oNo_ok {Q : Option Int → Hp → Prop} (h : tOe g W oNo σ H Q) : tNoPart σ H Q := by
  obtain ⟨w, env, rfl, re, h⟩ := h
  exact h w none rfl rfl Ext.refl ⟨re.st, rfl⟩
theorem oSo_ok {Q : Option Int → Hp → Prop} (h : tOe g W (oSo a) σ H Q) : tPart (tEv g W a) σ H Q := by
  obtain ⟨w, env, rfl, re, h⟩ := h
  refine ⟨w, env, rfl, re, ?_⟩
  refine Post.step (m' := oSo a env w.s) h (fun c s e => by simp only [oSo, e]) (fun e => by simp only [oSo, e]) fun x s1 w1 v ea hs1 ht1 e1 p1 => ?_
  cases x with
  | int k =>
    simp only [oSo, ea] at h
    obtain ⟨r1, q⟩ : Rst g w1 ∧ Rv g w1 (.int k) v := p1
    unfold Rv at q
    exact ⟨k, q, h w1 _ hs1 ht1 e1 ⟨r1, rfl⟩⟩
  | _ => simp only [oSo, ea] at h; exact h.elim
theorem RvL.cut {xs : List D} {ys : List V} (h : RvL g w xs ys) (lo hi : Option Int) : RvL g w (cutD xs lo hi) (cutV ys lo hi) := by
  unfold cutD cutV
  rw [h.length]
  exact (h.drop _).take _
theorem eSl_ok {lo hi : Ox} (h : tEv g W (eSl a lo hi) σ H Q) : tSl (rSlL g.K) (tEv g W a) (tOe g W lo) (tOe g W hi) σ H Q := by
  obtain ⟨w, env, rfl, re, h⟩ := h
  refine ⟨w, env, rfl, re, ?_⟩
  refine Post.step (m' := eSl a lo hi env w.s) h (fun c s e => by simp only [eSl, e]) (fun e => by simp only [eSl, e]) fun x s1 w1 v ea hs1 ht1 e1 p1 => ?_
  obtain ⟨r1, o1⟩ := p1.fz
  refine ⟨w1, env, rfl, re.next r1 e1 ht1, ?_⟩
  refine Post.step (m' := eSl a lo hi env w.s) (h.next e1 ht1 fun _ _ _ _ q => q.back re.st r1 e1) (fun c s e => by rw [hs1] at e; simp only [eSl, ea, e]) (fun e => by rw [hs1] at e; simp only [eSl, ea, e]) fun l s2 w2 l' eb hs2 ht2 e2 p2 => ?_
  obtain ⟨r2, rfl⟩ := p2
  rw [hs1] at eb
  refine ⟨w2, env, rfl, (re.next r1 e1 ht1).next r2 e2 ht2, ?_⟩
  have h2 := (h.next e1 ht1 fun _ _ _ _ q => q.back re.st r1 e1)
  refine Post.step (m' := eSl a lo hi env w.s) (h2.next e2 ht2 fun _ _ _ _ q => q.back r1 r2 e2) (fun c s e => by rw [hs2] at e; simp only [eSl, ea, eb, e]) (fun e => by rw [hs2] at e; simp only [eSl, ea, eb, e]) fun u s3 w3 u' ec hs3 ht3 e3 p3 => ?_
  obtain ⟨r3, rfl⟩ := p3
  rw [hs2] at ec
  have o3 := (o1.mono (Cy.of r1 e2 ht2)).mono (Cy.of r2 e3 ht3)
  have e13 := (e1.trans e2).trans e3
  simp only [eSl, ea, eb, ec, ← hs3, fSl] at h
  split at h
  · rename_i xs ed
    obtain ⟨p, ys, k1, k2, k3⟩ := dr_lst r3 o3 ed
    exact ⟨p, ys, k1, k2, fun q hq => h { w3 with H := upd w3.H q (.lst (cutV ys l u)) } _ rfl (ht3.trans (ht2.trans ht1)) (e13.trans (new_ext hq)) ((Px.newL r3 hq (k3.cut l u)).back re.st r3 e13)⟩
  · exact h.elim
/-! kinds -/
theorem tyD_ok {d : D} {v : V} {t : String} (r : Rst g w) (h : Po g w d v) (e : tyD w.s d = some t) : TyX g.K w.H v (.type t) := by
  unfold tyD at e
  split at e
  · cases e; rw [po_non h]; exact .base .non
  · rename_i b; cases e
    have h : Rv g w (.bl b) v := h
    unfold Rv at h; subst h; exact .base (.bl _)
  · cases e; rw [po_int h]; exact .base (.int _)
  · cases e; rw [po_str h]; exact .base (.str _)
  · rename_i xs; cases e
    have h : Rv g w (.tup xs) v := h
    unfold Rv at h
    obtain ⟨p, ys, rfl, q, _⟩ := h
    rcases q with (q | ⟨o, q⟩) | ⟨o, its, n, q1, q2, _⟩
    · exact .base (.tup q)
    · exact .fTuple q
    · exact .kTuple q1 q2
  · split at e
    · rename_i xs ed
      cases e
      obtain ⟨p, ys, rfl, q, _⟩ := dr_lst r h ed
      rcases q with (q | ⟨o, q⟩) | ⟨o, its, n, q1, q2, _⟩
      · exact .base (.lst q)
      · exact .base (.frz q)
      · exact .kList q1 q2
    · rename_i xs ed
      cases e
      obtain ⟨p, rfl, ys, q, _⟩ := dr_ok r h ed
      exact .base (.dK q)
    · cases e
theorem snd_isi {T : String} : Snd1 g (fIsi T) (fun x H Q => rIsi g.K [x, .ty T] H Q) := by
  intro w a x Q r pa h
  unfold fIsi at h
  split at h
  · rename_i t et
    split at h
    · rename_i b eb
      exact ⟨x, .ty T, .type t, .type T, b, rfl, .ty T, tyD_ok r pa et, kit_ty eb, h.pure r rv_bl⟩
    · exact h.elim
  · exact h.elim
theorem ne_isi {T : String} : ∀ s x k s', fIsi T s x ≠ .exc k s' := by
  intro s x k s'
  unfold fIsi
  repeat' split
  all_goals exact fun z => nomatch z
end
/-! ### the derivations -/
section
variable {X : Cx} {A : Ga} {W : WX} {a b c : Expr} {ma mb : Ex} {mt mu : Tx} {pos : Pos} {rest : List Expr}
abbrev ME (X : Cx) (A : Ga) (W : WX) (e : Expr) (m : Ex) : Prop := PE X e (tEv (gx X A) W m)
abbrev MT (X : Cx) (A : Ga) (W : WX) (e : Expr) (m : Tx) : Prop := PT X e (tTe (gx X A) W m)
abbrev MW (X : Cx) (A : Ga) (W : WX) (e : Expr) (m : Tx) : Prop := PW X e (tTe (gx X A) W m)
abbrev MA (X : Cx) (A : Ga) (W : WX) (es : List Expr) (m : Ax) : Prop := PA X es (tAe (gx X A) W m)
abbrev MO (X : Cx) (A : Ga) (W : WX) (e : Option Expr) (m : Ox) : Prop := PO X e (tOe (gx X A) W m)
theorem mt_val (h : ME X A W a ma) (he : ∀ whole, isTrue a X.env whole = (do let v ← whole; standAt a.pos; holding [v] (truthy v)) := by intro _; rfl) : MT X A W a (tq ma) :=
  ptW (pt_val h he) fun _ _ _ h => tq_ok h
theorem mt_cmp {op : CmpOp} {f : Store → D → D → R D} {r : R2} (ho : OpR X (compareOp op) r) (hf : Snd2 (gx X A) f r) (hne : ∀ s x y c s', f s x y ≠ .exc c s') (hm : behindInMarks op b = false) (ha : ME X A W a ma) (hb : ME X A W b mb) :
    MT X A W (.Compare a [op] [b] pos) (tq (eOp2 f ma mb)) := ptW (pt_cmpR ho ha hb hm) fun _ _ _ h => tOp_snd hf hne (tq_ok h)
theorem mt_not (h : MT X A W a mt) : MT X A W (.UnaryOp .Not a pos) (tNotX mt) := ptW (pt_not h) fun _ _ _ h => tNot_ok h
theorem mw_and1 (h : MT X A W a mt) : MW X A W (.BoolOp .And [a] pos) mt := pw_and1 h
theorem mw_or1 (h : MT X A W a mt) : MW X A W (.BoolOp .Or [a] pos) mt := pw_or1 h
theorem mw_and (h : MT X A W a mt) (k : MW X A W (.BoolOp .And (b :: rest) pos) mu) : MW X A W (.BoolOp .And (a :: b :: rest) pos) (tAndX mt mu) := pwW (pw_and h k) fun _ _ _ h => tAnd_ok h
theorem mw_or (h : MT X A W a mt) (k : MW X A W (.BoolOp .Or (b :: rest) pos) mu) : MW X A W (.BoolOp .Or (a :: b :: rest) pos) (tOrX mt mu) := pwW (pw_or h k) fun _ _ _ h => tOr_ok h
theorem mw_pt (h : MW X A W a mt) : MT X A W a mt := h.pt
theorem me_one {op} (h : ME X A W a ma) : ME X A W (.BoolOp op [a] pos) ma := pe_one h
theorem me_and (h : ME X A W a ma) (k : ME X A W (.BoolOp .And (b :: rest) pos) mb) : ME X A W (.BoolOp .And (a :: b :: rest) pos) (eAnd ma mb) := peW (pe_and h k) fun _ _ _ h => eAnd_ok h
theorem me_or (h : ME X A W a ma) (k : ME X A W (.BoolOp .Or (b :: rest) pos) mb) : ME X A W (.BoolOp .Or (a :: b :: rest) pos) (eOr ma mb) := peW (pe_or h k) fun _ _ _ h => eOr_ok h
theorem me_not (h : ME X A W a ma) : ME X A W (.UnaryOp .Not a pos) (eNot ma) := peW (pe_not h) fun _ _ _ h => eNot_ok h
theorem me_if (h : MT X A W c mt) (ha : ME X A W a ma) (hb : ME X A W b mb) : ME X A W (.IfExp c a b pos) (eIf mt ma mb) := peW (pe_ifExp h ha hb) fun _ _ _ h => eIf_ok h
theorem ma_nil : MA X A W [] aNil := paW pa_nil fun _ _ _ h => aNil_ok h
theorem ma_cons {es : List Expr} {mr : Ax} (h : ME X A W a ma) (k : MA X A W es mr) (hs : starEach (a :: es) X.env = (false, eval a X.env) :: starEach es X.env := by rfl) : MA X A W (a :: es) (aCons ma mr) := paW (pa_cons h k hs) fun _ _ _ h => aCons_ok h
theorem me_tup {es : List Expr} {mr : Ax} {x1} (h : MA X A W es mr) : ME X A W (.Tuple es x1 pos) (eTup mr) := peW (pe_tup h) fun _ _ _ h => eTup_ok h
theorem me_lst {es : List Expr} {mr : Ax} (h : MA X A W es mr) : ME X A W (.List es pos) (eLst mr) := peW (pe_lst h) fun _ _ _ h => eLst_ok h
theorem mo_no : MO X A W none oNo := ⟨fun pins s σ H Q I h => po_none.run pins s σ H Q I (oNo_ok h)⟩
theorem mo_so (h : ME X A W a ma) : MO X A W (some a) (oSo ma) := ⟨fun pins s σ H Q I q => (po_some h).run pins s σ H Q I (oSo_ok q)⟩
theorem me_sl {lo hi : Option Expr} {ml mh : Ox} {p2 : Pos} (h : ME X A W a ma) (hl : MO X A W lo ml) (hh : MO X A W hi mh) : ME X A W (.Subscript a (.Slice lo hi none p2) pos) (eSl ma ml mh) := peW (pe_slice sl_list h hl hh) fun _ _ _ h => eSl_ok h
theorem me_call1 {id : String} {x : Str} {p : Pos} {f : Store → D → R D} {r : List V → Hp → VK → Prop} (hc : CallR X (.builtin id) r) (hf : Snd1 (gx X A) f fun x H Q => r [x] H Q) (hne : ∀ s x c s', f s x ≠ .exc c s') (hg : Gl X x) (hm : X.mg x = none) (hv : bootBuiltins x = some (.builtin id)) (h : ME X A W a ma)
    (hn : x ≠ "__name__" := by decide) (hdb : (x == ("__debug__" : Str)) = false := by decide) (hs : starEach [a] X.env = (false, eval a X.env) :: starEach [] X.env := by rfl) (hpl : (backTo pos (starEach [] X.env)).any (·.1) = false := by rfl) : ME X A W (.Call (.Name x p) [a] [] pos) (eOp1 f ma) :=
  peW (pe_callB hc hg hm hv (pa_cons h pa_nil hs) hn hdb hs hpl) fun _ _ _ h => tUn_snd hf hne h
theorem me_callT1 {T : String} {x : Str} {p : Pos} {f : Store → D → R D} {r : List V → Hp → VK → Prop} (hc : CallR X (.type T) r) (hf : Snd1 (gx X A) f fun x H Q => r [x] H Q) (hne : ∀ s x c s', f s x ≠ .exc c s') (hg : Gl X x) (hm : X.mg x = none) (hv : bootBuiltins x = some (.type T)) (h : ME X A W a ma)
    (hn : x ≠ "__name__" := by decide) (hdb : (x == ("__debug__" : Str)) = false := by decide) (hs : starEach [a] X.env = (false, eval a X.env) :: starEach [] X.env := by rfl) (hpl : (backTo pos (starEach [] X.env)).any (·.1) = false := by rfl) : ME X A W (.Call (.Name x p) [a] [] pos) (eOp1 f ma) :=
  peW (pe_callTy hc hg hm hv (pa_cons h pa_nil hs) hn hdb hs hpl) fun _ _ _ h => tUn_snd hf hne h
theorem me_call2 {id : String} {x : Str} {p : Pos} {f : Store → D → D → R D} {r : List V → Hp → VK → Prop} (hc : CallR X (.builtin id) r) (hf : Snd2 (gx X A) f fun x y H Q => r [x, y] H Q) (hne : ∀ s x y c s', f s x y ≠ .exc c s') (hg : Gl X x) (hm : X.mg x = none) (hv : bootBuiltins x = some (.builtin id)) (ha : ME X A W a ma) (hb : ME X A W b mb)
    (hn : x ≠ "__name__" := by decide) (hdb : (x == ("__debug__" : Str)) = false := by decide) (hs : starEach [a, b] X.env = (false, eval a X.env) :: starEach [b] X.env := by rfl) (hs2 : starEach [b] X.env = (false, eval b X.env) :: starEach [] X.env := by rfl) (hpl : (backTo pos (starEach [b] X.env)).any (·.1) = false := by rfl) : ME X A W (.Call (.Name x p) [a, b] [] pos) (eOp2 f ma mb) :=
  peW (pe_callB hc hg hm hv (pa_cons ha (pa_cons hb pa_nil hs2) hs) hn hdb hs hpl) fun _ _ _ h => tOp_snd hf hne h
/-- isinstance(e, T), T a built-in class -/
theorem me_isi {T : String} {y : Str} {p p2 : Pos} (hg : Gl X "isinstance") (hm : X.mg "isinstance" = none) (hg2 : Gl X y) (hm2 : X.mg y = none) (hv2 : bootBuiltins y = some (.type T)) (h : ME X A W a ma) (hn2 : y ≠ "__name__" := by decide) (hdb2 : (y == ("__debug__" : Str)) = false := by decide)
    (hs : starEach [a, .Name y p2] X.env = (false, eval a X.env) :: starEach [.Name y p2] X.env := by rfl) (hs2 : starEach [.Name y p2] X.env = (false, eval (.Name y p2) X.env) :: starEach [] X.env := by rfl) (hpl : (backTo pos (starEach [.Name y p2] X.env)).any (·.1) = false := by rfl) :
    ME X A W (.Call (.Name "isinstance" p) [a, .Name y p2] [] pos) (eOp1 (fIsi T) ma) :=
  peW (pe_callB call_isi hg hm (by decide +kernel) (pa_cons h (pa_cons (pe_bltn (v := .ty T) hg2 hm2 hv2 rfl hn2 hdb2) pa_nil hs2) hs) (by decide) (by decide) hs hpl) fun _ _ _ h => tUn_snd snd_isi ne_isi h
end
end Gm

set_option Elab.async false
set_option linter.all false
set_option maxRecDepth 100000
set_option autoImplicit false
set_option maxHeartbeats 1000000
namespace Gm
open PySem PySem.Spec PyProof.Rows L2
/-! ### the frame's own lists -/
def OwnAt (env : Env) (σ : Sl) (i : Nat) (p : Addr) : Prop := ∃ o, env[i]? = some (some (.own o)) ∧ σ[i]? = some (some (.ref p))
def owns (env : Env) (σ : Sl) : List Addr := (List.range env.length).filterMap fun (i : Nat) => match (env[i]? : Option (Option D)), (σ[i]? : Option (Option V)) with
  | some (some (D.own _)), some (some (V.ref p)) => some p
  | _, _ => none
theorem mem_owns {env : Env} {σ : Sl} {p : Addr} : p ∈ owns env σ ↔ ∃ i, OwnAt env σ i p := by
  unfold owns
  rw [List.mem_filterMap]
  constructor
  · rintro ⟨i, _, e⟩
    refine ⟨i, ?_⟩
    split at e
    · rename_i o q a b
      cases e
      exact ⟨o, a, b⟩
    · cases e
  · rintro ⟨i, o, a, b⟩
    refine ⟨i, List.mem_range.mpr ?_, ?_⟩
    · exact (List.getElem?_eq_some_iff.mp a).1
    · rw [a, b]
structure Rm (g : Gc) (tb : List Addr) (w : Wd) (env : Env) (σ : Sl) : Prop where
  re : Re g w env σ
  T : ∀ p, p ∈ w.T ↔ p ∈ owns env σ ∨ p ∈ tb
  inj : ∀ i j p, OwnAt env σ i p → OwnAt env σ j p → i = j
  dj : ∀ p ∈ owns env σ, p ∉ tb
structure Xs (w : Wd) (env : Env) (σ : Sl) (w' : Wd) (env' : Env) (σ' : Sl) : Prop where
  e : Ext (owns env σ) w w'
  ow : ∀ p ∈ owns env' σ', p ∈ owns env σ ∨ w.H p = none
/-- what is handed back -/
def Pt (g : Gc) (ow : List Addr) (H0 : Hp) (w : Wd) : D → V → Prop
  | .own o, v => ∃ p, v = .ref p ∧ (H0 p = none ∨ p ∈ ow) ∧ p ∉ w.T ∧ Fzo o ∧ Rst g { w with T := p :: w.T } ∧ Ro g { w with T := p :: w.T } p o
  | d, v => Rst g w ∧ Rv g w d v
def PostS (g : Gc) (tb : List Addr) (W : WX) (w : Wd) (env : Env) (σ : Sl) (Dn : Ends) : SR → Prop
  | .nx env' s' => ∀ (w' : Wd) (σ' : Sl), w'.s = s' → Rm g tb w' env' σ' → Xs w env σ w' env' σ' → Dn.nx σ' w'.H
  | .bk env' s' => ∀ (w' : Wd) (σ' : Sl), w'.s = s' → Rm g tb w' env' σ' → Xs w env σ w' env' σ' → Dn.bk σ' w'.H
  | .ct env' s' => ∀ (w' : Wd) (σ' : Sl), w'.s = s' → Rm g tb w' env' σ' → Xs w env σ w' env' σ' → Dn.ct σ' w'.H
  | .exc c env' s' => ∀ (w' : Wd) (σ' : Sl), w'.s = s' → Rm g tb w' env' σ' → Xs w env σ w' env' σ' → W (.ref (g.A c)) none σ' w'.H
  | .rt d s' => ∀ (w' : Wd) (v : V), w'.s = s' → w'.T = tb → Ext (owns env σ) w w' → Pt g (owns env σ) w.H w' d v → Dn.rt v w'.H
  | .no => False
def tSt (g : Gc) (W : WX) (m : Sx) : TS := fun Dn σ H => ∃ (w : Wd) (env : Env) (tb : List Addr), w.H = H ∧ Rm g tb w env σ ∧ PostS g tb W w env σ Dn (m env w.s)
section
variable {g : Gc} {tb : List Addr} {w w' w1 w2 w3 : Wd} {env env1 env2 : Env} {σ σ1 σ2 : Sl} {W : WX} {Dn : Ends}
theorem Ro.mut {p : Addr} {o : O} (f : Fzo o) (h : Ro g w p o) : Mut (w.H p) := by
  cases o with
  | lst xs => obtain ⟨ys, e, _⟩ := h; rw [e]; trivial
  | dK xs => obtain ⟨ys, e, _⟩ := h; rw [e]; trivial
  | ins c xs => exact f.elim
  | dead => exact f.elim
theorem Rm.own (r : Rm g tb w env σ) {p : Addr} (h : p ∈ owns env σ) : Mut (w.H p) ∧ p ∈ w.T := by
  obtain ⟨i, o, a, b⟩ := mem_owns.mp h
  obtain ⟨v, e, s⟩ := r.re.sl i _ a
  rw [b] at e
  cases e
  obtain ⟨q, e1, fo, ro, nm, t⟩ := s
  cases e1
  exact ⟨ro.mut fo, t⟩
theorem Xs.refl : Xs w env σ w env σ := ⟨Ext.refl, fun _ h => .inl h⟩
theorem Ext.toS {ex : List Addr} (e : Ext [] w w') : Ext ex w w' :=
  ⟨e.pre, fun p o h n _ => e.keep p o h n (by simp), fun p l => (e.new p l).imp id (Or.imp id fun z => nomatch z), fun p l => (e.nm p l).imp id (Or.imp id fun z => nomatch z)⟩
theorem Ext.transS {x1 x2 : List Addr} (a : Ext x1 w1 w2) (b : Ext x2 w2 w3) (hx : ∀ p ∈ x2, p ∈ x1 ∨ w1.H p = Option.none) : Ext x1 w1 w3 := by
  have bk : ∀ p, w2.H p = Option.none → w1.Live p ∨ w1.H p = Option.none ∨ p ∈ x1 := fun p l => by
    by_cases q : w1.Live p
    · exact .inl q
    · by_cases q2 : p ∈ x1
      · exact .inr (.inr q2)
      · refine .inr (.inl ?_)
        cases e : w1.H p with
        | none => rfl
        | some o => rw [a.keep p o e q q2] at l; cases l
  refine ⟨?_, fun p o h nl nx => ?_, fun p l => ?_, fun p l => ?_⟩
  · obtain ⟨t, e⟩ := a.pre
    obtain ⟨u, f⟩ := b.pre
    exact ⟨t ++ u, by rw [f, e, List.append_assoc]⟩
  · have h1 := a.keep p o h nl nx
    refine b.keep p o h1 (fun l => ?_) (fun l => ?_)
    · rcases a.new p l with l | l | l
      · exact nl l
      · rw [h] at l; cases l
      · exact nx l
    · rcases hx p l with l | l
      · exact nx l
      · rw [h] at l; cases l
  · rcases b.new p l with l | l | l
    · exact a.new p l
    · rcases bk p l with q | q | q
      · exact .inl q
      · exact .inr (.inl q)
      · exact .inr (.inr q)
    · rcases hx p l with l | l
      · exact .inr (.inr l)
      · exact .inr (.inl l)
  · rcases b.nm p l with l | l | l
    · exact a.nm p l
    · rcases bk p l with q | q | q
      · exact .inl q.mem
      · exact .inr (.inl q)
      · exact .inr (.inr q)
    · rcases hx p l with l | l
      · exact .inr (.inr l)
      · exact .inr (.inl l)
theorem backS (r : Rm g tb w env σ) (r' : Rst g w') (e : Ext (owns env σ) w w') {p : Addr} (h : w'.H p = Option.none) : w.H p = Option.none ∨ p ∈ owns env σ := by
  by_cases q2 : p ∈ owns env σ
  · exact .inr q2
  · refine .inl ?_
    cases q : w.H p with
    | none => rfl
    | some o =>
      by_cases l : w.Live p
      · have hm : p ∈ w'.m := by
          obtain ⟨t, q⟩ := e.pre
          rw [q]; exact List.mem_append_left _ l.mem
        obtain ⟨u, z⟩ := r'.trk hm
        rw [h] at z; cases z
      · have := e.keep p o q l q2
        rw [h] at this; cases this
theorem Xs.trans (r : Rm g tb w1 env σ) (r' : Rst g w2) (a : Xs w1 env σ w2 env1 σ1) (b : Xs w2 env1 σ1 w3 env2 σ2) : Xs w1 env σ w3 env2 σ2 := by
  refine ⟨a.e.transS b.e a.ow, fun p h => ?_⟩
  rcases b.ow p h with l | l
  · exact a.ow p l
  · rcases backS r r' a.e l with q | q
    · exact .inr q
    · exact .inl q
theorem Pt.imp {ow1 ow2 : List Addr} {H1 H2 : Hp} {d : D} {v : V} (h : Pt g ow1 H1 w d v) (k : ∀ p, (H1 p = Option.none ∨ p ∈ ow1) → H2 p = Option.none ∨ p ∈ ow2) : Pt g ow2 H2 w d v := by
  cases d with
  | own o => obtain ⟨p, a, b, c⟩ := h; exact ⟨p, a, k p b, c⟩
  | _ => exact h
theorem Pt.of {ow : List Addr} {H0 : Hp} {d : D} {v : V} (r : Rst g w) (h : Rv g w d v) : Pt g ow H0 w d v := by
  cases d with
  | own o => unfold Rv at h; exact h.elim
  | _ => exact ⟨r, h⟩
/-- behind a first statement -/
theorem PostS.next {m : SR} (r : Rm g tb w env σ) (r' : Rst g w1) (a : Xs w env σ w1 env1 σ1) (h : PostS g tb W w env σ Dn m) : PostS g tb W w1 env1 σ1 Dn m := by
  cases m with
  | nx e s => exact fun w' σ' h1 h2 h3 => h w' σ' h1 h2 (a.trans r r' h3)
  | bk e s => exact fun w' σ' h1 h2 h3 => h w' σ' h1 h2 (a.trans r r' h3)
  | ct e s => exact fun w' σ' h1 h2 h3 => h w' σ' h1 h2 (a.trans r r' h3)
  | exc c e s => exact fun w' σ' h1 h2 h3 => h w' σ' h1 h2 (a.trans r r' h3)
  | rt d s => exact fun w' v h1 h2 h3 h4 => h w' v h1 h2 (a.e.transS h3 a.ow) (h4.imp fun p z => by
      rcases z with z | z
      · exact backS r r' a.e z
      · rcases a.ow p z with q | q
        · exact .inr q
        · exact .inl q)
  | no => exact h
/-- behind an expression of a statement -/
theorem Rm.ev (r : Rm g tb w env σ) (r' : Rst g w') (e : Ext [] w w') (t : w'.T = w.T) : Rm g tb w' env σ :=
  ⟨r.re.next r' e t, fun p => by rw [t]; exact r.T p, r.inj, r.dj⟩
theorem Xs.ev (e : Ext [] w w') : Xs w env σ w' env σ := ⟨e.toS, fun _ h => .inl h⟩
/-- an expression's run within a statement -/
theorem ev_in {e : Ex} {Q : VK} {m : SR} (r : Rm g tb w env σ) (h : PostS g tb W w env σ Dn m) (he : ∀ c s, e env w.s = .exc c s → m = .exc c env s) (hn : e env w.s = .no → m = .no)
    (hk : ∀ (d : D) (s' : Store) (w' : Wd) (v : V), e env w.s = .ok d s' → w'.s = s' → w'.T = w.T → Ext [] w w' → Px g w.H w' d v → Q v w'.H) : tEv g W e σ w.H Q := by
  refine ⟨w, env, rfl, r.re, ?_⟩
  cases q : e env w.s with
  | ok d s' => exact fun w' v h1 h2 h3 h4 => hk d s' w' v q h1 h2 h3 h4
  | exc c s' =>
    rw [he c s' q] at h
    exact fun w' h1 h2 h3 h4 => h w' σ h1 (r.ev h4 h3 h2) (Xs.ev h3)
  | no => rw [hn q] at h; exact h
theorem ev_inT {e : Tx} {Q : Bool → Hp → Prop} {m : SR} (r : Rm g tb w env σ) (h : PostS g tb W w env σ Dn m) (he : ∀ c s, e env w.s = .exc c s → m = .exc c env s) (hn : e env w.s = .no → m = .no)
    (hk : ∀ (d : Bool) (s' : Store) (w' : Wd), e env w.s = .ok d s' → w'.s = s' → w'.T = w.T → Ext [] w w' → Rst g w' → Q d w'.H) : tTe g W e σ w.H Q := by
  refine ⟨w, env, rfl, r.re, ?_⟩
  cases q : e env w.s with
  | ok d s' => exact fun w' v h1 h2 h3 h4 => h4.2 ▸ hk d s' w' q h1 h2 h3 h4.1
  | exc c s' =>
    rw [he c s' q] at h
    exact fun w' h1 h2 h3 h4 => h w' σ h1 (r.ev h4 h3 h2) (Xs.ev h3)
  | no => rw [hn q] at h; exact h
end
/-! ### the mirror's words for statements -/
def sNil : Sx := fun env s => .nx env s
def sSeq (a b : Sx) : Sx := fun env s => match a env s with
  | .nx e s' => b e s'
  | r => r
def sEx (e : Ex) : Sx := fun env s => match e env s with
  | .ok _ s' => .nx env s'
  | .exc c s' => .exc c env s'
  | .no => .no
def putE (i : Nat) (d : D) (env : Env) : Option Env := match d with
  | .bor _ => none
  | .exn => none
  | d => some (env.set i (some d))
def sSet (i : Nat) (e : Ex) : Sx := fun env s => match e env s with
  | .ok d s' => (match putE i d env with
    | some env' => .nx env' s'
    | none => .no)
  | .exc c s' => .exc c env s'
  | .no => .no
def sIf (t : Tx) (a b : Sx) : Sx := fun env s => match t env s with
  | .ok true s' => a env s'
  | .ok false s' => b env s'
  | .exc c s' => .exc c env s'
  | .no => .no
def sRet (e : Ex) : Sx := fun env s => match e env s with
  | .ok (.bor _) _ => .no
  | .ok .exn _ => .no
  | .ok d s' => .rt d s'
  | .exc c s' => .exc c env s'
  | .no => .no
def sRetN : Sx := fun _ s => .rt .non s
/-- a name is handed back: a list of the frame's own goes along -/
def sRetV (i : Nat) : Sx := fun env s => match env[i]? with
  | some (some .exn) => .no
  | some (some d) => .rt d s
  | _ => .no
def sRaise (c : Nat) : Sx := fun env s => .exc c env s
def sBk : Sx := fun env s => .bk env s
def sCt : Sx := fun env s => .ct env s
section
variable {g : Gc} {tb : List Addr} {w w' w1 w2 w3 : Wd} {env env1 env2 : Env} {σ σ1 σ2 : Sl} {W : WX} {Dn : Ends} {H : Hp}
theorem sNil_ok (h : tSt g W sNil Dn σ H) : tNext Dn σ H := by
  obtain ⟨w, env, tb, rfl, r, h⟩ := h
  exact h w σ rfl r Xs.refl
theorem sBk_ok (h : tSt g W sBk Dn σ H) : tBreak Dn σ H := by
  obtain ⟨w, env, tb, rfl, r, h⟩ := h
  exact h w σ rfl r Xs.refl
theorem sCt_ok (h : tSt g W sCt Dn σ H) : tCont Dn σ H := by
  obtain ⟨w, env, tb, rfl, r, h⟩ := h
  exact h w σ rfl r Xs.refl
theorem sSeq_ok {a b : Sx} (h : tSt g W (sSeq a b) Dn σ H) : tSeq (tSt g W a) (tSt g W b) Dn σ H := by
  obtain ⟨w, env, tb, rfl, r, h⟩ := h
  refine ⟨w, env, tb, rfl, r, ?_⟩
  cases q : a env w.s with
  | nx e s =>
    simp only [sSeq, q] at h
    intro w1 σ1 h1 r1 x1
    refine ⟨w1, e, tb, rfl, r1, ?_⟩
    rw [h1]
    exact h.next r r1.re.st x1
  | bk e s => simp only [sSeq, q] at h; exact h
  | ct e s => simp only [sSeq, q] at h; exact h
  | exc c e s => simp only [sSeq, q] at h; exact h
  | rt d s => simp only [sSeq, q] at h; exact h
  | no => simp only [sSeq, q] at h; exact h
theorem sEx_ok {e : Ex} (h : tSt g W (sEx e) Dn σ H) : tDrop (tEv g W e) Dn σ H := by
  obtain ⟨w, env, tb, rfl, r, h⟩ := h
  refine ev_in (m := sEx e env w.s) r h (fun c s q => by simp only [sEx, q]) (fun q => by simp only [sEx, q]) fun d s' w' v q h1 h2 h3 h4 => ?_
  simp only [sEx, q] at h
  exact h w' σ h1 (r.ev h4.rst h3 h2) (Xs.ev h3)
theorem sIf_ok {t : Tx} {a b : Sx} (h : tSt g W (sIf t a b) Dn σ H) : tIfS (tTe g W t) (tSt g W a) (tSt g W b) Dn σ H := by
  obtain ⟨w, env, tb, rfl, r, h⟩ := h
  refine ev_inT (m := sIf t a b env w.s) r h (fun c s q => by simp only [sIf, q]) (fun q => by simp only [sIf, q]) fun d s' w' q h1 h2 h3 h4 => ?_
  have r' := r.ev h4 h3 h2
  cases d with
  | true =>
    simp only [sIf, q, ← h1] at h
    exact iteT ⟨w', env, tb, rfl, r', h.next r h4 (Xs.ev h3)⟩
  | false =>
    simp only [sIf, q, ← h1] at h
    exact iteF ⟨w', env, tb, rfl, r', h.next r h4 (Xs.ev h3)⟩
theorem Rv.T {T : List Addr} {d : D} {v : V} (r : Rst g w) (h : Rv g w d v) (hT : ∀ p ∈ T, p ∈ w.T) : Rv g { w with T := T } d v := Rv.mono (Cy.sub r hT) _ _ h
theorem sRet_ok {e : Ex} (h : tSt g W (sRet e) Dn σ H) : tRet (tEv g W e) Dn σ H := by
  obtain ⟨w, env, tb, rfl, r, h⟩ := h
  refine ev_in (m := sRet e env w.s) r h (fun c s q => by simp only [sRet, q]) (fun q => by simp only [sRet, q]) fun d s' w' v q h1 h2 h3 h4 => ?_
  have hT : ∀ p ∈ tb, p ∈ w'.T := fun p hp => by rw [h2]; exact (r.T p).mpr (.inr hp)
  have e' : Ext (owns env σ) w { w' with T := tb } := ⟨h3.pre, (h3.toS (ex := owns env σ)).keep, (h3.toS (ex := owns env σ)).new, (h3.toS (ex := owns env σ)).nm⟩
  cases d with
  | bor o => simp only [sRet, q] at h; exact h.elim
  | exn => simp only [sRet, q] at h; exact h.elim
  | own o =>
    simp only [sRet, q] at h
    obtain ⟨p, k1, k2, k3, k4, k5, k6⟩ := h4
    have hT2 : ∀ x ∈ p :: tb, x ∈ p :: w'.T := fun x hx => by
      rcases List.mem_cons.mp hx with e | e
      · rw [e]; exact List.mem_cons_self
      · exact List.mem_cons_of_mem _ (hT x e)
    refine h { w' with T := tb } v h1 rfl e' ⟨p, k1, .inl k2, fun z => k3 (hT p z), k4, k5.inT (w := { w' with T := p :: w'.T }) hT2, ?_⟩
    exact k6.mono (ex := []) (Cy.sub (w := { w' with T := p :: w'.T }) k5 hT2) (nolive (k5.tt p List.mem_cons_self).1) (by simp)
  | non => simp only [sRet, q] at h; exact h { w' with T := tb } v h1 rfl e' (.of (h4.rst.inT hT) (Rv.T h4.1 h4.2 hT))
  | bl b => simp only [sRet, q] at h; exact h { w' with T := tb } v h1 rfl e' (.of (h4.rst.inT hT) (Rv.T h4.1 h4.2 hT))
  | int b => simp only [sRet, q] at h; exact h { w' with T := tb } v h1 rfl e' (.of (h4.rst.inT hT) (Rv.T h4.1 h4.2 hT))
  | str b => simp only [sRet, q] at h; exact h { w' with T := tb } v h1 rfl e' (.of (h4.rst.inT hT) (Rv.T h4.1 h4.2 hT))
  | tup b => simp only [sRet, q] at h; exact h { w' with T := tb } v h1 rfl e' (.of (h4.rst.inT hT) (Rv.T h4.1 h4.2 hT))
  | lst b => simp only [sRet, q] at h; exact h { w' with T := tb } v h1 rfl e' (.of (h4.rst.inT hT) (Rv.T h4.1 h4.2 hT))
  | scr b => simp only [sRet, q] at h; exact h { w' with T := tb } v h1 rfl e' (.of (h4.rst.inT hT) (Rv.T h4.1 h4.2 hT))
  | dct b => simp only [sRet, q] at h; exact h { w' with T := tb } v h1 rfl e' (.of (h4.rst.inT hT) (Rv.T h4.1 h4.2 hT))
  | ref b => simp only [sRet, q] at h; exact h { w' with T := tb } v h1 rfl e' (.of (h4.rst.inT hT) (Rv.T h4.1 h4.2 hT))
theorem sRetN_ok (h : tSt g W sRetN Dn σ H) : tRetN Dn σ H := by
  obtain ⟨w, env, tb, rfl, r, h⟩ := h
  have hT : ∀ p ∈ tb, p ∈ w.T := fun p hp => (r.T p).mpr (.inr hp)
  have e' : Ext (owns env σ) w { w with T := tb } := ⟨⟨[], by simp⟩, fun _ _ h _ _ => h, fun _ h => .inl h, fun _ h => .inl h⟩
  exact h { w with T := tb } .non rfl rfl e' (.of (r.re.st.inT hT) rv_non)
theorem sRetV_ok {i : Nat} (h : tSt g W (sRetV i) Dn σ H) : tRet (tVar i) Dn σ H := by
  obtain ⟨w, env, tb, rfl, r, h⟩ := h
  have hT : ∀ p ∈ tb, p ∈ w.T := fun p hp => (r.T p).mpr (.inr hp)
  have e' : Ext (owns env σ) w { w with T := tb } := ⟨⟨[], by simp⟩, fun _ _ h _ _ => h, fun _ h => .inl h, fun _ h => .inl h⟩
  cases q : env[i]? with
  | none => simp only [sRetV, q] at h; exact h.elim
  | some o =>
    cases o with
    | none => simp only [sRetV, q] at h; exact h.elim
    | some d =>
      obtain ⟨v, ev, sv⟩ := r.re.sl i d q
      have hx : d ≠ .exn → PostS g tb W w env σ Dn (.rt d w.s) := fun nx => by
        cases d with
        | exn => exact absurd rfl nx
        | _ => simp only [sRetV, q] at h; exact h
      by_cases nx : d = .exn
      · subst nx; simp only [sRetV, q] at h; exact h.elim
      refine ⟨v, ev, hx nx { w with T := tb } v rfl rfl e' ?_⟩
      have rv : ∀ d, Rv g w d v → Pt g (owns env σ) w.H { w with T := tb } d v := fun d z => .of (r.re.st.inT hT) (Rv.T r.re.st z hT)
      cases d with
      | own o =>
        obtain ⟨p, k1, k2, k3, k4, k5⟩ := sv
        subst k1
        have hp : p ∈ owns env σ := mem_owns.mpr ⟨i, o, q, ev⟩
        have hT2 : ∀ x ∈ p :: tb, x ∈ w.T := fun x hx => by
          rcases List.mem_cons.mp hx with e | e
          · rw [e]; exact k5
          · exact hT x e
        exact ⟨p, rfl, .inr hp, r.dj p hp, k2, r.re.st.inT hT2, k3.mono (ex := []) (Cy.sub r.re.st hT2) (nolive k4) (by simp)⟩
      | bor o => exact rv _ sv
      | non => exact rv _ sv
      | bl b => exact rv _ sv
      | int b => exact rv _ sv
      | str b => exact rv _ sv
      | tup b => exact rv _ sv
      | lst b => exact rv _ sv
      | scr b => exact rv _ sv
      | dct b => exact rv _ sv
      | ref b => exact rv _ sv
      | exn => exact absurd rfl nx
/-! ### a slot is stored -/
theorem ownAt_set {i j : Nat} {p : Addr} {d : D} {v : V} (h : OwnAt (env.set i (some d)) (σ.set i (some v)) j p) : (j = i ∧ (∃ o, d = .own o) ∧ v = .ref p) ∨ (j ≠ i ∧ OwnAt env σ j p) := by
  obtain ⟨o, a, b⟩ := h
  by_cases e : j = i
  · subst e
    have h1 : j < env.length := by
      have := (List.getElem?_eq_some_iff.mp a).1
      rwa [List.length_set] at this
    have h2 : j < σ.length := by
      have := (List.getElem?_eq_some_iff.mp b).1
      rwa [List.length_set] at this
    rw [List.getElem?_set_self h1] at a
    rw [List.getElem?_set_self h2] at b
    refine .inl ⟨rfl, ⟨o, by simpa using a⟩, by simpa using b⟩
  · rw [List.getElem?_set_ne (Ne.symm e)] at a b
    exact .inr ⟨e, o, a, b⟩
/-- the world with other taboos -/
abbrev Wd.wT (w : Wd) (T : List Addr) : Wd := { w with T := T }
theorem Rm.set {i : Nat} {d : D} {v : V} {H0 : Hp} (r : Rm g tb w env σ) (e : Ext [] w w') (t : w'.T = w.T) (h : Px g w.H w' d v) (nb : ∀ o, d ≠ .bor o) :
    Rm g tb (w'.wT (owns (env.set i (some d)) (σ.set i (some v)) ++ tb)) (env.set i (some d)) (σ.set i (some v)) ∧ Xs w env σ (w'.wT (owns (env.set i (some d)) (σ.set i (some v)) ++ tb)) (env.set i (some d)) (σ.set i (some v)) := by
  generalize hT : owns (env.set i (some d)) (σ.set i (some v)) ++ tb = T
  have mT : ∀ p, p ∈ T ↔ p ∈ owns (env.set i (some d)) (σ.set i (some v)) ∨ p ∈ tb := fun p => by rw [← hT, List.mem_append]
  -- a wider world in which the new list is taboo
  obtain ⟨T2, hT2, rT2, sT2, cT2⟩ : ∃ T2 : List Addr, (∀ p ∈ w'.T, p ∈ T2) ∧ Rst g (w'.wT T2) ∧ Sv g (w'.wT T2) d v ∧ (∀ p ∈ T2, p ∈ w'.T ∨ (∃ o, d = .own o) ∧ v = .ref p ∧ w.H p = Option.none) := by
    cases d with
    | own o =>
      obtain ⟨p, k1, k2, k3, k4, k5, k6⟩ := h
      refine ⟨p :: w'.T, fun q hq => List.mem_cons_of_mem _ hq, k5, ⟨p, k1, k4, k6, (k5.tt p List.mem_cons_self).1, List.mem_cons_self⟩, fun q hq => ?_⟩
      rcases List.mem_cons.mp hq with z | z
      · subst z; exact .inr ⟨⟨o, rfl⟩, k1, k2⟩
      · exact .inl z
    | bor o => exact absurd rfl (nb o)
    | non => exact ⟨w'.T, fun _ z => z, h.1, h.2, fun _ z => .inl z⟩
    | bl b => exact ⟨w'.T, fun _ z => z, h.1, h.2, fun _ z => .inl z⟩
    | int b => exact ⟨w'.T, fun _ z => z, h.1, h.2, fun _ z => .inl z⟩
    | str b => exact ⟨w'.T, fun _ z => z, h.1, h.2, fun _ z => .inl z⟩
    | tup b => exact ⟨w'.T, fun _ z => z, h.1, h.2, fun _ z => .inl z⟩
    | lst b => exact ⟨w'.T, fun _ z => z, h.1, h.2, fun _ z => .inl z⟩
    | scr b => exact ⟨w'.T, fun _ z => z, h.1, h.2, fun _ z => .inl z⟩
    | dct b => exact ⟨w'.T, fun _ z => z, h.1, h.2, fun _ z => .inl z⟩
    | ref b => exact ⟨w'.T, fun _ z => z, h.1, h.2, fun _ z => .inl z⟩
    | exn => exact ⟨w'.T, fun _ z => z, h.1, h.2, fun _ z => .inl z⟩
  -- every slot in that world
  have c2 : Cy g [] w (w'.wT T2) := ⟨r.re.st, ⟨e.pre, e.keep, e.new, e.nm⟩, by simp, by simp, fun p hp => by
    rcases cT2 p hp with z | ⟨_, _, z⟩
    · exact .inl (t ▸ z)
    · exact .inr z⟩
  have ownT : ∀ j p, OwnAt (env.set i (some d)) (σ.set i (some v)) j p → p ∈ T2 := fun j p q => by
    rcases ownAt_set q with ⟨rfl, ⟨o, rfl⟩, rfl⟩ | ⟨_, q⟩
    · obtain ⟨p', e1, _, _, _, z⟩ := sT2; cases e1; exact z
    · exact hT2 p (by rw [t]; exact (r.T p).mpr (.inl (mem_owns.mpr ⟨j, q⟩)))
  have subT : ∀ p ∈ T, p ∈ (w'.wT T2).T := fun p hp => by
    rcases (mT p).mp hp with z | z
    · obtain ⟨j, z⟩ := mem_owns.mp z
      exact ownT j p z
    · exact hT2 p (by rw [t]; exact (r.T p).mpr (.inr z))
  have c3 : Cy g [] (w'.wT T2) (w'.wT T) := Cy.sub rT2 subT
  have fin : ∀ (j : Nat) (d' : D) (v' : V), (env.set i (some d))[j]? = some (some d') → (σ.set i (some v))[j]? = some (some v') → Sv g (w'.wT T2) d' v' → Sv g (w'.wT T) d' v' := fun j d' v' ea eb z => by
    cases d' with
    | own o =>
      obtain ⟨p, e1, k2, k3, k4, k5⟩ := z
      subst e1
      exact ⟨p, rfl, k2, k3.mono c3 (nolive k4) (by simp), k4, (mT p).mpr (.inl (mem_owns.mpr ⟨j, o, ea, eb⟩))⟩
    | bor o => exact Rv.mono c3 _ _ z
    | non => exact Rv.mono c3 _ _ z
    | bl b => exact Rv.mono c3 _ _ z
    | int b => exact Rv.mono c3 _ _ z
    | str b => exact Rv.mono c3 _ _ z
    | tup b => exact Rv.mono c3 _ _ z
    | lst b => exact Rv.mono c3 _ _ z
    | scr b => exact Rv.mono c3 _ _ z
    | dct b => exact Rv.mono c3 _ _ z
    | ref b => exact Rv.mono c3 _ _ z
    | exn => exact z
  have fresh : ∀ j p, j ≠ i → OwnAt env σ j p → ∀ o, d = .own o → v = .ref p → False := fun j p _ q o ed ev => by
    subst ed
    obtain ⟨p', e1, k2, _⟩ := h
    rw [ev] at e1; cases e1
    obtain ⟨m, _⟩ := r.own (mem_owns.mpr ⟨j, q⟩)
    rw [k2] at m; exact m
  refine ⟨⟨⟨rT2.inT subT, by rw [List.length_set, List.length_set]; exact r.re.len, fun j d' ej => ?_⟩, mT, fun a b p qa qb => ?_, fun p hp => ?_⟩, ⟨⟨e.pre, (e.toS (ex := owns env σ)).keep, (e.toS (ex := owns env σ)).new, (e.toS (ex := owns env σ)).nm⟩, fun p hp => ?_⟩⟩
  · by_cases q : j = i
    · subst q
      have h1 : j < env.length := by
        have := (List.getElem?_eq_some_iff.mp ej).1
        rwa [List.length_set] at this
      have h2 : (σ.set j (some v))[j]? = some (some v) := by rw [List.getElem?_set_self (r.re.len ▸ h1)]
      have ej' := ej
      rw [List.getElem?_set_self h1] at ej'
      cases ej'
      exact ⟨v, h2, fin j d v ej h2 sT2⟩
    · have ej' := ej
      rw [List.getElem?_set_ne (Ne.symm q)] at ej'
      obtain ⟨v', a, b⟩ := r.re.sl j d' ej'
      have h2 : (σ.set i (some v))[j]? = some (some v') := by rw [List.getElem?_set_ne (Ne.symm q)]; exact a
      exact ⟨v', h2, fin j d' v' ej h2 (b.mono c2 fun p hp => hT2 p (by rw [t]; exact hp))⟩
  · rcases ownAt_set qa with ⟨ea, ⟨o, eo⟩, ev⟩ | ⟨na, qa2⟩
    · rcases ownAt_set qb with ⟨eb, _, _⟩ | ⟨nb', qb2⟩
      · rw [ea, eb]
      · exact (fresh b p nb' qb2 o eo ev).elim
    · rcases ownAt_set qb with ⟨eb, ⟨o, eo⟩, ev⟩ | ⟨nb', qb2⟩
      · exact (fresh a p na qa2 o eo ev).elim
      · exact r.inj a b p qa2 qb2
  · obtain ⟨j, q⟩ := mem_owns.mp hp
    rcases ownAt_set q with ⟨rfl, ⟨o, rfl⟩, rfl⟩ | ⟨_, q⟩
    · obtain ⟨p', e1, _, k3, _⟩ := h
      cases e1
      exact fun z => k3 (by rw [t]; exact (r.T p).mpr (.inr z))
    · exact r.dj p (mem_owns.mpr ⟨j, q⟩)
  · obtain ⟨j, q⟩ := mem_owns.mp hp
    rcases ownAt_set q with ⟨rfl, ⟨o, rfl⟩, rfl⟩ | ⟨_, q⟩
    · obtain ⟨p', e1, k2, _⟩ := h
      cases e1
      exact .inr k2
    · exact .inl (mem_owns.mpr ⟨j, q⟩)
theorem sSet_ok {i : Nat} {e : Ex} (h : tSt g W (sSet i e) Dn σ H) : tAsg (tEv g W e) (gName i) Dn σ H := by
  obtain ⟨w, env, tb, rfl, r, h⟩ := h
  refine ev_in (m := sSet i e env w.s) r h (fun c s q => by simp only [sSet, q]) (fun q => by simp only [sSet, q]) fun d s' w' v q h1 h2 h3 h4 => ?_
  simp only [sSet, q] at h
  by_cases hx : d = .exn
  · subst hx; simp only [putE] at h; exact h.elim
  have key : (∀ o, d ≠ .bor o) → putE i d env = some (env.set i (some d)) := fun nb => by
    cases d with
    | bor o => exact absurd rfl (nb o)
    | exn => exact absurd rfl hx
    | _ => rfl
  by_cases nb : ∀ o, d ≠ .bor o
  · rw [key nb] at h
    obtain ⟨a, b⟩ := r.set (i := i) (H0 := w.H) h3 h2 h4 nb
    exact h (w'.wT (owns (env.set i (some d)) (σ.set i (some v)) ++ tb)) (σ.set i (some v)) h1 a b
  · cases d with
    | bor o => simp only [putE] at h; exact h.elim
    | _ => exact absurd (fun o z => nomatch z) nb
end
section
variable {X : Cx} {A : Ga} {W : WX} {a b c : Expr} {ma mb : Ex} {mt mu : Tx} {st : Stmt} {ss : List Stmt} {m n : Sx} {pos : Pos}
theorem psW {t t' : TS} (h : PS X st t) (k : ∀ D σ H, t' D σ H → t D σ H) : PS X st t' := ⟨fun pins s σ H D I q => h.run pins s σ H D I (k D σ H q)⟩
theorem pssW {t t' : TS} (h : PSs X ss t) (k : ∀ D σ H, t' D σ H → t D σ H) : PSs X ss t' := ⟨fun pins s σ H D I q => h.run pins s σ H D I (k D σ H q)⟩
abbrev MS (X : Cx) (A : Ga) (W : WX) (st : Stmt) (m : Sx) : Prop := PS X st (tSt (gx X A) W m)
abbrev MSs (X : Cx) (A : Ga) (W : WX) (ss : List Stmt) (m : Sx) : Prop := PSs X ss (tSt (gx X A) W m)
theorem mss_nil : MSs X A W [] sNil := pssW pss_nil fun _ _ _ h => sNil_ok h
theorem mss_one (h : MS X A W st m) : MSs X A W [st] m := pss_one h
theorem mss_cons (h : MS X A W st m) (k : MSs X A W ss n) : MSs X A W (st :: ss) (sSeq m n) := pssW (pss_cons h k) fun _ _ _ h => sSeq_ok h
theorem ms_pass : MS X A W (.Pass pos) sNil := psW ps_pass fun _ _ _ h => sNil_ok h
theorem ms_break : MS X A W (.Break pos) sBk := psW ps_break fun _ _ _ h => sBk_ok h
theorem ms_continue : MS X A W (.Continue pos) sCt := psW ps_continue fun _ _ _ h => sCt_ok h
theorem ms_ex (h : ME X A W a ma) (hs : swapsWith a none pos.line X.env = pure false := by rfl) : MS X A W (.Expr a pos) (sEx ma) := psW (ps_expr h hs) fun _ _ _ h => sEx_ok h
theorem ms_if {x y : List Stmt} (h : MT X A W c mt) (k : MSs X A W x m) (l : MSs X A W y n) : MS X A W (.If c x y pos) (sIf mt m n) := psW (ps_if h k l) fun _ _ _ h => sIf_ok h
theorem ms_ret (h : ME X A W a ma) : MS X A W (.Return (some a) pos) (sRet ma) := psW (ps_ret h) fun _ _ _ h => sRet_ok h
theorem ms_retN : MS X A W (.Return none pos) sRetN := psW ps_retN fun _ _ _ h => sRetN_ok h
theorem ms_retV (i : Nat) {x : Str} {p : Pos} (hN : X.N[i]? = some x := by rfl) (hv : Vis X.env.scope x := by first | exact Or.inl rfl | exact Or.inr (Or.inl rfl) | exact Or.inr (Or.inr rfl)) (hd : (x == ("__debug__" : Str)) = false := by decide)
    (hcd : (x == ("__classdict__" : Str)) = false := by decide) : MS X A W (.Return (some (.Name x p)) pos) (sRetV i) := psW (ps_ret (pe_var hN hv hd hcd)) fun _ _ _ h => sRetV_ok h
theorem ms_set (i : Nat) {x : Str} {p : Pos} (hN : X.N.Nodup) (h : ME X A W a ma) (hi : X.N[i]? = some x := by rfl) (hx : Loc X.env.scope x := by first | exact Or.inl rfl | exact Or.inr rfl) (hs : swapsWith a (some (.Name x p)) pos.line X.env = pure false := by rfl) (hf : X.fn x = true ∨ X.env.scope.names.lookup x = some .local := by first | exact .inl rfl | exact .inr rfl | assumption) :
    MS X A W (.Assign [.Name x p] a pos) (sSet i ma) := psW (ps_set hN hi hx h hs hf) fun _ _ _ h => sSet_ok h
theorem ms_raise {k : Nat} (hc : X.calm = true) (tk : Takes X W) (he : PMk X a (fun _ H Q => Q (.ref (A.cl k)) none H)) : MS X A W (.Raise (some a) none pos) (sRaise k) := psW (ps_raise hc tk he) fun D σ H h => by
  obtain ⟨w, env, tb, rfl, r, h⟩ := h
  exact h w σ rfl r Xs.refl
end
end Gm

set_option Elab.async false
set_option linter.all false
set_option maxRecDepth 100000
set_option autoImplicit false
set_option maxHeartbeats 1000000
namespace Gm
open PySem PySem.Spec PyProof.Rows L2
/-! ### targets -/
inductive Tg where
  | nm (i : Nat) | tp (is : List Nat)
def setsE : List Nat → List D → Env → Option Env
  | [], [], env => some env
  | i :: is, d :: ds, env => setsE is ds (env.set i (some d))
  | _, _, _ => none
def setsV : List Nat → List V → Sl → Sl
  | i :: is, v :: vs, σ => setsV is vs (σ.set i (some v))
  | _, _, σ => σ
def tgE : Tg → D → Env → Option Env
  | .nm i, d, env => (snk d).map fun d => env.set i (some d)
  | .tp is, .tup ds, env => setsE is ds env
  | .tp _, _, _ => none
def gNames : List Nat → TGs
  | [] => gNil
  | i :: r => gCons (gName i) (gNames r)
def tgT (K : PySem.W.Frag) : Tg → TG
  | .nm i => gName i
  | .tp is => gTup K is.length (gNames is)
section
variable {g : Gc} {tb : List Addr} {w w' w1 w2 w3 : Wd} {env env' env1 env2 : Env} {σ σ' σ1 σ2 : Sl} {W : WX} {Dn : Ends} {H : Hp}
theorem Rm.cy (r : Rm g tb w env σ) (r' : Rm g tb w' env' σ') (x : Xs w env σ w' env' σ') : Cy g (owns env σ) w w' :=
  ⟨r.re.st, x.e, fun p h => (r.own h).1, fun p h => (r.own h).2, fun p h => by
    rcases (r'.T p).mp h with z | z
    · exact (x.ow p z).imp (fun q => (r.own q).2) id
    · exact .inl ((r.T p).mpr (.inr z))⟩
theorem Rv.nb {d : D} {v : V} (h : Rv g w d v) : ∀ o, d ≠ .bor o := fun o e => by subst e; unfold Rv at h; exact h
theorem Rm.setP {i : Nat} {d : D} {v : V} (r : Rm g tb w env σ) (h : Rv g w d v) :
    ∃ w', w'.s = w.s ∧ w'.H = w.H ∧ Rm g tb w' (env.set i (some d)) (σ.set i (some v)) ∧ Xs w env σ w' (env.set i (some d)) (σ.set i (some v)) := by
  obtain ⟨a, b⟩ := r.set (i := i) (H0 := w.H) Ext.refl rfl (Px.of (H0 := w.H) r.re.st h) h.nb
  exact ⟨w.wT (owns (env.set i (some d)) (σ.set i (some v)) ++ tb), rfl, rfl, a, b⟩
theorem sets_ok : ∀ (is : List Nat) (ds : List D) (vs : List V) (w : Wd) (env env' : Env) (σ : Sl), Rm g tb w env σ → RvL g w ds vs → setsE is ds env = some env' →
    vs.length = is.length ∧ ∃ w', w'.s = w.s ∧ w'.H = w.H ∧ Rm g tb w' env' (setsV is vs σ) ∧ Xs w env σ w' env' (setsV is vs σ)
  | [], [], vs, w, env, env', σ, r, h, e => by
    unfold RvL at h; subst h
    cases e
    exact ⟨rfl, w, rfl, rfl, r, Xs.refl⟩
  | i :: is, d :: ds, vs, w, env, env', σ, r, h, e => by
    unfold RvL at h
    obtain ⟨v, t, rfl, h1, h2⟩ := h
    obtain ⟨w1, e1, e2, r1, x1⟩ := r.setP (i := i) h1
    obtain ⟨hl, w2, e3, e4, r2, x2⟩ := sets_ok is ds t w1 _ env' _ r1 (RvL.mono (r.cy r1 x1) _ _ h2) e
    exact ⟨by simp [hl], w2, e3.trans e1, e4.trans e2, r2, x1.trans r r1.re.st x2⟩
  | [], _ :: _, _, _, _, _, _, _, _, e => by cases e
  | _ :: _, [], _, _, _, _, _, _, _, e => by cases e
theorem gNames_ok {H : Hp} {Q : Sl → Hp → Prop} : ∀ {is : List Nat} {vs : List V} {σ : Sl}, vs.length = is.length → Q (setsV is vs σ) H → gNames is vs σ H Q
  | [], [], σ, _, h => ⟨rfl, h⟩
  | [], _ :: _, _, e, _ => by cases e
  | _ :: _, [], _, e, _ => by cases e
  | i :: is, v :: vs, σ, e, h => ⟨v, vs, rfl, gNames_ok (by simpa using e) h⟩
theorem tg_ok {tg : Tg} {d : D} {v : V} {Q : Sl → Hp → Prop} (r : Rm g tb w env σ) (h : Rv g w d v) (e : tgE tg d env = some env')
    (k : ∀ (w' : Wd) (σ' : Sl), w'.s = w.s → w'.H = w.H → Rm g tb w' env' σ' → Xs w env σ w' env' σ' → Q σ' w'.H) : tgT g.K tg v σ w.H Q := by
  cases tg with
  | nm i =>
    have e' : env' = env.set i (some d) := by
      cases d with
      | own o => unfold Rv at h; exact h.elim
      | bor o => unfold Rv at h; exact h.elim
      | exn => unfold Rv at h; exact h.elim
      | _ => simp only [tgE, snk, Option.map_some, Option.some.injEq] at e; exact e.symm
    subst e'
    obtain ⟨w1, e1, e2, r1, x1⟩ := r.setP (i := i) h
    show Q (σ.set i (some v)) w.H
    rw [← e2]
    exact k w1 _ e1 e2 r1 x1
  | tp is =>
    cases d with
    | tup ds =>
      unfold Rv at h
      obtain ⟨p, ys, rfl, hp, hl⟩ := h
      obtain ⟨l, w1, e1, e2, r1, x1⟩ := sets_ok is ds ys w env env' σ r hl e
      refine ⟨p, ys, rfl, hp, l, gNames_ok l ?_⟩
      rw [← e2]
      exact k w1 _ e1 e2 r1 x1
    | _ => cases e
end
def sSetT (is : List Nat) (e : Ex) : Sx := fun env s => match e env s with
  | .ok d s' => (match tgE (.tp is) d env with
    | some env' => .nx env' s'
    | none => .no)
  | .exc c s' => .exc c env s'
  | .no => .no
/-! ### what is walked -/
inductive Itr where
  | seq (d : D) | rng (lo : Int) (n : Nat)
def Itr.at (s : Store) : Itr → Nat → Option (Option D)
  | .seq d, i => (seqD s d).map fun xs => xs[i]?
  | .rng lo n, i => some (if i < n then some (.int (lo + (i : Nat))) else none)
def Itr.fuel (s : Store) : Itr → Nat
  | .seq d => ((seqD s d).getD []).length + 1
  | .rng _ n => n + 1
abbrev Ix := Env → Store → R Itr
def iSeq (e : Ex) : Ix := fun env s => match e env s with
  | .ok d s' => (match snk (fz d) with
    | some d => (match seqD s' d with
      | some _ => .ok (.seq d) s'
      | none => .no)
    | none => .no)
  | .exc c s' => .exc c s'
  | .no => .no
def rOk (i : Int) : Bool := decide (-4611686018427387904 ≤ i) && decide (i < 4611686018427387904)
def xRng1 (e : Ex) : Ix := fun env s => match e env s with
  | .ok (.int j) s' => if rOk j = true then .ok (.rng 0 j.toNat) s' else .no
  | .ok _ _ => .no
  | .exc c s' => .exc c s'
  | .no => .no
def xRng2 (a b : Ex) : Ix := fun env s => match a env s with
  | .ok (.int i) s1 => (match b env s1 with
    | .ok (.int j) s2 => if rOk i = true ∧ rOk j = true then .ok (.rng i (j - i).toNat) s2 else .no
    | .ok _ _ => .no
    | .exc c s' => .exc c s'
    | .no => .no)
  | .ok _ _ => .no
  | .exc c s' => .exc c s'
  | .no => .no
def forX (body : Sx) (tg : Tg) (it : Itr) : Nat → Nat → Env → Store → SR
  | 0, _, _, _ => .no
  | f + 1, i, env, s => match it.at s i with
    | none => .no
    | some none => .nx env s
    | some (some d) => match tgE tg d env with
      | none => .no
      | some env1 => match body env1 s with
        | .nx e s' => forX body tg it f (i + 1) e s'
        | .ct e s' => forX body tg it f (i + 1) e s'
        | .bk e s' => .nx e s'
        | r => r
def sFor (tg : Tg) (ix : Ix) (body : Sx) : Sx := fun env s => match ix env s with
  | .ok it s' => forX body tg it (it.fuel s') 0 env s'
  | .exc c s' => .exc c env s'
  | .no => .no
def whileX (t : Tx) (body : Sx) : Nat → Env → Store → SR
  | 0, _, _ => .no
  | f + 1, env, s => match t env s with
    | .ok true s1 => (match body env s1 with
      | .nx e s' => whileX t body f e s'
      | .ct e s' => whileX t body f e s'
      | .bk e s' => .nx e s'
      | r => r)
    | .ok false s1 => .nx env s1
    | .exc c s' => .exc c env s'
    | .no => .no
def sWhile (n : Nat) (t : Tx) (body : Sx) : Sx := whileX t body n
section
variable {g : Gc} {tb : List Addr} {w w' w1 w2 w3 : Wd} {env env' env1 env2 : Env} {σ σ' σ1 σ2 : Sl} {W : WX} {Dn : Ends} {H : Hp}
theorem sSetT_ok {is : List Nat} {e : Ex} (h : tSt g W (sSetT is e) Dn σ H) : tAsg (tEv g W e) (tgT g.K (.tp is)) Dn σ H := by
  obtain ⟨w, env, tb, rfl, r, h⟩ := h
  refine ev_in (m := sSetT is e env w.s) r h (fun c s q => by simp only [sSetT, q]) (fun q => by simp only [sSetT, q]) fun d s' w' v q h1 h2 h3 h4 => ?_
  cases k : tgE (.tp is) d env with
  | none => simp only [sSetT, q, k] at h; exact h.elim
  | some env' =>
    simp only [sSetT, q, k] at h
    have rv : Rv g w' d v := by
      cases d with
      | tup ds => exact h4.2
      | _ => cases k
    have r' := r.ev h4.rst h3 h2
    exact tg_ok r' rv k fun w2 σ2 e1 e2 r2 x2 => h w2 σ2 (e1.trans h1) r2 ((Xs.ev h3).trans r r'.re.st x2)
def ItR (g : Gc) (w : Wd) : Itr → L2.It → Prop
  | .seq d, J => ∃ p, Rv g w d (.ref p) ∧ ((J = Itl g.K p ∧ ∀ xs, d ≠ .tup xs) ∨ (J = Itt g.K p ∧ ∃ xs, d = .tup xs))
  | .rng lo n, J => J = L2.Itr lo n
theorem ItR.mono {it : Itr} {J : L2.It} {ex : List Addr} (c : Cy g ex w w') (h : ItR g w it J) : ItR g w' it J := by
  cases it with
  | seq d => obtain ⟨p, a, b⟩ := h; exact ⟨p, Rv.mono c _ _ a, b⟩
  | rng lo n => exact h
theorem seqD_l {d : D} {xs : List D} (n : ∀ zs, d ≠ .tup zs) (e : seqD w.s d = some xs) : dr w.s d = some (.lst xs) := by
  unfold seqD at e
  split at e
  · rename_i zs; exact absurd rfl (n zs)
  · split at e
    · rename_i ed; cases e; exact ed
    · cases e
theorem ItR.stop {it : Itr} {J : L2.It} {i : Nat} (r : Rst g w) (h : ItR g w it J) (e : it.at w.s i = some none) : J.stop i w.H := by
  cases it with
  | rng lo n =>
    cases h
    simp only [Itr.at, Option.some.injEq] at e
    show n ≤ i
    split at e
    · cases e
    · omega
  | seq d =>
    obtain ⟨p, rv, z⟩ := h
    simp only [Itr.at] at e
    cases q : seqD w.s d with
    | none => rw [q] at e; cases e
    | some xs =>
      rw [q] at e
      simp only [Option.map_some, Option.some.injEq] at e
      have hl : xs.length ≤ i := List.getElem?_eq_none_iff.mp e
      rcases z with ⟨rfl, n⟩ | ⟨rfl, zs, rfl⟩
      · obtain ⟨p', ys, e1, e2, e3⟩ := dr_lst r rv.po (seqD_l n q)
        cases e1
        exact ⟨ys, e2, by rw [e3.length]; exact hl⟩
      · cases q
        unfold Rv at rv
        obtain ⟨p', ys, e1, e2, e3⟩ := rv
        cases e1
        exact ⟨ys, e2, by rw [e3.length]; exact hl⟩
theorem ItR.go {it : Itr} {J : L2.It} {i : Nat} {d : D} (r : Rst g w) (h : ItR g w it J) (e : it.at w.s i = some (some d)) : J.go i w.H ∧ ∀ x H', J.yld i w.H x H' → H' = w.H ∧ Rv g w d x := by
  cases it with
  | rng lo n =>
    cases h
    simp only [Itr.at, Option.some.injEq] at e
    split at e
    · rename_i hi
      cases e
      refine ⟨hi, fun x H' y => ⟨y.1, ?_⟩⟩
      obtain ⟨_, y⟩ := y
      subst y
      exact rv_int
    · cases e
  | seq c =>
    obtain ⟨p, rv, z⟩ := h
    simp only [Itr.at] at e
    cases q : seqD w.s c with
    | none => rw [q] at e; cases e
    | some xs =>
      rw [q] at e
      simp only [Option.map_some, Option.some.injEq] at e
      rcases z with ⟨rfl, n⟩ | ⟨rfl, zs, rfl⟩
      · obtain ⟨p', ys, e1, e2, e3⟩ := dr_lst r rv.po (seqD_l n q)
        cases e1
        obtain ⟨v, k1, k2⟩ := e3.get e
        refine ⟨⟨ys, v, e2, k1⟩, fun x H' y => ⟨y.1, ?_⟩⟩
        have := y.2 ys e2
        rw [k1] at this; cases this
        exact k2
      · cases q
        unfold Rv at rv
        obtain ⟨p', ys, e1, e2, e3⟩ := rv
        cases e1
        obtain ⟨v, k1, k2⟩ := e3.get e
        refine ⟨⟨ys, v, e2, k1⟩, fun x H' y => ⟨y.1, ?_⟩⟩
        have := y.2 ys e2
        rw [k1] at this; cases this
        exact k2
def Pi (g : Gc) (_ : Hp) (w : Wd) (a : Itr) (J : L2.It) : Prop := Rst g w ∧ ItR g w a J
def tIe (g : Gc) (W : WX) (e : Ix) : TI := fun σ H Q => ∃ (w : Wd) (env : Env), w.H = H ∧ Re g w env σ ∧ Post g (Pi g) W w σ Q (e env w.s)
theorem iRng1_ok {e : Ex} {Q : L2.It → Hp → Prop} (h : tIe g W (xRng1 e) σ H Q) : L2.iRng1 (tCons (tEv g W e) tNil) σ H Q := by
  obtain ⟨w, env, rfl, re, h⟩ := h
  refine ⟨w, env, rfl, re, ?_⟩
  refine Post.step (m' := xRng1 e env w.s) h (fun c s q => by simp only [xRng1, q]) (fun q => by simp only [xRng1, q]) fun x s1 w1 v ea hs1 ht1 e1 p1 => ?_
  cases x with
  | int j =>
    simp only [xRng1, ea] at h
    split at h
    · rename_i hj
      unfold rOk at hj
      simp only [Bool.and_eq_true, decide_eq_true_eq] at hj
      have rv : Rv g w1 (.int j) v := p1.2
      unfold Rv at rv
      subst rv
      exact ⟨j, rfl, by omega, by omega, h w1 _ hs1 ht1 e1 ⟨p1.1, rfl⟩⟩
    · exact h.elim
  | _ => simp only [xRng1, ea] at h; exact h.elim
theorem iRng2_ok {a b : Ex} {Q : L2.It → Hp → Prop} (h : tIe g W (xRng2 a b) σ H Q) : L2.iRng2 (tCons (tEv g W a) (tCons (tEv g W b) tNil)) σ H Q := by
  obtain ⟨w, env, rfl, re, h⟩ := h
  refine ⟨w, env, rfl, re, ?_⟩
  refine Post.step (m' := xRng2 a b env w.s) h (fun c s q => by simp only [xRng2, q]) (fun q => by simp only [xRng2, q]) fun x s1 w1 v ea hs1 ht1 e1 p1 => ?_
  cases x with
  | int i =>
    have rv : Rv g w1 (.int i) v := p1.2
    unfold Rv at rv
    subst rv
    refine ⟨w1, env, rfl, re.next p1.1 e1 ht1, ?_⟩
    refine Post.step (m' := xRng2 a b env w.s) (h.next e1 ht1 fun _ _ _ _ q => q) (fun c s e => by rw [hs1] at e; simp only [xRng2, ea, e]) (fun e => by rw [hs1] at e; simp only [xRng2, ea, e]) fun y s2 w2 u eb hs2 ht2 e2 p2 => ?_
    rw [hs1] at eb
    cases y with
    | int j =>
      have rv : Rv g w2 (.int j) u := p2.2
      unfold Rv at rv
      subst rv
      simp only [xRng2, ea, eb] at h
      split at h
      · rename_i hj
        unfold rOk at hj
        simp only [Bool.and_eq_true, decide_eq_true_eq] at hj
        exact ⟨i, j, rfl, ⟨by omega, by omega, by omega, by omega⟩, h w2 _ hs2 (ht2.trans ht1) (e1.trans e2) ⟨p2.1, rfl⟩⟩
      · exact h.elim
    | _ => simp only [xRng2, ea, eb] at h; exact h.elim
  | _ => simp only [xRng2, ea] at h; exact h.elim
theorem iSeq_ok {e : Ex} {Q : L2.It → Hp → Prop} (h : tIe g W (iSeq e) σ H Q) : L2.iList g.K (tEv g W e) σ H Q ∨ L2.iTup g.K (tEv g W e) σ H Q := by
  obtain ⟨w, env, rfl, re, h⟩ := h
  by_cases ht : ∃ xs s1, e env w.s = .ok (.tup xs) s1
  · obtain ⟨xs, s1, ht⟩ := ht
    refine .inr ⟨w, env, rfl, re, ?_⟩
    refine Post.step (m' := iSeq e env w.s) h (fun c s q => by simp only [iSeq, q]) (fun q => by simp only [iSeq, q]) fun x s1 w1 v ea hs1 ht1 e1 p1 => ?_
    rw [ht] at ea
    cases ea
    simp only [iSeq, ht] at h
    have rv : Rv g w1 (.tup xs) v := p1.2
    have rv0 := rv
    unfold Rv at rv
    obtain ⟨p, ys, rfl, e2, e3⟩ := rv
    exact ⟨p, rfl, ⟨ys, e2⟩, h w1 _ hs1 ht1 e1 ⟨p1.1, p, rv0, .inr ⟨rfl, xs, rfl⟩⟩⟩
  · refine .inl ⟨w, env, rfl, re, ?_⟩
    refine Post.step (m' := iSeq e env w.s) h (fun c s q => by simp only [iSeq, q]) (fun q => by simp only [iSeq, q]) fun x s1 w1 v ea hs1 ht1 e1 p1 => ?_
    obtain ⟨r1, o1⟩ := p1.fz
    cases es : snk (fz x) with
    | none => simp only [iSeq, ea, es] at h; exact h.elim
    | some d =>
      have rd := snk_ok o1 es
      cases q : seqD s1 d with
      | none => simp only [iSeq, ea, es, q] at h; exact h.elim
      | some xs =>
        simp only [iSeq, ea, es, q] at h
        have nt : ∀ zs, d ≠ .tup zs := fun zs ez => by
          subst ez
          apply ht
          refine ⟨zs, s1, ?_⟩
          rw [ea]
          cases x with
          | own o => cases o <;> simp [fz, snk] at es
          | bor o => simp [fz, snk] at es
          | exn => simp [fz, snk] at es
          | _ => simp [fz, snk] at es; try rw [es]
        rw [← hs1] at q
        obtain ⟨p, ys, rfl, e2, e3⟩ := dr_lst r1 rd.po (seqD_l nt q)
        exact ⟨p, rfl, ⟨ys, e2⟩, h w1 _ hs1 ht1 e1 ⟨r1, p, rd, .inl ⟨rfl, nt⟩⟩⟩
theorem sFor_ok {tg : Tg} {ix : Ix} {body : Sx} (h : tSt g W (sFor tg ix body) Dn σ H) : tFor (tIe g W ix) (tgT g.K tg) (tSt g W body) Dn σ H := by
  obtain ⟨w, env, tb, rfl, r, h⟩ := h
  refine ⟨w, env, rfl, r.re, ?_⟩
  cases q : ix env w.s with
  | no => simp only [sFor, q] at h; exact h
  | exc c s' =>
    simp only [sFor, q] at h
    exact fun w' h1 h2 h3 h4 => h w' σ h1 (r.ev h4 h3 h2) (Xs.ev h3)
  | ok it s1 =>
    simp only [sFor, q] at h
    intro w1 J h1 h2 h3 h4
    have r1 := r.ev h4.1 h3 h2
    refine ⟨fun i m σ H => ∃ (w2 : Wd) (env2 : Env), w2.H = H ∧ Rm g tb w2 env2 σ ∧ ItR g w2 it J ∧ PostS g tb W w2 env2 σ Dn (forX body tg it m i env2 w2.s), ⟨it.fuel s1, w1, env, rfl, r1, h4.2, ?_⟩, ?_⟩
    · rw [h1]; exact h.next r r1.re.st (Xs.ev h3)
    · rintro i m σ H ⟨w2, env2, rfl, r2, j2, p2⟩
      cases m with
      | zero => exact p2.elim
      | succ m =>
        cases ei : it.at w2.s i with
        | none => simp only [forX, ei] at p2; exact p2.elim
        | some o =>
          cases o with
          | none =>
            simp only [forX, ei] at p2
            exact .inl ⟨j2.stop r2.re.st ei, p2 w2 σ rfl r2 Xs.refl⟩
          | some d =>
            obtain ⟨g1, g2⟩ := j2.go r2.re.st ei
            refine .inr ⟨g1, fun σ' H' => ∃ (w3 : Wd) (env3 : Env), w3.H = H' ∧ Rm g tb w3 env3 σ' ∧ ItR g w3 it J ∧ PostS g tb W w3 env3 σ' Dn (forX body tg it m (i + 1) env3 w3.s), fun σ' H' z => ⟨m, Nat.lt_succ_self m, z⟩, fun x H' y => ?_⟩
            obtain ⟨rfl, rv⟩ := g2 x H' y
            cases et : tgE tg d env2 with
            | none => simp only [forX, ei, et] at p2; exact p2.elim
            | some env3 =>
              refine tg_ok r2 rv et fun w3 σ3 e1 e2 r3 x3 => ⟨w3, env3, tb, rfl, r3, ?_⟩
              have j3 := j2.mono (r2.cy r3 x3)
              have p3 := p2.next r2 r3.re.st x3
              cases eb : body env3 w3.s with
              | nx e s' =>
                rw [e1] at eb
                simp only [forX, ei, et, eb] at p3
                exact fun w4 σ4 k1 r4 x4 => ⟨w4, e, rfl, r4, j3.mono (r3.cy r4 x4), by rw [k1]; exact p3.next r3 r4.re.st x4⟩
              | ct e s' =>
                rw [e1] at eb
                simp only [forX, ei, et, eb] at p3
                exact fun w4 σ4 k1 r4 x4 => ⟨w4, e, rfl, r4, j3.mono (r3.cy r4 x4), by rw [k1]; exact p3.next r3 r4.re.st x4⟩
              | bk e s' =>
                rw [e1] at eb
                simp only [forX, ei, et, eb] at p3
                exact p3
              | rt d s' =>
                rw [e1] at eb
                simp only [forX, ei, et, eb] at p3
                exact p3
              | exc c e s' =>
                rw [e1] at eb
                simp only [forX, ei, et, eb] at p3
                exact p3
              | no =>
                rw [e1] at eb
                simp only [forX, ei, et, eb] at p3
                exact p3
theorem sWhile_ok {n : Nat} {t : Tx} {body : Sx} (h : tSt g W (sWhile n t body) Dn σ H) : tWhile (tTe g W t) (tSt g W body) Dn σ H := by
  obtain ⟨w, env, tb, rfl, r, h⟩ := h
  refine ⟨fun m σ H => ∃ (w2 : Wd) (env2 : Env), w2.H = H ∧ Rm g tb w2 env2 σ ∧ PostS g tb W w2 env2 σ Dn (whileX t body m env2 w2.s), ⟨n, w, env, rfl, r, h⟩, ?_⟩
  rintro m σ H ⟨w2, env2, rfl, r2, p2⟩
  cases m with
  | zero => exact p2.elim
  | succ m =>
    refine ev_inT (m := whileX t body (m + 1) env2 w2.s) r2 p2 (fun c s q => by simp only [whileX, q]) (fun q => by simp only [whileX, q]) fun d s' w' q h1 h2 h3 h4 => ?_
    have r' := r2.ev h4 h3 h2
    have p' := p2.next r2 h4 (Xs.ev h3)
    cases d with
    | false =>
      simp only [whileX, q] at p'
      exact iteF (p' w' σ h1 r' Xs.refl)
    | true =>
      refine iteT ⟨fun σ' H' => ∃ (w3 : Wd) (env3 : Env), w3.H = H' ∧ Rm g tb w3 env3 σ' ∧ PostS g tb W w3 env3 σ' Dn (whileX t body m env3 w3.s), fun σ' H' z => ⟨m, Nat.lt_succ_self m, z⟩, w', env2, tb, rfl, r', ?_⟩
      rw [h1]
      cases eb : body env2 s' with
      | nx e s2 =>
        simp only [whileX, q, eb] at p'
        exact fun w4 σ4 k1 r4 x4 => ⟨w4, e, rfl, r4, by rw [k1]; exact p'.next r' r4.re.st x4⟩
      | ct e s2 =>
        simp only [whileX, q, eb] at p'
        exact fun w4 σ4 k1 r4 x4 => ⟨w4, e, rfl, r4, by rw [k1]; exact p'.next r' r4.re.st x4⟩
      | bk e s2 => simp only [whileX, q, eb] at p'; exact p'
      | rt d s2 => simp only [whileX, q, eb] at p'; exact p'
      | exc c e s2 => simp only [whileX, q, eb] at p'; exact p'
      | no => simp only [whileX, q, eb] at p'; exact p'
end
section
variable {X : Cx} {A : Ga} {W : WX} {a b c : Expr} {ma mb : Ex} {mt mu : Tx} {st : Stmt} {ss : List Stmt} {m n : Sx} {mi : Ix} {pos : Pos} {tx : Expr} {tg : Tg}
abbrev MI (X : Cx) (A : Ga) (W : WX) (tx it : Expr) (mi : Ix) : Prop := PI X tx it (tIe (gx X A) W mi)
theorem piW {t t' : TI} (h : PI X tx a t) (k : ∀ σ H Q, t' σ H Q → t σ H Q) : PI X tx a t' := ⟨fun pins s σ H Q I q => h.run pins s σ H Q I (k σ H Q q)⟩
theorem mi_rng1 {p : Pos} (hg : Gl X "range") (hm : X.mg "range" = none) (h : ME X A W a ma) (hs : starEach [a] X.env = [(false, eval a X.env)] := by rfl) (hs2 : starEach [a] X.env = (false, eval a X.env) :: starEach [] X.env := by rfl) : MI X A W tx (.Call (.Name "range" p) [a] [] pos) (xRng1 ma) :=
  piW (pi_range1 hg hm (pa_cons h pa_nil hs2) hs) fun _ _ _ h => iRng1_ok h
theorem mi_rng2 {p : Pos} (hg : Gl X "range") (hm : X.mg "range" = none) (h : ME X A W a ma) (k : ME X A W b mb) (hs : starEach [a, b] X.env = [(false, eval a X.env), (false, eval b X.env)] := by rfl) (hs2 : starEach [b] X.env = [(false, eval b X.env)] := by rfl)
    (hs3 : starEach [a, b] X.env = (false, eval a X.env) :: starEach [b] X.env := by rfl) (hs4 : starEach [b] X.env = (false, eval b X.env) :: starEach [] X.env := by rfl) : MI X A W tx (.Call (.Name "range" p) [a, b] [] pos) (xRng2 ma mb) :=
  piW (pi_range2 hg hm (pa_cons h (pa_cons k pa_nil hs4) hs3) hs hs2) fun _ _ _ h => iRng2_ok h
theorem mi_seq (h : ME X A W a ma) : MI X A W tx a (iSeq ma) := ⟨fun pins s σ H Q I q => by
  rcases iSeq_ok q with z | z
  · exact (pi_list h).run pins s σ H Q I z
  · exact (pi_tup h).run pins s σ H Q I z⟩
abbrev MG (X : Cx) (tx : Expr) (tg : Tg) : Prop := PG X tx (tgT X.K tg)
abbrev MGs (X : Cx) (tx : List Expr) (is : List Nat) : Prop := PGs X tx (gNames is)
theorem mg_nm (i : Nat) {x : Str} (hN : X.N.Nodup) (hi : X.N[i]? = some x := by rfl) (hx : Loc X.env.scope x := by first | exact Or.inl rfl | exact Or.inr rfl) (hf : X.fn x = true ∨ X.env.scope.names.lookup x = some .local := by first | exact .inl rfl | exact .inr rfl | assumption) : MG X (.Name x pos) (.nm i) := pg_name hN hi hx hf
theorem mgs_nil : MGs X [] [] := pgs_nil
theorem mgs_cons (i : Nat) {x : Str} {es : List Expr} {is : List Nat} (hN : X.N.Nodup) (k : MGs X es is) (hi : X.N[i]? = some x := by rfl) (hx : Loc X.env.scope x := by first | exact Or.inl rfl | exact Or.inr rfl) (hf : X.fn x = true ∨ X.env.scope.names.lookup x = some .local := by first | exact .inl rfl | exact .inr rfl | assumption)
    (hs : (assignEach (.Name x pos :: es) X.env).map (·.2) = assign (.Name x pos) X.env :: (assignEach es X.env).map (·.2) := by rfl) : MGs X (.Name x pos :: es) (i :: is) := pgs_cons (pg_name hN hi hx hf) k hs
theorem mg_tp {es : List Expr} {is : List Nat} {k : Nat} (hc : X.calm = true) (h : MGs X es is) (hn : (assignEach es X.env).length = is.length := by rfl) (hst : (assignEach es X.env).findIdx? (·.1) = none := by rfl) : MG X (.Tuple es k pos) (.tp is) := pg_tup hc h hn hst
theorem ms_setT {is : List Nat} (hg : MG X tx (.tp is)) (h : ME X A W a ma) (hs : swapsWithSole [tx] a pos.line X.env = pure false := by rfl) (hw : swappedStores [tx] a X.env = pure none := by rfl) (h1 : (assignEach [tx] X.env).map (·.2) = [assign tx X.env] := by rfl) : MS X A W (.Assign [tx] a pos) (sSetT is ma) :=
  psW (ps_asg h hg hs hw h1) fun _ _ _ h => sSetT_ok h
theorem ms_for (hp : PassesOwn (model X.prog X.w) X.A X.env X.xe) (hc : X.calm = true) (hi : MI X A W tx a mi) (hg : MG X tx tg) (hb : MSs X A W ss m) (hs : ∀ x, foldedSetIterable a X.env x = pure x := by intro _; rfl) : MS X A W (.For tx a ss [] pos) (sFor tg mi m) :=
  psW (ps_for hp hc hi hg hb hs) fun _ _ _ h => sFor_ok h
theorem ms_while (n : Nat) (hp : PassesOwn (model X.prog X.w) X.A X.env X.xe) (h : MT X A W c mt) (hb : MSs X A W ss m) : MS X A W (.While c ss [] pos) (sWhile n mt m) := psW (ps_while hp h hb) fun _ _ _ h => sWhile_ok h
end
end Gm

set_option Elab.async false
set_option linter.all false
set_option maxRecDepth 100000
set_option autoImplicit false
set_option maxHeartbeats 1000000
namespace Gm
open PySem PySem.Spec PyProof.Rows L2
/-! ### calls -/
def PostF (g : Gc) (w : Wd) (Q : VK) (E : XK) : R D → Prop
  | .ok d s' => ∀ (w' : Wd) (v : V), w'.s = s' → w'.T = w.T → Ext [] w w' → Px g w.H w' d v → Q v w'.H
  | .exc c s' => ∀ (w' : Wd), w'.s = s' → w'.T = w.T → Ext [] w w' → Rst g w' → E (.ref (g.A c)) none w'.H
  | .no => False
def spOf (g : Gc) (n : Nat) (F : Fx) : Sp := fun vs H Q E => vs.length = n ∧ ∃ (w : Wd) (args : List D), w.H = H ∧ Rst g w ∧ RvL g w args vs ∧ PostF g w Q E (F args w.s)
def fnX (n N : Nat) (body : Sx) : Fx := fun args s => if args.length = n then (match body (args.map some ++ List.replicate (N - n) none) s with
  | .rt d s' => .ok d s'
  | .nx _ s' => .ok .non s'
  | .exc c _ s' => .exc c s'
  | _ => .no) else .no
def Ar (n : Nat) (F : Fx) : Prop := ∀ (args : List D) (s : Store), args.length ≠ n → F args s = .no
theorem fnX_ar {n N : Nat} {body : Sx} : Ar n (fnX n N body) := fun args s h => by unfold fnX; rw [if_neg h]
def eCall (F : Fx) (a : Ax) : Ex := fun env s => match a env s with
  | .ok ds s' => F ds s'
  | .exc c s' => .exc c s'
  | .no => .no
section
variable {g : Gc} {tb : List Addr} {w w' w1 w2 w3 : Wd} {env env' env1 env2 : Env} {σ σ' σ1 σ2 : Sl} {W : WX} {Dn : Ends} {H : Hp}
theorem call_ok {n : Nat} {F : Fx} {a : Ax} {Q : VK} (hF : Ar n F) (h : tEv g W (eCall F a) σ H Q) : tAe g W a σ H fun vs H1 => spOf g n F vs H1 Q (WE W σ) := by
  obtain ⟨w, env, rfl, re, h⟩ := h
  refine ⟨w, env, rfl, re, ?_⟩
  refine Post.step (m' := eCall F a env w.s) h (fun c s q => by simp only [eCall, q]) (fun q => by simp only [eCall, q]) fun ds s1 w1 vs ea hs1 ht1 e1 p1 => ?_
  obtain ⟨r1, q1⟩ := p1
  have em : eCall F a env w.s = F ds w1.s := by simp only [eCall, ea, hs1]
  rw [em] at h
  have hn : ds.length = n := by
    by_cases z : ds.length = n
    · exact z
    · rw [hF ds w1.s z] at h; exact h.elim
  refine ⟨by rw [q1.length]; exact hn, w1, ds, rfl, r1, q1, ?_⟩
  cases q : F ds w1.s with
  | ok d s' =>
    rw [q] at h
    exact fun w2 v h1 h2 h3 h4 => h w2 v h1 (h2.trans ht1) (e1.trans h3) (h4.back re.st r1 e1)
  | exc c s' =>
    rw [q] at h
    exact fun w2 h1 h2 h3 h4 => h w2 h1 (h2.trans ht1) (e1.trans h3) h4
  | no => rw [q] at h; exact h
theorem RvL.plain : ∀ {ds : List D} {vs : List V}, RvL g w ds vs → ∀ (i : Nat) (o : O), ds[i]? ≠ some (.own o)
  | ds, vs, h, i, o, e => by
    obtain ⟨v, _, z⟩ := h.get e
    unfold Rv at z; exact z
theorem start_owns {args : List D} {vs : List V} {k : Nat} {σ : Sl} (h : RvL g w args vs) : owns (args.map some ++ List.replicate k none) σ = [] := by
  cases e : owns (args.map some ++ List.replicate k none) σ with
  | nil => rfl
  | cons p r =>
    have hp : p ∈ owns (args.map some ++ List.replicate k none) σ := by rw [e]; exact List.mem_cons_self
    obtain ⟨i, o, a, b⟩ := mem_owns.mp hp
    exfalso
    by_cases l : i < args.length
    · rw [List.getElem?_append_left (by simpa using l), List.getElem?_map] at a
      cases q : args[i]? with
      | none => rw [q] at a; cases a
      | some d => rw [q] at a; simp at a; subst a; exact h.plain i o q
    · rw [List.getElem?_append_right (by simpa using l)] at a
      have := List.mem_of_getElem? a
      rw [List.mem_replicate] at this
      exact nomatch this.2
theorem body_ok {N ps : List Str} {m : Sx} {vs : List V} {Q : VK} {E : XK} (hl : ps.length ≤ N.length) (h : spOf g ps.length (fnX ps.length N.length m) vs H Q E) :
    tSt g (fun cls d _ H => E cls d H) m { nx := fun _ H' => Q .non H', rt := Q } (L2.start N vs) H := by
  obtain ⟨hv, w, args, rfl, r, ra, h⟩ := h
  have ha : args.length = ps.length := by rw [← ra.length]; exact hv
  refine ⟨w, args.map some ++ List.replicate (N.length - ps.length) none, w.T, rfl, ?_, ?_⟩
  · refine ⟨⟨r, ?_, fun i d e => ?_⟩, fun p => by rw [start_owns ra]; simp, fun i j p a _ => ?_, fun p hp => ?_⟩
    · unfold L2.start
      rw [List.length_append, List.length_append, List.length_map, List.length_map, List.length_replicate, List.length_replicate, hv, ha]
    · by_cases l : i < args.length
      · rw [List.getElem?_append_left (by simpa using l), List.getElem?_map] at e
        cases q : args[i]? with
        | none => rw [q] at e; cases e
        | some d' =>
          rw [q] at e; simp at e; subst e
          obtain ⟨v, k1, k2⟩ := ra.get q
          refine ⟨v, ?_, ?_⟩
          · unfold L2.start
            rw [List.getElem?_append_left (by rw [List.length_map, hv, ← ha]; exact l), List.getElem?_map, k1]
            rfl
          · cases d' with
            | own o => unfold Rv at k2; exact k2.elim
            | exn => unfold Rv at k2; exact k2.elim
            | _ => exact k2
      · rw [List.getElem?_append_right (by simpa using l)] at e
        have := List.mem_of_getElem? e
        rw [List.mem_replicate] at this
        exact nomatch this.2
    · have := mem_owns.mpr ⟨i, a⟩
      rw [start_owns ra] at this; cases this
    · rw [start_owns ra] at hp; cases hp
  · have ow : owns (args.map some ++ List.replicate (N.length - ps.length) none) (L2.start N vs) = [] := start_owns ra
    unfold fnX at h
    rw [if_pos ha] at h
    have tT : ∀ (w' : Wd) (env' : Env) (σ' : Sl), Rm g w.T w' env' σ' → ∀ p ∈ w.T, p ∈ w'.T := fun w' env' σ' r' p hp => (r'.T p).mpr (.inr hp)
    cases q : m (args.map some ++ List.replicate (N.length - ps.length) none) w.s with
    | nx e s =>
      rw [q] at h
      intro w' σ' h1 r' x'
      have e' := x'.e
      rw [ow] at e'
      exact h (w'.wT w.T) .non h1 rfl ⟨e'.pre, e'.keep, e'.new, e'.nm⟩ (.of (r'.re.st.inT (tT w' e σ' r')) rv_non)
    | rt d s =>
      rw [q] at h
      intro w' v h1 h2 e' p'
      rw [ow] at e' p'
      refine h w' v h1 h2 e' ?_
      cases d with
      | own o =>
        obtain ⟨p, a, b, c⟩ := p'
        rcases b with b | b
        · exact ⟨p, a, b, c⟩
        · cases b
      | bor o => exact (show False by obtain ⟨_, z⟩ := p'; unfold Rv at z; exact z).elim
      | exn => exact (show False by obtain ⟨_, z⟩ := p'; unfold Rv at z; exact z).elim
      | _ => exact p'
    | exc c e s =>
      rw [q] at h
      intro w' σ' h1 r' x'
      have e' := x'.e
      rw [ow] at e'
      exact h (w'.wT w.T) h1 rfl ⟨e'.pre, e'.keep, e'.new, e'.nm⟩ (r'.re.st.inT (tT w' e σ' r'))
    | bk e s => rw [q] at h; exact h.elim
    | ct e s => rw [q] at h; exact h.elim
    | no => rw [q] at h; exact h.elim
end
section
variable {P : Program} {wl : World} {K : PySem.W.Frag} {mg : Str → Option Value} {base : Heap} {A : Nat → Addr}
abbrev xOf (P : Program) (wl : World) (K : PySem.W.Frag) (mg : Str → Option Value) (base : Heap) (N : List Str) (qual : Str) (scope : Scope) (f : Addr) (cdv : Value) (Ar : Around) (outer : List PySem.Env) (s : Shared) (H : Hp) (E : XK) : Cx := cxOf (L2.CX P wl) P wl K mg base N qual scope f cdv Ar outer s H E
abbrev wOf (E : XK) : WX := fun cls d _ H => E cls d H
theorem fn_ok {x qual : Str} {params : Arguments} {body : List Stmt} {scope : Scope} {f : Addr} {fd : FuncData} {N ps : List Str} {k : Nat} {m : Sx} (F : FunD K x qual params body scope [] [] f fd) (S : FnScope N ps scope) (hl : ps.length ≤ N.length)
    (hb : ∀ (cdv : Value) (Ar : Around) (outer : List PySem.Env) (s : Shared) (H : Hp) (E : XK), Room k (Ar.deeper (envOfC qual scope s.heap.objs.size f cdv)) → Takes (xOf P wl K mg base N qual scope f cdv Ar outer s H E) (wOf E) →
      PassesOwn (model P wl) (xOf P wl K mg base N qual scope f cdv Ar outer s H E).A (xOf P wl K mg base N qual scope f cdv Ar outer s H E).env (xOf P wl K mg base N qual scope f cdv Ar outer s H E).xe →
      MSs (xOf P wl K mg base N qual scope f cdv Ar outer s H E) ⟨A, none⟩ (wOf E) body m) :
    FnOk P wl K mg base (L2.CX P wl) (k + 1) f fd ps (spOf ⟨K, A, none⟩ ps.length (fnX ps.length N.length m)) := by
  refine F.ok S (fun vs H Q E h => h.1) fun cdv Ar outer s H vs Q E hr h => ?_
  exact ⟨_, hb cdv Ar outer s H E hr (takes_of rfl rfl rfl rfl) (passes_of rfl), body_ok hl h⟩
end
section
variable {X : Cx} {A : Ga} {W : WX} {a b c e : Expr} {es : List Expr} {ma mb : Ex} {mt mu : Tx} {st : Stmt} {ss : List Stmt} {m : Sx} {mr : Ax} {pos p : Pos} {k n : Nat} {f : Addr} {fd : FuncData} {ps : List Str} {F : Fx} {x : Str}
theorem me_call (G : FnOk X.prog X.w X.K X.mg X.base (L2.CX X.prog X.w) k f fd ps (spOf (gx X A) n F)) (hF : Ar n F) (hr : Room k X.A) (tk : Takes X W) (hg : Gl X x) (hm : X.mg x = some (.ref f)) (hk : PySem.W.keepIn X.K (.ref f) = true) (hb : Binds X.K fd ps [])
    (ha : MA X A W (e :: es) mr) (hdb : (x == ("__debug__" : Str)) = false := by decide) (he : starEach (e :: es) X.env = (false, eval e X.env) :: starEach es X.env := by rfl) (hpl : (backTo pos (starEach es X.env)).any (·.1) = false := by rfl) :
    ME X A W (.Call (.Name x p) (e :: es) [] pos) (eCall F mr) := peW (pe_callS G hr hg hm hk hb (fun σ => passAt tk σ) ha hdb he hpl) fun _ _ _ h => call_ok hF h
end
end Gm

set_option Elab.async false
set_option linter.all false
set_option maxRecDepth 100000
set_option autoImplicit false
set_option maxHeartbeats 1000000
namespace Gm
open PySem PySem.Spec PyProof.Rows L2
/-! ### lists that are changed -/
def mutL (i : Nat) (f : List D → Option (List D)) (env : Env) (s : Store) : Option (Env × Store) := match env[i]? with
  | some (some (.own (.lst xs))) => (f xs).map fun ys => (env.set i (some (.own (.lst ys))), s)
  | some (some (.ref n)) => (match s[n]? with
    | some (.lst xs) => (f xs).map fun ys => (env, s.set n (.lst ys))
    | _ => none)
  | _ => none
/-- a list that a place of the store holds -/
def mutR (d : D) (f : List D → Option (List D)) (s : Store) : Option Store := match d with
  | .ref n => (match s[n]? with
    | some (.lst xs) => (f xs).map fun ys => s.set n (.lst ys)
    | _ => none)
  | _ => none
def fApp (d : D) : List D → Option (List D) := fun xs => if xs.length < 16777216 then some (xs ++ [d]) else none
def fExt (zs : List D) : List D → Option (List D) := fun xs => if xs.length + zs.length ≤ 16777216 then some (xs ++ zs) else none
def fSetI (k : Int) (d : D) : List D → Option (List D) := fun xs => (ixN xs.length k).map fun j => xs.set j d
/-- x.append(e) and its like, x a name -/
def isL (i : Nat) (env : Env) (s : Store) : Bool := match env[i]? with
  | some (some (.own (.lst _))) => true
  | some (some (.ref n)) => (match s[n]? with
    | some (.lst _) => true
    | _ => false)
  | _ => false
def sMut (i : Nat) (f : Store → D → Option (List D → Option (List D))) (e : Ex) : Sx := fun env s => if isL i env s = true then (match e env s with
  | .ok d s1 => (match f s1 (fz d) with
    | some h => (match mutL i h env s1 with
      | some (env', s2) => .nx env' s2
      | none => .no)
    | none => .no)
  | .exc c s1 => .exc c env s1
  | .no => .no) else .no
def gApp : Store → D → Option (List D → Option (List D)) := fun _ d => (snk d).map fApp
def gExt : Store → D → Option (List D → Option (List D)) := fun s d => match drM s d with
  | some (.lst zs) => some (fExt zs)
  | _ => none
/-- x[j] = e, x a name -/
def sSub (i : Nat) (j : Ex) (e : Ex) : Sx := fun env s => match e env s with
  | .ok d s1 => (match snk (fz d) with
    | some d => if isL i env s1 = true then (match j env s1 with
      | .ok (.int k) s2 => (match mutL i (fSetI k d) env s2 with
        | some (env', s3) => .nx env' s3
        | none => .no)
      | .ok _ _ => .no
      | .exc c s' => .exc c env s'
      | .no => .no) else .no
    | none => .no)
  | .exc c s' => .exc c env s'
  | .no => .no
/-! ### what is told of the frame's own lists, nothing done -/
def gFz (i : Nat) (env : Env) (s : Store) : Env × Store := match env[i]? with
  | some (some (.own o)) => (env.set i (some (fz (.own o))), s)
  | _ => (env, s)
def gAd (i : Nat) (env : Env) (s : Store) : Env × Store := match env[i]? with
  | some (some (.own o)) => (env.set i (some (.ref s.length)), s ++ [o])
  | _ => (env, s)
def sPre (q : Env → Store → Env × Store) (m : Sx) : Sx := fun env s => m (q env s).1 (q env s).2
section
variable {g : Gc} {tb : List Addr} {w w' w1 w2 w3 : Wd} {env env' env1 env2 : Env} {σ σ' σ1 σ2 : Sl} {W : WX} {Dn : Ends} {H : Hp}
theorem Ro.same {p : Addr} {o : O} {ex : List Addr} (c : Cy g ex w w') (e : w'.H p = w.H p) (h : Ro g w p o) : Ro g w' p o := by
  cases o with
  | lst xs => obtain ⟨ys, k, z⟩ := h; exact ⟨ys, e.trans k, RvL.mono c _ _ z⟩
  | dK xs => obtain ⟨ys, k, z⟩ := h; exact ⟨ys, e.trans k, RvK.mono c _ _ z⟩
  | ins a xs => obtain ⟨dx, ys, k, z⟩ := h; exact ⟨dx, ys, e.trans k, RvF.mono c _ _ z⟩
  | dead => obtain ⟨u, k⟩ := h; exact ⟨u, e.trans k⟩
abbrev Wd.wr (w : Wd) (p : Addr) (u : HO) : Wd := { w with H := upd w.H p u }
theorem wr_ext {p : Addr} {u : HO} : Ext [p] w (w.wr p u) :=
  ⟨⟨[], by simp⟩, fun q o e _ n => by
    show upd w.H p u q = some o
    rw [upd_ne (fun z => n (by rw [z]; exact List.mem_cons_self))]; exact e, fun _ h => .inl h, fun _ h => .inl h⟩
theorem wr_cy {p : Addr} {u : HO} (r : Rst g w) (hm : Mut (w.H p)) (hT : p ∈ w.T) : Cy g [p] w (w.wr p u) :=
  ⟨r, wr_ext, fun q h => by rw [List.mem_singleton.mp h]; exact hm, fun q h => by rw [List.mem_singleton.mp h]; exact hT, fun q h => .inl h⟩
theorem wr_rst {p : Addr} {u : HO} (r : Rst g w) (hm : Mut (w.H p)) (hT : p ∈ w.T) : Rst g (w.wr p u) := by
  have c := wr_cy (u := u) r hm hT
  have np : p ∉ w.m := (r.tt p hT).1
  refine ⟨r.len, r.nd, fun q hq => ⟨(r.tt q hq).1, ?_⟩, fun n q o a b => ?_⟩
  · by_cases e : q = p
    · subst e; exact ⟨u, upd_same⟩
    · obtain ⟨o, z⟩ := (r.tt q hq).2
      exact ⟨o, by show upd w.H p u q = some o; rw [upd_ne e]; exact z⟩
  · refine (r.ce n q o a b).same c ?_
    show upd w.H p u q = w.H q
    refine upd_ne fun z => np ?_
    rw [← z]
    exact List.mem_of_getElem? a
theorem ownAt_upd {i j : Nat} {p : Addr} {o o' : O} (hi : env[i]? = some (some (.own o))) : OwnAt (env.set i (some (.own o'))) σ j p ↔ OwnAt env σ j p := by
  have hl : i < env.length := (List.getElem?_eq_some_iff.mp hi).1
  constructor
  · rintro ⟨q, a, b⟩
    by_cases e : j = i
    · subst e; exact ⟨o, hi, b⟩
    · rw [List.getElem?_set_ne (Ne.symm e)] at a
      exact ⟨q, a, b⟩
  · rintro ⟨q, a, b⟩
    by_cases e : j = i
    · subst e
      exact ⟨o', by rw [List.getElem?_set_self hl], b⟩
    · exact ⟨q, by rw [List.getElem?_set_ne (Ne.symm e)]; exact a, b⟩
theorem owns_upd {i : Nat} {o o' : O} (hi : env[i]? = some (some (.own o))) (p : Addr) : p ∈ owns (env.set i (some (.own o'))) σ ↔ p ∈ owns env σ := by
  rw [mem_owns, mem_owns]
  exact ⟨fun ⟨j, h⟩ => ⟨j, (ownAt_upd hi).mp h⟩, fun ⟨j, h⟩ => ⟨j, (ownAt_upd hi).mpr h⟩⟩
/-- a list of the frame's own is changed -/
theorem Rm.upd {i : Nat} {p : Addr} {o o' : O} {u : HO} (r : Rm g tb w env σ) (hi : env[i]? = some (some (.own o))) (hs : σ[i]? = some (some (.ref p))) (fo : Fzo o') (ho : Cy g [p] w (w.wr p u) → Ro g (w.wr p u) p o') :
    Rm g tb (w.wr p u) (env.set i (some (.own o'))) σ ∧ Xs w env σ (w.wr p u) (env.set i (some (.own o'))) σ := by
  have hp : p ∈ owns env σ := mem_owns.mpr ⟨i, o, hi, hs⟩
  obtain ⟨hm, hT⟩ := r.own hp
  have c := wr_cy (u := u) r.re.st hm hT
  have r' := wr_rst (u := u) r.re.st hm hT
  have hl : i < env.length := (List.getElem?_eq_some_iff.mp hi).1
  have np : p ∉ w.m := (r.re.st.tt p hT).1
  refine ⟨⟨⟨r', by rw [List.length_set]; exact r.re.len, fun j d ej => ?_⟩, fun q => by rw [owns_upd hi]; exact r.T q, fun a b q qa qb => r.inj a b q ((ownAt_upd hi).mp qa) ((ownAt_upd hi).mp qb), fun q hq => r.dj q ((owns_upd hi q).mp hq)⟩, ⟨?_, fun q hq => .inl ((owns_upd hi q).mp hq)⟩⟩
  · by_cases e : j = i
    · subst e
      rw [List.getElem?_set_self hl] at ej
      cases ej
      exact ⟨.ref p, hs, p, rfl, fo, ho c, np, hT⟩
    · rw [List.getElem?_set_ne (Ne.symm e)] at ej
      obtain ⟨v, a, z⟩ := r.re.sl j d ej
      refine ⟨v, a, ?_⟩
      cases d with
      | own o2 =>
        obtain ⟨q, rfl, k2, k3, k4, k5⟩ := z
        refine ⟨q, rfl, k2, k3.same c ?_, k4, k5⟩
        show L2.upd w.H p u q = w.H q
        refine upd_ne fun z => e ?_
        subst z
        exact r.inj j i q ⟨o2, ej, a⟩ ⟨o, hi, hs⟩
      | bor o => exact Rv.mono c _ _ z
      | non => exact Rv.mono c _ _ z
      | bl b => exact Rv.mono c _ _ z
      | int b => exact Rv.mono c _ _ z
      | str b => exact Rv.mono c _ _ z
      | tup b => exact Rv.mono c _ _ z
      | lst b => exact Rv.mono c _ _ z
      | scr b => exact Rv.mono c _ _ z
      | dct b => exact Rv.mono c _ _ z
      | ref b => exact Rv.mono c _ _ z
      | exn => exact z
  · exact ⟨⟨[], by simp⟩, fun q o e nl nx => wr_ext.keep q o e nl fun z => nx (by rw [List.mem_singleton.mp z]; exact hp), fun q h => .inl h, fun q h => .inl h⟩
/-- a place of the store is written -/
abbrev Wd.ws (w : Wd) (n : Nat) (o : O) (p : Addr) (u : HO) : Wd := { w with s := w.s.set n o, H := L2.upd w.H p u }
theorem ws_ext {n : Nat} {o o' : O} {p : Addr} {u : HO} (hm : w.m[n]? = some p) (hs : w.s[n]? = some o) (ho : o ≠ .dead) : Ext [] w (w.ws n o' p u) := by
  have lv : w.Live p := ⟨n, o, hm, hs, ho⟩
  have bk : ∀ q, (w.ws n o' p u).Live q → w.Live q := fun q ⟨k, x, a, b, d⟩ => by
    by_cases e : k = n
    · subst e
      have a : w.m[k]? = some q := a
      rw [hm] at a; cases a; exact lv
    · have b : (w.s.set n o')[k]? = some x := b
      rw [List.getElem?_set_ne (Ne.symm e)] at b
      exact ⟨k, x, a, b, d⟩
  refine ⟨⟨[], by simp⟩, fun q x e nl _ => ?_, fun q l => .inl (bk q l), fun q l => .inl l⟩
  show L2.upd w.H p u q = some x
  rw [upd_ne (fun z => nl (by rw [z]; exact lv))]
  exact e
theorem ws_rst {n : Nat} {o o' : O} {p : Addr} {u : HO} (r : Rst g w) (hm : w.m[n]? = some p) (hs : w.s[n]? = some o) (ho : o ≠ .dead) (h : Cy g [] w (w.ws n o' p u) → Ro g (w.ws n o' p u) p o') : Rst g (w.ws n o' p u) := by
  have c : Cy g [] w (w.ws n o' p u) := Cy.of r (ws_ext hm hs ho) rfl
  have hn : n < w.s.length := (List.getElem?_eq_some_iff.mp hs).1
  have uniq : ∀ k q, w.m[k]? = some q → k ≠ n → q ≠ p := fun k q a ne e => by
    subst e
    obtain ⟨l1, e1⟩ := List.getElem?_eq_some_iff.mp a
    obtain ⟨l2, e2⟩ := List.getElem?_eq_some_iff.mp hm
    exact ne ((List.getElem_inj r.nd).mp (e1.trans e2.symm))
  refine ⟨by show w.m.length = (w.s.set n o').length; rw [List.length_set]; exact r.len, r.nd, fun q hq => ⟨(r.tt q hq).1, ?_⟩, fun k q x a b => ?_⟩
  · obtain ⟨x, z⟩ := (r.tt q hq).2
    refine ⟨x, ?_⟩
    show L2.upd w.H p u q = some x
    rw [upd_ne fun e => (r.tt q hq).1 (by rw [e]; exact List.mem_of_getElem? hm)]
    exact z
  · by_cases e : k = n
    · subst e
      have a : w.m[k]? = some q := a
      rw [hm] at a; cases a
      have b : (w.s.set k o')[k]? = some x := b
      rw [List.getElem?_set_self hn] at b; cases b
      exact h c
    · have b : (w.s.set n o')[k]? = some x := b
      rw [List.getElem?_set_ne (Ne.symm e)] at b
      refine (r.ce k q x a b).same c ?_
      show L2.upd w.H p u q = w.H q
      exact upd_ne (uniq k q a e)
theorem lst_nd {xs : List D} : O.lst xs ≠ O.dead := fun z => nomatch z
/-- what a change of a name's list asks and gives -/
theorem mutL_ok {i : Nat} {f : List D → Option (List D)} {env' : Env} {s' : Store} (r : Rm g tb w env σ) (h : mutL i f env w.s = some (env', s')) :
    ∃ (p : Addr) (xs ys : List D) (vs : List V), σ[i]? = some (some (.ref p)) ∧ w.H p = some (.lst vs) ∧ RvL g w xs vs ∧ f xs = some ys ∧
      ∀ us, RvL g w ys us → ∃ w2, w2.s = s' ∧ w2.H = L2.upd w.H p (.lst us) ∧ Rm g tb w2 env' σ ∧ Xs w env σ w2 env' σ := by
  unfold mutL at h
  split at h
  · rename_i xs ei
    cases q : f xs with
    | none => rw [q] at h; cases h
    | some ys =>
      rw [q] at h
      cases h
      obtain ⟨v, a, z⟩ := r.re.sl i _ ei
      obtain ⟨p, rfl, fo, ⟨vs, e1, e2⟩, nm, t⟩ := z
      refine ⟨p, xs, ys, vs, a, e1, e2, q, fun us hu => ?_⟩
      obtain ⟨k1, k2⟩ := r.upd (o' := .lst ys) (u := .lst us) ei a trivial fun c => ⟨us, upd_same, RvL.mono c _ _ hu⟩
      exact ⟨w.wr p (.lst us), rfl, rfl, k1, k2⟩
  · rename_i n ei
    split at h
    · rename_i xs en
      cases q : f xs with
      | none => rw [q] at h; cases h
      | some ys =>
        rw [q] at h
        cases h
        obtain ⟨v, a, z⟩ := r.re.sl i _ ei
        have z : Rv g w (.ref n) v := z
        unfold Rv at z
        obtain ⟨p, rfl, hm⟩ := z
        obtain ⟨vs, e1, e2⟩ := r.re.st.ce n p _ hm en
        refine ⟨p, xs, ys, vs, a, e1, e2, q, fun us hu => ?_⟩
        have ex := ws_ext (o' := .lst ys) (u := .lst us) hm en lst_nd
        have rs := ws_rst (o' := .lst ys) (u := .lst us) r.re.st hm en lst_nd fun c => ⟨us, upd_same, RvL.mono c _ _ hu⟩
        exact ⟨w.ws n (.lst ys) p (.lst us), rfl, rfl, r.ev rs ex rfl, Xs.ev ex⟩
    · cases h
  · cases h
theorem isL_ok {i : Nat} (r : Rm g tb w env σ) (h : isL i env w.s = true) : ∃ (p : Addr) (vs : List V), σ[i]? = some (some (.ref p)) ∧ SqL g.K w.H p vs := by
  unfold isL at h
  split at h
  · rename_i xs ei
    obtain ⟨v, a, z⟩ := r.re.sl i _ ei
    obtain ⟨p, rfl, fo, ⟨vs, e1, e2⟩, nm, t⟩ := z
    exact ⟨p, vs, a, SqL.of e1⟩
  · rename_i n ei
    split at h
    · rename_i xs en
      obtain ⟨v, a, z⟩ := r.re.sl i _ ei
      have z : Rv g w (.ref n) v := z
      unfold Rv at z
      obtain ⟨p, rfl, hm⟩ := z
      obtain ⟨vs, e1, e2⟩ := r.re.st.ce n p _ hm en
      exact ⟨p, vs, a, SqL.of e1⟩
    · cases h
  · cases h
theorem sMut_ok {i : Nat} {f : Store → D → Option (List D → Option (List D))} {e : Ex} {rl : V → List V → Hp → VK → Prop}
    (hr : ∀ (w : Wd) (d : D) (v : V) (hh : List D → Option (List D)) (p : Addr) (xs ys : List D) (vs : List V) (Q : VK), Rst g w → Po g w d v → f w.s d = some hh → w.H p = some (.lst vs) → RvL g w xs vs → hh xs = some ys →
      (∀ us, RvL g w ys us → Q .non (L2.upd w.H p (.lst us))) → rl (.ref p) [v] w.H Q)
    (h : tSt g W (sMut i f e) Dn σ H) : tDrop (tBM g.K "list" rl (tVar i) (tCons (tEv g W e) tNil)) Dn σ H := by
  obtain ⟨w, env, tb, rfl, r, h⟩ := h
  cases il : isL i env w.s with
  | false => simp only [sMut, il] at h; exact h.elim
  | true =>
    obtain ⟨p, vs, e1, e2⟩ := isL_ok r il
    refine ⟨.ref p, e1, .inl ⟨rfl, vs, e2⟩, ?_⟩
    refine ev_in (m := sMut i f e env w.s) r h (fun c s q => by simp only [sMut, il, q, if_true]) (fun q => by simp only [sMut, il, q, if_true]) fun d s' w' v q h1 h2 h3 h4 => ?_
    obtain ⟨r1, o1⟩ := h4.fz
    have r' := r.ev r1 h3 h2
    simp only [sMut, il, q, if_true] at h
    cases ef : f s' (fz d) with
    | none => simp only [ef] at h; exact h.elim
    | some hh =>
      cases em : mutL i hh env s' with
      | none => simp only [ef, em] at h; exact h.elim
      | some z =>
        obtain ⟨env', s2⟩ := z
        simp only [ef, em] at h
        rw [← h1] at em ef
        obtain ⟨p', xs, ys, vs', k1, k2, k3, k4, k5⟩ := mutL_ok r' em
        rw [e1] at k1
        cases k1
        refine hr w' (fz d) v hh p xs ys vs' _ r1 o1 ef k2 k3 k4 fun us hu => ?_
        obtain ⟨w2, a1, a2, a3, a4⟩ := k5 us hu
        rw [← a2]
        exact h w2 σ a1 a3 ((Xs.ev h3).trans r r1 a4)
theorem rd_app (w : Wd) (d : D) (v : V) (hh : List D → Option (List D)) (p : Addr) (xs ys : List D) (vs : List V) (Q : VK) (r : Rst g w) (po : Po g w d v) (e : gApp w.s d = some hh) (hp : w.H p = some (.lst vs)) (hx : RvL g w xs vs) (hy : hh xs = some ys)
    (q : ∀ us, RvL g w ys us → Q .non (L2.upd w.H p (.lst us))) : rAppend (.ref p) [v] w.H Q := by
  unfold gApp at e
  cases es : snk d with
  | none => rw [es] at e; cases e
  | some d' =>
    rw [es] at e
    cases e
    unfold fApp at hy
    split at hy
    · rename_i hl
      cases hy
      have rv : Rv g w d' v := by
        cases d with
        | own o => cases es
        | bor o => cases es
        | exn => cases es
        | _ => cases es; exact po
      exact ⟨p, vs, v, rfl, rfl, hp, by rw [hx.length, sizeLine_eq]; exact hl, q _ (hx.app (RvL.one rv))⟩
    · cases hy
theorem rd_ext (w : Wd) (d : D) (v : V) (hh : List D → Option (List D)) (p : Addr) (xs ys : List D) (vs : List V) (Q : VK) (r : Rst g w) (po : Po g w d v) (e : gExt w.s d = some hh) (hp : w.H p = some (.lst vs)) (hx : RvL g w xs vs) (hy : hh xs = some ys)
    (q : ∀ us, RvL g w ys us → Q .non (L2.upd w.H p (.lst us))) : rExtend (.ref p) [v] w.H Q := by
  unfold gExt at e
  split at e
  · rename_i zs ed
    cases e
    unfold fExt at hy
    split at hy
    · rename_i hl
      cases hy
      obtain ⟨b, us, k1, k2, k3⟩ := drM_lst r po ed
      exact ⟨p, b, vs, us, rfl, by rw [k1], hp, k2, by rw [hx.length, k3.length, sizeLine_eq]; exact hl, q _ (hx.app k3)⟩
    · cases hy
  · cases e
theorem sSub_ok {i : Nat} {j e : Ex} (h : tSt g W (sSub i j e) Dn σ H) : tAsg (tEv g W e) (gSub (tVar i) (tEv g W j) rSetL) Dn σ H := by
  obtain ⟨w, env, tb, rfl, r, h⟩ := h
  refine ev_in (m := sSub i j e env w.s) r h (fun c s q => by simp only [sSub, q]) (fun q => by simp only [sSub, q]) fun d s1 w1 v q h1 h2 h3 h4 => ?_
  obtain ⟨r1, o1⟩ := h4.fz
  have rm1 := r.ev r1 h3 h2
  cases es : snk (fz d) with
  | none => simp only [sSub, q, es] at h; exact h.elim
  | some d' =>
    have rd := snk_ok o1 es
    have p1 := h.next r r1 (Xs.ev h3)
    cases il : isL i env s1 with
    | false => simp only [sSub, q, es, il] at h; exact h.elim
    | true =>
      obtain ⟨p, vs0, e1, _⟩ := isL_ok rm1 (by rw [h1]; exact il)
      refine ⟨.ref p, e1, ?_⟩
      refine ev_in (m := sSub i j e env w.s) rm1 p1 (fun c s k => by rw [h1] at k; simp only [sSub, q, es, il, k, if_true]) (fun k => by rw [h1] at k; simp only [sSub, q, es, il, k, if_true]) fun x s2 w2 u k k1 k2 k3 k4 => ?_
      rw [h1] at k
      have r2 := k4.rst
      have rm2 := rm1.ev r2 k3 k2
      have rd2 := Rv.mono (Cy.of r1 k3 k2) _ _ rd
      simp only [sSub, q, es, il, k, if_true] at p1
      cases x with
      | int n =>
        have ru : Rv g w2 (.int n) u := k4.2
        unfold Rv at ru
        subst ru
        cases em : mutL i (fSetI n d') env s2 with
        | none => simp only [em] at p1; exact p1.elim
        | some z =>
          obtain ⟨env', s3⟩ := z
          simp only [em] at p1
          rw [← k1] at em
          obtain ⟨p', xs, ys, vs, a1, a2, a3, a4, a5⟩ := mutL_ok rm2 em
          rw [e1] at a1
          cases a1
          unfold fSetI at a4
          cases ej : ixN xs.length n with
          | none => rw [ej] at a4; cases a4
          | some jj =>
            rw [ej] at a4
            cases a4
            refine ⟨p, vs, n, jj, rfl, rfl, a2, by rw [a3.length]; exact ej, ?_⟩
            obtain ⟨w3, b1, b2, b3, b4⟩ := a5 (vs.set jj v) (RvL.set rd2 jj a3)
            rw [← b2]
            exact p1 w3 σ b1 b3 ((Xs.ev k3).trans rm1 r2 b4)
      | _ => simp only at p1; exact p1.elim
/-! nothing done -/
theorem Fzo.fz {o : O} {p : Addr} (r : Rst g w) (f : Fzo o) (h : Ro g w p o) (nm : p ∉ w.m) (nT : p ∉ w.T) : Rv g w (Gm.fz (.own o)) (.ref p) := by
  cases o with
  | lst xs =>
    obtain ⟨ys, e1, z⟩ := h
    show Rv g w (.lst xs) (.ref p)
    unfold Rv
    exact ⟨p, ys, rfl, e1, nolive nm, nT, z⟩
  | dK kv =>
    obtain ⟨ys, e1, z⟩ := h
    show Rv g w (.dct kv) (.ref p)
    unfold Rv
    exact ⟨p, ys, rfl, e1, nolive nm, nT, z⟩
  | ins a b => exact f.elim
  | dead => exact f.elim
def Quiet (q : Env → Store → Env × Store) : Prop := ∀ (g : Gc) (tb : List Addr) (w : Wd) (env : Env) (σ : Sl), Rm g tb w env σ → ∃ w', w'.s = (q env w.s).2 ∧ w'.H = w.H ∧ Rm g tb w' (q env w.s).1 σ ∧ Xs w env σ w' (q env w.s).1 σ
theorem fz_no {o : O} (f : Fzo o) : ∀ o', Gm.fz (.own o) ≠ .own o' := by
  intro o'
  cases o with
  | lst xs => exact fun z => nomatch z
  | dK kv => exact fun z => nomatch z
  | ins a b => exact f.elim
  | dead => exact f.elim
theorem ownAt_off {i j : Nat} {p : Addr} {d : D} (hd : ∀ o, d ≠ .own o) (h : OwnAt (env.set i (some d)) σ j p) : j ≠ i ∧ OwnAt env σ j p := by
  obtain ⟨q, a, b⟩ := h
  by_cases e : j = i
  · subst e
    have hl : j < env.length := by
      have := (List.getElem?_eq_some_iff.mp a).1
      rwa [List.length_set] at this
    rw [List.getElem?_set_self hl] at a
    exact absurd (by simpa using a) (hd q)
  · rw [List.getElem?_set_ne (Ne.symm e)] at a
    exact ⟨e, q, a, b⟩
theorem ownAt_on {i j : Nat} {p : Addr} {d : D} (hj : j ≠ i) (h : OwnAt env σ j p) : OwnAt (env.set i (some d)) σ j p := by
  obtain ⟨q, a, b⟩ := h
  exact ⟨q, by rw [List.getElem?_set_ne (Ne.symm hj)]; exact a, b⟩
theorem quiet_fz (i : Nat) : Quiet (gFz i) := by
  intro g tb w env σ r
  unfold gFz
  split
  · rename_i o ei
    obtain ⟨v, a, z⟩ := r.re.sl i _ ei
    obtain ⟨p, rfl, fo, ro, nm, t⟩ := z
    have hd := fz_no fo
    generalize hE : env.set i (some (Gm.fz (.own o))) = env'
    have sub : ∀ q ∈ owns env' σ, q ∈ owns env σ ∧ q ≠ p := fun q hq => by
      rw [← hE] at hq
      obtain ⟨j, hj⟩ := mem_owns.mp hq
      obtain ⟨n, hj⟩ := ownAt_off hd hj
      refine ⟨mem_owns.mpr ⟨j, hj⟩, fun e => n ?_⟩
      subst e
      exact r.inj j i q hj ⟨o, ei, a⟩
    have pT : p ∉ owns env' σ ++ tb := fun hq => by
      rcases List.mem_append.mp hq with z | z
      · exact (sub p z).2 rfl
      · exact r.dj p (mem_owns.mpr ⟨i, o, ei, a⟩) z
    have hT : ∀ q ∈ owns env' σ ++ tb, q ∈ w.T := fun q hq => by
      rcases List.mem_append.mp hq with z | z
      · exact (r.T q).mpr (.inl (sub q z).1)
      · exact (r.T q).mpr (.inr z)
    have c : Cy g [] w (w.wT (owns env' σ ++ tb)) := Cy.sub r.re.st hT
    have r' : Rst g (w.wT (owns env' σ ++ tb)) := r.re.st.inT hT
    refine ⟨w.wT (owns env' σ ++ tb), rfl, rfl, ⟨⟨r', by rw [← hE, List.length_set]; exact r.re.len, fun j d ej => ?_⟩, fun q => List.mem_append, fun x y q hx hy => ?_, fun q hq => r.dj q (sub q hq).1⟩, ⟨⟨⟨[], by simp⟩, fun _ _ e _ _ => e, fun _ h => .inl h, fun _ h => .inl h⟩, fun q hq => .inl (sub q hq).1⟩⟩
    · by_cases e : j = i
      · subst e
        have hl : j < env.length := (List.getElem?_eq_some_iff.mp ei).1
        have ej' := ej
        rw [← hE, List.getElem?_set_self hl] at ej'
        cases ej'
        refine ⟨.ref p, a, ?_⟩
        have k := fo.fz r' (ro.mono c (nolive nm) (by simp)) nm pT
        generalize Gm.fz (.own o) = d' at k hd
        cases d' with
        | own o' => exact absurd rfl (hd o')
        | exn => unfold Rv at k; exact k.elim
        | _ => exact k
      · have ej' := ej
        rw [← hE, List.getElem?_set_ne (Ne.symm e)] at ej'
        obtain ⟨v, k1, k2⟩ := r.re.sl j d ej'
        refine ⟨v, k1, ?_⟩
        cases d with
        | own o2 =>
          obtain ⟨q, rfl, f2, r2, n2, t2⟩ := k2
          exact ⟨q, rfl, f2, r2.mono c (nolive n2) (by simp), n2, List.mem_append.mpr (.inl (mem_owns.mpr ⟨j, o2, ej, k1⟩))⟩
        | bor o => exact Rv.mono c _ _ k2
        | non => exact Rv.mono c _ _ k2
        | bl b => exact Rv.mono c _ _ k2
        | int b => exact Rv.mono c _ _ k2
        | str b => exact Rv.mono c _ _ k2
        | tup b => exact Rv.mono c _ _ k2
        | lst b => exact Rv.mono c _ _ k2
        | scr b => exact Rv.mono c _ _ k2
        | dct b => exact Rv.mono c _ _ k2
        | ref b => exact Rv.mono c _ _ k2
        | exn => exact k2
    · rw [← hE] at hx hy
      exact r.inj x y q (ownAt_off hd hx).2 (ownAt_off hd hy).2
  · exact ⟨w, rfl, rfl, r, Xs.refl⟩
theorem quiet_ad (i : Nat) : Quiet (gAd i) := by
  intro g tb w env σ r
  unfold gAd
  split
  · rename_i o ei
    obtain ⟨v, a, z⟩ := r.re.sl i _ ei
    obtain ⟨p, rfl, fo, ro, nm, t⟩ := z
    have hd : ∀ o', D.ref w.s.length ≠ .own o' := fun o' z => nomatch z
    have nd : o ≠ .dead := fun z => by subst z; exact fo
    generalize hE : env.set i (some (.ref w.s.length)) = env'
    have hp : p ∈ owns env σ := mem_owns.mpr ⟨i, o, ei, a⟩
    have sub : ∀ q ∈ owns env' σ, q ∈ owns env σ ∧ q ≠ p := fun q hq => by
      rw [← hE] at hq
      obtain ⟨j, hj⟩ := mem_owns.mp hq
      obtain ⟨n, hj⟩ := ownAt_off hd hj
      refine ⟨mem_owns.mpr ⟨j, hj⟩, fun e => n ?_⟩
      subst e
      exact r.inj j i q hj ⟨o, ei, a⟩
    generalize hT' : owns env' σ ++ tb = T
    have pT : p ∉ T := fun hq => by
      rw [← hT'] at hq
      rcases List.mem_append.mp hq with z | z
      · exact (sub p z).2 rfl
      · exact r.dj p hp z
    have hT : ∀ q ∈ T, q ∈ w.T := fun q hq => by
      rw [← hT'] at hq
      rcases List.mem_append.mp hq with z | z
      · exact (r.T q).mpr (.inl (sub q z).1)
      · exact (r.T q).mpr (.inr z)
    obtain ⟨w', hw⟩ : ∃ w' : Wd, w' = { m := w.m ++ [p], s := w.s ++ [o], H := w.H, T := T } := ⟨_, rfl⟩
    have wm : w'.m = w.m ++ [p] := by rw [hw]
    have wss : w'.s = w.s ++ [o] := by rw [hw]
    have wH : w'.H = w.H := by rw [hw]
    have wTT : w'.T = T := by rw [hw]
    have len := r.re.st.len
    have getm : ∀ k q, w'.m[k]? = some q → (w.m[k]? = some q) ∨ (k = w.m.length ∧ q = p) := fun k q h => by
      rw [wm] at h
      rcases Nat.lt_or_ge k w.m.length with l | l
      · rw [List.getElem?_append_left l] at h; exact .inl h
      · rw [List.getElem?_append_right l] at h
        have := (List.getElem?_eq_some_iff.mp h).1
        have e : k - w.m.length = 0 := by simp at this; omega
        rw [e] at h
        simp at h
        exact .inr ⟨by omega, h.symm⟩
    have ext : Ext (owns env σ) w w' := by
      refine ⟨⟨[p], wm⟩, fun q x e _ _ => by rw [wH]; exact e, fun q l => ?_, fun q l => ?_⟩
      · obtain ⟨k, x, h1, h2, h3⟩ := l
        rcases getm k q h1 with z | ⟨_, z⟩
        · refine .inl ⟨k, x, z, ?_, h3⟩
          rw [wss, List.getElem?_append_left (by rw [← len]; exact (List.getElem?_eq_some_iff.mp z).1)] at h2
          exact h2
        · subst z; exact .inr (.inr hp)
      · rw [wm] at l
        rcases List.mem_append.mp l with z | z
        · exact .inl z
        · rw [List.mem_singleton.mp z]; exact .inr (.inr hp)
    have c : Cy g (owns env σ) w w' := ⟨r.re.st, ext, fun q h => (r.own h).1, fun q h => (r.own h).2, fun q h => .inl (hT q (by rw [← wTT]; exact h))⟩
    have r' : Rst g w' := by
      refine ⟨by rw [wm, wss, List.length_append, List.length_append, len]; rfl, ?_, fun q hq => ?_, fun k q x h1 h2 => ?_⟩
      · rw [wm, List.nodup_append]
        refine ⟨r.re.st.nd, by simp, fun x hx y hy => ?_⟩
        rw [List.mem_singleton.mp hy]
        exact fun e => nm (by rw [← e]; exact hx)
      · rw [wTT] at hq
        obtain ⟨n1, n2⟩ := r.re.st.tt q (hT q hq)
        refine ⟨fun h => ?_, by rw [wH]; exact n2⟩
        rw [wm] at h
        rcases List.mem_append.mp h with z | z
        · exact n1 z
        · rw [List.mem_singleton.mp z] at hq; exact pT hq
      · rcases getm k q h1 with z | ⟨z1, z⟩
        · have h2' : w.s[k]? = some x := by
            rw [wss, List.getElem?_append_left (by rw [← len]; exact (List.getElem?_eq_some_iff.mp z).1)] at h2
            exact h2
          exact (r.re.st.ce k q x z h2').same c (by rw [wH])
        · have h2' : x = o := by
            rw [wss, List.getElem?_append_right (by omega), z1, len] at h2
            simpa using h2.symm
          rw [h2', z]
          exact ro.same c (by rw [wH])
    refine ⟨w', wss, wH, ⟨⟨r', by rw [← hE, List.length_set]; exact r.re.len, fun j d ej => ?_⟩, fun q => by rw [wTT, ← hT', List.mem_append], fun x y q hx hy => ?_, fun q hq => r.dj q (sub q hq).1⟩, ⟨ext, fun q hq => .inl (sub q hq).1⟩⟩
    · by_cases e : j = i
      · subst e
        have hl : j < env.length := (List.getElem?_eq_some_iff.mp ei).1
        rw [← hE, List.getElem?_set_self hl] at ej
        cases ej
        refine ⟨.ref p, a, ?_⟩
        show Rv g w' (.ref w.s.length) (.ref p)
        unfold Rv
        exact ⟨p, rfl, by rw [wm, ← len, List.getElem?_append_right (Nat.le_refl _)]; simp⟩
      · have ej' := ej
        rw [← hE, List.getElem?_set_ne (Ne.symm e)] at ej'
        obtain ⟨v, k1, k2⟩ := r.re.sl j d ej'
        refine ⟨v, k1, ?_⟩
        cases d with
        | own o2 =>
          obtain ⟨q, rfl, f2, r2, n2, t2⟩ := k2
          have hq : q ∈ owns env' σ := mem_owns.mpr ⟨j, o2, ej, k1⟩
          refine ⟨q, rfl, f2, r2.same c (by rw [wH]), fun h => ?_, by rw [wTT, ← hT', List.mem_append]; exact .inl hq⟩
          rw [wm] at h
          rcases List.mem_append.mp h with z | z
          · exact n2 z
          · exact (sub q hq).2 (List.mem_singleton.mp z)
        | bor o => exact Rv.mono c _ _ k2
        | non => exact Rv.mono c _ _ k2
        | bl b => exact Rv.mono c _ _ k2
        | int b => exact Rv.mono c _ _ k2
        | str b => exact Rv.mono c _ _ k2
        | tup b => exact Rv.mono c _ _ k2
        | lst b => exact Rv.mono c _ _ k2
        | scr b => exact Rv.mono c _ _ k2
        | dct b => exact Rv.mono c _ _ k2
        | ref b => exact Rv.mono c _ _ k2
        | exn => exact k2
    · rw [← hE] at hx hy
      exact r.inj x y q (ownAt_off hd hx).2 (ownAt_off hd hy).2
  · exact ⟨w, rfl, rfl, r, Xs.refl⟩
theorem sPre_ok {q : Env → Store → Env × Store} {m : Sx} (hq : Quiet q) (h : tSt g W (sPre q m) Dn σ H) : tSt g W m Dn σ H := by
  obtain ⟨w, env, tb, rfl, r, h⟩ := h
  obtain ⟨w', e1, e2, r', x'⟩ := hq g tb w env σ r
  refine ⟨w', (q env w.s).1, tb, e2, r', ?_⟩
  rw [e1]
  exact h.next r r'.re.st x'
end
section
variable {X : Cx} {A : Ga} {W : WX} {a b c e : Expr} {es : List Expr} {ma mb : Ex} {mt mu : Tx} {st : Stmt} {ss : List Stmt} {m : Sx} {mr : Ax} {pos p apos : Pos} {x : Str}
theorem ms_pre {q : Env → Store → Env × Store} (hq : Quiet q) (h : MS X A W st m) : MS X A W st (sPre q m) := psW h fun _ _ _ h => sPre_ok hq h
theorem ms_app (i : Nat) {cpos : Pos} (h : ME X A W e ma) (hN : X.N[i]? = some x := by rfl) (hv : Vis X.env.scope x := by first | exact Or.inl rfl | exact Or.inr (Or.inl rfl) | exact Or.inr (Or.inr rfl)) (hd : (x == ("__debug__" : Str)) = false := by decide)
    (hcd : (x == ("__classdict__" : Str)) = false := by decide)
    (hbase : attributeBase (.Name x p) "append" X.env (eval (.Name x p) X.env) = eval (.Name x p) X.env := by rfl)
    (hfew : ((backTo cpos (starEach [e] X.env)).all (fun x => !x.1) && (backToKw cpos (keywordEach [] X.env)).all (fun x => x.1.isSome)
      && decide ([e].length + ([] : List Keyword).length + (if ([] : List Keyword).isEmpty then 0 else 1) < 30)) = true := by rfl)
    (hline : (apos.endLine == cpos.line) = true := by rfl) (hs : starEach [e] X.env = (false, eval e X.env) :: starEach [] X.env := by rfl) (hplain : (backTo cpos (starEach [] X.env)).any (·.1) = false := by rfl)
    (hs2 : swapsWith (.Call (.Attribute (.Name x p) "append" apos) [e] [] cpos) none pos.line X.env = pure false := by rfl) :
    MS X A W (.Expr (.Call (.Attribute (.Name x p) "append" apos) [e] [] cpos) pos) (sMut i gApp ma) :=
  psW (ps_expr (pe_bm PySem.F.plainAttrs_list PySem.F.slot_list_append PySem.F.type_list_append mt_append (pe_var hN hv hd hcd) (pa_cons h pa_nil hs) hbase hfew hline hs hplain) hs2) fun _ _ _ h => sMut_ok rd_app h
theorem ms_ext (i : Nat) {cpos : Pos} (h : ME X A W e ma) (hN : X.N[i]? = some x := by rfl) (hv : Vis X.env.scope x := by first | exact Or.inl rfl | exact Or.inr (Or.inl rfl) | exact Or.inr (Or.inr rfl)) (hd : (x == ("__debug__" : Str)) = false := by decide)
    (hcd : (x == ("__classdict__" : Str)) = false := by decide)
    (hbase : attributeBase (.Name x p) "extend" X.env (eval (.Name x p) X.env) = eval (.Name x p) X.env := by rfl)
    (hfew : ((backTo cpos (starEach [e] X.env)).all (fun x => !x.1) && (backToKw cpos (keywordEach [] X.env)).all (fun x => x.1.isSome)
      && decide ([e].length + ([] : List Keyword).length + (if ([] : List Keyword).isEmpty then 0 else 1) < 30)) = true := by rfl)
    (hline : (apos.endLine == cpos.line) = true := by rfl) (hs : starEach [e] X.env = (false, eval e X.env) :: starEach [] X.env := by rfl) (hplain : (backTo cpos (starEach [] X.env)).any (·.1) = false := by rfl)
    (hs2 : swapsWith (.Call (.Attribute (.Name x p) "extend" apos) [e] [] cpos) none pos.line X.env = pure false := by rfl) :
    MS X A W (.Expr (.Call (.Attribute (.Name x p) "extend" apos) [e] [] cpos) pos) (sMut i gExt ma) :=
  psW (ps_expr (pe_bm PySem.F.plainAttrs_list PySem.F.slot_list_extend PySem.F.type_list_extend mt_extend (pe_var hN hv hd hcd) (pa_cons h pa_nil hs) hbase hfew hline hs hplain) hs2) fun _ _ _ h => sMut_ok rd_ext h
theorem ms_sub (i : Nat) {tpos : Pos} (h : ME X A W e ma) (k : ME X A W a mb) (hN : X.N[i]? = some x := by rfl) (hv : Vis X.env.scope x := by first | exact Or.inl rfl | exact Or.inr (Or.inl rfl) | exact Or.inr (Or.inr rfl)) (hd : (x == ("__debug__" : Str)) = false := by decide)
    (hcd : (x == ("__classdict__" : Str)) = false := by decide)
    (hs : swapsWithSole [.Subscript (.Name x p) a tpos] e pos.line X.env = pure false := by rfl) (hw : swappedStores [.Subscript (.Name x p) a tpos] e X.env = pure none := by rfl)
    (h1 : (assignEach [.Subscript (.Name x p) a tpos] X.env).map (·.2) = [assign (.Subscript (.Name x p) a tpos) X.env] := by rfl) (ha : ∀ v, assign (.Subscript (.Name x p) a tpos) X.env v = (do
      let ov ← holding [v] (eval (.Name x p) X.env)
      let iv ← holding [v, ov] (eval a X.env)
      standAt tpos
      holding [v, ov, iv] (setItem ov iv v)
      release [v, ov, iv] []) := by intro _; rfl) :
    MS X A W (.Assign [.Subscript (.Name x p) a tpos] e pos) (sSub i mb ma) := psW (ps_asg h (pg_sub (pe_var hN hv hd hcd) k set_list ha) hs hw h1) fun _ _ _ h => sSub_ok h
end
end Gm

set_option Elab.async false
set_option linter.all false
set_option maxRecDepth 100000
set_option autoImplicit false
set_option maxHeartbeats 1000000
namespace Gm
open PySem PySem.Spec PyProof.Rows L2
/-! ### comprehensions -/
def wipeE (env : Env) : List Nat → Env
  | [] => env
  | v :: vs => (wipeE env vs).set v none
def Tg.ix : Tg → List Nat
  | .nm i => [i]
  | .tp is => is
def lcX (tg : Tg) (tt : Tx) (el : Ex) (vs : List Nat) (it : Itr) : Nat → Nat → List D → Env → Store → R D
  | 0, _, _, _, _ => .no
  | f + 1, i, acc, env, s => match it.at s i with
    | none => .no
    | some none => .ok (.own (.lst acc)) s
    | some (some d) => match tgE tg d (wipeE env vs) with
      | none => .no
      | some env1 => match tt env1 s with
        | .ok true s1 => (match el env1 s1 with
          | .ok x s2 => (match snk (fz x) with
            | some y => if acc.length < 16777216 then lcX tg tt el vs it f (i + 1) (acc ++ [y]) env s2 else .no
            | none => .no)
          | _ => .no)
        | .ok false s1 => lcX tg tt el vs it f (i + 1) acc env s1
        | _ => .no
def eLc (tg : Tg) (ix : Ix) (tt : Tx) (el : Ex) (vs : List Nat) : Ex := fun env s => match ix env s with
  | .ok it s' => lcX tg tt el vs it (it.fuel s') 0 [] env s'
  | .exc c s' => .exc c s'
  | .no => .no
def tY : Tx := fun _ s => .ok true s
abbrev W0 : WX := fun _ _ _ _ => False
section
variable {g : Gc} {tb : List Addr} {w w' w1 w2 w3 : Wd} {env env' env1 env2 : Env} {σ σ' σ1 σ2 : Sl} {W : WX} {Dn : Ends} {H : Hp}
theorem wipeE_len : ∀ {vs : List Nat}, (wipeE env vs).length = env.length
  | [] => rfl
  | v :: vs => by unfold wipeE; rw [List.length_set]; exact wipeE_len
theorem wipeE_some {i : Nat} {d : D} : ∀ {vs : List Nat}, (wipeE env vs)[i]? = some (some d) → env[i]? = some (some d) ∧ i ∉ vs
  | [], h => ⟨h, by simp⟩
  | v :: vs, h => by
    unfold wipeE at h
    by_cases e : v = i
    · subst e
      rw [List.getElem?_set] at h
      simp at h
    · rw [List.getElem?_set_ne e] at h
      obtain ⟨a, b⟩ := wipeE_some h
      exact ⟨a, fun z => (List.mem_cons.mp z).elim (fun q => e q.symm) b⟩
theorem wipe_in {i : Nat} : ∀ {vs : List Nat}, i ∈ vs → (wipe σ vs)[i]? = if i < σ.length then some none else none
  | v :: vs, h => by
    unfold wipe
    by_cases e : v = i
    · subst e
      rw [List.getElem?_set]
      simp only [if_pos]
      rw [wipe_length]
    · rw [List.getElem?_set_ne e]
      exact wipe_in ((List.mem_cons.mp h).resolve_left fun q => e q.symm)
theorem wipe_ext {vs : List Nat} {σ σ' : Sl} (hl : σ'.length = σ.length) (h : ∀ i, i ∉ vs → σ'[i]? = σ[i]?) : wipe σ' vs = wipe σ vs := by
  apply List.ext_getElem?
  intro i
  by_cases e : i ∈ vs
  · rw [wipe_in e, wipe_in e, hl]
  · rw [wipe_out e, wipe_out e, h i e]
theorem Re.wipe {vs : List Nat} (re : Re g w env σ) : Re g w (wipeE env vs) (L2.wipe σ vs) :=
  ⟨re.st, by rw [wipeE_len, wipe_length]; exact re.len, fun i d e => by
    obtain ⟨a, b⟩ := wipeE_some e
    obtain ⟨v, k1, k2⟩ := re.sl i d a
    exact ⟨v, by rw [wipe_out b]; exact k1, k2⟩⟩
theorem Re.setP {i : Nat} {d : D} {v : V} (re : Re g w env σ) (h : Rv g w d v) : Re g w (env.set i (some d)) (σ.set i (some v)) := by
  refine ⟨re.st, by rw [List.length_set, List.length_set]; exact re.len, fun j d' e => ?_⟩
  by_cases q : j = i
  · subst q
    have hl : j < env.length := by
      have := (List.getElem?_eq_some_iff.mp e).1
      rwa [List.length_set] at this
    rw [List.getElem?_set_self hl] at e
    cases e
    refine ⟨v, by rw [List.getElem?_set_self (re.len ▸ hl)], ?_⟩
    cases d with
    | own o => unfold Rv at h; exact h.elim
    | exn => unfold Rv at h; exact h.elim
    | _ => exact h
  · rw [List.getElem?_set_ne (Ne.symm q)] at e
    obtain ⟨v', a, b⟩ := re.sl j d' e
    exact ⟨v', by rw [List.getElem?_set_ne (Ne.symm q)]; exact a, b⟩
theorem setsR_ok : ∀ (is : List Nat) (ds : List D) (vs : List V) (env env' : Env) (σ : Sl), Re g w env σ → RvL g w ds vs → setsE is ds env = some env' →
    vs.length = is.length ∧ Re g w env' (setsV is vs σ) ∧ (setsV is vs σ).length = σ.length ∧ ∀ j, j ∉ is → (setsV is vs σ)[j]? = σ[j]?
  | [], [], vs, env, env', σ, r, h, e => by
    unfold RvL at h; subst h
    cases e
    exact ⟨rfl, r, rfl, fun _ _ => rfl⟩
  | i :: is, d :: ds, vs, env, env', σ, r, h, e => by
    unfold RvL at h
    obtain ⟨v, t, rfl, h1, h2⟩ := h
    obtain ⟨hl, r2, l2, k2⟩ := setsR_ok is ds t _ env' _ (r.setP (i := i) h1) h2 e
    refine ⟨by simp [hl], r2, by show (setsV is t (σ.set i (some v))).length = _; rw [l2, List.length_set], fun j hj => ?_⟩
    show (setsV is t (σ.set i (some v)))[j]? = _
    rw [k2 j (fun z => hj (List.mem_cons_of_mem _ z)), List.getElem?_set_ne (fun z => hj (by rw [z]; exact List.mem_cons_self))]
  | [], _ :: _, _, _, _, _, _, _, e => by cases e
  | _ :: _, [], _, _, _, _, _, _, e => by cases e
theorem tg_re {tg : Tg} {d : D} {v : V} {Q : Sl → Hp → Prop} (r : Re g w env σ) (h : Rv g w d v) (e : tgE tg d env = some env')
    (k : ∀ σ' : Sl, Re g w env' σ' → σ'.length = σ.length → (∀ j, j ∉ tg.ix → σ'[j]? = σ[j]?) → Q σ' w.H) : tgT g.K tg v σ w.H Q := by
  cases tg with
  | nm i =>
    have e' : env' = env.set i (some d) := by
      cases d with
      | own o => unfold Rv at h; exact h.elim
      | bor o => unfold Rv at h; exact h.elim
      | exn => unfold Rv at h; exact h.elim
      | _ => simp only [tgE, snk, Option.map_some, Option.some.injEq] at e; exact e.symm
    subst e'
    exact k (σ.set i (some v)) (r.setP h) (by rw [List.length_set]) fun j hj => by rw [List.getElem?_set_ne (fun z => hj (by rw [z]; exact List.mem_cons_self))]
  | tp is =>
    cases d with
    | tup ds =>
      unfold Rv at h
      obtain ⟨p, ys, rfl, hp, hl⟩ := h
      obtain ⟨l, r2, l2, k2⟩ := setsR_ok is ds ys env env' σ r hl e
      exact ⟨p, ys, rfl, hp, l, gNames_ok l (k _ r2 l2 k2)⟩
    | _ => cases e
theorem wipe_idem {vs : List Nat} : wipe (wipe σ vs) vs = wipe σ vs := wipe_ext (wipe_length _ _) fun i h => wipe_out h
theorem lc_ok {tg : Tg} {ix : Ix} {tt : Tx} {el : Ex} {vs : List Nat} {Q : VK} (hv : ∀ i ∈ tg.ix, i ∈ vs) (h : tEv g W (eLc tg ix tt el vs) σ H Q) :
    tLc (tIe g W ix) (tgT g.K tg) (tTe g W0 tt) (tEv g W0 el) vs σ H Q := by
  obtain ⟨w, env, rfl, re, h⟩ := h
  refine ⟨w, env, rfl, re, ?_⟩
  refine Post.step (m' := eLc tg ix tt el vs env w.s) h (fun c s e => by simp only [eLc, e]) (fun e => by simp only [eLc, e]) fun it s1 w1 J ei hs1 ht1 e1 p1 => ?_
  obtain ⟨r1, j1⟩ := p1
  intro A hA
  have em : eLc tg ix tt el vs env w.s = lcX tg tt el vs it (it.fuel s1) 0 [] env s1 := by simp only [eLc, ei]
  rw [em] at h
  generalize hm : lcX tg tt el vs it (it.fuel s1) 0 [] env s1 = m' at h
  have hA0 : w.H A = none := back re.st r1 e1 hA
  have nT : A ∉ w.T := re.st.ntT hA0
  have hT0 : ∀ q ∈ A :: w1.T, q ∈ w1.T ∨ q = A := fun q hq => by
    rcases List.mem_cons.mp hq with e | e
    · exact .inr e
    · exact .inl e
  -- the invariant
  refine ⟨fun i m H => ∃ (w2 : Wd) (acc : List D) (ys : List V), w2.H = H ∧ w2.T = A :: w.T ∧ Re g w2 env σ ∧ ItR g w2 it J ∧ w2.H A = some (.lst ys) ∧ RvL g w2 acc ys ∧ Ext [] w w2 ∧ lcX tg tt el vs it m i acc env w2.s = m', ⟨it.fuel s1, ?_⟩, ?_⟩
  · obtain ⟨w2, hw2⟩ : ∃ w2 : Wd, w2 = { w1 with H := upd w1.H A (.lst []), T := A :: w1.T } := ⟨_, rfl⟩
    have c : Cy g [] w1 w2 := by rw [hw2]; exact new_cy r1 hA hT0
    have r2 : Rst g w2 := by rw [hw2]; exact r1.new hA hT0
    refine ⟨w2, [], [], by rw [hw2], by rw [hw2, ht1], (re.next r1 e1 ht1).mono c r2 (fun p hp => by rw [hw2]; exact List.mem_cons_of_mem _ hp), j1.mono c, by rw [hw2]; exact upd_same, by unfold RvL; rfl, e1.trans c.e, ?_⟩
    rw [show w2.s = s1 by rw [hw2]; exact hs1]
    exact hm
  · rintro i m H ⟨w2, acc, ys, rfl, t2, re2, j2, hA2, ra2, x2, q2⟩
    have At : A ∈ w2.T := by rw [t2]; exact List.mem_cons_self
    have An : A ∉ w2.m := (re2.st.tt A At).1
    cases m with
    | zero => rw [show m' = .no from q2.symm] at h; exact h.elim
    | succ m =>
      cases ea : it.at w2.s i with
      | none => simp only [lcX, ea] at q2; rw [← q2] at h; exact h.elim
      | some o =>
        cases o with
        | none =>
          simp only [lcX, ea] at q2
          rw [← q2] at h
          refine .inl ⟨j2.stop re2.st ea, ?_⟩
          refine h (w2.wT w.T) (.ref A) rfl rfl ⟨x2.pre, x2.keep, x2.new, x2.nm⟩ ⟨A, rfl, hA0, nT, trivial, ?_, ?_⟩
          · have : ({ w2.wT w.T with T := A :: (w2.wT w.T).T } : Wd) = w2 := by
              show ({ w2 with T := A :: w.T } : Wd) = w2
              rw [← t2]
            rw [this]; exact re2.st
          · have : ({ w2.wT w.T with T := A :: (w2.wT w.T).T } : Wd) = w2 := by
              show ({ w2 with T := A :: w.T } : Wd) = w2
              rw [← t2]
            rw [this]; exact ⟨ys, hA2, ra2⟩
        | some d =>
          obtain ⟨g1, g2⟩ := j2.go re2.st ea
          refine .inr ⟨g1, fun H => ∃ (w2 : Wd) (acc : List D) (ys : List V), w2.H = H ∧ w2.T = A :: w.T ∧ Re g w2 env σ ∧ ItR g w2 it J ∧ w2.H A = some (.lst ys) ∧ RvL g w2 acc ys ∧ Ext [] w w2 ∧ lcX tg tt el vs it m (i + 1) acc env w2.s = m', fun H' z => ⟨m, Nat.lt_succ_self m, z⟩, fun x H' y => ?_⟩
          obtain ⟨rfl, rv⟩ := g2 x H' y
          cases et : tgE tg d (wipeE env vs) with
          | none => simp only [lcX, ea, et] at q2; rw [← q2] at h; exact h.elim
          | some env1 =>
            refine tg_re (re2.wipe (vs := vs)) rv et fun σ2 reb l2 k2 => ⟨?_, ?_⟩
            · rw [← wipe_idem (σ := σ)]
              exact wipe_ext l2 fun j hj => k2 j fun z => hj (hv j z)
            · refine ⟨w2, env1, rfl, reb, ?_⟩
              cases eb : tt env1 w2.s with
              | no => simp only [lcX, ea, et, eb] at q2; rw [← q2] at h; exact h.elim
              | exc c s' => simp only [lcX, ea, et, eb] at q2; rw [← q2] at h; exact h.elim
              | ok b s3 =>
                intro w3 b' hs3 ht3 e3 p3
                obtain ⟨r3, rfl⟩ := p3
                have re3 := re2.next r3 e3 ht3
                have c3 := Cy.of re2.st e3 ht3
                have hA3 : w3.H A = some (.lst ys) := e3.keep A _ hA2 (nolive An) (by simp)
                cases b with
                | false =>
                  simp only [lcX, ea, et, eb] at q2
                  exact iteF ⟨w3, acc, ys, rfl, ht3.trans t2, re3, j2.mono c3, hA3, RvL.mono c3 _ _ ra2, x2.trans e3, by rw [hs3]; exact q2⟩
                | true =>
                  refine iteT ⟨w3, env1, rfl, reb.next r3 e3 ht3, ?_⟩
                  cases ee : el env1 w3.s with
                  | no => rw [hs3] at ee; simp only [lcX, ea, et, eb, ee] at q2; rw [← q2] at h; exact h.elim
                  | exc c s' => rw [hs3] at ee; simp only [lcX, ea, et, eb, ee] at q2; rw [← q2] at h; exact h.elim
                  | ok x4 s4 =>
                    intro w4 v4 hs4 ht4 e4 p4
                    rw [hs3] at ee
                    obtain ⟨r4, o4⟩ := p4.fz
                    cases es : snk (fz x4) with
                    | none => simp only [lcX, ea, et, eb, ee, es] at q2; rw [← q2] at h; exact h.elim
                    | some y4 =>
                      have rd := snk_ok o4 es
                      have An3 : A ∉ w3.m := e3.out ⟨_, hA2⟩ An
                      have hA4 : w4.H A = some (.lst ys) := e4.keep A _ hA3 (nolive An3) (by simp)
                      have c4 := Cy.of r3 e4 ht4
                      simp only [lcX, ea, et, eb, ee, es] at q2
                      split at q2
                      · rename_i hl
                        have ra4 := RvL.mono c4 _ _ (RvL.mono c3 _ _ ra2)
                        have t4 : w4.T = A :: w.T := ht4.trans (ht3.trans t2)
                        have cw : Cy g [A] w4 (w4.wr A (.lst (ys ++ [v4]))) := wr_cy r4 (by rw [hA4]; trivial) (by rw [t4]; exact List.mem_cons_self)
                        have rw' : Rst g (w4.wr A (.lst (ys ++ [v4]))) := wr_rst r4 (by rw [hA4]; trivial) (by rw [t4]; exact List.mem_cons_self)
                        have x4' := (x2.trans e3).trans e4
                        have re4 := re3.next r4 e4 ht4
                        have ownne : ∀ (j : Nat) (o : O) (q : Addr), env[j]? = some (some (.own o)) → σ[j]? = some (some (.ref q)) → q ≠ A := fun j o q a b z => by
                          obtain ⟨v, k1, k2⟩ := re.sl j _ a
                          rw [b] at k1; cases k1
                          obtain ⟨p', z1, _, ro, _⟩ := k2
                          cases z1
                          obtain ⟨u, zu⟩ := ro.trk
                          rw [z, hA0] at zu; cases zu
                        refine ⟨ys, hA4, by rw [ra4.length, sizeLine_eq]; exact hl, w4.wr A (.lst (ys ++ [v4])), acc ++ [y4], ys ++ [v4], rfl, t4, ⟨rw', re4.len, fun j d' ej => ?_⟩, ((j2.mono c3).mono c4).mono cw, upd_same, RvL.mono cw _ _ (ra4.app (RvL.one rd)), ?_, by show lcX tg tt el vs it m (i + 1) (acc ++ [y4]) env w4.s = m'; rw [hs4]; exact q2⟩
                        · obtain ⟨v, k1, k2⟩ := re4.sl j d' ej
                          refine ⟨v, k1, ?_⟩
                          cases d' with
                          | own o2 =>
                            obtain ⟨q, rfl, f2, rr2, n2, tt2⟩ := k2
                            refine ⟨q, rfl, f2, rr2.same cw ?_, n2, tt2⟩
                            show upd w4.H A _ q = w4.H q
                            exact upd_ne (ownne j o2 q ej k1)
                          | bor o => exact Rv.mono cw _ _ k2
                          | non => exact Rv.mono cw _ _ k2
                          | bl b => exact Rv.mono cw _ _ k2
                          | int b => exact Rv.mono cw _ _ k2
                          | str b => exact Rv.mono cw _ _ k2
                          | tup b => exact Rv.mono cw _ _ k2
                          | lst b => exact Rv.mono cw _ _ k2
                          | scr b => exact Rv.mono cw _ _ k2
                          | dct b => exact Rv.mono cw _ _ k2
                          | ref b => exact Rv.mono cw _ _ k2
                          | exn => exact k2
                        · refine ⟨x4'.pre, fun p o hp nl nx => ?_, x4'.new, x4'.nm⟩
                          show upd w4.H A _ p = some o
                          rw [upd_ne fun z => by rw [z, hA0] at hp; cases hp]
                          exact x4'.keep p o hp nl nx
                      · rw [← q2] at h; exact h.elim
theorem tY_ok {Q : Bool → Hp → Prop} (h : tTe g W tY σ H Q) : tYes σ H Q := by
  obtain ⟨w, env, rfl, re, h⟩ := h
  exact h w true rfl rfl Ext.refl ⟨re.st, rfl⟩
end
section
variable {X : Cx} {A : Ga} {W : WX} {elt tx iter c : Expr} {ifs : List Expr} {me : Ex} {mt : Tx} {mi : Ix} {tg : Tg} {pos spos : Pos} {scope : Scope} {own : List (Str × Nat)}
abbrev MPt (X : Cx) (A : Ga) (W : WX) (ifs : List Expr) (m : Tx) : Prop := PTs X ifs (tTe (gx X A) W m)
theorem mpt_nil : MPt X A W [] tY := ⟨fun pins s σ H Q I h => pts_nil.run pins s σ H Q I (tY_ok h)⟩
theorem mpt_one (h : MT X A W c mt) : MPt X A W [c] mt := pts_one h
theorem me_lc (hc : X.calm = true) (hN : X.N.Nodup) (hi : MI X A W tx iter mi) (ok : BlkOk X.N X.env.scope scope own) {vs : List Nat} (hvs : own.map (·.2) = vs) (hv : ∀ i ∈ tg.ix, i ∈ vs)
    (hg : ∀ (s : Shared) (H : Hp) (C : Addr) (cl : List (Str × Addr)) (fp : List Addr), MG (X.blk s H scope (compEnvC scope cl C X.env) fp) tx tg) (ht : ∀ (s : Shared) (H : Hp) (C : Addr) (cl : List (Str × Addr)) (fp : List Addr), MPt (X.blk s H scope (compEnvC scope cl C X.env) fp) A W0 ifs mt)
    (he : ∀ (s : Shared) (H : Hp) (C : Addr) (cl : List (Str × Addr)) (fp : List Addr), Takes (X.blk s H scope (compEnvC scope cl C X.env) fp) W0 → ME (X.blk s H scope (compEnvC scope cl C X.env) fp) A W0 elt me) (hs : ∀ x, foldedSetIterable iter X.env x = pure x := by intro _; rfl) :
    ME X A W (.ListComp elt [⟨tx, iter, ifs, 0⟩] scope pos) (eLc tg mi mt me vs) :=
  peW (pe_lc hc hN hi ok hg ht (fun s H C cl fp => he s H C cl fp takes0) hs) fun _ _ _ h => lc_ok (by rw [hvs]; exact hv) (by rw [hvs]; exact h)
theorem ms_setLc {i : Nat} {y : Str} {py : Pos} (hc : X.calm = true) (hN : X.N.Nodup) (hy : X.N[i]? = some y) (hyl : X.env.scope.names.lookup y = some .local)
    (hsw : swapsWith (.ListComp elt [⟨tx, iter, ifs, 0⟩] scope pos) (some (.Name y py)) spos.line X.env = pure true) (hi : MI X A W tx iter mi) (ok : BlkOk X.N X.env.scope scope own) {vs : List Nat} (hvs : own.map (·.2) = vs) (hv : ∀ i ∈ tg.ix, i ∈ vs)
    (hg : ∀ (s : Shared) (H : Hp) (C : Addr) (cl : List (Str × Addr)) (fp : List Addr), MG (X.blk s H scope (compEnvC scope cl C X.env) fp) tx tg) (ht : ∀ (s : Shared) (H : Hp) (C : Addr) (cl : List (Str × Addr)) (fp : List Addr), MPt (X.blk s H scope (compEnvC scope cl C X.env) fp) A W0 ifs mt)
    (he : ∀ (s : Shared) (H : Hp) (C : Addr) (cl : List (Str × Addr)) (fp : List Addr), Takes (X.blk s H scope (compEnvC scope cl C X.env) fp) W0 → ME (X.blk s H scope (compEnvC scope cl C X.env) fp) A W0 elt me) (hs : ∀ x, foldedSetIterable iter X.env x = pure x := by intro _; rfl) :
    MS X A W (.Assign [.Name y py] (.ListComp elt [⟨tx, iter, ifs, 0⟩] scope pos) spos) (sSet i (eLc tg mi mt me vs)) :=
  psW (ps_setLc hc hN hy hyl hsw hi ok hg ht (fun s H C cl fp => he s H C cl fp takes0) hs) fun _ _ _ h => lc_ok (by rw [hvs]; exact hv) (by rw [hvs]; exact sSet_ok h)
end
end Gm

set_option Elab.async false
set_option linter.all false
set_option maxRecDepth 100000
set_option autoImplicit false
set_option maxHeartbeats 1000000
namespace Gm
open PySem PySem.Spec PyProof.Rows L2
/-! ### a name that is never changed within -/
def sSetF (i : Nat) (e : Ex) : Sx := fun env s => match e env s with
  | .ok d s' => (match snk (fz d) with
    | some d => .nx (env.set i (some d)) s'
    | none => .no)
  | .exc c s' => .exc c env s'
  | .no => .no
def fIsB : Store → D → D → R D := fun s a b => match a, b with
  | .bl x, .bl y => .ok (.bl (decide (x = y))) s
  | _, _ => .no
def fNotB : Store → D → D → R D := fun s a b => match a, b with
  | .bl x, .bl y => .ok (.bl (!decide (x = y))) s
  | _, _ => .no
def fMax : Store → D → D → R D := fI cT fun i j => .int (if j > i then j else i)
def fMin : Store → D → D → R D := fI cT fun i j => .int (if j < i then j else i)
def fListOf : Store → D → R D := fun s a => match seqD s a with
  | some xs => .ok (.own (.lst xs)) s
  | none => .no
section
variable {g : Gc} {tb : List Addr} {w w' w1 w2 w3 : Wd} {env env' env1 env2 : Env} {σ σ' σ1 σ2 : Sl} {W : WX} {Dn : Ends} {H : Hp}
theorem sSetF_ok {i : Nat} {e : Ex} (h : tSt g W (sSetF i e) Dn σ H) : tAsg (tEv g W e) (gName i) Dn σ H := by
  obtain ⟨w, env, tb, rfl, r, h⟩ := h
  refine ev_in (m := sSetF i e env w.s) r h (fun c s q => by simp only [sSetF, q]) (fun q => by simp only [sSetF, q]) fun d s' w' v q h1 h2 h3 h4 => ?_
  obtain ⟨r1, o1⟩ := h4.fz
  cases es : snk (fz d) with
  | none => simp only [sSetF, q, es] at h; exact h.elim
  | some d' =>
    simp only [sSetF, q, es] at h
    have rd := snk_ok o1 es
    have r' := r.ev r1 h3 h2
    obtain ⟨w2, a, b, r2, x2⟩ := r'.setP (i := i) rd
    show Dn.nx (σ.set i (some v)) w'.H
    rw [← b]
    exact h w2 _ (a.trans h1) r2 ((Xs.ev h3).trans r r1 x2)
theorem po_bl {i : Bool} {x : V} (h : Po g w (.bl i) x) : x = .bl i := by
  have h : Rv g w (.bl i) x := h
  unfold Rv at h; exact h
theorem snd_isB : Snd2 g fIsB rIsB := by
  intro w a b x y Q r pa pb h
  unfold fIsB at h
  split at h
  · exact ⟨_, _, po_bl pa, po_bl pb, h.pure r rv_bl⟩
  · exact h.elim
theorem snd_notB : Snd2 g fNotB rNotB := by
  intro w a b x y Q r pa pb h
  unfold fNotB at h
  split at h
  · exact ⟨_, _, po_bl pa, po_bl pb, h.pure r rv_bl⟩
  · exact h.elim
theorem ne_isB : ∀ s x y k s', fIsB s x y ≠ .exc k s' := by
  intro s x y k s'
  unfold fIsB
  split
  all_goals exact fun z => nomatch z
theorem ne_notB : ∀ s x y k s', fNotB s x y ≠ .exc k s' := by
  intro s x y k s'
  unfold fNotB
  split
  all_goals exact fun z => nomatch z
theorem snd_max : Snd2 g fMax fun x y H Q => ∃ i j, [x, y] = [.int i, .int j] ∧ Q (.int (if j > i then j else i)) H := by
  intro w a b x y Q r pa pb h
  obtain ⟨i, j, h1, h2, h3⟩ := snd_I0 (k := fun i j => .int (if j > i then j else i)) (fun _ _ _ => rv_int) w a b x y Q r pa pb h
  exact ⟨i, j, by rw [h1, h2], h3⟩
theorem snd_min : Snd2 g fMin fun x y H Q => ∃ i j, [x, y] = [.int i, .int j] ∧ Q (.int (if j < i then j else i)) H := by
  intro w a b x y Q r pa pb h
  obtain ⟨i, j, h1, h2, h3⟩ := snd_I0 (k := fun i j => .int (if j < i then j else i)) (fun _ _ _ => rv_int) w a b x y Q r pa pb h
  exact ⟨i, j, by rw [h1, h2], h3⟩
theorem snd_listOf : Snd1 g fListOf fun x H Q => ∃ p ys, [x] = [.ref p] ∧ (SqL g.K H p ys ∨ SqT g.K H p ys) ∧ ∀ l, H l = none → Q (.ref l) (upd H l (.lst ys)) := by
  intro w a x Q r pa h
  unfold fListOf at h
  split at h
  · rename_i xs es
    obtain ⟨p, ys, e1, e2, e3⟩ := seqD_ok r pa es
    subst e1
    exact ⟨p, ys, rfl, e2, fun l hl => h { w with H := upd w.H l (.lst ys) } _ rfl rfl (new_ext hl) (Px.newL r hl e3)⟩
  · exact h.elim
theorem ne_listOf : ∀ s x k s', fListOf s x ≠ .exc k s' := by
  intro s x k s'
  unfold fListOf
  split
  all_goals exact fun z => nomatch z
end
section
variable {X : Cx} {A : Ga} {W : WX} {a b c : Expr} {ma mb : Ex} {mt mu : Tx} {pos p : Pos} {rest : List Expr}
theorem ms_setF (i : Nat) {x : Str} (hN : X.N.Nodup) (h : ME X A W a ma) (hi : X.N[i]? = some x := by rfl) (hx : Loc X.env.scope x := by first | exact Or.inl rfl | exact Or.inr rfl) (hs : swapsWith a (some (.Name x p)) pos.line X.env = pure false := by rfl) (hf : X.fn x = true ∨ X.env.scope.names.lookup x = some .local := by first | exact .inl rfl | exact .inr rfl | assumption) :
    MS X A W (.Assign [.Name x p] a pos) (sSetF i ma) := psW (ps_set hN hi hx h hs hf) fun _ _ _ h => sSetF_ok h
theorem ms_setLcF {elt tx iter : Expr} {ifs : List Expr} {me : Ex} {mi : Ix} {tg : Tg} {spos : Pos} {scope : Scope} {own : List (Str × Nat)} {i : Nat} {y : Str} {py : Pos} (hc : X.calm = true) (hN : X.N.Nodup) (hy : X.N[i]? = some y) (hyl : X.env.scope.names.lookup y = some .local)
    (hsw : swapsWith (.ListComp elt [⟨tx, iter, ifs, 0⟩] scope pos) (some (.Name y py)) spos.line X.env = pure true) (hi : MI X A W tx iter mi) (ok : BlkOk X.N X.env.scope scope own) {vs : List Nat} (hvs : own.map (·.2) = vs) (hv : ∀ i ∈ tg.ix, i ∈ vs)
    (hg : ∀ (s : Shared) (H : Hp) (C : Addr) (cl : List (Str × Addr)) (fp : List Addr), MG (X.blk s H scope (compEnvC scope cl C X.env) fp) tx tg) (ht : ∀ (s : Shared) (H : Hp) (C : Addr) (cl : List (Str × Addr)) (fp : List Addr), MPt (X.blk s H scope (compEnvC scope cl C X.env) fp) A W0 ifs mt)
    (he : ∀ (s : Shared) (H : Hp) (C : Addr) (cl : List (Str × Addr)) (fp : List Addr), Takes (X.blk s H scope (compEnvC scope cl C X.env) fp) W0 → ME (X.blk s H scope (compEnvC scope cl C X.env) fp) A W0 elt me) (hs : ∀ x, foldedSetIterable iter X.env x = pure x := by intro _; rfl) :
    MS X A W (.Assign [.Name y py] (.ListComp elt [⟨tx, iter, ifs, 0⟩] scope pos) spos) (sSetF i (eLc tg mi mt me vs)) :=
  psW (ps_setLc hc hN hy hyl hsw hi ok hg ht (fun s H C cl fp => he s H C cl fp takes0) hs) fun _ _ _ h => lc_ok (by rw [hvs]; exact hv) (by rw [hvs]; exact sSetF_ok h)
/-! the operators -/
theorem me_add (ha : ME X A W a ma) (hb : ME X A W b mb) : ME X A W (.BinOp a .Add b pos) (eOp2 fAdd ma mb) := me_op (op_add.or (op_add_str.or op_cat)) snd_add ne_add ha hb
theorem me_sub (ha : ME X A W a ma) (hb : ME X A W b mb) : ME X A W (.BinOp a .Sub b pos) (eOp2 fSub ma mb) := me_op op_sub (snd_I0 fun _ _ _ => rv_int) ne_I ha hb
theorem me_mul (ha : ME X A W a ma) (hb : ME X A W b mb) : ME X A W (.BinOp a .Mult b pos) (eOp2 fMul ma mb) := me_op (op_mul.or op_rep) snd_mul ne_mul ha hb
theorem me_div (ha : ME X A W a ma) (hb : ME X A W b mb) : ME X A W (.BinOp a .FloorDiv b pos) (eOp2 fDiv ma mb) := me_op op_fdiv (snd_I (fun i j h => by
  simp only [Bool.and_eq_true, decide_eq_true_eq] at h
  exact h) fun _ _ _ => rv_int) ne_I ha hb
theorem me_mod (ha : ME X A W a ma) (hb : ME X A W b mb) : ME X A W (.BinOp a .Mod b pos) (eOp2 fMod ma mb) := me_op op_mod (snd_I (fun i j h => of_decide_eq_true h) fun _ _ _ => rv_int) ne_I ha hb
theorem me_pow (ha : ME X A W a ma) (hb : ME X A W b mb) : ME X A W (.BinOp a .Pow b pos) (eOp2 fPow ma mb) := me_op op_pow (snd_I (fun i j h => by
  simp only [Bool.and_eq_true, decide_eq_true_eq] at h
  exact ⟨h.1.1, h.1.2, h.2⟩) fun _ _ _ => rv_int) ne_I ha hb
theorem me_neg (ha : ME X A W a ma) : ME X A W (.UnaryOp .USub a pos) (eOp1 fNeg ma) := me_un un_neg snd_neg ne_neg ha
theorem me_lt (ha : ME X A W a ma) (hb : ME X A W b mb) : ME X A W (.Compare a [.Lt] [b] pos) (eOp2 fLt ma mb) := me_cmp op_lt (snd_I0 fun _ _ _ => rv_bl) ne_I (nomark _) ha hb
theorem me_le (ha : ME X A W a ma) (hb : ME X A W b mb) : ME X A W (.Compare a [.LtE] [b] pos) (eOp2 fLe ma mb) := me_cmp op_le (snd_I0 fun _ _ _ => rv_bl) ne_I (nomark _) ha hb
theorem me_gt (ha : ME X A W a ma) (hb : ME X A W b mb) : ME X A W (.Compare a [.Gt] [b] pos) (eOp2 fGt ma mb) := me_cmp op_gt (snd_I0 fun _ _ _ => rv_bl) ne_I (nomark _) ha hb
theorem me_ge (ha : ME X A W a ma) (hb : ME X A W b mb) : ME X A W (.Compare a [.GtE] [b] pos) (eOp2 fGe ma mb) := me_cmp op_ge (snd_I0 fun _ _ _ => rv_bl) ne_I (nomark _) ha hb
theorem me_eq (hu : X.A.units + 64 < cLine) (ha : ME X A W a ma) (hb : ME X A W b mb) : ME X A W (.Compare a [.Eq] [b] pos) (eOp2 fEq ma mb) := me_cmp (op_eqD hu) snd_eq ne_eq (nomark _) ha hb
theorem me_ne (hu : X.A.units + 64 < cLine) (ha : ME X A W a ma) (hb : ME X A W b mb) : ME X A W (.Compare a [.NotEq] [b] pos) (eOp2 fNe ma mb) := me_cmp (op_neD hu) snd_ne ne_ne (nomark _) ha hb
theorem me_in (ha : ME X A W a ma) (hb : ME X A W b mb) (hm : behindInMarks .In b = false := by rfl) : ME X A W (.Compare a [.In] [b] pos) (eOp2 (fIn false) ma mb) := me_cmp op_in_seq snd_in ne_in hm ha hb
theorem me_notIn (ha : ME X A W a ma) (hb : ME X A W b mb) (hm : behindInMarks .NotIn b = false := by rfl) : ME X A W (.Compare a [.NotIn] [b] pos) (eOp2 (fIn true) ma mb) := me_cmp op_notIn_seq snd_in ne_in hm ha hb
theorem me_isN (ha : ME X A W a ma) (hb : ME X A W b mb) : ME X A W (.Compare a [.Is] [b] pos) (eOp2 fIsN ma mb) := me_cmp op_isN snd_isN ne_isN (nomark _) ha hb
theorem me_notN (ha : ME X A W a ma) (hb : ME X A W b mb) : ME X A W (.Compare a [.IsNot] [b] pos) (eOp2 fNotN ma mb) := me_cmp op_notN snd_notN ne_notN (nomark _) ha hb
theorem me_isB (ha : ME X A W a ma) (hb : ME X A W b mb) : ME X A W (.Compare a [.Is] [b] pos) (eOp2 fIsB ma mb) := me_cmp op_isBl snd_isB ne_isB (nomark _) ha hb
theorem me_notB (ha : ME X A W a ma) (hb : ME X A W b mb) : ME X A W (.Compare a [.IsNot] [b] pos) (eOp2 fNotB ma mb) := me_cmp op_notBl snd_notB ne_notB (nomark _) ha hb
theorem mt_lt (ha : ME X A W a ma) (hb : ME X A W b mb) : MT X A W (.Compare a [.Lt] [b] pos) (tq (eOp2 fLt ma mb)) := mt_cmp op_lt (snd_I0 fun _ _ _ => rv_bl) ne_I (nomark _) ha hb
theorem mt_le (ha : ME X A W a ma) (hb : ME X A W b mb) : MT X A W (.Compare a [.LtE] [b] pos) (tq (eOp2 fLe ma mb)) := mt_cmp op_le (snd_I0 fun _ _ _ => rv_bl) ne_I (nomark _) ha hb
theorem mt_gt (ha : ME X A W a ma) (hb : ME X A W b mb) : MT X A W (.Compare a [.Gt] [b] pos) (tq (eOp2 fGt ma mb)) := mt_cmp op_gt (snd_I0 fun _ _ _ => rv_bl) ne_I (nomark _) ha hb
theorem mt_ge (ha : ME X A W a ma) (hb : ME X A W b mb) : MT X A W (.Compare a [.GtE] [b] pos) (tq (eOp2 fGe ma mb)) := mt_cmp op_ge (snd_I0 fun _ _ _ => rv_bl) ne_I (nomark _) ha hb
theorem mt_eq (hu : X.A.units + 64 < cLine) (ha : ME X A W a ma) (hb : ME X A W b mb) : MT X A W (.Compare a [.Eq] [b] pos) (tq (eOp2 fEq ma mb)) := mt_cmp (op_eqD hu) snd_eq ne_eq (nomark _) ha hb
theorem mt_ne (hu : X.A.units + 64 < cLine) (ha : ME X A W a ma) (hb : ME X A W b mb) : MT X A W (.Compare a [.NotEq] [b] pos) (tq (eOp2 fNe ma mb)) := mt_cmp (op_neD hu) snd_ne ne_ne (nomark _) ha hb
theorem mt_in (ha : ME X A W a ma) (hb : ME X A W b mb) (hm : behindInMarks .In b = false := by rfl) : MT X A W (.Compare a [.In] [b] pos) (tq (eOp2 (fIn false) ma mb)) := mt_cmp op_in_seq snd_in ne_in hm ha hb
theorem mt_notIn (ha : ME X A W a ma) (hb : ME X A W b mb) (hm : behindInMarks .NotIn b = false := by rfl) : MT X A W (.Compare a [.NotIn] [b] pos) (tq (eOp2 (fIn true) ma mb)) := mt_cmp op_notIn_seq snd_in ne_in hm ha hb
theorem mt_isN (ha : ME X A W a ma) (hb : ME X A W b mb) : MT X A W (.Compare a [.Is] [b] pos) (tq (eOp2 fIsN ma mb)) := mt_cmp op_isN snd_isN ne_isN (nomark _) ha hb
theorem mt_notN (ha : ME X A W a ma) (hb : ME X A W b mb) : MT X A W (.Compare a [.IsNot] [b] pos) (tq (eOp2 fNotN ma mb)) := mt_cmp op_notN snd_notN ne_notN (nomark _) ha hb
theorem mt_isB (ha : ME X A W a ma) (hb : ME X A W b mb) : MT X A W (.Compare a [.Is] [b] pos) (tq (eOp2 fIsB ma mb)) := mt_cmp op_isBl snd_isB ne_isB (nomark _) ha hb
theorem mt_notB (ha : ME X A W a ma) (hb : ME X A W b mb) : MT X A W (.Compare a [.IsNot] [b] pos) (tq (eOp2 fNotB ma mb)) := mt_cmp op_notBl snd_notB ne_notB (nomark _) ha hb
theorem me_ix (ha : ME X A W a ma) (hb : ME X A W b mb) (hs : PlainIx b := by exact fun _ _ => rfl) : ME X A W (.Subscript a b pos) (eOp2 fIx ma mb) := me_ix0 ix_seq snd_ix ne_ix hs ha hb
theorem me_len (hg : Gl X "len") (hm : X.mg "len" = none) (h : ME X A W a ma) (hs : starEach [a] X.env = (false, eval a X.env) :: starEach [] X.env := by rfl) (hpl : (backTo pos (starEach [] X.env)).any (·.1) = false := by rfl) : ME X A W (.Call (.Name "len" p) [a] [] pos) (eOp1 fLen ma) :=
  me_call1 call_len snd_len ne_len hg hm boot_len h (by decide) (by decide) hs hpl
theorem me_list (hg : Gl X "list") (hm : X.mg "list" = none) (h : ME X A W a ma) (hs : starEach [a] X.env = (false, eval a X.env) :: starEach [] X.env := by rfl) (hpl : (backTo pos (starEach [] X.env)).any (·.1) = false := by rfl) : ME X A W (.Call (.Name "list" p) [a] [] pos) (eOp1 fListOf ma) :=
  me_callT1 call_list_of snd_listOf ne_listOf hg hm (by decide +kernel) h (by decide) (by decide) hs hpl
theorem me_max (hc : X.calm = true) (hg : Gl X "max") (hm : X.mg "max" = none) (ha : ME X A W a ma) (hb : ME X A W b mb) (hs : starEach [a, b] X.env = (false, eval a X.env) :: starEach [b] X.env := by rfl) (hs2 : starEach [b] X.env = (false, eval b X.env) :: starEach [] X.env := by rfl) (hpl : (backTo pos (starEach [b] X.env)).any (·.1) = false := by rfl) :
    ME X A W (.Call (.Name "max" p) [a, b] [] pos) (eOp2 fMax ma mb) := me_call2 (call_max2 hc) snd_max ne_I hg hm (by decide +kernel) ha hb (by decide) (by decide) hs hs2 hpl
theorem me_min (hc : X.calm = true) (hg : Gl X "min") (hm : X.mg "min" = none) (ha : ME X A W a ma) (hb : ME X A W b mb) (hs : starEach [a, b] X.env = (false, eval a X.env) :: starEach [b] X.env := by rfl) (hs2 : starEach [b] X.env = (false, eval b X.env) :: starEach [] X.env := by rfl) (hpl : (backTo pos (starEach [b] X.env)).any (·.1) = false := by rfl) :
    ME X A W (.Call (.Name "min" p) [a, b] [] pos) (eOp2 fMin ma mb) := me_call2 (call_min2 hc) snd_min ne_I hg hm (by decide +kernel) ha hb (by decide) (by decide) hs hs2 hpl
end
/-! ### the law's entry -/
theorem law_in {K : PySem.W.Frag} {A : Nat → Addr} {F : Fx} {n : Nat} (h : ∀ ns : List Int, ns.length ≤ n → ∃ s', F [.scr ns] [] = .ok (.bl true) s') :
    ∀ (H : Hp) (a : Addr) (ns : List Int), ns.length ≤ n → Only H → SqL K H a (ns.map V.int) → spOf ⟨K, A, none⟩ 1 F [.ref a] H (fun v _ => v = .bl true) fun _ _ _ => False := by
  intro H a ns hl hO hS
  obtain ⟨s', e⟩ := h ns hl
  refine ⟨rfl, ⟨[], [], H, []⟩, [.scr ns], rfl, ⟨rfl, List.nodup_nil, (fun p hp => nomatch hp), (fun n p o h1 _ => nomatch h1)⟩, RvL.one ?_, ?_⟩
  · unfold Rv
    refine ⟨a, rfl, ?_⟩
    rcases hS with (hS | ⟨o, hS⟩) | hS
    · rcases hO a with z | ⟨o, xs, z⟩
      · rw [hS] at z; cases z
      · rw [hS] at z; cases z
    · exact .inl ⟨o, hS⟩
    · exact .inr hS
  · show PostF _ _ _ _ (F [.scr ns] [])
    rw [e]
    intro w' v h1 h2 h3 h4
    have z : Rv ⟨K, A, none⟩ w' (.bl true) v := h4.2
    unfold Rv at z; exact z
theorem walk_w {l : PySem.W.OpenLaw} {n k : Nat} {q : Program} {loose : List Str} {XP : (Str → Option Value) → Heap → Prop} {YP : World → Heap → Prop} {d : DefRec} {CX : World → CXT} {x : Str}
    (hn : l.most = some n) (hn2 : n ≤ sizeLine) (hdf : d.params.defaults = []) (hr : Room k callerA)
    (F : ∀ (w : World) (mg : Str → Option Value) (fa : Addr) (h : Heap), YP w h → h.Ns mainGlobals mg → mg d.name = some (.ref fa) →
      ∃ (K : PySem.W.Frag) (fd : FuncData) (sp : Sp), K.In h ∧ (∀ (s : Shared) (u : Value), BindsTo s fd ⟨[u], []⟩ [(x, u)]) ∧
        (∀ (H : Hp) (a : Addr) (ns : List Int), ns.length ≤ n → Only H → SqL K H a (ns.map V.int) → sp [.ref a] H (fun v _ => v = .bl true) fun _ _ _ => False) ∧
        ∀ base : Heap, K.In base → base.Ns mainGlobals mg → FnOk l.prog w K mg base (CX w) k fa fd [x] sp)
    (hCX : ∀ (w : World) (H : Hp) (s : Shared) (e : Value) (s' : Shared), CX w [] H s (fun _ _ _ => False) e s' → False) :
    PySem.W.WalkO q loose XP YP l.row.toRowW d [] (fun f vs => PySem.call f vs) := by
  refine Att.attach_call hn hdf fun w s₀ s₁ mg mb fa o pm cd doc a vs ns G Y ho hd hcd hmg hobj hints hlen hg => ?_
  obtain ⟨K, fd, sp, KX, hb, hsp, hF⟩ := F w mg fa _ Y G.T.g hmg
  exact law_call KX G.T.g G.T.b G.T.builtins G.T.nolimit hg hobj hints (Nat.le_trans hlen hn2) hr hF hb (fun H hO hS => hsp H a ns hlen hO hS) fun H e s' => hCX w H s₁ e s'
theorem cx_false {P : Program} {w : World} (H : Hp) (s : Shared) (e : Value) (s' : Shared) (h : L2.CX P w [] H s (fun _ _ _ => False) e s') : False := by
  obtain ⟨_, _, _, _, _, _, _, _, _, _, _, _, z⟩ := h
  exact z
end Gm

set_option Elab.async false
set_option linter.all false
set_option maxRecDepth 100000
set_option autoImplicit false
set_option maxHeartbeats 1000000
namespace Gm
open PySem PySem.Spec PyProof.Rows L2
/-! ### a caught error: asked for its kind within the suite -/
def eIsX (l : List Bool) (k i : Nat) : Ex := fun env s => match env[i]?, l[k]? with
  | some (some .exn), some b => .ok (.bl b) s
  | _, _ => .no
def noX (env : Env) : Bool := env.all fun o => match o with
  | some .exn => false
  | _ => true
/-- try: body, except the classes by ct as name i: suite k for an error of the class k -/
def sTryAs (i : Nat) (ct : List Bool) (body : Sx) (suite : Nat → Sx) : Sx := fun env s => match body env s with
  | .exc k env' s' => (match ct[k]? with
    | some true => if noX env' = true then (match suite k (env'.set i (some .exn)) s' with
      | .nx e2 s2 => if noX (e2.set i none) = true then .nx (e2.set i none) s2 else .no
      | .rt d s2 => .rt d s2
      | _ => .no) else .no
    | some false => .exc k env' s'
    | none => .no)
  | r => r
section
variable {g : Gc} {tb : List Addr} {w w' w1 w2 w3 : Wd} {env env' env1 env2 : Env} {σ σ' σ1 σ2 : Sl} {W : WX} {Dn : Ends} {H : Hp} {a : Addr}
/-- the ground within the suite of the error at a -/
abbrev Gc.at (g : Gc) (a : Option Addr) : Gc := ⟨g.K, g.A, a⟩
mutual
theorem Rv.ground {x : Option Addr} : ∀ (d : D) (v : V), Rv g w d v → Rv (g.at x) w d v
  | .non, v, h => by unfold Rv at *; exact h
  | .bl b, v, h => by unfold Rv at *; exact h
  | .int i, v, h => by unfold Rv at *; exact h
  | .str y, v, h => by unfold Rv at *; exact h
  | .tup xs, v, h => by
    unfold Rv at *
    obtain ⟨p, ys, e, q, r⟩ := h
    exact ⟨p, ys, e, q, RvL.ground xs ys r⟩
  | .lst xs, v, h => by
    unfold Rv at *
    obtain ⟨p, ys, e, q, n1, n2, r⟩ := h
    exact ⟨p, ys, e, q, n1, n2, RvL.ground xs ys r⟩
  | .scr ns, v, h => by unfold Rv at *; exact h
  | .dct kv, v, h => by
    unfold Rv at *
    obtain ⟨p, ys, e, q, n1, n2, r⟩ := h
    exact ⟨p, ys, e, q, n1, n2, RvK.ground kv ys r⟩
  | .ref n, v, h => by unfold Rv at *; exact h
  | .own _, v, h => by unfold Rv at h; exact h.elim
  | .bor _, v, h => by unfold Rv at h; exact h.elim
  | .exn, v, h => by unfold Rv at h; exact h.elim
theorem RvL.ground {x : Option Addr} : ∀ (ds : List D) (ys : List V), RvL g w ds ys → RvL (g.at x) w ds ys
  | [], ys, h => by unfold RvL at *; exact h
  | d :: r, ys, h => by
    unfold RvL at *
    obtain ⟨y, t, e, p, q⟩ := h
    exact ⟨y, t, e, Rv.ground d y p, RvL.ground r t q⟩
theorem RvK.ground {x : Option Addr} : ∀ (ds : List (Key × D)) (ys : List (Key × V)), RvK g w ds ys → RvK (g.at x) w ds ys
  | [], ys, h => by unfold RvK at *; exact h
  | (k, d) :: r, ys, h => by
    unfold RvK at *
    obtain ⟨y, t, e, p, q⟩ := h
    exact ⟨y, t, e, Rv.ground d y p, RvK.ground r t q⟩
end
theorem RvF.ground {x : Option Addr} : ∀ (ds : List (Str × D)) (ys : List (Str × V)), RvF g w ds ys → RvF (g.at x) w ds ys
  | [], ys, h => by unfold RvF at *; exact h
  | (k, d) :: r, ys, h => by
    unfold RvF at *
    obtain ⟨y, t, e, p, q⟩ := h
    exact ⟨y, t, e, Rv.ground d y p, RvF.ground r t q⟩
theorem Ro.ground {x : Option Addr} {p : Addr} {o : O} (h : Ro g w p o) : Ro (g.at x) w p o := by
  cases o with
  | lst xs => obtain ⟨ys, e, z⟩ := h; exact ⟨ys, e, RvL.ground _ _ z⟩
  | dK xs => obtain ⟨ys, e, z⟩ := h; exact ⟨ys, e, RvK.ground _ _ z⟩
  | ins c xs => obtain ⟨dx, ys, e, z⟩ := h; exact ⟨dx, ys, e, RvF.ground _ _ z⟩
  | dead => exact h
theorem Rst.ground {x : Option Addr} (r : Rst g w) : Rst (g.at x) w := ⟨r.len, r.nd, r.tt, fun n p o h1 h2 => (r.ce n p o h1 h2).ground⟩
theorem noX_ok (h : noX env = true) (i : Nat) : env[i]? ≠ some (some .exn) := fun e => by
  unfold noX at h
  rw [List.all_eq_true] at h
  have := h _ (List.mem_of_getElem? e)
  cases this
theorem Rm.ground {x : Option Addr} (r : Rm g tb w env σ) (hn : noX env = true) : Rm (g.at x) tb w env σ := by
  refine ⟨⟨r.re.st.ground, r.re.len, fun i d e => ?_⟩, r.T, r.inj, r.dj⟩
  obtain ⟨v, k1, k2⟩ := r.re.sl i d e
  refine ⟨v, k1, ?_⟩
  cases d with
  | own o => obtain ⟨p, e1, f, ro, n, t⟩ := k2; exact ⟨p, e1, f, ro.ground, n, t⟩
  | exn => exact absurd e (noX_ok hn i)
  | bor o => exact Rv.ground _ _ k2
  | non => exact Rv.ground _ _ k2
  | bl b => exact Rv.ground _ _ k2
  | int b => exact Rv.ground _ _ k2
  | str b => exact Rv.ground _ _ k2
  | tup b => exact Rv.ground _ _ k2
  | lst b => exact Rv.ground _ _ k2
  | scr b => exact Rv.ground _ _ k2
  | dct b => exact Rv.ground _ _ k2
  | ref b => exact Rv.ground _ _ k2
theorem Pt.ground {ow : List Addr} {H0 : Hp} {d : D} {v : V} {x : Option Addr} (h : Pt g ow H0 w d v) : Pt (g.at x) ow H0 w d v := by
  cases d with
  | own o => obtain ⟨p, e1, b, n, f, r, ro⟩ := h; exact ⟨p, e1, b, n, f, r.ground, ro.ground⟩
  | _ => exact ⟨h.1.ground, Rv.ground _ _ h.2⟩
/-- a slot is emptied -/
theorem ownAt_del {i j : Nat} {p : Addr} {v : Option V} (h : OwnAt (env.set i none) (σ.set i v) j p) : OwnAt env σ j p := by
  obtain ⟨o, e1, e2⟩ := h
  by_cases q : j = i
  · subst q
    have hl : j < env.length := by
      have := (List.getElem?_eq_some_iff.mp e1).1
      rwa [List.length_set] at this
    rw [List.getElem?_set_self hl] at e1
    cases e1
  · rw [List.getElem?_set_ne (Ne.symm q)] at e1 e2
    exact ⟨o, e1, e2⟩
theorem Rm.del {i : Nat} (r : Rm g tb w env σ) : ∃ w', w'.s = w.s ∧ w'.H = w.H ∧ Rm g tb w' (env.set i none) (σ.set i none) ∧ Xs w env σ w' (env.set i none) (σ.set i none) := by
  generalize hT : owns (env.set i none) (σ.set i none) ++ tb = T
  have mT : ∀ p, p ∈ T ↔ p ∈ owns (env.set i none) (σ.set i none) ∨ p ∈ tb := fun p => by rw [← hT, List.mem_append]
  have so : ∀ p ∈ owns (env.set i none) (σ.set i none), p ∈ owns env σ := fun p hp => by
    obtain ⟨j, hj⟩ := mem_owns.mp hp
    exact mem_owns.mpr ⟨j, ownAt_del hj⟩
  have sub : ∀ p ∈ T, p ∈ w.T := fun p hp => by
    rcases (mT p).mp hp with z | z
    · exact (r.T p).mpr (.inl (so p z))
    · exact (r.T p).mpr (.inr z)
  have c : Cy g [] w (w.wT T) := Cy.sub r.re.st sub
  refine ⟨w.wT T, rfl, rfl, ⟨⟨r.re.st.inT sub, by rw [List.length_set, List.length_set]; exact r.re.len, fun j d e => ?_⟩, mT, fun x y p hx hy => r.inj x y p (ownAt_del hx) (ownAt_del hy), fun p hp => r.dj p (so p hp)⟩, ⟨⟨⟨[], by simp⟩, fun _ _ e _ _ => e, fun _ h => .inl h, fun _ h => .inl h⟩, fun p hp => .inl (so p hp)⟩⟩
  by_cases q : j = i
  · subst q
    have hl : j < env.length := by
      have := (List.getElem?_eq_some_iff.mp e).1
      rwa [List.length_set] at this
    rw [List.getElem?_set_self hl] at e
    cases e
  · have e' := e
    rw [List.getElem?_set_ne (Ne.symm q)] at e'
    obtain ⟨v, k1, k2⟩ := r.re.sl j d e'
    have k1' : (σ.set i none)[j]? = some (some v) := by rw [List.getElem?_set_ne (Ne.symm q)]; exact k1
    refine ⟨v, k1', ?_⟩
    cases d with
    | own o => obtain ⟨p, rfl, f, ro, n, t⟩ := k2; exact ⟨p, rfl, f, ro.mono c (nolive n) (by simp), n, (mT p).mpr (.inl (mem_owns.mpr ⟨j, o, e, k1'⟩))⟩
    | exn => exact k2
    | bor o => exact Rv.mono c _ _ k2
    | non => exact Rv.mono c _ _ k2
    | bl b => exact Rv.mono c _ _ k2
    | int b => exact Rv.mono c _ _ k2
    | str b => exact Rv.mono c _ _ k2
    | tup b => exact Rv.mono c _ _ k2
    | lst b => exact Rv.mono c _ _ k2
    | scr b => exact Rv.mono c _ _ k2
    | dct b => exact Rv.mono c _ _ k2
    | ref b => exact Rv.mono c _ _ k2
/-- the error stands at its name -/
theorem ownAt_exn {i j : Nat} {p : Addr} (h : OwnAt (env.set i (some .exn)) (σ.set i (some (.ref a))) j p) : OwnAt env σ j p := by
  rcases ownAt_set h with ⟨_, ⟨o, e⟩, _⟩ | ⟨_, h⟩
  · cases e
  · exact h
theorem Rm.exn {i : Nat} (r : Rm g tb w env σ) (hx : g.x = some a) : ∃ w', w'.s = w.s ∧ w'.H = w.H ∧ Rm g tb w' (env.set i (some .exn)) (σ.set i (some (.ref a))) ∧ Xs w env σ w' (env.set i (some .exn)) (σ.set i (some (.ref a))) := by
  obtain ⟨x, y⟩ := r.set (i := i) (H0 := w.H) (d := .exn) (v := .ref a) Ext.refl rfl ⟨r.re.st, a, hx, rfl⟩ (fun o z => nomatch z)
  exact ⟨w.wT (owns (env.set i (some .exn)) (σ.set i (some (.ref a))) ++ tb), rfl, rfl, x, y⟩
theorem sTryAs_ok {g0 : Gc} (hg0 : g0.x = none) {K : PySem.W.Frag} {c : Value} {i : Nat} {ct : List Bool} {body : Sx} {suite : Nat → Sx} {Wout : WX} (hct : ∀ k b, ct[k]? = some b → PySem.W.exmOne K (.ref (g0.A k)) c = some b) (h : tSt g0 Wout (sTryAs i ct body suite) Dn σ H) :
    tSt g0 (wAs K c i (fun a cls d => fun D2 σ H => ∃ k, ct[k]? = some true ∧ cls = .ref (g0.A k) ∧ d = none ∧ tSt (g0.at (some a)) W0 (suite k) D2 σ H) Wout Dn) body Dn σ H := by
  obtain ⟨w, env, tb, rfl, r, h⟩ := h
  refine ⟨w, env, tb, rfl, r, ?_⟩
  cases q : body env w.s with
  | nx e s => simp only [sTryAs, q] at h; exact h
  | rt d s => simp only [sTryAs, q] at h; exact h
  | bk e s => simp only [sTryAs, q] at h; exact h
  | ct e s => simp only [sTryAs, q] at h; exact h
  | no => simp only [sTryAs, q] at h; exact h
  | exc k env' s' =>
    intro w1 σ1 h1 r1 x1
    cases ek : ct[k]? with
    | none => simp only [sTryAs, q, ek] at h; exact h.elim
    | some b =>
      refine ⟨b, hct k b ek, fun hb => ?_, fun hb => ?_⟩
      · subst hb
        simp only [sTryAs, q, ek] at h
        split at h
        · rename_i hn
          intro a ha
          refine ⟨k, ek, rfl, rfl, ?_⟩
          have r2 : Rm (g0.at (some a)) tb w1 env' σ1 := r1.ground hn
          obtain ⟨w2, e1, e2, r3, x3⟩ := r2.exn (i := i) (a := a) rfl
          refine ⟨w2, env'.set i (some .exn), tb, e2, r3, ?_⟩
          have x13 := x1.trans r r1.re.st x3
          rw [e1, h1]
          have es : ({ K := g0.K, A := g0.A, x := none } : Gc) = g0 := by cases g0; cases hg0; rfl
          cases qs : suite k (env'.set i (some .exn)) s' with
          | nx e2' s2 =>
            simp only [qs] at h
            split at h
            · rename_i hn2
              intro w4 σ4 h4 r4 x4
              obtain ⟨w5, e3, e4, r5, x5⟩ := r4.del (i := i)
              have r6 : Rm g0 tb w5 (e2'.set i none) (σ4.set i none) := es ▸ (r5.ground (x := none) hn2)
              show Dn.nx (σ4.set i none) w4.H
              rw [← e4]
              have rr3 : Rst g0 w2 := es ▸ r3.re.st.ground (x := none)
              have rr4 : Rst g0 w4 := es ▸ r4.re.st.ground (x := none)
              have t1 : Xs w env σ w4 e2' σ4 := x13.trans r rr3 x4
              exact h w5 _ (e3.trans h4) r6 (t1.trans r rr4 x5)
            · exact h.elim
          | rt d s2 =>
            simp only [qs] at h
            intro w4 v h4 t4 x4 p4
            have rr3 : Rst g0 w2 := es ▸ r3.re.st.ground (x := none)
            refine h w4 v h4 t4 (x13.e.transS x4 x13.ow) ?_
            have p5 : Pt g0 (owns (env'.set i (some D.exn)) (σ1.set i (some (.ref a)))) w2.H w4 d v := by
              have z := p4.ground (x := none)
              exact es ▸ z
            exact p5.imp fun p z => by
              rcases z with z | z
              · exact backS r rr3 x13.e z
              · rcases x13.ow p z with q | q
                · exact .inr q
                · exact .inl q
          | bk e s => simp only [qs] at h; exact h.elim
          | ct e s => simp only [qs] at h; exact h.elim
          | exc k2 e s => simp only [qs] at h; exact h.elim
          | no => simp only [qs] at h; exact h.elim
        · exact h.elim
      · subst hb
        simp only [sTryAs, q, ek] at h
        exact h w1 σ1 h1 r1 x1
end
/-! ### statements within a suite, and the try -/
section
variable {X : Cx} {A : Nat → Addr} {W : WX} {e b : Expr} {pos p p2 pos' np : Pos}
theorem ms_tryAs {x n : Str} {i : Nat} {c : Value} {ct : List Bool} {body suite : List Stmt} {b0 : Stmt} {mb : Sx} {ms : Nat → Sx} (hs : X.stack = X.env :: X.outer) (hf : X.env.frame = some X.env.locals) (hN : X.N.Nodup) (hi : X.N[i]? = some n) (hln : X.env.kindOf n = some .local) (hc : Names X x c) (tk : Takes X W)
    (hct : ∀ k b, ct[k]? = some b → PySem.W.exmOne X.K (.ref (A k)) c = some b)
    (hb : ∀ (W' : WX) (pn : List (Addr × Obj)) (xe : Value → Shared → Prop), Takes (X.tr pn xe) W' → PassesOwn (model X.prog X.w) X.A X.env xe → MSs (X.tr pn xe) ⟨A, none⟩ W' body mb)
    (hsu : ∀ (k : Nat) (_ : ct[k]? = some true) (a : Addr) (oe : Obj) (pn : List (Addr × Obj)), Zc (.ref (A k)) none oe → (∃ vs, oe.data = .fields vs) → MSs (X.suite a ((a, oe) :: pn)) ⟨A, some a⟩ W0 (b0 :: suite) (ms k)) :
    MS X ⟨A, none⟩ W (.Try body [.ExceptHandler (some (.Name x np)) (some n) (b0 :: suite) pos'] [] [] pos) (sTryAs i ct mb ms) :=
  psW (ps_try_as (tb := fun W' => tSt (gx X ⟨A, none⟩) W' mb) (ts := fun a cls d => fun D2 σ H => ∃ k, ct[k]? = some true ∧ cls = .ref (A k) ∧ d = none ∧ tSt ⟨X.K, A, some a⟩ W0 (ms k) D2 σ H) hs hf hN hi hln hc tk hb
    (fun a oe cls d pn hz hfd => ⟨fun pins s σ H D I h => by
      obtain ⟨k, hk, rfl, rfl, h⟩ := h
      exact (hsu k hk a oe pn hz hfd).run pins s σ H D I h⟩)) fun _ _ _ h => sTryAs_ok (g0 := gx X ⟨A, none⟩) rfl hct h
/-- isinstance(e, C), e the caught error, C an own class -/
theorem me_isX {a : Addr} {oe : Obj} {pn : List (Addr × Obj)} {l : List Bool} {k i : Nat} {n x : Str} {C : Addr} (hE : ExcC X.K (A k)) (hz : Zc (.ref (A k)) none oe) (hfd : ∃ vs, oe.data = .fields vs) (hl : ∀ b, l[k]? = some b → PySem.W.kitOne X.K (.ref (A k)) (.ref C) = some b)
    (hN : X.N[i]? = some n) (hv : Vis X.env.scope n) (hg : Gl X "isinstance") (hm : X.mg "isinstance" = none) (hgx : Gl X x) (hmx : X.mg x = some (.ref C)) (hd : (n == ("__debug__" : Str)) = false) (hcd : (n == ("__classdict__" : Str)) = false) (hdx : (x == ("__debug__" : Str)) = false)
    (hs : starEach [.Name n p, .Name x p2] X.env = (false, eval (.Name n p) X.env) :: starEach [.Name x p2] X.env) (hs2 : starEach [.Name x p2] X.env = (false, eval (.Name x p2) X.env) :: starEach [] X.env) (hpl : (backTo pos (starEach [.Name x p2] X.env)).any (·.1) = false) :
    ME (X.suite a ((a, oe) :: pn)) ⟨A, some a⟩ W0 (.Call (.Name "isinstance" np) [.Name n p, .Name x p2] [] pos) (eIsX l k i) :=
  peW (pe_callB (X := X.suite a ((a, oe) :: pn)) (call_isE hE hz hfd) hg hm (by decide +kernel) (pa_cons (pe_var (X := X.suite a ((a, oe) :: pn)) hN hv hd hcd) (pa_cons (pe_glob (X := X.suite a ((a, oe) :: pn)) (v := .ref C) hgx hmx rfl hdx) pa_nil hs2) hs) (by decide) (by decide) hs hpl) fun σ H Q h => by
    obtain ⟨w, env, rfl, re, h⟩ := h
    cases ei : env[i]? with
    | none => simp only [eIsX, ei] at h; exact h.elim
    | some o =>
      cases el : l[k]? with
      | none => simp only [eIsX, ei, el] at h; exact h.elim
      | some b =>
        cases o with
        | none => simp only [eIsX, ei, el] at h; exact h.elim
        | some d =>
          cases d with
          | exn =>
            simp only [eIsX, ei, el] at h
            obtain ⟨v, k1, a', k2, rfl⟩ := re.sl i _ ei
            cases k2
            exact ⟨_, k1, .ref C, .ref C, b, rfl, (fun u r => r), hl b el, h w (.bl b) rfl rfl Ext.refl (.of re.st rv_bl)⟩
          | _ => simp only [eIsX, ei, el] at h; exact h.elim
/-- .. C a built-in class -/
theorem me_isT {a : Addr} {oe : Obj} {pn : List (Addr × Obj)} {l : List Bool} {k i : Nat} {n x : Str} {T : String} (hE : ExcC X.K (A k)) (hz : Zc (.ref (A k)) none oe) (hfd : ∃ vs, oe.data = .fields vs) (hl : ∀ b, l[k]? = some b → PySem.W.kitOne X.K (.ref (A k)) (.type T) = some b)
    (hN : X.N[i]? = some n) (hv : Vis X.env.scope n) (hg : Gl X "isinstance") (hm : X.mg "isinstance" = none) (hgx : Gl X x) (hmx : X.mg x = none) (hvx : bootBuiltins x = some (.type T)) (hnx : x ≠ "__name__") (hd : (n == ("__debug__" : Str)) = false) (hcd : (n == ("__classdict__" : Str)) = false) (hdx : (x == ("__debug__" : Str)) = false)
    (hs : starEach [.Name n p, .Name x p2] X.env = (false, eval (.Name n p) X.env) :: starEach [.Name x p2] X.env) (hs2 : starEach [.Name x p2] X.env = (false, eval (.Name x p2) X.env) :: starEach [] X.env) (hpl : (backTo pos (starEach [.Name x p2] X.env)).any (·.1) = false) :
    ME (X.suite a ((a, oe) :: pn)) ⟨A, some a⟩ W0 (.Call (.Name "isinstance" np) [.Name n p, .Name x p2] [] pos) (eIsX l k i) :=
  peW (pe_callB (X := X.suite a ((a, oe) :: pn)) (call_isE hE hz hfd) hg hm (by decide +kernel) (pa_cons (pe_var (X := X.suite a ((a, oe) :: pn)) hN hv hd hcd) (pa_cons (pe_bltn (X := X.suite a ((a, oe) :: pn)) (v := .ty T) hgx hmx hvx rfl hnx hdx) pa_nil hs2) hs) (by decide) (by decide) hs hpl) fun σ H Q h => by
    obtain ⟨w, env, rfl, re, h⟩ := h
    cases ei : env[i]? with
    | none => simp only [eIsX, ei] at h; exact h.elim
    | some o =>
      cases el : l[k]? with
      | none => simp only [eIsX, ei, el] at h; exact h.elim
      | some b =>
        cases o with
        | none => simp only [eIsX, ei, el] at h; exact h.elim
        | some d =>
          cases d with
          | exn =>
            simp only [eIsX, ei, el] at h
            obtain ⟨v, k1, a', k2, rfl⟩ := re.sl i _ ei
            cases k2
            exact ⟨_, k1, .ty T, .type T, b, rfl, (fun u r => r), hl b el, h w (.bl b) rfl rfl Ext.refl (.of re.st rv_bl)⟩
          | _ => simp only [eIsX, ei, el] at h; exact h.elim
end
/-! ### the head with more facts -/
def eccB (K : PySem.W.Frag) (C : Addr) : Bool :=
  decide (PySem.W.findIn K (.ref C) "__getattribute__" = some (some (.builtin "BaseException.__getattribute__"))) && (decide (PySem.W.findIn K (.ref C) "__getattr__" = some none) && (decide (PySem.W.subIn K (.ref C) (.type "BaseException") = some true) && (PySem.W.hasDictIn K C && (decide (PySem.W.findIn K (.ref C) "__class__" = some (some (.builtin "object.__class__"))) &&
    (decide (PySem.W.specialIn K (.builtin "object.__class__") "__get__" = some (some (.builtin "getset_descriptor.__get__"))) && (decide (PySem.W.takesIn K (.builtin "object.__class__") = some true) && decide (PySem.W.mroIn K C (.type "object") = some true)))))))
theorem eccB_ok {K : PySem.W.Frag} {C : Addr} (h : eccB K C = true) : ExcC K C := by
  unfold eccB at h
  simp only [Bool.and_eq_true, decide_eq_true_eq] at h
  obtain ⟨h1, h2, h3, h4, h5, h6, h7, h8⟩ := h
  exact ⟨h1, h2, h3, h4, h5, h6, h7, h8⟩
abbrev Exs := List (PySem.W.Frag → Bool)
def exK (ex : Exs) (K : PySem.W.Frag) : Bool := ex.all fun f => f K
def obsE (n : Nat) (fa : List He.Fa) (fn : List He.DefD) (ex : Exs) (g : Addr → Option Obj) : He.AlD × Bool := (He.obsD fa fn (He.frG g (He.asD g n)), exK ex (He.frG g (He.asD g n)))
def hookE (n : Nat) (fa : List He.Fa) (fn : List He.DefD) (ex : Exs) : PySem.W.Hook where
  α := He.AlD × Bool
  obs := fun s => obsE n fa fn ex s.heap.get?
  val := fun _ => (He.valD fn, true)
  says := fun _ h => ∃ K : PySem.W.Frag, K.In h ∧ He.SaysD fa fn K ∧ exK ex K = true
  of := fun _ _ e => ⟨_, He.frG_in, congrArg (fun z : He.AlD × Bool => z.1) e, congrArg (fun z : He.AlD × Bool => z.2) e⟩
  keeps := fun _ _ _ ⟨K, hK, c⟩ k => ⟨K, PySem.W.Frag.In.keeps hK k, c⟩
theorem obsE_eq {n : Nat} {fa : List He.Fa} {fn : List He.DefD} {ex : Exs} {g : Addr → Option Obj} {s : Shared} (h : ∀ a, g a = s.heap.get? a) : obsE n fa fn ex g = (hookE n fa fn ex).obs s := by
  have e : g = s.heap.get? := funext h
  rw [e] <;> rfl
theorem exK_at {ex : Exs} {K : PySem.W.Frag} (h : exK ex K = true) (i : Nat) {f : PySem.W.Frag → Bool} (e : ex[i]? = some f) : f K = true := by
  unfold exK at h
  exact List.all_eq_true.mp h f (List.mem_of_getElem? e)
end Gm

set_option Elab.async false
set_option linter.all false
set_option maxRecDepth 100000
set_option autoImplicit false
set_option maxHeartbeats 1000000
namespace Gm
open PySem PySem.Spec PyProof.Rows L2
/-! ### pop of a list in the store -/
def fPop : Store → D → R D := fun s a => match a with
  | .ref n => (match s[n]? with
    | some (.lst xs) => (match xs[xs.length - 1]? with
      | some y => .ok y (s.set n (.lst xs.dropLast))
      | none => .no)
    | _ => .no)
  | _ => .no
def isLD (s : Store) (d : D) : Bool := match dr s d with
  | some (.lst _) => true
  | _ => false
/-- a method of a list with one argument -/
def eMeth (f : Store → D → D → R D) (a b : Ex) : Ex := fun env s => match a env s with
  | .ok x s1 => if isLD s1 (fz x) = true then (match b env s1 with
    | .ok y s2 => f s2 (fz x) (fz y)
    | .exc c s2 => .exc c s2
    | .no => .no) else .no
  | .exc c s1 => .exc c s1
  | .no => .no
def fPopAt : Store → D → D → R D := fun s a b => match a, b with
  | .ref n, .int i => (match s[n]? with
    | some (.lst xs) => if -9223372036854775808 ≤ i ∧ i < 9223372036854775808 then (match ixN xs.length i with
      | some k => (match xs[k]? with
        | some y => .ok y (s.set n (.lst (xs.eraseIdx k)))
        | none => .no)
      | none => .no) else .no
    | _ => .no)
  | _, _ => .no
/-! ### a < b < c -/
def eChain (f f' : Store → D → D → R D) (a b c : Ex) : Ex := fun env s => match a env s with
  | .ok x s1 => (match b env s1 with
    | .ok y s2 => (match f s2 (fz x) (fz y) with
      | .ok (.bl true) s3 => (match c env s3 with
        | .ok z s4 => f' s4 (fz y) (fz z)
        | .exc k s' => .exc k s'
        | .no => .no)
      | .ok (.bl false) s3 => .ok (.bl false) s3
      | _ => .no)
    | .exc k s' => .exc k s'
    | .no => .no)
  | .exc k s' => .exc k s'
  | .no => .no
section
variable {g : Gc} {w w' : Wd} {env : Env} {σ : Sl} {W : WX} {H : Hp} {Q : VK}
theorem po_ref {n : Nat} {x : V} (h : Po g w (.ref n) x) : ∃ p, x = .ref p ∧ w.m[n]? = some p := by
  have h : Rv g w (.ref n) x := h
  unfold Rv at h; exact h
theorem RvL.erase {ds : List D} {vs : List V} (h : RvL g w ds vs) (k : Nat) : RvL g w (ds.eraseIdx k) (vs.eraseIdx k) := by
  rw [List.eraseIdx_eq_take_drop_succ, List.eraseIdx_eq_take_drop_succ]
  exact (h.take k).app (h.drop (k + 1))
theorem snd_pop : Snd1 g fPop (fun x H Q => tyV g.K "list" x H ∧ rPop x [] H Q) := by
  intro w a x Q r pa h
  unfold fPop at h
  split at h
  · rename_i n
    split at h
    · rename_i xs en
      split at h
      · rename_i y ey
        obtain ⟨p, rfl, hm⟩ := po_ref pa
        obtain ⟨ys, e1, e2⟩ := r.ce n p _ hm en
        obtain ⟨v, k1, k2⟩ := e2.get ey
        refine ⟨.inl ⟨rfl, ys, SqL.of e1⟩, p, ys, v, rfl, rfl, e1, by rw [e2.length]; exact k1, ?_⟩
        have ex := ws_ext (o' := .lst xs.dropLast) (u := .lst ys.dropLast) hm en lst_nd
        have hd : RvL g w xs.dropLast ys.dropLast := by
          rw [List.dropLast_eq_take, List.dropLast_eq_take, e2.length]
          exact e2.take _
        have rs := ws_rst (o' := .lst xs.dropLast) (u := .lst ys.dropLast) r hm en lst_nd fun c => ⟨_, upd_same, RvL.mono c _ _ hd⟩
        exact h (w.ws n (.lst xs.dropLast) p (.lst ys.dropLast)) v rfl rfl ex (.of rs (Rv.mono (Cy.of r ex rfl) _ _ k2))
      · exact h.elim
    · exact h.elim
  · exact h.elim
theorem ne_pop : ∀ s x k s', fPop s x ≠ .exc k s' := by
  intro s x k s'
  unfold fPop
  repeat' split
  all_goals exact fun z => nomatch z
theorem snd_popAt : Snd2 g fPopAt (fun x y H Q => rPopAt x [y] H Q) := by
  intro w a b x y Q r pa pb h
  unfold fPopAt at h
  split at h
  · rename_i n i
    split at h
    · rename_i xs en
      split at h
      · rename_i hi
        split at h
        · rename_i k ek
          split at h
          · rename_i d ed
            obtain ⟨p, rfl, hm⟩ := po_ref pa
            obtain ⟨ys, e1, e2⟩ := r.ce n p _ hm en
            obtain ⟨v, k1, k2⟩ := e2.get ed
            refine ⟨p, ys, i, k, v, rfl, by rw [po_int pb], e1, by omega, by omega, by rw [e2.length]; exact (ixN_seq ek).1, k1, ?_⟩
            have ex := ws_ext (o' := .lst (xs.eraseIdx k)) (u := .lst (ys.eraseIdx k)) hm en lst_nd
            have rs := ws_rst (o' := .lst (xs.eraseIdx k)) (u := .lst (ys.eraseIdx k)) r hm en lst_nd fun c => ⟨_, upd_same, RvL.mono c _ _ (e2.erase k)⟩
            exact h (w.ws n (.lst (xs.eraseIdx k)) p (.lst (ys.eraseIdx k))) v rfl rfl ex (.of rs (Rv.mono (Cy.of r ex rfl) _ _ k2))
          · exact h.elim
        · exact h.elim
      · exact h.elim
    · exact h.elim
  · exact h.elim
theorem ne_popAt : ∀ s x y k s', fPopAt s x y ≠ .exc k s' := by
  intro s x y k s'
  unfold fPopAt
  repeat' split
  all_goals exact fun z => nomatch z
theorem isLD_ok {d : D} {v : V} (r : Rst g w) (h : Po g w d v) (e : isLD w.s d = true) : tyV g.K "list" v w.H := by
  unfold isLD at e
  split at e
  · rename_i xs ed
    obtain ⟨p, ys, rfl, k, _⟩ := dr_lst r h ed
    exact .inl ⟨rfl, ys, k⟩
  · cases e
theorem eMeth_ok {f : Store → D → D → R D} {rl : V → List V → Hp → VK → Prop} {a b : Ex} (hf : Snd2 g f fun x y H Q => rl x [y] H Q) (hne : ∀ s x y c s', f s x y ≠ .exc c s') (h : tEv g W (eMeth f a b) σ H Q) : tBM g.K "list" rl (tEv g W a) (tCons (tEv g W b) tNil) σ H Q := by
  obtain ⟨w, env, rfl, re, h⟩ := h
  refine ⟨w, env, rfl, re, ?_⟩
  refine Post.step (m' := eMeth f a b env w.s) h (fun c s e => by simp only [eMeth, e]) (fun e => by simp only [eMeth, e]) fun x s1 w1 v ea hs1 ht1 e1 p1 => ?_
  obtain ⟨r1, o1⟩ := p1.fz
  cases il : isLD s1 (fz x) with
  | false => simp only [eMeth, ea, il] at h; exact h.elim
  | true =>
    refine ⟨isLD_ok r1 o1 (by rw [hs1]; exact il), w1, env, rfl, re.next r1 e1 ht1, ?_⟩
    refine Post.step (m' := eMeth f a b env w.s) (h.next e1 ht1 fun _ _ w2 _ q => q.back re.st r1 e1) (fun c s e => by rw [hs1] at e; simp only [eMeth, ea, il, e, if_true]) (fun e => by rw [hs1] at e; simp only [eMeth, ea, il, e, if_true]) fun y s2 w2 u eb hs2 ht2 e2 p2 => ?_
    obtain ⟨r2, o2⟩ := p2.fz
    have em : eMeth f a b env w.s = f w2.s (fz x) (fz y) := by
      rw [hs1] at eb
      simp only [eMeth, ea, il, eb, hs2, if_true]
    rw [em] at h
    exact hf w2 (fz x) (fz y) v u Q r2 (o1.mono (Cy.of r1 e2 ht2)) o2 (PostV.next re.st r2 (e1.trans e2) (ht2.trans ht1) h fun c s => hne _ _ _ _ _)
theorem eChain_ok {f f' : Store → D → D → R D} {r r' : R2} {a b c : Ex} (hf : Snd2 g f r) (hf' : Snd2 g f' r') (hne : ∀ s x y c s', f s x y ≠ .exc c s') (hne' : ∀ s x y c s', f' s x y ≠ .exc c s') (h : tEv g W (eChain f f' a b c) σ H Q) :
    tChain r r' (tEv g W a) (tEv g W b) (tEv g W c) σ H Q := by
  obtain ⟨w, env, rfl, re, h⟩ := h
  refine ⟨w, env, rfl, re, ?_⟩
  refine Post.step (m' := eChain f f' a b c env w.s) h (fun c s e => by simp only [eChain, e]) (fun e => by simp only [eChain, e]) fun x s1 w1 v ea hs1 ht1 e1 p1 => ?_
  obtain ⟨r1, o1⟩ := p1.fz
  refine ⟨w1, env, rfl, re.next r1 e1 ht1, ?_⟩
  have h1 := h.next e1 ht1 (fun _ _ w2 _ q => q.back re.st r1 e1)
  refine Post.step (m' := eChain f f' a b c env w.s) h1 (fun c s e => by rw [hs1] at e; simp only [eChain, ea, e]) (fun e => by rw [hs1] at e; simp only [eChain, ea, e]) fun y s2 w2 u eb hs2 ht2 e2 p2 => ?_
  obtain ⟨r2, o2⟩ := p2.fz
  rw [hs1] at eb
  have o1' := o1.mono (Cy.of r1 e2 ht2)
  refine hf w2 (fz x) (fz y) v u _ r2 o1' o2 ?_
  cases ef : f w2.s (fz x) (fz y) with
  | no => rw [hs2] at ef; simp only [eChain, ea, eb, ef] at h; exact h.elim
  | exc k s => exact absurd ef (hne _ _ _ _ _)
  | ok z s3 =>
    intro w3 v3 hs3 ht3 e3 p3
    rw [hs2] at ef
    have t3 : w3.T = w.T := ht3.trans (ht2.trans ht1)
    have e13 := (e1.trans e2).trans e3
    cases z with
    | bl k =>
      obtain ⟨r3, q3⟩ : Rst g w3 ∧ Rv g w3 (.bl k) v3 := p3
      unfold Rv at q3
      subst q3
      refine ⟨k, rfl, ?_⟩
      cases k with
      | false =>
        simp only [eChain, ea, eb, ef] at h
        exact iteF (h w3 _ hs3 t3 e13 (.of r3 rv_bl))
      | true =>
        refine iteT ⟨w3, env, rfl, re.next r3 e13 t3, ?_⟩
        refine Post.step (m' := eChain f f' a b c env w.s) (h.next e13 t3 fun _ _ w2 _ q => q.back re.st r3 e13) (fun c s e => by rw [hs3] at e; simp only [eChain, ea, eb, ef, e]) (fun e => by rw [hs3] at e; simp only [eChain, ea, eb, ef, e]) fun z s4 w4 v4 ec hs4 ht4 e4 p4 => ?_
        obtain ⟨r4, o4⟩ := p4.fz
        rw [hs3] at ec
        have em : eChain f f' a b c env w.s = f' w4.s (fz y) (fz z) := by simp only [eChain, ea, eb, ef, ec, hs4]
        rw [em] at h
        exact hf' w4 (fz y) (fz z) u v4 Q r4 ((o2.mono (Cy.of r2 e3 ht3)).mono (Cy.of r3 e4 ht4)) o4 (PostV.next re.st r4 (e13.trans e4) (ht4.trans t3) h fun c s => hne' _ _ _ _ _)
    | _ => simp only [eChain, ea, eb, ef] at h; exact h.elim
end
section
variable {X : Cx} {A : Ga} {W : WX} {a b c e o : Expr} {ma mb mc : Ex} {pos apos cpos : Pos}
theorem me_pop (h : ME X A W o ma) (hbase : attributeBase o "pop" X.env (eval o X.env) = eval o X.env := by rfl) (hline : (apos.endLine == cpos.line) = true := by rfl) : ME X A W (.Call (.Attribute o "pop" apos) [] [] cpos) (eOp1 fPop ma) :=
  peW (pe_bm0 PySem.F.plainAttrs_list PySem.F.slot_list_pop PySem.F.type_list_pop mt_pop h hbase hline) fun _ _ _ h => tUn_snd snd_pop ne_pop h
theorem me_popAt (h : ME X A W o ma) (k : ME X A W e mb) (hbase : attributeBase o "pop" X.env (eval o X.env) = eval o X.env := by rfl)
    (hfew : ((backTo cpos (starEach [e] X.env)).all (fun x => !x.1) && (backToKw cpos (keywordEach [] X.env)).all (fun x => x.1.isSome)
      && decide ([e].length + ([] : List Keyword).length + (if ([] : List Keyword).isEmpty then 0 else 1) < 30)) = true := by rfl)
    (hline : (apos.endLine == cpos.line) = true := by rfl) (hs : starEach [e] X.env = (false, eval e X.env) :: starEach [] X.env := by rfl) (hplain : (backTo cpos (starEach [] X.env)).any (·.1) = false := by rfl) :
    ME X A W (.Call (.Attribute o "pop" apos) [e] [] cpos) (eMeth fPopAt ma mb) :=
  peW (pe_bm PySem.F.plainAttrs_list PySem.F.slot_list_pop PySem.F.type_list_pop mt_popAt h (pa_cons k pa_nil hs) hbase hfew hline hs hplain) fun _ _ _ h => eMeth_ok snd_popAt ne_popAt h
theorem me_chain {op op' : CmpOp} {f f' : Store → D → D → R D} {r r' : R2} (ho : OpR X (compareOp op) r) (ho' : OpR X (compareOp op') r') (hf : Snd2 (gx X A) f r) (hf' : Snd2 (gx X A) f' r') (hne : ∀ s x y c s', f s x y ≠ .exc c s') (hne' : ∀ s x y c s', f' s x y ≠ .exc c s')
    (hm : lastMarks [op, op'] [b, c] = false) (ha : ME X A W a ma) (hb : ME X A W b mb) (hc : ME X A W c mc) : ME X A W (.Compare a [op, op'] [b, c] pos) (eChain f f' ma mb mc) := peW (pe_chain ho ho' ha hb hc hm) fun _ _ _ h => eChain_ok hf hf' hne hne' h
theorem me_lele (ha : ME X A W a ma) (hb : ME X A W b mb) (hc : ME X A W c mc) (hm : lastMarks [.LtE, .LtE] [b, c] = false := by with_unfolding_all rfl) : ME X A W (.Compare a [.LtE, .LtE] [b, c] pos) (eChain fLe fLe ma mb mc) := me_chain op_le op_le (snd_I0 fun _ _ _ => rv_bl) (snd_I0 fun _ _ _ => rv_bl) ne_I ne_I hm ha hb hc
theorem me_lelt (ha : ME X A W a ma) (hb : ME X A W b mb) (hc : ME X A W c mc) (hm : lastMarks [.LtE, .Lt] [b, c] = false := by with_unfolding_all rfl) : ME X A W (.Compare a [.LtE, .Lt] [b, c] pos) (eChain fLe fLt ma mb mc) := me_chain op_le op_lt (snd_I0 fun _ _ _ => rv_bl) (snd_I0 fun _ _ _ => rv_bl) ne_I ne_I hm ha hb hc
theorem mt_chain {op op' : CmpOp} {f f' : Store → D → D → R D} {r r' : R2} (ho : OpR X (compareOp op) r) (ho' : OpR X (compareOp op') r') (hf : Snd2 (gx X A) f r) (hf' : Snd2 (gx X A) f' r') (hne : ∀ s x y c s', f s x y ≠ .exc c s') (hne' : ∀ s x y c s', f' s x y ≠ .exc c s')
    (hm : lastMarks [op, op'] [b, c] = false) (ha : ME X A W a ma) (hb : ME X A W b mb) (hc : ME X A W c mc) : MT X A W (.Compare a [op, op'] [b, c] pos) (tq (eChain f f' ma mb mc)) := ptW (pt_chain ho ho' ha hb hc hm) fun _ _ _ h => eChain_ok hf hf' hne hne' (tq_ok h)
theorem mt_lele (ha : ME X A W a ma) (hb : ME X A W b mb) (hc : ME X A W c mc) (hm : lastMarks [.LtE, .LtE] [b, c] = false := by with_unfolding_all rfl) : MT X A W (.Compare a [.LtE, .LtE] [b, c] pos) (tq (eChain fLe fLe ma mb mc)) := mt_chain op_le op_le (snd_I0 fun _ _ _ => rv_bl) (snd_I0 fun _ _ _ => rv_bl) ne_I ne_I hm ha hb hc
theorem mt_lelt (ha : ME X A W a ma) (hb : ME X A W b mb) (hc : ME X A W c mc) (hm : lastMarks [.LtE, .Lt] [b, c] = false := by with_unfolding_all rfl) : MT X A W (.Compare a [.LtE, .Lt] [b, c] pos) (tq (eChain fLe fLt ma mb mc)) := mt_chain op_le op_lt (snd_I0 fun _ _ _ => rv_bl) (snd_I0 fun _ _ _ => rv_bl) ne_I ne_I hm ha hb hc
end
/-! a name's new list is given to the store -/
def sAd (i : Nat) (m : Sx) : Sx := fun env s => match m env s with
  | .nx e s' => .nx (gAd i e s').1 (gAd i e s').2
  | r => r
section
variable {X : Cx} {A : Ga} {W : WX} {st : Stmt} {m : Sx} {g : Gc} {Dn : Ends} {σ : Sl} {H : Hp}
theorem sAd_ok {i : Nat} (h : tSt g W (sAd i m) Dn σ H) : tSt g W m Dn σ H := by
  obtain ⟨w, env, tb, rfl, r, h⟩ := h
  refine ⟨w, env, tb, rfl, r, ?_⟩
  cases q : m env w.s with
  | nx e s =>
    simp only [sAd, q] at h
    intro w1 σ1 h1 r1 x1
    obtain ⟨w2, e1, e2, r2, x2⟩ := quiet_ad i g tb w1 e σ1 r1
    rw [← e2]
    rw [h1] at e1 r2 x2
    exact h w2 σ1 e1 r2 (x1.trans r r1.re.st x2)
  | rt d s => simp only [sAd, q] at h; exact h
  | bk e s => simp only [sAd, q] at h; exact h
  | ct e s => simp only [sAd, q] at h; exact h
  | exc c e s => simp only [sAd, q] at h; exact h
  | no => simp only [sAd, q] at h; exact h
theorem ms_ad (i : Nat) (h : MS X A W st m) : MS X A W st (sAd i m) := psW h fun _ _ _ h => sAd_ok h
end
end Gm

set_option Elab.async false
set_option linter.all false
set_option maxRecDepth 100000
set_option autoImplicit false
/-! the mirror's runs, in plain words -/
namespace Gm
open PySem L2
def rtOk : D → Bool
  | .bor _ => false
  | .exn => false
  | _ => true
inductive R.W {t : Type} (Q : t → Store → Prop) (X : Nat → Store → Prop) : R t → Prop where
  | ok {a : t} {s : Store} (h : Q a s) : R.W Q X (.ok a s)
  | exc {c : Nat} {s : Store} (h : X c s) : R.W Q X (.exc c s)
inductive SR.W (N : Env → Store → Prop) (T : D → Store → Prop) (X : Nat → Env → Store → Prop) : SR → Prop where
  | nx {e : Env} {s : Store} (h : N e s) : SR.W N T X (.nx e s)
  | rt {d : D} {s : Store} (h : T d s) : SR.W N T X (.rt d s)
  | exc {c : Nat} {e : Env} {s : Store} (h : X c e s) : SR.W N T X (.exc c e s)
abbrev X0 : Nat → Store → Prop := fun _ _ => False
abbrev Y0 : Nat → Env → Store → Prop := fun _ _ _ => False
section
variable {t : Type} {env env' : Env} {s s' : Store} {N N' : Env → Store → Prop} {T T' : D → Store → Prop} {X X' : Nat → Env → Store → Prop} {a b : Sx}
theorem SR.W_nx {e : Env} {s : Store} : (SR.nx e s).W N T X ↔ N e s := ⟨fun h => by cases h; assumption, .nx⟩
theorem SR.W_rt {d : D} {s : Store} : (SR.rt d s).W N T X ↔ T d s := ⟨fun h => by cases h; assumption, .rt⟩
theorem SR.W_exc {c : Nat} {e : Env} {s : Store} : (SR.exc c e s).W N T X ↔ X c e s := ⟨fun h => by cases h; assumption, .exc⟩
theorem R.W_ok {Q : t → Store → Prop} {Z : Nat → Store → Prop} {d : t} {s : Store} : (R.ok d s).W Q Z ↔ Q d s := ⟨fun h => by cases h; assumption, .ok⟩
theorem R.W_exc {Q : t → Store → Prop} {Z : Nat → Store → Prop} {c : Nat} {s : Store} : (R.exc (t := t) c s).W Q Z ↔ Z c s := ⟨fun h => by cases h; assumption, .exc⟩
theorem SR.W.imp {m : SR} (h : m.W N T X) (h1 : ∀ e s, N e s → N' e s) (h2 : ∀ d s, T d s → T' d s) (h3 : ∀ c e s, X c e s → X' c e s) : m.W N' T' X' := by
  cases h with
  | nx h => exact .nx (h1 _ _ h)
  | rt h => exact .rt (h2 _ _ h)
  | exc h => exact .exc (h3 _ _ _ h)
theorem R.W.imp {Q Q' : t → Store → Prop} {Z Z' : Nat → Store → Prop} {m : R t} (h : m.W Q Z) (h1 : ∀ e s, Q e s → Q' e s) (h3 : ∀ c s, Z c s → Z' c s) : m.W Q' Z' := by
  cases h with
  | ok h => exact .ok (h1 _ _ h)
  | exc h => exact .exc (h3 _ _ h)
theorem R.W.eq {Q : t → Store → Prop} {m : R t} (h : m.W Q X0) : ∃ d s, m = .ok d s ∧ Q d s := by
  cases h with
  | ok h => exact ⟨_, _, rfl, h⟩
  | exc h => exact h.elim
theorem w_seq (h : (a env s).W (fun e s => (b e s).W N T X) T X) : (sSeq a b env s).W N T X := by
  unfold sSeq
  revert h
  generalize a env s = m
  intro h
  cases h with
  | nx h => exact h
  | rt h => exact .rt h
  | exc h => exact .exc h
theorem w_nil (h : N env s) : (sNil env s).W N T X := .nx h
theorem w_if {c : Tx} {k : Bool} (e : c env s = .ok k s') (h1 : k = true → (a env s').W N T X) (h2 : k = false → (b env s').W N T X) : (sIf c a b env s).W N T X := by
  cases k with
  | true => simp only [sIf, e]; exact h1 rfl
  | false => simp only [sIf, e]; exact h2 rfl
theorem w_ifT {c : Tx} (e : c env s = .ok true s') (h1 : (a env s').W N T X) : (sIf c a b env s).W N T X := by simp only [sIf, e]; exact h1
theorem w_ifF {c : Tx} (e : c env s = .ok false s') (h1 : (b env s').W N T X) : (sIf c a b env s).W N T X := by simp only [sIf, e]; exact h1
theorem w_setF {i : Nat} {e : Ex} {d d' : D} (h : e env s = .ok d s') (hd : snk (fz d) = some d') (k : N (env.set i (some d')) s') : (sSetF i e env s).W N T X := by simp only [sSetF, h, hd]; exact .nx k
theorem w_set {i : Nat} {e : Ex} {d : D} (h : e env s = .ok d s') (hd : rtOk d = true) (k : N (env.set i (some d)) s') : (sSet i e env s).W N T X := by
  have : putE i d env = some (env.set i (some d)) := by
    cases d with
    | bor o => cases hd
    | exn => cases hd
    | _ => rfl
  simp only [sSet, h, this]; exact .nx k
theorem w_setT {is : List Nat} {e : Ex} {d : D} (h : e env s = .ok d s') (hd : tgE (.tp is) d env = some env') (k : N env' s') : (sSetT is e env s).W N T X := by simp only [sSetT, h, hd]; exact .nx k
theorem w_ex {e : Ex} {d : D} (h : e env s = .ok d s') (k : N env s') : (sEx e env s).W N T X := by simp only [sEx, h]; exact .nx k
theorem w_exX {e : Ex} {c : Nat} (h : e env s = .exc c s') (k : X c env s') : (sEx e env s).W N T X := by simp only [sEx, h]; exact .exc k
theorem w_ret {e : Ex} {d : D} (h : e env s = .ok d s') (hd : rtOk d = true) (k : T d s') : (sRet e env s).W N T X := by
  cases d with
  | bor o => cases hd
  | exn => cases hd
  | _ => simp only [sRet, h]; exact .rt k
theorem w_retN (k : T .non s) : (sRetN env s).W N T X := .rt k
theorem w_retV {i : Nat} {d : D} (h : env[i]? = some (some d)) (hd : rtOk d = true) (k : T d s) : (sRetV i env s).W N T X := by
  cases d with
  | exn => cases hd
  | _ => simp only [sRetV, h]; exact .rt k
theorem w_raise {c : Nat} (k : X c env s) : (sRaise c env s).W N T X := .exc k
theorem w_pre {q : Env → Store → Env × Store} (k : (a (q env s).1 (q env s).2).W N T X) : (sPre q a env s).W N T X := k
theorem w_app {i : Nat} {e : Ex} {d d' : D} {xs : List D} (h : e env s = .ok d s') (hd : snk (fz d) = some d') (hi : env[i]? = some (some (.own (.lst xs)))) (hl : xs.length < 16777216) (k : N (env.set i (some (.own (.lst (xs ++ [d']))))) s') : (sMut i gApp e env s).W N T X := by
  simp only [sMut, isL, hi, h, if_true, gApp, hd, Option.map_some, mutL, fApp, if_pos hl]
  exact .nx k
theorem w_appR {i n : Nat} {e : Ex} {d d' : D} {xs ys : List D} (h : e env s = .ok d s') (hd : snk (fz d) = some d') (hi : env[i]? = some (some (.ref n))) (h0 : s[n]? = some (.lst ys)) (h1 : s'[n]? = some (.lst xs)) (hl : xs.length < 16777216) (k : N env (s'.set n (.lst (xs ++ [d'])))) : (sMut i gApp e env s).W N T X := by
  simp only [sMut, isL, hi, h0, h, if_true, gApp, hd, Option.map_some, mutL, h1, fApp, if_pos hl]
  exact .nx k
theorem w_ext {i : Nat} {e : Ex} {d : D} {xs zs : List D} (h : e env s = .ok d s') (hd : drM s' (fz d) = some (.lst zs)) (hi : env[i]? = some (some (.own (.lst xs)))) (hl : xs.length + zs.length ≤ 16777216) (k : N (env.set i (some (.own (.lst (xs ++ zs))))) s') : (sMut i gExt e env s).W N T X := by
  simp only [sMut, isL, hi, h, if_true, gExt, hd, Option.map_some, mutL, fExt, if_pos hl]
  exact .nx k
theorem w_sub {i j : Nat} {je e : Ex} {d d' : D} {xs : List D} {k : Int} {s1 : Store} (h : e env s = .ok d s1) (hd : snk (fz d) = some d') (hk : je env s1 = .ok (.int k) s') (hi : env[i]? = some (some (.own (.lst xs)))) (hj : ixN xs.length k = some j) (z : N (env.set i (some (.own (.lst (xs.set j d'))))) s') : (sSub i je e env s).W N T X := by
  simp only [sSub, h, hd, isL, hi, if_true, hk, mutL, fSetI, hj, Option.map_some]
  exact .nx z
theorem w_fn {n K : Nat} {body : Sx} {args : List D} {Q : D → Store → Prop} {Z : Nat → Store → Prop} (hl : args.length = n) (he : args.map some ++ List.replicate (K - n) none = env) (h : (body env s).W (fun _ s' => Q .non s') Q (fun c _ s' => Z c s')) : (fnX n K body args s).W Q Z := by
  unfold fnX
  rw [if_pos hl, he]
  revert h
  generalize body env s = m
  intro h
  cases h with
  | nx h => exact .ok h
  | rt h => exact .ok h
  | exc h => exact .exc h
theorem w_tryAs {i : Nat} {ct : List Bool} {body : Sx} {suite : Nat → Sx} (h : (body env s).W N T (fun k e s' => ct[k]? = some true ∧ noX e = true ∧ (suite k (e.set i (some .exn)) s').W (fun e2 s2 => noX (e2.set i none) = true ∧ N (e2.set i none) s2) T Y0)) : (sTryAs i ct body suite env s).W N T X := by
  unfold sTryAs
  revert h
  generalize body env s = m
  intro h
  cases h with
  | nx h => exact .nx h
  | rt h => exact .rt h
  | @exc k e s' h =>
    obtain ⟨h1, h2, h3⟩ := h
    simp only [h1, h2, if_true]
    revert h3
    generalize suite k (e.set i (some D.exn)) s' = m2
    intro h3
    cases h3 with
    | nx h3 => simp only [h3.1, if_true]; exact .nx h3.2
    | rt h3 => exact .rt h3
    | exc h3 => exact h3.elim
theorem w_ad {i : Nat} {m : Sx} (h : (m env s).W (fun e s' => N (gAd i e s').1 (gAd i e s').2) T X) : (sAd i m env s).W N T X := by
  unfold sAd
  revert h
  generalize m env s = r
  intro h
  cases h with
  | nx h => exact .nx h
  | rt h => exact .rt h
  | exc h => exact .exc h
theorem R.W.exq {Z : Nat → Store → Prop} {m : R t} (h : m.W (fun _ _ => False) Z) : ∃ c s, m = .exc c s ∧ Z c s := by
  cases h with
  | ok h => exact h.elim
  | exc h => exact ⟨_, _, rfl, h⟩
/-- a loop over items that stay -/
theorem w_loop {body : Sx} {tg : Tg} {it : Itr} {xs : List D} (I : Nat → Env → Store → Prop) (hi : ∀ i e s, i ≤ xs.length → I i e s → it.at s i = some xs[i]?)
    (hs : ∀ i x e s, xs[i]? = some x → I i e s → ∃ e1, tgE tg x e = some e1 ∧ (body e1 s).W (I (i + 1)) T X) (hn : ∀ e s, I xs.length e s → N e s) :
    ∀ (f i : Nat) (env : Env) (s : Store), i ≤ xs.length → xs.length < f + i → I i env s → (forX body tg it f i env s).W N T X
  | 0, i, env, s, h1, h2, h3 => by omega
  | f + 1, i, env, s, h1, h2, h3 => by
    have ha := hi i env s h1 h3
    cases q : xs[i]? with
    | none =>
      rw [q] at ha
      simp only [forX, ha]
      have : i = xs.length := by
        have := List.getElem?_eq_none_iff.mp q
        omega
      subst this
      exact .nx (hn _ _ h3)
    | some x =>
      rw [q] at ha
      obtain ⟨e1, k1, k2⟩ := hs i x env s q h3
      have hlt : i < xs.length := (List.getElem?_eq_some_iff.mp q).1
      simp only [forX, ha, k1]
      revert k2
      generalize body e1 s = m
      intro k2
      cases k2 with
      | nx k2 => exact w_loop I hi hs hn f (i + 1) _ _ (by omega) (by omega) k2
      | rt k2 => exact .rt k2
      | exc k2 => exact .exc k2
theorem w_for {body : Sx} {tg : Tg} {ix : Ix} {xs : List D} {it : Itr} (hx : ix env s = .ok it s') (hf : it.fuel s' = xs.length + 1) (I : Nat → Env → Store → Prop) (h0 : I 0 env s') (hi : ∀ i e s, i ≤ xs.length → I i e s → it.at s i = some xs[i]?)
    (hs : ∀ i x e s, xs[i]? = some x → I i e s → ∃ e1, tgE tg x e = some e1 ∧ (body e1 s).W (I (i + 1)) T X) (hn : ∀ e s, I xs.length e s → N e s) : (sFor tg ix body env s).W N T X := by
  simp only [sFor, hx, hf]
  exact w_loop I hi hs hn _ 0 env s' (Nat.zero_le _) (by omega) h0
/-- .. over a list that stands by itself -/
theorem w_forL {body : Sx} {tg : Tg} {e : Ex} {xs : List D} (hx : iSeq e env s = .ok (.seq (.lst xs)) s') (I : Nat → Env → Store → Prop) (h0 : I 0 env s')
    (hs : ∀ i x e s, xs[i]? = some x → I i e s → ∃ e1, tgE tg x e = some e1 ∧ (body e1 s).W (I (i + 1)) T X) (hn : ∀ e s, I xs.length e s → N e s) : (sFor tg (iSeq e) body env s).W N T X :=
  w_for hx (by rfl) I h0 (fun i e s _ _ => by rfl) hs hn
theorem w_forT {body : Sx} {tg : Tg} {e : Ex} {xs : List D} (hx : iSeq e env s = .ok (.seq (.tup xs)) s') (I : Nat → Env → Store → Prop) (h0 : I 0 env s')
    (hs : ∀ i x e s, xs[i]? = some x → I i e s → ∃ e1, tgE tg x e = some e1 ∧ (body e1 s).W (I (i + 1)) T X) (hn : ∀ e s, I xs.length e s → N e s) : (sFor tg (iSeq e) body env s).W N T X :=
  w_for hx (by rfl) I h0 (fun i e s _ _ => by rfl) hs hn
/-- .. over a range -/
theorem w_forR {body : Sx} {j : Nat} {ix : Ix} {lo : Int} {n : Nat} (hx : ix env s = .ok (.rng lo n) s') (I : Nat → Env → Store → Prop) (h0 : I 0 env s')
    (hs : ∀ (i : Nat) e s, i < n → I i e s → (body (e.set j (some (.int (lo + (i : Nat))))) s).W (I (i + 1)) T X) (hn : ∀ e s, I n e s → N e s) : (sFor (.nm j) ix body env s).W N T X := by
  have hl : ((List.range n).map fun k => D.int (lo + (k : Nat))).length = n := by simp
  have hg : ∀ i : Nat, ((List.range n).map fun k => D.int (lo + (k : Nat)))[i]? = if i < n then some (.int (lo + (i : Nat))) else none := fun i => by
    by_cases h : i < n
    · simp [h]
    · simp [h]
  refine w_for (xs := (List.range n).map fun k => D.int (lo + (k : Nat))) hx (by simp [Itr.fuel]) I h0 (fun i e s _ _ => by rw [hg i]; rfl) (fun i x e s hx hI => ?_) (fun e s h => hn e s (hl ▸ h))
  rw [hg i] at hx
  split at hx
  · rename_i h
    cases hx
    exact ⟨_, rfl, hs i e s h hI⟩
  · cases hx
theorem xRng1_of {e : Ex} {j : Int} {n : Nat} (h : e env s = .ok (.int j) s') (hj : j.toNat = n) (hb : -4611686018427387904 ≤ j ∧ j < 4611686018427387904) : xRng1 e env s = .ok (.rng 0 n) s' := by
  have : rOk j = true := by unfold rOk; simp [hb]
  simp only [xRng1, h, this, if_true, hj]
theorem xRng2_of {a b : Ex} {i j : Int} {n : Nat} {s1 : Store} (h : a env s = .ok (.int i) s1) (k : b env s1 = .ok (.int j) s') (hj : (j - i).toNat = n) (hb : -4611686018427387904 ≤ i ∧ i < 4611686018427387904 ∧ -4611686018427387904 ≤ j ∧ j < 4611686018427387904) : xRng2 a b env s = .ok (.rng i n) s' := by
  have h1 : rOk i = true := by unfold rOk; simp [hb]
  have h2 : rOk j = true := by unfold rOk; simp [hb]
  simp only [xRng2, h, k, h1, h2, and_self, if_true, hj]
theorem iSeq_of {e : Ex} {d d' : D} {xs : List D} (h : e env s = .ok d s') (hd : snk (fz d) = some d') (hs : seqD s' d' = some xs) : iSeq e env s = .ok (.seq d') s' := by
  simp only [iSeq, h, hd, hs]
/-- a while, by what holds and a number that falls -/
theorem w_whileX {c : Tx} {body : Sx} (I : Nat → Env → Store → Prop) (hs : ∀ m e s, I m e s → ∃ k s1, c e s = .ok k s1 ∧ (k = false → N e s1) ∧ (k = true → (body e s1).W (fun e s => ∃ m', m' < m ∧ I m' e s) T X)) :
    ∀ (f m : Nat) (env : Env) (s : Store), m < f → I m env s → (whileX c body f env s).W N T X
  | 0, m, env, s, h, _ => by omega
  | f + 1, m, env, s, h, hI => by
    obtain ⟨k, s1, e, h1, h2⟩ := hs m env s hI
    cases k with
    | false => simp only [whileX, e]; exact .nx (h1 rfl)
    | true =>
      have k2 := h2 rfl
      simp only [whileX, e]
      revert k2
      generalize body env s1 = m2
      intro k2
      cases k2 with
      | nx k2 =>
        obtain ⟨m', hm, hI'⟩ := k2
        exact w_whileX I hs f m' _ _ (by omega) hI'
      | rt k2 => exact .rt k2
      | exc k2 => exact .exc k2
theorem w_while {c : Tx} {body : Sx} {f : Nat} (I : Nat → Env → Store → Prop) (m : Nat) (hm : m < f) (h0 : I m env s) (hs : ∀ m e s, I m e s → ∃ k s1, c e s = .ok k s1 ∧ (k = false → N e s1) ∧ (k = true → (body e s1).W (fun e s => ∃ m', m' < m ∧ I m' e s) T X)) :
    (sWhile f c body env s).W N T X := w_whileX I hs f m env s hm h0
end
/-! comprehensions whose parts change nothing -/
theorem lcX_eq {tg : Tg} {tt : Tx} {el : Ex} {vs : List Nat} {it : Itr} {xs : List D} {env : Env} {s : Store} (p : D → Bool) (f : D → D) (hi : ∀ i, it.at s i = some xs[i]?) (hx : ∀ x ∈ xs, ∃ e1, tgE tg x (wipeE env vs) = some e1 ∧ tt e1 s = .ok (p x) s ∧ (p x = true → ∃ d, el e1 s = .ok d s ∧ snk (fz d) = some (f x))) :
    ∀ (n i : Nat) (acc : List D), i ≤ xs.length → xs.length < n + i → acc.length + (xs.length - i) ≤ 16777216 → lcX tg tt el vs it n i acc env s = .ok (.own (.lst (acc ++ ((xs.drop i).filter p).map f))) s
  | 0, i, acc, h1, h2, _ => by omega
  | n + 1, i, acc, h1, h2, h3 => by
    have ha := hi i
    cases q : xs[i]? with
    | none =>
      rw [q] at ha
      have : xs.length ≤ i := List.getElem?_eq_none_iff.mp q
      simp only [lcX, ha]
      rw [List.drop_eq_nil_of_le this]
      simp
    | some x =>
      rw [q] at ha
      obtain ⟨hlt, ex⟩ := List.getElem?_eq_some_iff.mp q
      obtain ⟨e1, k1, k2, k3⟩ := hx x (List.mem_of_getElem? q)
      have hd : xs.drop i = x :: xs.drop (i + 1) := by rw [List.drop_eq_getElem_cons hlt, ex]
      cases hp : p x with
      | false =>
        rw [hp] at k2
        simp only [lcX, ha, k1, k2]
        rw [lcX_eq p f hi hx n (i + 1) acc (by omega) (by omega) (by omega), hd, List.filter_cons_of_neg (by rw [hp]; exact Bool.false_ne_true)]
      | true =>
        rw [hp] at k2
        obtain ⟨d, k4, k5⟩ := k3 hp
        simp only [lcX, ha, k1, k2, k4, k5]
        rw [if_pos (by omega), lcX_eq p f hi hx n (i + 1) (acc ++ [f x]) (by omega) (by omega) (by rw [List.length_append]; simp; omega), hd, List.filter_cons_of_pos hp]
        simp
theorem eLc_eq {tg : Tg} {tt : Tx} {el : Ex} {vs : List Nat} {ix : Ix} {it : Itr} {xs : List D} {env : Env} {s s1 : Store} (p : D → Bool) (f : D → D) (hx0 : ix env s = .ok it s1) (hf : it.fuel s1 = xs.length + 1) (hi : ∀ i, it.at s1 i = some xs[i]?) (hl : xs.length ≤ 16777216)
    (hx : ∀ x ∈ xs, ∃ e1, tgE tg x (wipeE env vs) = some e1 ∧ tt e1 s1 = .ok (p x) s1 ∧ (p x = true → ∃ d, el e1 s1 = .ok d s1 ∧ snk (fz d) = some (f x))) : eLc tg ix tt el vs env s = .ok (.own (.lst ((xs.filter p).map f))) s1 := by
  simp only [eLc, hx0, hf]
  rw [lcX_eq p f hi hx _ 0 [] (Nat.zero_le _) (by omega) (by simp; omega)]
  simp
theorem eLc_L {tg : Tg} {tt : Tx} {el : Ex} {vs : List Nat} {e : Ex} {xs : List D} {env : Env} {s s1 : Store} (p : D → Bool) (f : D → D) (hx0 : iSeq e env s = .ok (.seq (.lst xs)) s1) (hl : xs.length ≤ 16777216)
    (hx : ∀ x ∈ xs, ∃ e1, tgE tg x (wipeE env vs) = some e1 ∧ tt e1 s1 = .ok (p x) s1 ∧ (p x = true → ∃ d, el e1 s1 = .ok d s1 ∧ snk (fz d) = some (f x))) : eLc tg (iSeq e) tt el vs env s = .ok (.own (.lst ((xs.filter p).map f))) s1 :=
  eLc_eq p f hx0 (by rfl) (fun i => by rfl) hl hx
/-! the steps -/
section
variable {s : Store} {i j : Int}
@[simp] theorem fAdd_i : fAdd s (.int i) (.int j) = .ok (.int (i + j)) s := rfl
@[simp] theorem fSub_i : fSub s (.int i) (.int j) = .ok (.int (i - j)) s := rfl
@[simp] theorem fLt_i : fLt s (.int i) (.int j) = .ok (.bl (decide (i < j))) s := rfl
@[simp] theorem fLe_i : fLe s (.int i) (.int j) = .ok (.bl (decide (i ≤ j))) s := rfl
@[simp] theorem fGt_i : fGt s (.int i) (.int j) = .ok (.bl (decide (j < i))) s := rfl
@[simp] theorem fGe_i : fGe s (.int i) (.int j) = .ok (.bl (decide (j ≤ i))) s := rfl
@[simp] theorem fNeg_i : fNeg s (.int i) = .ok (.int (-i)) s := rfl
@[simp] theorem fMax_i : fMax s (.int i) (.int j) = .ok (.int (if j > i then j else i)) s := rfl
@[simp] theorem fMin_i : fMin s (.int i) (.int j) = .ok (.int (if j < i then j else i)) s := rfl
theorem fDiv_i (h : 0 < j) (h2 : j < 1073741824) : fDiv s (.int i) (.int j) = .ok (.int (i / j)) s := by
  show (if (decide (0 < j) && decide (j < 1073741824)) = true then _ else _) = _
  rw [if_pos (by simp [h, h2])]
theorem fMod_i (h : 0 < j) : fMod s (.int i) (.int j) = .ok (.int (i % j)) s := by
  show (if decide (0 < j) = true then _ else _) = _
  rw [if_pos (by simp [h])]
@[simp] theorem fEq_i : fEq s (.int i) (.int j) = .ok (.bl (i == j)) s := rfl
@[simp] theorem fNe_i : fNe s (.int i) (.int j) = .ok (.bl (!(i == j))) s := rfl
@[simp] theorem fEq_b {a b : Bool} : fEq s (.bl a) (.bl b) = .ok (.bl (a == b)) s := rfl
@[simp] theorem fIsN_i : fIsN s (.int i) .non = .ok (.bl false) s := rfl
@[simp] theorem fIsN_n : fIsN s .non .non = .ok (.bl true) s := rfl
@[simp] theorem fNotN_i : fNotN s (.int i) .non = .ok (.bl true) s := rfl
@[simp] theorem fNotN_n : fNotN s .non .non = .ok (.bl false) s := rfl
@[simp] theorem fIsN_t {xs : List D} : fIsN s (.tup xs) .non = .ok (.bl false) s := rfl
@[simp] theorem fNotN_t {xs : List D} : fNotN s (.tup xs) .non = .ok (.bl true) s := rfl
@[simp] theorem fNotB_b {a b : Bool} : fNotB s (.bl a) (.bl b) = .ok (.bl (!decide (a = b))) s := rfl
@[simp] theorem fIsB_b {a b : Bool} : fIsB s (.bl a) (.bl b) = .ok (.bl (decide (a = b))) s := rfl
@[simp] theorem fLen_l {xs : List D} : fLen s (.lst xs) = .ok (.int xs.length) s := rfl
@[simp] theorem fLen_t {xs : List D} : fLen s (.tup xs) = .ok (.int xs.length) s := rfl
@[simp] theorem fLen_b {xs : List D} : fLen s (.bor (.lst xs)) = .ok (.int xs.length) s := rfl
@[simp] theorem fLen_s {ns : List Int} : fLen s (.scr ns) = .ok (.int ns.length) s := by simp [fLen, dr]
theorem fIx_l {xs : List D} {d : D} (h : atI xs i = some d) : fIx s (.lst xs) (.int i) = .ok d s := by simp only [fIx, dr, h]
theorem fIx_b {xs : List D} {d : D} (h : atI xs i = some d) : fIx s (.bor (.lst xs)) (.int i) = .ok d s := by simp only [fIx, dr, h]
theorem fIx_t {xs : List D} {d : D} (h : atI xs i = some d) : fIx s (.tup xs) (.int i) = .ok d s := by simp only [fIx, h]
theorem fIx_r {xs : List D} {d : D} {n : Nat} (h0 : s[n]? = some (.lst xs)) (h : atI xs i = some d) : fIx s (.ref n) (.int i) = .ok d s := by simp only [fIx, dr, h0, h]
@[simp] theorem fIx_p0 {a b : D} : fIx s (.tup [a, b]) (.int 0) = .ok a s := rfl
@[simp] theorem fIx_p1 {a b : D} : fIx s (.tup [a, b]) (.int 1) = .ok b s := rfl
end
theorem atI_of {t : Type} {xs : List t} {i : Int} {d : t} (h0 : 0 ≤ i) (h : xs[i.toNat]? = some d) : atI xs i = some d := by
  have := atI_nat h
  rw [show ((i.toNat : Nat) : Int) = i by omega] at this
  exact this
theorem eqv_self : ∀ (d : PyData), d.canLay0 = true → PyData.eqv d d = true := fun d h => SeqAt.eqv_refl d h
end Gm

set_option Elab.async false
set_option linter.all false
set_option maxRecDepth 100000
set_option autoImplicit false
namespace Lw
open PySem PySem.Spec PyProof.Rows L2 Gm
/- _law_cell_at: 0=script 1=k -/
def b__law_cell_at : Sx := sSeq (sIf (tq (eOp2 fLt (eVar 1) (eOp1 fLen (eVar 0)))) (sRet (eOp2 fIx (eVar 0) (eVar 1))) (sNil))
    (sRet (eC (D.int 0)))
def f__law_cell_at : Fx := fnX 2 2 b__law_cell_at
theorem ar__law_cell_at : Ar 2 f__law_cell_at := fnX_ar

/- are_stretches: 0=free 1=room 2=at 3=first 4=many -/
def b_are_stretches : Sx := sSeq (sSetF 2 (eOp1 fNeg (eC (D.int 1))))
    (sSeq (sFor (Tg.tp [3, 4]) (iSeq (eVar 0)) (sSeq (sIf (tOrX (tq (eOp2 fLe (eVar 3) (eVar 2))) (tOrX (tq (eOp2 fLt (eVar 4) (eC (D.int 1)))) (tq (eOp2 fGt (eOp2 fAdd (eVar 3) (eVar 4)) (eVar 1))))) (sRet (eC (D.bl false))) (sNil))
    (sSetF 2 (eOp2 fAdd (eVar 3) (eVar 4)))))
    (sRet (eC (D.bl true))))
def f_are_stretches : Fx := fnX 2 5 b_are_stretches
theorem ar_are_stretches : Ar 2 f_are_stretches := fnX_ar

/- ask: 0=free 1=room -/
def b_ask : Sx := sIf (tOrX (tq (eOp2 fLt (eVar 1) (eC (D.int 8)))) (tOrX (tq (eOp2 fGt (eVar 1) (eC (D.int 120)))) (tNotX (tq (eCall f_are_stretches (aCons (eVar 0) (aCons (eVar 1) (aNil)))))))) (sRaise 1) (sNil)
def f_ask : Fx := fnX 2 2 b_ask
theorem ar_ask : Ar 2 f_ask := fnX_ar

/- first_fit: 0=free 1=many 2=stretch -/
def b_first_fit : Sx := sSeq (sFor (Tg.nm 2) (iSeq (eVar 0)) (sIf (tq (eOp2 fGe (eOp2 fIx (eVar 2) (eC (D.int 1))) (eVar 1))) (sRet (eOp2 fIx (eVar 2) (eC (D.int 0)))) (sNil)))
    (sRet (eC D.non))
def f_first_fit : Fx := fnX 2 3 b_first_fit
theorem ar_first_fit : Ar 2 f_first_fit := fnX_ar

/- fit: 0=free 1=room 2=many -/
def b_fit : Sx := sSeq (sEx (eCall f_ask (aCons (eVar 0) (aCons (eVar 1) (aNil)))))
    (sSeq (sIf (tq (eOp2 fLt (eVar 2) (eC (D.int 1)))) (sRaise 2) (sNil))
    (sRet (eCall f_first_fit (aCons (eVar 0) (aCons (eVar 2) (aNil))))))
def f_fit : Fx := fnX 3 3 b_fit
theorem ar_fit : Ar 3 f_fit := fnX_ar

/- joined: 0=free 1=first 2=many 3=ahead 4=behind 5=more 6=stretch -/
def b_joined : Sx := sSeq (sAd 3 (sSet 3 (eLc (Tg.nm 6) (iSeq (eVar 0)) (tq (eOp2 fLe (eOp2 fAdd (eOp2 fIx (eVar 6) (eC (D.int 0))) (eOp2 fIx (eVar 6) (eC (D.int 1)))) (eVar 1))) (eVar 6) [6])))
    (sSeq (sAd 4 (sSet 4 (eLc (Tg.nm 6) (iSeq (eVar 0)) (tq (eOp2 fGe (eOp2 fIx (eVar 6) (eC (D.int 0))) (eOp2 fAdd (eVar 1) (eVar 2)))) (eVar 6) [6])))
    (sSeq (sIf (tAndX (tq (eOp2 fGt (eOp1 fLen (eVar 3)) (eC (D.int 0)))) (tq (eOp2 fEq (eOp2 fAdd (eOp2 fIx (eOp2 fIx (eVar 3) (eOp1 fNeg (eC (D.int 1)))) (eC (D.int 0))) (eOp2 fIx (eOp2 fIx (eVar 3) (eOp1 fNeg (eC (D.int 1)))) (eC (D.int 1)))) (eVar 1)))) (sSeq (sSetT [1, 5] (eOp1 fPop (eVar 3)))
    (sSetF 2 (eOp2 fAdd (eVar 2) (eVar 5)))) (sNil))
    (sSeq (sIf (tAndX (tq (eOp2 fGt (eOp1 fLen (eVar 4)) (eC (D.int 0)))) (tq (eOp2 fEq (eOp2 fIx (eOp2 fIx (eVar 4) (eC (D.int 0))) (eC (D.int 0))) (eOp2 fAdd (eVar 1) (eVar 2))))) (sSetF 2 (eOp2 fAdd (eVar 2) (eOp2 fIx (eMeth fPopAt (eVar 4) (eC (D.int 0))) (eC (D.int 1))))) (sNil))
    (sRet (eOp2 fAdd (eOp2 fAdd (eVar 3) (eLst (aCons (eTup (aCons (eVar 1) (aCons (eVar 2) (aNil)))) (aNil)))) (eVar 4))))))
def f_joined : Fx := fnX 3 7 b_joined
theorem ar_joined : Ar 3 f_joined := fnX_ar

/- touching: 0=free 1=first 2=many 3=stretch -/
def b_touching : Sx := sRet (eOp2 fGt (eOp1 fLen (eLc (Tg.nm 3) (iSeq (eVar 0)) (tAndX (tq (eOp2 fLt (eOp2 fIx (eVar 3) (eC (D.int 0))) (eOp2 fAdd (eVar 1) (eVar 2)))) (tq (eOp2 fLt (eVar 1) (eOp2 fAdd (eOp2 fIx (eVar 3) (eC (D.int 0))) (eOp2 fIx (eVar 3) (eC (D.int 1))))))) (eVar 3) [3])) (eC (D.int 0)))
def f_touching : Fx := fnX 3 4 b_touching
theorem ar_touching : Ar 3 f_touching := fnX_ar

/- put_back: 0=free 1=room 2=first 3=many -/
def b_put_back : Sx := sSeq (sEx (eCall f_ask (aCons (eVar 0) (aCons (eVar 1) (aNil)))))
    (sSeq (sIf (tOrX (tq (eOp2 fLt (eVar 3) (eC (D.int 1)))) (tOrX (tq (eOp2 fLt (eVar 2) (eC (D.int 0)))) (tOrX (tq (eOp2 fGt (eOp2 fAdd (eVar 2) (eVar 3)) (eVar 1))) (tq (eCall f_touching (aCons (eVar 0) (aCons (eVar 2) (aCons (eVar 3) (aNil))))))))) (sRaise 2) (sNil))
    (sRet (eCall f_joined (aCons (eVar 0) (aCons (eVar 2) (aCons (eVar 3) (aNil)))))))
def f_put_back : Fx := fnX 4 4 b_put_back
theorem ar_put_back : Ar 4 f_put_back := fnX_ar

/- _law_whole: 0=found -/
def b__law_whole : Sx := sRet (eAnd (eOp1 (fIsi "int") (eVar 0)) (eNot (eOp1 (fIsi "bool") (eVar 0))))
def f__law_whole : Fx := fnX 1 1 b__law_whole
theorem ar__law_whole : Ar 1 f__law_whole := fnX_ar

/- _law_is_stretches: 0=found 1=due 2=stretch -/
def b__law_is_stretches : Sx := sSeq (sIf (tOrX (tNotX (tq (eOp1 (fIsi "list") (eVar 0)))) (tq (eOp2 fNe (eOp1 fLen (eVar 0)) (eOp1 fLen (eVar 1))))) (sRet (eC (D.bl false))) (sNil))
    (sSeq (sFor (Tg.nm 2) (iSeq (eVar 0)) (sIf (tOrX (tNotX (tq (eOp1 (fIsi "tuple") (eVar 2)))) (tOrX (tNotX (tq (eCall f__law_whole (aCons (eOp2 fIx (eVar 2) (eC (D.int 0))) (aNil))))) (tNotX (tq (eCall f__law_whole (aCons (eOp2 fIx (eVar 2) (eC (D.int 1))) (aNil))))))) (sRet (eC (D.bl false))) (sNil)))
    (sRet (eOp2 fEq (eVar 0) (eVar 1))))
def f__law_is_stretches : Fx := fnX 2 3 b__law_is_stretches
theorem ar__law_is_stretches : Ar 2 f__law_is_stretches := fnX_ar

/- covering: 0=free 1=first 2=many 3=k -/
def b_covering : Sx := sSeq (sFor (Tg.nm 3) (xRng1 (eOp1 fLen (eVar 0))) (sIf (tAndX (tq (eOp2 fLe (eOp2 fIx (eOp2 fIx (eVar 0) (eVar 3)) (eC (D.int 0))) (eVar 1))) (tq (eOp2 fLe (eOp2 fAdd (eVar 1) (eVar 2)) (eOp2 fAdd (eOp2 fIx (eOp2 fIx (eVar 0) (eVar 3)) (eC (D.int 0))) (eOp2 fIx (eOp2 fIx (eVar 0) (eVar 3)) (eC (D.int 1))))))) (sRetV 3) (sNil)))
    (sRet (eC D.non))
def f_covering : Fx := fnX 3 4 b_covering
theorem ar_covering : Ar 3 f_covering := fnX_ar

/- without: 0=free 1=first 2=many 3=k 4=start 5=size 6=parts 7=part -/
def b_without : Sx := sSeq (sSetF 3 (eCall f_covering (aCons (eVar 0) (aCons (eVar 1) (aCons (eVar 2) (aNil))))))
    (sSeq (sSetT [4, 5] (eOp2 fIx (eVar 0) (eVar 3)))
    (sSeq (sSetF 6 (eLst (aCons (eTup (aCons (eVar 4) (aCons (eOp2 fSub (eVar 1) (eVar 4)) (aNil)))) (aCons (eTup (aCons (eOp2 fAdd (eVar 1) (eVar 2)) (aCons (eOp2 fSub (eOp2 fSub (eOp2 fAdd (eVar 4) (eVar 5)) (eVar 1)) (eVar 2)) (aNil)))) (aNil)))))
    (sRet (eOp2 fAdd (eOp2 fAdd (eSl (eVar 0) (oNo) (oSo (eVar 3))) (eLc (Tg.nm 7) (iSeq (eVar 6)) (tq (eOp2 fGt (eOp2 fIx (eVar 7) (eC (D.int 1))) (eC (D.int 0)))) (eVar 7) [7])) (eSl (eVar 0) (oSo (eOp2 fAdd (eVar 3) (eC (D.int 1)))) (oNo))))))
def f_without : Fx := fnX 3 8 b_without
theorem ar_without : Ar 3 f_without := fnX_ar

/- taken_off: 0=free 1=room 2=first 3=many -/
def b_taken_off : Sx := sSeq (sEx (eCall f_ask (aCons (eVar 0) (aCons (eVar 1) (aNil)))))
    (sSeq (sIf (tOrX (tq (eOp2 fLt (eVar 3) (eC (D.int 1)))) (tq (eOp2 fIsN (eCall f_covering (aCons (eVar 0) (aCons (eVar 2) (aCons (eVar 3) (aNil))))) (eC D.non)))) (sRaise 2) (sNil))
    (sRet (eCall f_without (aCons (eVar 0) (aCons (eVar 2) (aCons (eVar 3) (aNil)))))))
def f_taken_off : Fx := fnX 4 4 b_taken_off
theorem ar_taken_off : Ar 4 f_taken_off := fnX_ar

/- _law_runs: 0=bits 1=found 2=k -/
def b__law_runs : Sx := sSeq (sSet 1 (eLst (aNil)))
    (sSeq (sFor (Tg.nm 2) (xRng1 (eOp1 fLen (eVar 0))) (sIf (tAndX (tq (eOp2 fIx (eVar 0) (eVar 2))) (tAndX (tq (eOp2 fGt (eVar 2) (eC (D.int 0)))) (tq (eOp2 fIx (eVar 0) (eOp2 fSub (eVar 2) (eC (D.int 1))))))) (sSub 1 (eOp1 fNeg (eC (D.int 1))) (eTup (aCons (eOp2 fIx (eOp2 fIx (eVar 1) (eOp1 fNeg (eC (D.int 1)))) (eC (D.int 0))) (aCons (eOp2 fAdd (eOp2 fIx (eOp2 fIx (eVar 1) (eOp1 fNeg (eC (D.int 1)))) (eC (D.int 1))) (eC (D.int 1))) (aNil))))) (sIf (tq (eOp2 fIx (eVar 0) (eVar 2))) (sMut 1 gApp (eTup (aCons (eVar 2) (aCons (eC (D.int 1)) (aNil))))) (sNil))))
    (sRetV 1))
def f__law_runs : Fx := fnX 1 3 b__law_runs
theorem ar__law_runs : Ar 1 f__law_runs := fnX_ar

/- law: 0=script 1=room 2=bits 3=free 4=k 5=cell 6=held 7=many 8=first 9=place -/
def b_law : Sx := sSeq (sSetF 1 (eOp2 fAdd (eC (D.int 8)) (eOp2 fMod (eCall f__law_cell_at (aCons (eVar 0) (aCons (eC (D.int 0)) (aNil)))) (eC (D.int 33)))))
    (sSeq (sSetF 2 (eOp2 fMul (eLst (aCons (eC (D.bl true)) (aNil))) (eVar 1)))
    (sSeq (sSetF 3 (eLst (aCons (eTup (aCons (eC (D.int 0)) (aCons (eVar 1) (aNil)))) (aNil))))
    (sSeq (sFor (Tg.nm 4) (xRng1 (eOp2 fMod (eCall f__law_cell_at (aCons (eVar 0) (aCons (eC (D.int 1)) (aNil)))) (eC (D.int 25)))) (sSeq (sSetF 5 (eCall f__law_cell_at (aCons (eVar 0) (aCons (eOp2 fAdd (eC (D.int 2)) (eVar 4)) (aNil)))))
    (sSeq (sSetF 6 (eLc (Tg.nm 9) (xRng1 (eVar 1)) (tNotX (tq (eOp2 fIx (eVar 2) (eVar 9)))) (eVar 9) [9]))
    (sSeq (sIf (tOrX (tq (eOp2 fLt (eOp2 fMod (eVar 5) (eC (D.int 5))) (eC (D.int 3)))) (tq (eOp2 fEq (eOp1 fLen (eVar 6)) (eC (D.int 0))))) (sSeq (sSetF 7 (eOp2 fAdd (eC (D.int 1)) (eOp2 fMod (eOp2 fDiv (eVar 5) (eC (D.int 5))) (eC (D.int 6)))))
    (sSeq (sSetF 8 (eCall f_fit (aCons (eVar 3) (aCons (eVar 1) (aCons (eVar 7) (aNil))))))
    (sIf (tq (eOp2 fNotN (eVar 8) (eC D.non))) (sSeq (sIf (tOrX (tNotX (tq (eCall f__law_whole (aCons (eVar 8) (aNil))))) (tq (eOp2 fNe (eSl (eVar 2) (oSo (eVar 8)) (oSo (eOp2 fAdd (eVar 8) (eVar 7)))) (eOp2 fMul (eLst (aCons (eC (D.bl true)) (aNil))) (eVar 7))))) (sRet (eC (D.bl false))) (sNil))
    (sSeq (sSetF 2 (eOp2 fAdd (eOp2 fAdd (eSl (eVar 2) (oNo) (oSo (eVar 8))) (eOp2 fMul (eLst (aCons (eC (D.bl false)) (aNil))) (eVar 7))) (eSl (eVar 2) (oSo (eOp2 fAdd (eVar 8) (eVar 7))) (oNo))))
    (sSetF 3 (eCall f_taken_off (aCons (eVar 3) (aCons (eVar 1) (aCons (eVar 8) (aCons (eVar 7) (aNil))))))))) (sNil)))) (sSeq (sSetF 8 (eOp2 fIx (eVar 6) (eOp2 fMod (eOp2 fDiv (eVar 5) (eC (D.int 5))) (eOp1 fLen (eVar 6)))))
    (sSeq (sSetF 7 (eC (D.int 1)))
    (sSeq (sWhile 400 (tAndX (tq (eOp2 fLt (eVar 7) (eOp2 fAdd (eC (D.int 1)) (eOp2 fMod (eOp2 fDiv (eVar 5) (eC (D.int 200))) (eC (D.int 6)))))) (tAndX (tq (eOp2 fLt (eOp2 fAdd (eVar 8) (eVar 7)) (eVar 1))) (tNotX (tq (eOp2 fIx (eVar 2) (eOp2 fAdd (eVar 8) (eVar 7))))))) (sSetF 7 (eOp2 fAdd (eVar 7) (eC (D.int 1)))))
    (sSeq (sSetF 2 (eOp2 fAdd (eOp2 fAdd (eSl (eVar 2) (oNo) (oSo (eVar 8))) (eOp2 fMul (eLst (aCons (eC (D.bl true)) (aNil))) (eVar 7))) (eSl (eVar 2) (oSo (eOp2 fAdd (eVar 8) (eVar 7))) (oNo))))
    (sSetF 3 (eCall f_put_back (aCons (eVar 3) (aCons (eVar 1) (aCons (eVar 8) (aCons (eVar 7) (aNil))))))))))))
    (sIf (tNotX (tq (eCall f__law_is_stretches (aCons (eVar 3) (aCons (eCall f__law_runs (aCons (eVar 2) (aNil))) (aNil)))))) (sRet (eC (D.bl false))) (sNil))))))
    (sRet (eC (D.bl true))))))
def f_law : Fx := fnX 1 10 b_law
theorem ar_law : Ar 1 f_law := fnX_ar
end Lw

set_option Elab.async false
set_option linter.all false
set_option maxRecDepth 100000
set_option autoImplicit false
set_option maxHeartbeats 1000000
namespace Lw
open PySem L2 Gm
local macro_rules | `(tactic| walk_at "ev") => `(tactic| try simp only [eOp2, eOp1, eVar, eC, tq, tNotX, tAndX, tOrX, eAnd, eOr, eNot, eIf, aNil, aCons, snk, Gm.fz, eTup, eLst, eCall, oNo, oSo, eSl, iSeq, seqD, dr, tgE, setsE, Option.map_some, List.getElem?_cons_zero, List.getElem?_cons_succ, List.set_cons_zero, List.set_cons_succ, List.length_cons, List.length_nil, Nat.reduceAdd, Nat.reduceLeDiff, if_true, Int.reduceNeg,
  fAdd_i, fSub_i, fLt_i, fLe_i, fGt_i, fGe_i, fNeg_i, fMax_i, fMin_i, fEq_i, fNe_i, fEq_b, fIsN_i, fIsN_n, fNotN_i, fNotN_n, fIsN_t, fNotN_t, fNotB_b, fIsB_b, fLen_l, fLen_t, fLen_b, fLen_s, fIx_p0, fIx_p1, Bool.not_true, Bool.not_false, decide_true, decide_false])
def cellAt (ns : List Int) (k : Int) : Int := if k < ns.length then ns.getD k.toNat 0 else 0
theorem cell_eq {ns : List Int} {k : Int} {s : Store} (h : 0 ≤ k) : f__law_cell_at [.scr ns, .int k] s = .ok (.int (cellAt ns k)) s := by
  have key : (f__law_cell_at [.scr ns, .int k] s).W (fun d s' => d = .int (cellAt ns k) ∧ s' = s) X0 := by
    refine w_fn (env := [some (.scr ns), some (.int k)]) rfl rfl (w_seq (w_if (k := decide (k < (ns.length : Int))) (s' := s) (by walk_at "ev") (fun e => ?_) (fun e => ?_)))
    · have hlt : k < (ns.length : Int) := of_decide_eq_true e
      have : (ns.map D.int)[k.toNat]? = some (.int (ns.getD k.toNat 0)) := by
        rw [List.getElem?_map, List.getD_eq_getElem?_getD, List.getElem?_eq_getElem (by omega)]
        rfl
      refine w_ret (d := .int (ns.getD k.toNat 0)) (s' := s) ?_ rfl ⟨by unfold cellAt; rw [if_pos hlt], rfl⟩
      walk_at "ev"
      simp [fIx, dr, atI_of h this]
    · refine w_nil (w_ret (d := .int 0) (s' := s) (by walk_at "ev") rfl ⟨by unfold cellAt; rw [if_neg (of_decide_eq_false e)], rfl⟩)
  obtain ⟨d, s', e, rfl, rfl⟩ := key.eq
  exact e
/-! the runs of bits -/
abbrev Sg := List (Int × Int)
def encS (l : Sg) : List D := l.map fun p => D.tup [.int p.1, .int p.2]
/-- the runs of the first k bits -/
def runs (b : Nat → Bool) : Nat → Sg
  | 0 => []
  | k + 1 => if b k = true then (if 0 < k ∧ b (k - 1) = true then (match (runs b k).getLast? with
      | some (f, m) => (runs b k).dropLast ++ [(f, m + 1)]
      | none => runs b k ++ [((k : Int), 1)]) else runs b k ++ [((k : Int), 1)]) else runs b k
/-- rising, none beside another, of a word each, within n words -/
def Good : Int → Int → Sg → Prop
  | _, _, [] => True
  | at_, n, (f, m) :: r => at_ < f ∧ 1 ≤ m ∧ f + m ≤ n ∧ Good (f + m) n r
theorem Good.wide {at_ n n' : Int} : ∀ {l : Sg}, Good at_ n l → n ≤ n' → Good at_ n' l
  | [], _, _ => trivial
  | (f, m) :: r, h, k => ⟨h.1, h.2.1, by have := h.2.2.1; omega, h.2.2.2.wide k⟩
theorem Good.snoc {at_ n f m : Int} : ∀ {l : Sg} , Good at_ n l → at_ < f → (∀ p ∈ l, p.1 + p.2 < f) → 1 ≤ m → f + m ≤ n → Good at_ n (l ++ [(f, m)])
  | [], _, h, _, h1, h2 => ⟨h, h1, h2, trivial⟩
  | (a, b) :: r, h, _, k, h1, h2 => ⟨h.1, h.2.1, h.2.2.1, h.2.2.2.snoc (k (a, b) List.mem_cons_self) (fun p hp => k p (List.mem_cons_of_mem _ hp)) h1 h2⟩
theorem Good.mem {at_ n : Int} : ∀ {l : Sg}, Good at_ n l → ∀ p ∈ l, at_ < p.1 ∧ 1 ≤ p.2 ∧ p.1 + p.2 ≤ n
  | (f, m) :: r, h, p, hp => by
    rcases List.mem_cons.mp hp with e | e
    · subst e; exact ⟨h.1, h.2.1, h.2.2.1⟩
    · obtain ⟨a, b, c⟩ := h.2.2.2.mem p e
      have := h.1; have := h.2.1
      exact ⟨by omega, b, c⟩
/-- what holds of the runs of the first k bits -/
structure RunsOk (b : Nat → Bool) (k : Nat) : Prop where
  good : Good (-1) k (runs b k)
  last : (0 < k ∧ b (k - 1) = true) → ∃ r f m, runs b k = r ++ [(f, m)] ∧ f + m = (k : Int) ∧ ∀ p ∈ r, p.1 + p.2 < f
  off : ¬ (0 < k ∧ b (k - 1) = true) → ∀ p ∈ runs b k, p.1 + p.2 < (k : Int)
theorem Good.init {at_ n : Int} : ∀ {l r : Sg}, Good at_ n (l ++ r) → Good at_ n l
  | [], _, _ => trivial
  | (f, m) :: l, r, h => ⟨h.1, h.2.1, h.2.2.1, h.2.2.2.init⟩
theorem runs_ok (b : Nat → Bool) : ∀ k, RunsOk b k
  | 0 => ⟨trivial, fun h => by omega, fun _ p hp => by simp [runs] at hp⟩
  | k + 1 => by
    have ih := runs_ok b k
    by_cases hb : b k = true
    · by_cases hp : 0 < k ∧ b (k - 1) = true
      · obtain ⟨r, f, m, e, hf, hr⟩ := ih.last hp
        have e2 : runs b (k + 1) = r ++ [(f, m + 1)] := by
          simp only [runs, hb, if_true, if_pos hp, e]
          simp
        have g := ih.good
        rw [e] at g
        have gm := g.mem (f, m) (by simp)
        have hff : ∀ p ∈ r, p.1 + p.2 < f := hr
        refine ⟨?_, fun _ => ⟨r, f, m + 1, e2, by simp only [] at *; omega, hr⟩, fun h => absurd ⟨by omega, by simpa using hb⟩ h⟩
        rw [e2]
        have gm1 : (-1 : Int) < f := gm.1
        have gm2 : 1 ≤ m := gm.2.1
        exact (g.init.wide (by omega)).snoc gm1 hff (by omega) (by omega)
      · have e2 : runs b (k + 1) = runs b k ++ [((k : Int), 1)] := by
          simp only [runs, hb, if_true, if_neg hp]
        have off := ih.off hp
        refine ⟨?_, fun _ => ⟨runs b k, k, 1, e2, by omega, off⟩, fun h => absurd ⟨by omega, by simpa using hb⟩ h⟩
        rw [e2]
        exact (ih.good.wide (by omega)).snoc (by omega) off (by omega) (by omega)
    · have e2 : runs b (k + 1) = runs b k := by simp only [runs, hb]; simp
      refine ⟨by rw [e2]; exact ih.good.wide (by omega), fun h => absurd (by simpa using h.2) hb, fun _ p hp => ?_⟩
      rw [e2] at hp
      have := (ih.good.mem p hp).2.2
      omega
theorem runs_len (b : Nat → Bool) : ∀ k, (runs b k).length ≤ k
  | 0 => Nat.le_refl _
  | k + 1 => by
    have ih := runs_len b k
    unfold runs
    split
    · split
      · split
        · simp; omega
        · simp; omega
      · simp; omega
    · omega
theorem runs_get {l : List Bool} {i : Nat} {k : Int} {s : Store} (hi : i < l.length) (hk : k = (i : Int)) : fIx s (.lst (l.map D.bl)) (.int k) = .ok (.bl (l.getD i false)) s := by
  refine fIx_l (atI_of (by omega) ?_)
  rw [List.getElem?_map, show k.toNat = i by omega, List.getD_eq_getElem?_getD, List.getElem?_eq_getElem hi]
  rfl
theorem encS_len (l : Sg) : (encS l).length = l.length := by unfold encS; rw [List.length_map]
theorem encS_snoc (l : Sg) (p : Int × Int) : encS (l ++ [p]) = encS l ++ [.tup [.int p.1, .int p.2]] := by simp [encS]
theorem ixN_last {n : Nat} (h : 0 < n) : ixN n (-1) = some (n - 1) := by
  unfold ixN
  rw [if_neg (by decide), if_pos (by omega)]
  congr 1
  omega
theorem runs_eq {l : List Bool} {s : Store} (hn : l.length ≤ 1000) : f__law_runs [.lst (l.map D.bl)] s = .ok (.own (.lst (encS (runs (fun i => l.getD i false) l.length)))) s := by
  have key : (f__law_runs [.lst (l.map D.bl)] s).W (fun d s' => d = .own (.lst (encS (runs (fun i => l.getD i false) l.length))) ∧ s' = s) X0 := by
    refine w_fn (env := [some (.lst (l.map D.bl)), none, none]) rfl rfl ?_
    refine w_seq (w_set (d := .own (.lst [])) (s' := s) (by walk_at "ev") rfl ?_)
    refine w_seq (w_forR (lo := 0) (n := l.length) (s' := s) (xRng1_of (j := l.length) (by walk_at "ev"; rw [List.length_map]) (by omega) (by omega)) (fun i e s' => s' = s ∧ ∃ v, e = [some (.lst (l.map D.bl)), some (.own (.lst (encS (runs (fun i => l.getD i false) i)))), v]) ⟨rfl, _, rfl⟩ ?_ ?_)
    · rintro i e s' hi ⟨rfl, v, rfl⟩
      generalize hk : (0 : Int) + (i : Int) = k
      have hk0 : k = (i : Int) := by omega
      have g1 : fIx s' (.lst (l.map D.bl)) (.int k) = .ok (.bl (l.getD i false)) s' := runs_get hi hk0
      have rl := runs_len (fun i => l.getD i false) i
      have hkp : decide (0 < k) = decide (0 < i) := by rw [hk0]; simp
      by_cases hb : l.getD i false = true
      · by_cases h0 : 0 < i
        · have g2 : fIx s' (.lst (l.map D.bl)) (.int (k - 1)) = .ok (.bl (l.getD (i - 1) false)) s' := runs_get (by omega) (by omega)
          by_cases hp : l.getD (i - 1) false = true
          · obtain ⟨r, f, m, er, hf, hr⟩ := (runs_ok (fun i => l.getD i false) i).last ⟨h0, hp⟩
            have e2 : runs (fun i => l.getD i false) (i + 1) = r ++ [(f, m + 1)] := by
              simp only [runs, hb, if_true, if_pos (show 0 < i ∧ l.getD (i - 1) false = true from ⟨h0, hp⟩), er]
              simp
            refine w_ifT (s' := s') ?_ ?_
            · walk_at "ev"
              simp only [g1, hb, g2, hp, hkp, h0, decide_true]
            · have lst1 : fIx s' (.bor (.lst (encS (runs (fun i => l.getD i false) i)))) (.int (-1)) = .ok (.tup [.int f, .int m]) s' := by
                rw [er, encS_snoc]
                exact fIx_b (atI_last _ _)
              refine w_sub (d := .tup [.int f, .int (m + 1)]) (d' := .tup [.int f, .int (m + 1)]) (k := -1) (s1 := s') (s' := s') (j := r.length) (xs := encS (runs (fun i => l.getD i false) i)) ?_ rfl (by walk_at "ev") rfl ?_ ⟨rfl, some (.int k), ?_⟩
              · walk_at "ev"
                simp only [lst1, fIx_p0, fIx_p1, fAdd_i]
                try simp
              · rw [er, encS_snoc, List.length_append, List.length_singleton, ixN_last (by omega)]
                simp [encS]
              · rw [e2, er, encS_snoc, encS_snoc]
                simp [encS]
          · have e2 : runs (fun i => l.getD i false) (i + 1) = runs (fun i => l.getD i false) i ++ [((i : Int), 1)] := by
              simp only [runs, hb, if_true, if_neg (show ¬ (0 < i ∧ l.getD (i - 1) false = true) from fun z => hp z.2)]
            have hp' : l.getD (i - 1) false = false := by simpa using hp
            refine w_ifF (s' := s') ?_ (w_ifT (s' := s') ?_ (w_app (d := .tup [.int k, .int 1]) (d' := .tup [.int k, .int 1]) (s' := s') (xs := encS (runs (fun i => l.getD i false) i)) ?_ rfl rfl ?_ ⟨rfl, some (.int k), ?_⟩))
            · walk_at "ev"
              simp only [g1, hb, g2, hp', hkp, h0, decide_true]
            · walk_at "ev"
              simp only [g1, hb]
            · walk_at "ev"
            · rw [encS_len]; omega
            · rw [e2, encS_snoc, hk0]; rfl
        · have e2 : runs (fun i => l.getD i false) (i + 1) = runs (fun i => l.getD i false) i ++ [((i : Int), 1)] := by
            simp only [runs, hb, if_true, if_neg (show ¬ (0 < i ∧ l.getD (i - 1) false = true) from fun z => h0 z.1)]
          refine w_ifF (s' := s') ?_ (w_ifT (s' := s') ?_ (w_app (d := .tup [.int k, .int 1]) (d' := .tup [.int k, .int 1]) (s' := s') (xs := encS (runs (fun i => l.getD i false) i)) ?_ rfl rfl ?_ ⟨rfl, some (.int k), ?_⟩))
          · walk_at "ev"
            simp only [g1, hb, hkp, decide_eq_false h0]
          · walk_at "ev"
            simp only [g1, hb]
          · walk_at "ev"
          · rw [encS_len]; omega
          · rw [e2, encS_snoc, hk0]; rfl
      · have e2 : runs (fun i => l.getD i false) (i + 1) = runs (fun i => l.getD i false) i := by
          simp only [runs, hb]; simp
        have hb' : l.getD i false = false := by simpa using hb
        refine w_ifF (s' := s') ?_ (w_ifF (s' := s') ?_ (w_nil ⟨rfl, some (.int k), ?_⟩))
        · walk_at "ev"
          simp only [g1, hb']
        · walk_at "ev"
          simp only [g1, hb']
        · rw [e2]; rfl
    · rintro e s' ⟨rfl, v, rfl⟩
      exact w_retV rfl rfl ⟨rfl, rfl⟩
  obtain ⟨d, s', e, rfl, rfl⟩ := key.eq
  exact e
/-! are_stretches, first_fit -/
def goodB : Int → Int → Sg → Bool
  | _, _, [] => true
  | at_, n, (f, m) :: r => if f ≤ at_ ∨ m < 1 ∨ n < f + m then false else goodB (f + m) n r
theorem goodB_iff : ∀ {at_ n : Int} {l : Sg}, goodB at_ n l = true ↔ Good at_ n l
  | _, _, [] => by simp [goodB, Good]
  | at_, n, (f, m) :: r => by
    unfold goodB Good
    by_cases h : f ≤ at_ ∨ m < 1 ∨ n < f + m
    · rw [if_pos h]
      constructor
      · intro z; cases z
      · rintro ⟨a, b, c, _⟩; omega
    · rw [if_neg h, goodB_iff]
      constructor
      · intro z; exact ⟨by omega, by omega, by omega, z⟩
      · rintro ⟨_, _, _, z⟩; exact z
theorem encS_get {l : Sg} {i : Nat} {x : D} (h : (encS l)[i]? = some x) : ∃ p, l[i]? = some p ∧ x = .tup [.int p.1, .int p.2] := by
  unfold encS at h
  rw [List.getElem?_map] at h
  cases q : l[i]? with
  | none => rw [q] at h; cases h
  | some p => rw [q] at h; cases h; exact ⟨p, rfl, rfl⟩
theorem are_eq {l : Sg} {n : Int} {s : Store} : f_are_stretches [.lst (encS l), .int n] s = .ok (.bl (goodB (-1) n l)) s := by
  have key : (f_are_stretches [.lst (encS l), .int n] s).W (fun d s' => d = .bl (goodB (-1) n l) ∧ s' = s) X0 := by
    refine w_fn (env := [some (.lst (encS l)), some (.int n), none, none, none]) rfl rfl ?_
    refine w_seq (w_setF (d := .int (-1)) (d' := .int (-1)) (s' := s) (by walk_at "ev") rfl ?_)
    refine w_seq (w_forL (xs := encS l) (s' := s) (iSeq_of (d := .lst (encS l)) (by walk_at "ev") rfl rfl) (fun i e s' => s' = s ∧ ∃ a v1 v2, e = [some (.lst (encS l)), some (.int n), some (.int a), v1, v2] ∧ goodB (-1) n l = goodB a n (l.drop i)) ⟨rfl, -1, none, none, rfl, by simp⟩ ?_ ?_)
    · rintro i x e s' hx ⟨rfl, a, v1, v2, rfl, hg⟩
      obtain ⟨⟨f, m⟩, hp, rfl⟩ := encS_get hx
      refine ⟨_, rfl, ?_⟩
      have hd : l.drop i = (f, m) :: l.drop (i + 1) := by
        obtain ⟨hl, e⟩ := List.getElem?_eq_some_iff.mp hp
        rw [List.drop_eq_getElem_cons hl, e]
      rw [hd] at hg
      rw [goodB.eq_2] at hg
      by_cases h : f ≤ a ∨ m < 1 ∨ n < f + m
      · rw [if_pos h] at hg
        refine w_seq (w_ifT (s' := s') ?_ (w_ret (d := .bl false) (s' := s') (by walk_at "ev") rfl ⟨by rw [hg], rfl⟩))
        walk_at "ev"
        rcases h with h | h | h
        · simp [h]
        · by_cases h1 : f ≤ a
          · simp [h1]
          · simp [h1, h]
        · by_cases h1 : f ≤ a
          · simp [h1]
          · by_cases h2 : m < 1
            · simp [h1, h2]
            · simp [h1, h2, h]
      · rw [if_neg h] at hg
        refine w_seq (w_ifF (s' := s') ?_ (w_nil (w_setF (d := .int (f + m)) (d' := .int (f + m)) (s' := s') (by walk_at "ev") rfl ⟨rfl, f + m, some (.int f), some (.int m), rfl, hg⟩)))
        walk_at "ev"
        simp [show ¬ f ≤ a by omega, show ¬ m < 1 by omega, show ¬ n < f + m by omega]
    · rintro e s' ⟨rfl, a, v1, v2, rfl, hg⟩
      have : l.drop (encS l).length = [] := by rw [List.drop_eq_nil_iff]; simp [encS]
      rw [this] at hg
      exact w_ret (d := .bl true) (s' := s') (by walk_at "ev") rfl ⟨by rw [hg]; rfl, rfl⟩
  obtain ⟨d, s', e, rfl, rfl⟩ := key.eq
  exact e
/-! pairs compared -/
def pyP (p : Int × Int) : PyData := .tuple [.int p.1, .int p.2]
theorem toPy_enc (s : Store) (n : Nat) : ∀ l : Sg, (encS l).mapM (toPy s (n + 2)) = some (l.map pyP)
  | [] => rfl
  | p :: r => by
    have ih := toPy_enc s n r
    show ((D.tup [.int p.1, .int p.2]) :: encS r).mapM (toPy s (n + 2)) = _
    rw [List.mapM_cons, ih]
    rfl
theorem canLay_enc : ∀ l : Sg, PyData.canLayAll0 (l.map pyP) = true
  | [] => rfl
  | p :: r => by
    show (PyData.canLay0 (pyP p) && PyData.canLayAll0 (r.map pyP)) = true
    rw [canLay_enc r]; rfl
theorem toPy_L (s : Store) (l : Sg) : toPy s 9 (.lst (encS l)) = some (.list (l.map pyP)) := by
  show ((encS l).mapM (toPy s 8)).map PyData.list = _
  rw [toPy_enc s 6 l]; rfl
theorem fNe_same {s : Store} {a b : D} {p : PyData} (h : toPy s 9 a = some p) (k : toPy s 9 b = some p) (c : p.canLay0 = true) : fNe s a b = .ok (.bl false) s := by
  unfold fNe
  rw [h, k]
  simp only [c, and_self, if_true, eqv_self p c, Bool.not_true]
/-! ask, and those that ask: refused -/
theorem ask_eq {l : Sg} {n : Int} {s : Store} : f_ask [.lst (encS l), .int n] s = if 8 ≤ n ∧ n ≤ 120 ∧ goodB (-1) n l = true then .ok .non s else .exc 1 s := by
  have key : (f_ask [.lst (encS l), .int n] s).W (fun d s' => d = .non ∧ s' = s ∧ (8 ≤ n ∧ n ≤ 120 ∧ goodB (-1) n l = true)) (fun c s' => c = 1 ∧ s' = s ∧ ¬ (8 ≤ n ∧ n ≤ 120 ∧ goodB (-1) n l = true)) := by
    refine w_fn (env := [some (.lst (encS l)), some (.int n)]) rfl rfl ?_
    by_cases h1 : n < 8
    · refine w_ifT (s' := s) ?_ (w_raise ⟨rfl, rfl, fun z => by omega⟩)
      walk_at "ev"
      rw [decide_eq_true h1]
    · by_cases h2 : 120 < n
      · refine w_ifT (s' := s) ?_ (w_raise ⟨rfl, rfl, fun z => by omega⟩)
        walk_at "ev"
        rw [decide_eq_false h1, decide_eq_true h2]
      · cases hg : goodB (-1) n l with
        | true =>
          refine w_ifF (s' := s) ?_ (w_nil ⟨rfl, rfl, by omega, by omega, rfl⟩)
          walk_at "ev"
          rw [decide_eq_false h1, decide_eq_false h2]
          walk_at "ev"
          rw [are_eq, hg]
          rfl
        | false =>
          refine w_ifT (s' := s) ?_ (w_raise ⟨rfl, rfl, fun z => by simp at z⟩)
          walk_at "ev"
          rw [decide_eq_false h1, decide_eq_false h2]
          walk_at "ev"
          rw [are_eq, hg]
          rfl
  by_cases h : 8 ≤ n ∧ n ≤ 120 ∧ goodB (-1) n l = true
  · rw [if_pos h]
    generalize f_ask [.lst (encS l), .int n] s = r at key
    cases key with
    | ok z => rw [z.1, z.2.1]
    | exc z => exact absurd h z.2.2
  · rw [if_neg h]
    generalize f_ask [.lst (encS l), .int n] s = r at key
    cases key with
    | ok z => exact absurd z.2.2 h
    | exc z => rw [z.1, z.2.1]
theorem tOrX_t {t u : Tx} {env : Gm.Env} {s s' : Store} (h : t env s = .ok true s') : tOrX t u env s = .ok true s' := by
  unfold tOrX; rw [h]
/-! ask, fit -/
theorem ask_ok {l : Sg} {n : Int} {s : Store} (h1 : 8 ≤ n) (h2 : n ≤ 120) (h3 : goodB (-1) n l = true) : f_ask [.lst (encS l), .int n] s = .ok .non s := by
  have key : (f_ask [.lst (encS l), .int n] s).W (fun d s' => d = .non ∧ s' = s) X0 := by
    refine w_fn (env := [some (.lst (encS l)), some (.int n)]) rfl rfl ?_
    refine w_ifF (s' := s) ?_ (w_nil ⟨rfl, rfl⟩)
    walk_at "ev"
    rw [decide_eq_false (show ¬ n < 8 by omega), decide_eq_false (show ¬ 120 < n by omega)]
    walk_at "ev"
    rw [are_eq, h3]
    rfl
  obtain ⟨d, s', e, rfl, rfl⟩ := key.eq
  exact e
def optI : Option Int → D
  | some i => .int i
  | none => .non
def ffit (l : Sg) (m : Int) : Option Int := (l.find? fun p => decide (m ≤ p.2)).map (·.1)
theorem ffit_eq {l : Sg} {n : Int} {s : Store} : f_first_fit [.lst (encS l), .int n] s = .ok (optI (ffit l n)) s := by
  have key : (f_first_fit [.lst (encS l), .int n] s).W (fun d s' => d = optI (ffit l n) ∧ s' = s) X0 := by
    refine w_fn (env := [some (.lst (encS l)), some (.int n), none]) rfl rfl ?_
    refine w_seq (w_forL (xs := encS l) (s' := s) (iSeq_of (d := .lst (encS l)) (by walk_at "ev") rfl rfl) (fun i e s' => s' = s ∧ ∃ v1, e = [some (.lst (encS l)), some (.int n), v1] ∧ ffit l n = ffit (l.drop i) n) ⟨rfl, none, rfl, by simp⟩ ?_ ?_)
    · rintro i x e s' hx ⟨rfl, v1, rfl, hg⟩
      obtain ⟨⟨f, m⟩, hp, rfl⟩ := encS_get hx
      refine ⟨_, rfl, ?_⟩
      have hd : l.drop i = (f, m) :: l.drop (i + 1) := by
        obtain ⟨hl, e⟩ := List.getElem?_eq_some_iff.mp hp
        rw [List.drop_eq_getElem_cons hl, e]
      rw [hd] at hg
      by_cases h : n ≤ m
      · refine w_ifT (s' := s') ?_ (w_ret (d := .int f) (s' := s') (by walk_at "ev") rfl ⟨by rw [hg]; simp [ffit, h, optI], rfl⟩)
        walk_at "ev"
        first | rw [decide_eq_true h] | rw [decide_eq_false h]
      · refine w_ifF (s' := s') ?_ (w_nil ⟨rfl, _, rfl, by rw [hg]; simp [ffit, h]⟩)
        walk_at "ev"
        first | rw [decide_eq_true h] | rw [decide_eq_false h]
    · rintro e s' ⟨rfl, v1, rfl, hg⟩
      have : l.drop (encS l).length = [] := by rw [List.drop_eq_nil_iff]; simp [encS]
      rw [this] at hg
      exact w_ret (d := .non) (s' := s') (by walk_at "ev") rfl ⟨by rw [hg]; rfl, rfl⟩
  obtain ⟨d, s', e, rfl, rfl⟩ := key.eq
  exact e
theorem fit_ok {l : Sg} {n m : Int} {s : Store} (h1 : 8 ≤ n) (h2 : n ≤ 120) (h3 : goodB (-1) n l = true) (h4 : 1 ≤ m) : f_fit [.lst (encS l), .int n, .int m] s = .ok (optI (ffit l m)) s := by
  have key : (f_fit [.lst (encS l), .int n, .int m] s).W (fun d s' => d = optI (ffit l m) ∧ s' = s) X0 := by
    refine w_fn (env := [some (.lst (encS l)), some (.int n), some (.int m)]) rfl rfl ?_
    refine w_seq (w_ex (d := .non) (s' := s) (by walk_at "ev"; exact ask_ok h1 h2 h3) ?_)
    refine w_seq (w_ifF (s' := s) (by walk_at "ev"; rw [decide_eq_false (show ¬ m < 1 by omega)]) (w_nil ?_))
    refine w_ret (d := optI (ffit l m)) (s' := s) (by walk_at "ev"; exact ffit_eq) (by cases ffit l m <;> rfl) ⟨rfl, rfl⟩
  obtain ⟨d, s', e, rfl, rfl⟩ := key.eq
  exact e
theorem eqv_due : ∀ a b : Bool, PyData.eqv (.tuple [.bool (!a), .bool true, .bool a]) (.tuple [.bool (!b), .bool true, .bool b]) = decide (a = b) := by decide
theorem enc_app (a b : Sg) : encS a ++ encS b = encS (a ++ b) := by unfold encS; rw [List.map_append]
theorem enc_one (f m : Int) : [D.tup [.int f, .int m]] = encS [(f, m)] := rfl
theorem cat_enc {s : Store} {a b : Sg} (ha : a.length ≤ 1000) (hb : b.length ≤ 1000) : fAdd s (.lst (encS a)) (.lst (encS b)) = .ok (.own (.lst (encS (a ++ b)))) s := by
  simp only [fAdd, fCat, drM, dr]
  rw [if_pos (by rw [encS_len, encS_len]; omega), enc_app]
theorem cut_enc (l : Sg) (k : Nat) (hk : k ≤ l.length) : cutD (encS l) none (some (k : Int)) = encS (l.take k) ∧ cutD (encS l) (some (k : Int)) none = encS (l.drop k) := by
  unfold cutD
  rw [HT.sIx_none, HT.sIx_none, HT.sIx_nat, encS_len, Nat.min_eq_left hk]
  constructor
  · simp [encS]
  · rw [show encS l = l.map _ from rfl, ← List.map_drop, List.take_of_length_le (by simp), HT.sIx_nat, Nat.min_eq_left hk]
    rfl
/-! the words that stretches hold -/
def Cov (l : Sg) (i : Int) : Prop := ∃ p ∈ l, p.1 ≤ i ∧ i < p.1 + p.2
theorem cov_nil {i : Int} : Cov [] i ↔ False := ⟨fun ⟨_, h, _⟩ => (by cases h), fun h => h.elim⟩
theorem cov_cons {p : Int × Int} {l : Sg} {i : Int} : Cov (p :: l) i ↔ (p.1 ≤ i ∧ i < p.1 + p.2) ∨ Cov l i := by
  constructor
  · rintro ⟨q, h, k⟩
    rcases List.mem_cons.mp h with rfl | h
    · exact .inl k
    · exact .inr ⟨q, h, k⟩
  · rintro (k | ⟨q, h, k⟩)
    · exact ⟨p, List.mem_cons_self, k⟩
    · exact ⟨q, List.mem_cons_of_mem _ h, k⟩
theorem cov_app {a b : Sg} {i : Int} : Cov (a ++ b) i ↔ Cov a i ∨ Cov b i := by
  induction a with
  | nil => simp [cov_nil]
  | cons p a ih => rw [List.cons_append, cov_cons, cov_cons, ih, or_assoc]
theorem Good.cov {a n : Int} {l : Sg} (h : Good a n l) {i : Int} (c : Cov l i) : a < i ∧ i < n := by
  obtain ⟨p, hp, k1, k2⟩ := c
  obtain ⟨m1, m2, m3⟩ := h.mem p hp
  omega
theorem good_uniq : ∀ {l l' : Sg} {a n n' : Int}, Good a n l → Good a n' l' → (∀ i, Cov l i ↔ Cov l' i) → l = l'
  | [], [], _, _, _, _, _, _ => rfl
  | [], (f, m) :: r, _, _, _, _, h', k => by
    have := (k f).mpr (cov_cons.mpr (.inl ⟨Int.le_refl _, by have := h'.2.1; show f < f + m; omega⟩))
    exact (cov_nil.mp this).elim
  | (f, m) :: r, [], _, _, _, h, _, k => by
    have := (k f).mp (cov_cons.mpr (.inl ⟨Int.le_refl _, by have := h.2.1; show f < f + m; omega⟩))
    exact (cov_nil.mp this).elim
  | (f, m) :: r, (f', m') :: r', a, n, n', h, h', k => by
    have h1 := h.2.1
    have h1' := h'.2.1
    have hr := h.2.2.2
    have hr' := h'.2.2.2
    have low : ∀ i, Cov r i → f + m < i := fun i c => (hr.cov c).1
    have low' : ∀ i, Cov r' i → f' + m' < i := fun i c => (hr'.cov c).1
    have e1 : f = f' := by
      have c1 := (k f).mp (cov_cons.mpr (.inl ⟨Int.le_refl _, by show f < f + m; omega⟩))
      have c2 := (k f').mpr (cov_cons.mpr (.inl ⟨Int.le_refl _, by show f' < f' + m'; omega⟩))
      rcases cov_cons.mp c1 with z | z <;> rcases cov_cons.mp c2 with y | y
      · have z1 : f' ≤ f := z.1
        have y1 : f ≤ f' := y.1
        omega
      · have z1 : f' ≤ f := z.1
        have := low _ y
        omega
      · have y1 : f ≤ f' := y.1
        have := low' _ z
        omega
      · have := low' _ z
        have := low _ y
        omega
    subst e1
    have e2 : m = m' := by
      rcases Int.lt_trichotomy m m' with z | z | z
      · have c := (k (f + m)).mpr (cov_cons.mpr (.inl ⟨by show f ≤ f + m; omega, by show f + m < f + m'; omega⟩))
        rcases cov_cons.mp c with y | y
        · have y2 : f + m < f + m := y.2
          omega
        · have := low _ y; omega
      · exact z
      · have c := (k (f + m')).mp (cov_cons.mpr (.inl ⟨by show f ≤ f + m'; omega, by show f + m' < f + m; omega⟩))
        rcases cov_cons.mp c with y | y
        · have y2 : f + m' < f + m' := y.2
          omega
        · have := low' _ y; omega
    subst e2
    rw [good_uniq hr hr' fun i => ?_]
    constructor
    · intro c
      have := low i c
      rcases cov_cons.mp ((k i).mp (cov_cons.mpr (.inr c))) with y | y
      · have y2 : i < f + m := y.2
        omega
      · exact y
    · intro c
      have := low' i c
      rcases cov_cons.mp ((k i).mpr (cov_cons.mpr (.inr c))) with y | y
      · have y2 : i < f + m := y.2
        omega
      · exact y
theorem Good.low {a c n : Int} : ∀ {l : Sg}, Good c n l → a ≤ c → Good a n l
  | [], _, _ => trivial
  | (f, m) :: r, h, k => ⟨by have := h.1; omega, h.2⟩
theorem Good.app {a c n : Int} : ∀ {A B : Sg}, Good a n A → (∀ q ∈ A, q.1 + q.2 ≤ c) → a ≤ c → Good c n B → Good a n (A ++ B)
  | [], B, _, _, h, k => k.low h
  | (f, m) :: r, B, h, hm, hac, k => ⟨h.1, h.2.1, h.2.2.1, h.2.2.2.app (fun q hq => hm q (List.mem_cons_of_mem _ hq)) (hm (f, m) List.mem_cons_self) k⟩
theorem Good.split {a n st sz : Int} : ∀ {A B : Sg}, Good a n (A ++ (st, sz) :: B) → Good a n A ∧ (∀ q ∈ A, q.1 + q.2 < st) ∧ Good (st + sz) n B ∧ a < st ∧ 1 ≤ sz ∧ st + sz ≤ n
  | [], B, h => ⟨trivial, (by intro q hq; cases hq), h.2.2.2, h.1, h.2.1, h.2.2.1⟩
  | (f, m) :: A, B, h => by
    obtain ⟨g1, g2, g3, g4, g5, g6⟩ := h.2.2.2.split
    have := h.1; have := h.2.1
    refine ⟨⟨h.1, h.2.1, h.2.2.1, g1⟩, fun q hq => ?_, g3, by omega, g5, g6⟩
    rcases List.mem_cons.mp hq with rfl | hq
    · exact g4
    · exact g2 q hq
/-- words one behind another that are held: one stretch has them all -/
theorem Good.one {f m : Int} (hm : 1 ≤ m) : ∀ {l : Sg} {a n : Int}, Good a n l → (∀ i, f ≤ i → i < f + m → Cov l i) → ∃ p ∈ l, p.1 ≤ f ∧ f + m ≤ p.1 + p.2
  | [], _, _, _, k => (cov_nil.mp (k f (Int.le_refl _) (by omega))).elim
  | (g, w) :: r, a, n, h, k => by
    have low : ∀ i, Cov r i → g + w < i := fun i c => (h.2.2.2.cov c).1
    have hw := h.2.1
    rcases cov_cons.mp (k f (Int.le_refl _) (by omega)) with z | z
    · have z1 : g ≤ f := z.1
      have z2 : f < g + w := z.2
      by_cases e : f + m ≤ g + w
      · exact ⟨(g, w), List.mem_cons_self, z1, e⟩
      · exfalso
        rcases cov_cons.mp (k (g + w) (by omega) (by omega)) with y | y
        · have y2 : g + w < g + w := y.2
          omega
        · have := low _ y; omega
    · have z0 := low _ z
      obtain ⟨p, hp, q⟩ := h.2.2.2.one hm (fun i h1 h2 => by
        rcases cov_cons.mp (k i h1 h2) with y | y
        · have y2 : i < g + w := y.2
          omega
        · exact y)
      exact ⟨p, List.mem_cons_of_mem _ hp, q⟩
/-- what is left when some words of a stretch are taken -/
def cutP (st sz f m : Int) : Sg := [(st, f - st), (f + m, st + sz - f - m)].filter fun p => decide (0 < p.2)
theorem cutP_eq {st sz f m : Int} : cutP st sz f m = (if 0 < f - st then [(st, f - st)] else []) ++ (if 0 < st + sz - f - m then [(f + m, st + sz - f - m)] else []) := by
  unfold cutP
  rw [List.filter_cons, List.filter_cons, List.filter_nil]
  by_cases h1 : 0 < f - st <;> by_cases h2 : 0 < st + sz - f - m <;> simp only [h1, h2, decide_true, decide_false, if_true, if_false, Bool.false_eq_true, List.nil_append, List.append_nil, List.cons_append]
theorem take_ok {n st sz f m : Int} {A B : Sg} (h : Good (-1) n (A ++ (st, sz) :: B)) (hm : 1 ≤ m) (h1 : st ≤ f) (h2 : f + m ≤ st + sz) :
    Good (-1) n (A ++ cutP st sz f m ++ B) ∧ ∀ i, Cov (A ++ cutP st sz f m ++ B) i ↔ Cov (A ++ (st, sz) :: B) i ∧ ¬ (f ≤ i ∧ i < f + m) := by
  obtain ⟨gA, mA, gB, k1, k2, k3⟩ := h.split
  constructor
  · rw [List.append_assoc]
    refine gA.app (c := st - 1) (fun q hq => by have := mA q hq; omega) (by omega) ?_
    rw [cutP_eq]
    by_cases a1 : 0 < f - st <;> by_cases a2 : 0 < st + sz - f - m <;> simp only [a1, a2, if_true, if_false, List.nil_append, List.append_nil, List.cons_append, List.singleton_append]
    · exact ⟨by omega, by omega, by omega, by omega, by omega, by omega, by rw [show f + m + (st + sz - f - m) = st + sz by omega]; exact gB⟩
    · exact ⟨by omega, by omega, by omega, gB.low (by omega)⟩
    · exact ⟨by omega, by omega, by omega, by rw [show f + m + (st + sz - f - m) = st + sz by omega]; exact gB⟩
    · exact gB.low (by omega)
  · intro i
    have cA : Cov A i → i < st := fun ⟨q, hq, q1, q2⟩ => by have := mA q hq; omega
    have cB : Cov B i → st + sz < i := fun c => (gB.cov c).1
    have cP : Cov (cutP st sz f m) i ↔ (st ≤ i ∧ i < f) ∨ (f + m ≤ i ∧ i < st + sz) := by
      rw [cutP_eq]
      by_cases a1 : 0 < f - st <;> by_cases a2 : 0 < st + sz - f - m <;> simp only [a1, a2, if_true, if_false, List.nil_append, List.append_nil, List.cons_append, List.singleton_append, cov_cons, cov_nil, or_false, false_or, false_iff] <;> (try dsimp only) <;> omega
    rw [cov_app, cov_app, cov_app, cov_cons, cP]
    constructor
    · rintro ((c | c) | c)
      · exact ⟨.inl c, by have := cA c; omega⟩
      · exact ⟨.inr (.inl (by show st ≤ i ∧ i < st + sz; omega)), by omega⟩
      · exact ⟨.inr (.inr c), by have := cB c; omega⟩
    · rintro ⟨c | c | c, z⟩
      · exact .inl (.inl c)
      · have c1 : st ≤ i := c.1
        have c2 : i < st + sz := c.2
        exact .inl (.inr (by omega))
      · exact .inr c
/-- those ahead and those behind -/
theorem ahead_behind {f m : Int} (hm : 1 ≤ m) : ∀ {l : Sg} {a n : Int}, Good a n l → (∀ p ∈ l, ¬ (p.1 < f + m ∧ f < p.1 + p.2)) → l.filter (fun p => decide (p.1 + p.2 ≤ f)) ++ l.filter (fun p => decide (f + m ≤ p.1)) = l
  | [], _, _, _, _ => rfl
  | (g, w) :: r, a, n, h, k => by
    have hw := h.2.1
    have k0 : ¬ (g < f + m ∧ f < g + w) := k (g, w) List.mem_cons_self
    have ih := ahead_behind hm h.2.2.2 (fun p hp => k p (List.mem_cons_of_mem _ hp))
    by_cases c : g + w ≤ f
    · have e1 : decide (g + w ≤ f) = true := decide_eq_true c
      have e2 : decide (f + m ≤ g) = false := decide_eq_false (by omega)
      rw [List.filter_cons, List.filter_cons]
      simp only [e1, e2, if_true, Bool.false_eq_true, if_false]
      rw [List.cons_append, ih]
    · have e1 : decide (g + w ≤ f) = false := decide_eq_false c
      have e2 : decide (f + m ≤ g) = true := decide_eq_true (by omega)
      have e3 : r.filter (fun p => decide (p.1 + p.2 ≤ f)) = [] := by
        rw [List.filter_eq_nil_iff]
        intro p hp
        have := h.2.2.2.mem p hp
        simp only [decide_eq_true_eq]
        omega
      rw [e3] at ih
      rw [List.filter_cons, List.filter_cons]
      simp only [e1, e2, if_true, Bool.false_eq_true, if_false]
      rw [e3, List.nil_append]
      rw [List.nil_append] at ih
      rw [ih]
theorem Good.tail {a n : Int} : ∀ {A B : Sg}, Good a n (A ++ B) → ∃ a', Good a' n B
  | [], B, h => ⟨a, h⟩
  | (f, m) :: A, B, h => h.2.2.2.tail
theorem Good.up {a c n : Int} : ∀ {l : Sg}, Good a n l → (∀ p ∈ l, c < p.1) → Good c n l
  | [], _, _ => trivial
  | (f, m) :: r, h, k => ⟨k (f, m) List.mem_cons_self, h.2⟩
theorem put_ok {n f m : Int} {A B : Sg} (gA : Good (-1) n A) (mA : ∀ q ∈ A, q.1 + q.2 < f) (gB : Good (f + m) n B) (h0 : 0 ≤ f) (h1 : 1 ≤ m) (h2 : f + m ≤ n) : Good (-1) n (A ++ [(f, m)] ++ B) :=
  (gA.snoc (by omega) mA h1 h2).app (fun q hq => by
    rcases List.mem_append.mp hq with z | z
    · have := mA q z; omega
    · rw [List.mem_singleton] at z; subst z; exact Int.le_refl _) (by omega) gB
/-- the words of the runs of bits -/
theorem runs_cov (b : Nat → Bool) : ∀ (k : Nat) (i : Int), Cov (runs b k) i ↔ 0 ≤ i ∧ i < (k : Int) ∧ b i.toNat = true
  | 0, i => by simp only [runs, cov_nil]; constructor
               · intro h; exact h.elim
               · rintro ⟨h1, h2, _⟩; omega
  | k + 1, i => by
    have ih := runs_cov b k i
    have key : Cov (runs b (k + 1)) i ↔ Cov (runs b k) i ∨ (b k = true ∧ i = (k : Int)) := by
      by_cases hb : b k = true
      · by_cases hp : 0 < k ∧ b (k - 1) = true
        · obtain ⟨r, f, m, e, hf, hr⟩ := (runs_ok b k).last hp
          have e2 : runs b (k + 1) = r ++ [(f, m + 1)] := by
            simp only [runs, hb, if_true, if_pos hp, e]
            simp
          have g := (runs_ok b k).good
          rw [e] at g
          have gm : -1 < f ∧ 1 ≤ m ∧ f + m ≤ (k : Int) := g.mem (f, m) (by simp)
          rw [e2, e, cov_app, cov_app, cov_cons, cov_cons, cov_nil]
          simp only [hb, true_and]
          constructor
          · rintro (c | c | c)
            · exact .inl (.inl c)
            · by_cases z : i = (k : Int)
              · exact .inr z
              · exact .inl (.inr (.inl (by omega)))
            · exact c.elim
          · rintro ((c | c | c) | c)
            · exact .inl c
            · exact .inr (.inl (by omega))
            · exact c.elim
            · exact .inr (.inl (by omega))
        · have e2 : runs b (k + 1) = runs b k ++ [((k : Int), 1)] := by
            simp only [runs, hb, if_true, if_neg hp]
          rw [e2, cov_app, cov_cons, cov_nil]
          simp only [hb, true_and]
          constructor
          · rintro (c | c | c)
            · exact .inl c
            · exact .inr (by omega)
            · exact c.elim
          · rintro (c | c)
            · exact .inl c
            · exact .inr (.inl (by omega))
      · have e2 : runs b (k + 1) = runs b k := by simp only [runs, hb]; simp
        rw [e2]
        constructor
        · exact .inl
        · rintro (c | c)
          · exact c
          · exact absurd c.1 hb
    rw [key, ih]
    constructor
    · rintro (⟨a1, a2, a3⟩ | ⟨a1, a2⟩)
      · exact ⟨a1, by omega, a3⟩
      · subst a2; exact ⟨by omega, by omega, by simpa using a1⟩
    · rintro ⟨a1, a2, a3⟩
      by_cases z : i = (k : Int)
      · subst z; exact .inr ⟨by simpa using a3, rfl⟩
      · exact .inl ⟨a1, by omega, a3⟩
end Lw

set_option Elab.async false
set_option linter.all false
set_option maxRecDepth 100000
set_option autoImplicit false
set_option maxHeartbeats 1000000
namespace Lw
open PySem L2 Gm
local macro_rules | `(tactic| walk_at "ev") => `(tactic| try simp only [eOp2, eOp1, eVar, eC, tq, tNotX, tAndX, tOrX, eAnd, eOr, eNot, eIf, aNil, aCons, snk, Gm.fz, eTup, eLst, eCall, oNo, oSo, eSl, iSeq, seqD, dr, tgE, setsE, Option.map_some, List.getElem?_cons_zero, List.getElem?_cons_succ, List.set_cons_zero, List.set_cons_succ, List.length_cons, List.length_nil, Nat.reduceAdd, Nat.reduceLeDiff, if_true, Int.reduceNeg,
  fAdd_i, fSub_i, fLt_i, fLe_i, fGt_i, fGe_i, fNeg_i, fMax_i, fMin_i, fEq_i, fNe_i, fEq_b, fIsN_i, fIsN_n, fNotN_i, fNotN_n, fIsN_t, fNotN_t, fNotB_b, fIsB_b, fLen_l, fLen_t, fLen_b, fLen_s, fIx_p0, fIx_p1, Bool.not_true, Bool.not_false, decide_true, decide_false])
theorem enc_get0 {l : Sg} {i : Nat} {p : Int × Int} (h : l[i]? = some p) : (encS l)[i]? = some (.tup [.int p.1, .int p.2]) := by
  unfold encS; rw [List.getElem?_map, h]; rfl
theorem enc_ix {l : Sg} {i : Nat} {k : Int} {p : Int × Int} {s : Store} (h : l[i]? = some p) (hk : k = (i : Int)) : fIx s (.lst (encS l)) (.int k) = .ok (.tup [.int p.1, .int p.2]) s := by
  refine fIx_l (atI_of (by omega) ?_)
  rw [show k.toNat = i by omega]
  exact enc_get0 h
theorem lc_enc {tg : Tg} {tt : Tx} {el : Ex} {vs : List Nat} {e : Ex} {l : Sg} {env : Gm.Env} {s : Store} (q : Int × Int → Bool) (hx0 : iSeq e env s = .ok (.seq (.lst (encS l))) s) (hl : l.length ≤ 1000)
    (hx : ∀ p ∈ l, ∃ e1, tgE tg (.tup [.int p.1, .int p.2]) (wipeE env vs) = some e1 ∧ tt e1 s = .ok (q p) s ∧ (q p = true → ∃ d, el e1 s = .ok d s ∧ snk (fz d) = some (.tup [.int p.1, .int p.2]))) : eLc tg (iSeq e) tt el vs env s = .ok (.own (.lst (encS (l.filter q)))) s := by
  let P : D → Bool := fun d => match d with
    | .tup [.int a, .int b] => q (a, b)
    | _ => false
  rw [eLc_L P id hx0 (by rw [encS_len]; omega) ?_]
  · have : ∀ l : Sg, ((encS l).filter P).map id = encS (l.filter q) := by
      intro l
      induction l with
      | nil => rfl
      | cons p r ih =>
        show ((D.tup [.int p.1, .int p.2] :: encS r).filter P).map id = _
        rw [List.filter_cons, List.filter_cons]
        have hP : P (D.tup [.int p.1, .int p.2]) = q p := rfl
        rw [hP]
        cases q p with
        | true => simp only [if_true, List.map_cons]; rw [ih]; rfl
        | false => simp only [Bool.false_eq_true, if_false]; exact ih
    rw [this]
  · intro x hx1
    unfold encS at hx1
    obtain ⟨p, hp, rfl⟩ := List.mem_map.mp hx1
    exact hx p hp
theorem Good.len : ∀ {l : Sg} {a n : Int}, Good a n l → a ≤ n → (l.length : Int) ≤ n - a
  | [], a, n, _, h => by simp; omega
  | (f, m) :: r, a, n, h, _ => by
    have := h.2.2.2.len h.2.2.1
    have := h.1; have := h.2.1
    rw [List.length_cons]; omega
theorem call_eq {F : Fx} {a : Ax} {env : Gm.Env} {s s1 : Store} {ds : List D} {r : R D} (h : F ds s1 = r) (ha : a env s = .ok ds s1) : eCall F a env s = r := by
  unfold eCall; rw [ha]; exact h
theorem isN_eq {e : Ex} {env : Gm.Env} {s s1 : Store} {d : D} {k : Bool} (h : e env s = .ok d s1) (hk : fIsN s1 (Gm.fz d) .non = .ok (.bl k) s1) : tq (eOp2 fIsN e (eC .non)) env s = .ok k s1 := by
  have e2 : eOp2 fIsN e (eC .non) env s = .ok (.bl k) s1 := by unfold eOp2; rw [h]; exact hk
  unfold tq; rw [e2]
theorem tq_eq {e : Ex} {env : Gm.Env} {s s1 : Store} {k : Bool} (h : e env s = .ok (.bl k) s1) : tq e env s = .ok k s1 := by
  unfold tq; rw [h]
def cvP (f m : Int) (p : Int × Int) : Prop := p.1 ≤ f ∧ f + m ≤ p.1 + p.2
theorem covering_eq {l : Sg} {f m : Int} {s : Store} (hl : l.length ≤ 1000) :
    (∃ k p, l[k]? = some p ∧ cvP f m p ∧ f_covering [.lst (encS l), .int f, .int m] s = .ok (.int ((k : Nat) : Int)) s) ∨ ((∀ p ∈ l, ¬ cvP f m p) ∧ f_covering [.lst (encS l), .int f, .int m] s = .ok .non s) := by
  have key : (f_covering [.lst (encS l), .int f, .int m] s).W (fun d s' => s' = s ∧ ((∃ k p, l[k]? = some p ∧ cvP f m p ∧ d = .int ((k : Nat) : Int)) ∨ ((∀ p ∈ l, ¬ cvP f m p) ∧ d = .non))) X0 := by
    refine w_fn (env := [some (.lst (encS l)), some (.int f), some (.int m), none]) rfl rfl ?_
    refine w_seq (w_forR (lo := 0) (n := l.length) (s' := s) (xRng1_of (j := l.length) (by walk_at "ev"; rw [encS_len]) (by omega) (by omega)) (fun i e s' => s' = s ∧ (∃ v, e = [some (.lst (encS l)), some (.int f), some (.int m), v]) ∧ ∀ j p, j < i → l[j]? = some p → ¬ cvP f m p) ⟨rfl, ⟨none, rfl⟩, fun j p h => by omega⟩ ?_ ?_)
    · rintro i e s' hi ⟨rfl, ⟨v, rfl⟩, hI⟩
      generalize hk : (0 : Int) + (i : Int) = k
      obtain ⟨⟨a, b⟩, hp⟩ : ∃ p, l[i]? = some p := ⟨l[i], List.getElem?_eq_getElem hi⟩
      have g1 : fIx s' (.lst (encS l)) (.int k) = .ok (.tup [.int a, .int b]) s' := enc_ix hp (by omega)
      by_cases c1 : a ≤ f
      · by_cases c2 : f + m ≤ a + b
        · refine w_ifT (s' := s') ?_ (w_retV (d := .int k) rfl rfl ⟨rfl, .inl ⟨i, (a, b), hp, ⟨c1, c2⟩, by rw [← hk]; simp⟩⟩)
          walk_at "ev"
          rw [g1]
          walk_at "ev"
          rw [decide_eq_true c1]
          walk_at "ev"
          rw [g1]
          walk_at "ev"
          rw [g1]
          walk_at "ev"
          rw [decide_eq_true c2]
        · refine w_ifF (s' := s') ?_ (w_nil ⟨rfl, ⟨some (.int k), rfl⟩, fun j p hj hp2 => ?_⟩)
          · walk_at "ev"
            rw [g1]
            walk_at "ev"
            rw [decide_eq_true c1]
            walk_at "ev"
            rw [g1]
            walk_at "ev"
            rw [g1]
            walk_at "ev"
            rw [decide_eq_false c2]
          · by_cases z : j = i
            · subst z; rw [hp] at hp2; cases hp2; exact fun y => c2 y.2
            · exact hI j p (by omega) hp2
      · refine w_ifF (s' := s') ?_ (w_nil ⟨rfl, ⟨some (.int k), rfl⟩, fun j p hj hp2 => ?_⟩)
        · walk_at "ev"
          rw [g1]
          walk_at "ev"
          rw [decide_eq_false c1]
        · by_cases z : j = i
          · subst z; rw [hp] at hp2; cases hp2; exact fun y => c1 y.1
          · exact hI j p (by omega) hp2
    · rintro e s' ⟨rfl, ⟨v, rfl⟩, hI⟩
      refine w_ret (d := .non) (s' := s') (by walk_at "ev") rfl ⟨rfl, .inr ⟨fun p hp => ?_, rfl⟩⟩
      obtain ⟨j, hj, e⟩ := List.getElem_of_mem hp
      exact hI j p hj (by rw [List.getElem?_eq_getElem hj, e])
  obtain ⟨d, s', e, rfl, h | h⟩ := key.eq
  · obtain ⟨k, p, h1, h2, rfl⟩ := h
    exact .inl ⟨k, p, h1, h2, e⟩
  · obtain ⟨h1, rfl⟩ := h
    exact .inr ⟨h1, e⟩
theorem without_eq {l A B : Sg} {st sz f m : Int} {s : Store} (hl : l = A ++ (st, sz) :: B) (hn : l.length ≤ 500) (hc : f_covering [.lst (encS l), .int f, .int m] s = .ok (.int A.length) s) :
    f_without [.lst (encS l), .int f, .int m] s = .ok (.own (.lst (encS (A ++ cutP st sz f m ++ B)))) s := by
  have lA : A.length ≤ 500 := by rw [hl] at hn; simp at hn; omega
  have lB : B.length ≤ 500 := by rw [hl] at hn; simp at hn; omega
  have lP : (cutP st sz f m).length ≤ 2 := by unfold cutP; exact Nat.le_trans (List.length_filter_le _ _) (by simp)
  have key : (f_without [.lst (encS l), .int f, .int m] s).W (fun d s' => d = .own (.lst (encS (A ++ cutP st sz f m ++ B))) ∧ s' = s) X0 := by
    unfold f_without b_without
    generalize f_covering = C at hc ⊢
    refine w_fn (env := [some (.lst (encS l)), some (.int f), some (.int m), none, none, none, none, none]) rfl rfl ?_
    refine w_seq (w_setF (d := .int A.length) (d' := .int A.length) (s' := s) (call_eq hc (by walk_at "ev")) rfl ?_)
    have g1 : fIx s (.lst (encS l)) (.int A.length) = .ok (.tup [.int st, .int sz]) s := enc_ix (p := (st, sz)) (by rw [hl]; simp) rfl
    refine w_seq (w_setT (d := .tup [.int st, .int sz]) (s' := s) (by walk_at "ev"; exact g1) rfl ?_)
    refine w_seq (w_setF (d := .own (.lst (encS [(st, f - st), (f + m, st + sz - f - m)]))) (d' := .lst (encS [(st, f - st), (f + m, st + sz - f - m)])) (s' := s) (by walk_at "ev"; rfl) rfl ?_)
    have e1 : eSl (eVar 0) oNo (oSo (eVar 3)) [some (.lst (encS l)), some (.int f), some (.int m), some (.int A.length), some (.int st), some (.int sz), some (.lst (encS [(st, f - st), (f + m, st + sz - f - m)])), none] s = .ok (.own (.lst (encS A))) s := by
      walk_at "ev"
      simp only [fSl, dr, (cut_enc l A.length (by rw [hl]; simp)).1]
      rw [hl, List.take_left]
    have e3 : eSl (eVar 0) (oSo (eOp2 fAdd (eVar 3) (eC (D.int 1)))) oNo [some (.lst (encS l)), some (.int f), some (.int m), some (.int A.length), some (.int st), some (.int sz), some (.lst (encS [(st, f - st), (f + m, st + sz - f - m)])), none] s = .ok (.own (.lst (encS B))) s := by
      walk_at "ev"
      have := (cut_enc l (A.length + 1) (by rw [hl]; simp)).2
      rw [Int.natCast_add] at this
      simp only [fSl, dr]
      rw [show ((A.length : Int) + 1) = (A.length : Int) + ((1 : Nat) : Int) from rfl, this, hl]
      simp
    have e2 : eLc (Tg.nm 7) (iSeq (eVar 6)) (tq (eOp2 fGt (eOp2 fIx (eVar 7) (eC (D.int 1))) (eC (D.int 0)))) (eVar 7) [7] [some (.lst (encS l)), some (.int f), some (.int m), some (.int A.length), some (.int st), some (.int sz), some (.lst (encS [(st, f - st), (f + m, st + sz - f - m)])), none] s = .ok (.own (.lst (encS (cutP st sz f m)))) s := by
      refine lc_enc (fun p => decide (0 < p.2)) (iSeq_of (d := .lst (encS [(st, f - st), (f + m, st + sz - f - m)])) (by walk_at "ev") rfl rfl) (by simp) fun p hp => ⟨_, rfl, ?_, fun _ => ⟨.tup [.int p.1, .int p.2], ?_, rfl⟩⟩
      · show tq (eOp2 fGt (eOp2 fIx (eVar 7) (eC (D.int 1))) (eC (D.int 0))) [some (.lst (encS l)), some (.int f), some (.int m), some (.int A.length), some (.int st), some (.int sz), some (.lst (encS [(st, f - st), (f + m, st + sz - f - m)])), some (.tup [.int p.1, .int p.2])] s = _
        walk_at "ev"
      · rfl
    refine w_ret (d := .own (.lst (encS (A ++ cutP st sz f m ++ B)))) (s' := s) ?_ rfl ⟨rfl, rfl⟩
    change eOp2 fAdd (eOp2 fAdd _ _) _ [some (.lst (encS l)), some (.int f), some (.int m), some (.int A.length), some (.int st), some (.int sz), some (.lst (encS [(st, f - st), (f + m, st + sz - f - m)])), none] s = _
    simp only [eOp2, e1, e2, e3, Gm.fz]
    rw [cat_enc (by omega) (by omega)]
    simp only [e3]
    rw [cat_enc (by simp; omega) (by omega)]
  obtain ⟨d, s', e, rfl, rfl⟩ := key.eq
  exact e
theorem tOrX_f {t u : Tx} {env : Gm.Env} {s s1 s' : Store} {k : Bool} (h : t env s = .ok false s1) (h2 : u env s1 = .ok k s') : tOrX t u env s = .ok k s' := by
  unfold tOrX; rw [h]; exact h2
abbrev takeOk (l : Sg) (f m : Int) : Prop := 1 ≤ m ∧ ∀ i, f ≤ i → i < f + m → Cov l i
theorem taken_eq {l : Sg} {n f m : Int} {s : Store} (h1 : 8 ≤ n) (h2 : n ≤ 120) (hg : Good (-1) n l) :
    (takeOk l f m → ∃ l', Good (-1) n l' ∧ (∀ i, Cov l' i ↔ Cov l i ∧ ¬ (f ≤ i ∧ i < f + m)) ∧ f_taken_off [.lst (encS l), .int n, .int f, .int m] s = .ok (.own (.lst (encS l'))) s) ∧
    (¬ takeOk l f m → f_taken_off [.lst (encS l), .int n, .int f, .int m] s = .exc 2 s) := by
  have hlen := hg.len (by omega)
  have hn : l.length ≤ 500 := by omega
  have hgb : goodB (-1) n l = true := goodB_iff.mpr hg
  have ask : f_ask [.lst (encS l), .int n] s = .ok .non s := by rw [ask_eq, if_pos ⟨h1, h2, hgb⟩]
  constructor
  · rintro ⟨hm, hc⟩
    obtain ⟨p0, hp0, hcv⟩ := hg.one hm hc
    rcases covering_eq (f := f) (m := m) (s := s) (show l.length ≤ 1000 by omega) with ⟨k, ⟨st, sz⟩, hk, hcv2, e⟩ | ⟨h, _⟩
    · have hkl : k < l.length := (List.getElem?_eq_some_iff.mp hk).1
      have hsp : l = l.take k ++ (st, sz) :: l.drop (k + 1) := by
        have e2 : l[k] = (st, sz) := (List.getElem?_eq_some_iff.mp hk).2
        rw [← e2, ← List.drop_eq_getElem_cons hkl, List.take_append_drop]
      have hAl : (l.take k).length = k := by rw [List.length_take]; omega
      rw [hsp] at hg
      obtain ⟨G, C⟩ := take_ok hg hm hcv2.1 hcv2.2
      rw [← hsp] at C
      refine ⟨_, G, C, ?_⟩
      have wo := without_eq (f := f) (m := m) (s := s) hsp hn (by rw [hAl]; exact e)
      have key : (f_taken_off [.lst (encS l), .int n, .int f, .int m] s).W (fun d s' => d = .own (.lst (encS (l.take k ++ cutP st sz f m ++ l.drop (k + 1)))) ∧ s' = s) X0 := by
        unfold f_taken_off b_taken_off
        generalize f_covering = C at e ⊢
        generalize f_without = C2 at wo ⊢
        refine w_fn (env := [some (.lst (encS l)), some (.int n), some (.int f), some (.int m)]) rfl rfl ?_
        refine w_seq (w_ex (d := .non) (s' := s) (call_eq ask (by walk_at "ev")) ?_)
        refine w_seq (w_ifF (s' := s) (tOrX_f (s1 := s) (by walk_at "ev"; rw [decide_eq_false (show ¬ m < 1 by omega)]) (isN_eq (call_eq e (by walk_at "ev")) rfl)) (w_nil ?_))
        exact w_ret (s' := s) (call_eq wo (by walk_at "ev")) rfl ⟨rfl, rfl⟩
      obtain ⟨d, s', e, rfl, rfl⟩ := key.eq
      exact e
    · exact absurd hcv (h p0 hp0)
  · intro hno
    have key : (f_taken_off [.lst (encS l), .int n, .int f, .int m] s).W (fun _ _ => False) (fun c s' => c = 2 ∧ s' = s) := by
      have cv := covering_eq (f := f) (m := m) (s := s) (show l.length ≤ 1000 by omega)
      unfold f_taken_off b_taken_off
      generalize f_covering = C at cv ⊢
      generalize f_without = C2
      refine w_fn (env := [some (.lst (encS l)), some (.int n), some (.int f), some (.int m)]) rfl rfl ?_
      refine w_seq (w_ex (d := .non) (s' := s) (call_eq ask (by walk_at "ev")) ?_)
      refine w_seq (w_ifT (s' := s) ?_ (w_raise ⟨rfl, rfl⟩))
      by_cases hm : m < 1
      · exact tOrX_t (by walk_at "ev"; rw [decide_eq_true hm])
      · refine tOrX_f (s1 := s) (by walk_at "ev"; rw [decide_eq_false hm]) ?_
        rcases cv with ⟨k, ⟨st, sz⟩, hk, hcv2, e⟩ | ⟨h, e⟩
        · exfalso
          refine hno ⟨by omega, fun i i1 i2 => ⟨(st, sz), List.mem_of_getElem? hk, ?_⟩⟩
          have a1 : st ≤ f := hcv2.1
          have a2 : f + m ≤ st + sz := hcv2.2
          show st ≤ i ∧ i < st + sz
          omega
        · exact isN_eq (call_eq e (by walk_at "ev")) rfl
    obtain ⟨d, s', e, rfl, rfl⟩ := key.exq
    exact e
end Lw

set_option Elab.async false
set_option linter.all false
set_option maxRecDepth 100000
set_option autoImplicit false
set_option maxHeartbeats 1000000
namespace Lw
open PySem L2 Gm
local macro_rules | `(tactic| walk_at "ev") => `(tactic| try simp only [eOp2, eOp1, eVar, eC, tq, tNotX, tAndX, tOrX, eAnd, eOr, eNot, eIf, aNil, aCons, snk, Gm.fz, eTup, eLst, eCall, oNo, oSo, eSl, iSeq, seqD, dr, tgE, setsE, Option.map_some, List.getElem?_cons_zero, List.getElem?_cons_succ, List.set_cons_zero, List.set_cons_succ, List.length_cons, List.length_nil, Nat.reduceAdd, Nat.reduceLeDiff, if_true, Int.reduceNeg,
  fAdd_i, fSub_i, fLt_i, fLe_i, fGt_i, fGe_i, fNeg_i, fMax_i, fMin_i, fEq_i, fNe_i, fEq_b, fIsN_i, fIsN_n, fNotN_i, fNotN_n, fIsN_t, fNotN_t, fNotB_b, fIsB_b, fLen_l, fLen_t, fLen_b, fLen_s, fIx_p0, fIx_p1, Bool.not_true, Bool.not_false, decide_true, decide_false])
theorem op2_eq {f : Store → D → D → R D} {a b : Ex} {env : Gm.Env} {s s1 s2 : Store} {x y : D} {r : R D} (ha : a env s = .ok x s1) (hb : b env s1 = .ok y s2) (h : f s2 (Gm.fz x) (Gm.fz y) = r) : eOp2 f a b env s = r := by
  unfold eOp2; rw [ha]; simp only [hb]; exact h
theorem op1_eq {f : Store → D → R D} {a : Ex} {env : Gm.Env} {s s1 : Store} {x : D} {r : R D} (ha : a env s = .ok x s1) (h : f s1 (Gm.fz x) = r) : eOp1 f a env s = r := by
  unfold eOp1; rw [ha]; exact h
theorem touching_eq {l : Sg} {f m : Int} {s : Store} (hl : l.length ≤ 1000) : f_touching [.lst (encS l), .int f, .int m] s = .ok (.bl (decide (0 < (l.filter fun p => decide (p.1 < f + m) && decide (f < p.1 + p.2)).length))) s := by
  have e2 : eLc (Tg.nm 3) (iSeq (eVar 0)) (tAndX (tq (eOp2 fLt (eOp2 fIx (eVar 3) (eC (D.int 0))) (eOp2 fAdd (eVar 1) (eVar 2)))) (tq (eOp2 fLt (eVar 1) (eOp2 fAdd (eOp2 fIx (eVar 3) (eC (D.int 0))) (eOp2 fIx (eVar 3) (eC (D.int 1))))))) (eVar 3) [3] [some (.lst (encS l)), some (.int f), some (.int m), none] s = .ok (.own (.lst (encS (l.filter fun p => decide (p.1 < f + m) && decide (f < p.1 + p.2))))) s := by
    refine lc_enc (fun p => decide (p.1 < f + m) && decide (f < p.1 + p.2)) (iSeq_of (d := .lst (encS l)) (by walk_at "ev") rfl rfl) hl fun p hp => ⟨_, rfl, ?_, fun _ => ⟨.tup [.int p.1, .int p.2], rfl, rfl⟩⟩
    show tAndX _ _ [some (.lst (encS l)), some (.int f), some (.int m), some (.tup [.int p.1, .int p.2])] s = _
    walk_at "ev"
    cases decide (p.1 < f + m) <;> rfl
  have key : (f_touching [.lst (encS l), .int f, .int m] s).W (fun d s' => d = .bl (decide (0 < (l.filter fun p => decide (p.1 < f + m) && decide (f < p.1 + p.2)).length)) ∧ s' = s) X0 := by
    refine w_fn (env := [some (.lst (encS l)), some (.int f), some (.int m), none]) rfl rfl ?_
    refine w_ret (d := .bl (decide (0 < (l.filter fun p => decide (p.1 < f + m) && decide (f < p.1 + p.2)).length))) (s' := s) ?_ rfl ⟨rfl, rfl⟩
    refine op2_eq (op1_eq e2 (r := .ok (.int (encS (l.filter fun p => decide (p.1 < f + m) && decide (f < p.1 + p.2))).length) s) rfl) (y := .int 0) (s2 := s) rfl ?_
    show R.ok (D.bl (decide ((0 : Int) < ((encS _).length : Int)))) s = _
    rw [encS_len]
    congr 2
    simp
  obtain ⟨d, s', e, rfl, rfl⟩ := key.eq
  exact e
theorem fLen_r {s : Store} {n : Nat} {xs : List D} (h : s[n]? = some (.lst xs)) : fLen s (.ref n) = .ok (.int xs.length) s := by simp only [fLen, dr, h]
theorem cat_r {s : Store} {n : Nat} {a b : Sg} (h : s[n]? = some (.lst (encS a))) (ha : a.length ≤ 1000) (hb : b.length ≤ 1000) : fAdd s (.ref n) (.lst (encS b)) = .ok (.own (.lst (encS (a ++ b)))) s := by
  simp only [fAdd, fCat, drM, dr, h]
  rw [if_pos (by rw [encS_len, encS_len]; omega), enc_app]
theorem cat_r2 {s : Store} {n : Nat} {a b : Sg} (h : s[n]? = some (.lst (encS b))) (ha : a.length ≤ 1000) (hb : b.length ≤ 1000) : fAdd s (.lst (encS a)) (.ref n) = .ok (.own (.lst (encS (a ++ b)))) s := by
  simp only [fAdd, fCat, drM, dr, h]
  rw [if_pos (by rw [encS_len, encS_len]; omega), enc_app]
theorem tAndX_f {t u : Tx} {env : Gm.Env} {s s' : Store} (h : t env s = .ok false s') : tAndX t u env s = .ok false s' := by
  unfold tAndX; rw [h]
theorem tAndX_t {t u : Tx} {env : Gm.Env} {s s1 s' : Store} {k : Bool} (h : t env s = .ok true s1) (h2 : u env s1 = .ok k s') : tAndX t u env s = .ok k s' := by
  unfold tAndX; rw [h]; exact h2
theorem joined_eq {l : Sg} {n f m : Int} {s : Store} (hg : Good (-1) n l) (hn : n ≤ 120) (hn0 : 0 ≤ n) (h0 : 0 ≤ f) (h1 : 1 ≤ m) (h2 : f + m ≤ n) (hc : ∀ i, f ≤ i → i < f + m → ¬ Cov l i) :
    ∃ l' s', Good (-1) n l' ∧ (∀ i, Cov l' i ↔ Cov l i ∨ (f ≤ i ∧ i < f + m)) ∧ f_joined [.lst (encS l), .int f, .int m] s = .ok (.own (.lst (encS l'))) s' := by
  have hlen := hg.len (by omega)
  have ht : ∀ p ∈ l, ¬ (p.1 < f + m ∧ f < p.1 + p.2) := by
    rintro p hp ⟨a, b⟩
    have hm := hg.mem p hp
    by_cases z : p.1 ≤ f
    · exact hc f (Int.le_refl _) (by omega) ⟨p, hp, z, b⟩
    · exact hc p.1 (by omega) a ⟨p, hp, Int.le_refl _, by omega⟩
  have hab := ahead_behind h1 hg ht
  have hAm : ∀ q ∈ l.filter (fun p => decide (p.1 + p.2 ≤ f)), q.1 + q.2 ≤ f := fun q hq => of_decide_eq_true (List.mem_filter.mp hq).2
  have hBm : ∀ q ∈ l.filter (fun p => decide (f + m ≤ p.1)), f + m ≤ q.1 := fun q hq => of_decide_eq_true (List.mem_filter.mp hq).2
  have key : (f_joined [.lst (encS l), .int f, .int m] s).W (fun d s' => ∃ l', d = .own (.lst (encS l')) ∧ Good (-1) n l' ∧ (∀ i, Cov l' i ↔ Cov l i ∨ (f ≤ i ∧ i < f + m))) X0 := by
    refine w_fn (env := [some (.lst (encS l)), some (.int f), some (.int m), none, none, none, none]) rfl rfl ?_
    have eA : eLc (Tg.nm 6) (iSeq (eVar 0)) (tq (eOp2 fLe (eOp2 fAdd (eOp2 fIx (eVar 6) (eC (D.int 0))) (eOp2 fIx (eVar 6) (eC (D.int 1)))) (eVar 1))) (eVar 6) [6] [some (.lst (encS l)), some (.int f), some (.int m), none, none, none, none] s = .ok (.own (.lst (encS (l.filter fun p => decide (p.1 + p.2 ≤ f))))) s := by
      refine lc_enc (fun p => decide (p.1 + p.2 ≤ f)) (iSeq_of (d := .lst (encS l)) (by walk_at "ev") rfl rfl) (by omega) fun p hp => ⟨_, rfl, ?_, fun _ => ⟨.tup [.int p.1, .int p.2], rfl, rfl⟩⟩
      show tq _ [some (.lst (encS l)), some (.int f), some (.int m), none, none, none, some (.tup [.int p.1, .int p.2])] s = _
      walk_at "ev"
    refine w_seq (w_ad (w_set (d := .own (.lst (encS (l.filter fun p => decide (p.1 + p.2 ≤ f))))) (s' := s) eA rfl ?_))
    generalize hA : l.filter (fun p => decide (p.1 + p.2 ≤ f)) = A at *
    change (sSeq _ _ [some (.lst (encS l)), some (.int f), some (.int m), some (.ref s.length), none, none, none] (s ++ [.lst (encS A)])).W _ _ _
    generalize hs1 : s ++ [O.lst (encS A)] = s1
    have eB : eLc (Tg.nm 6) (iSeq (eVar 0)) (tq (eOp2 fGe (eOp2 fIx (eVar 6) (eC (D.int 0))) (eOp2 fAdd (eVar 1) (eVar 2)))) (eVar 6) [6] [some (.lst (encS l)), some (.int f), some (.int m), some (.ref s.length), none, none, none] s1 = .ok (.own (.lst (encS (l.filter fun p => decide (f + m ≤ p.1))))) s1 := by
      refine lc_enc (fun p => decide (f + m ≤ p.1)) (iSeq_of (d := .lst (encS l)) (by walk_at "ev") rfl rfl) (by omega) fun p hp => ⟨_, rfl, ?_, fun _ => ⟨.tup [.int p.1, .int p.2], rfl, rfl⟩⟩
      show tq _ [some (.lst (encS l)), some (.int f), some (.int m), some (.ref s.length), none, none, some (.tup [.int p.1, .int p.2])] s1 = _
      walk_at "ev"
    refine w_seq (w_ad (w_set (d := .own (.lst (encS (l.filter fun p => decide (f + m ≤ p.1))))) (s' := s1) eB rfl ?_))
    generalize hB : l.filter (fun p => decide (f + m ≤ p.1)) = B at *
    change (sSeq _ _ [some (.lst (encS l)), some (.int f), some (.int m), some (.ref s.length), some (.ref s1.length), none, none] (s1 ++ [.lst (encS B)])).W _ _ _
    generalize hs2 : s1 ++ [O.lst (encS B)] = s2
    have hne : s.length < s1.length := by rw [← hs1]; simp
    have g1 : s2[s.length]? = some (.lst (encS A)) := by rw [← hs2, ← hs1]; simp
    have g2 : s2[s1.length]? = some (.lst (encS B)) := by rw [← hs2]; simp
    generalize s.length = N1 at *
    generalize s1.length = N2 at *
    have gA : Good (-1) n A := by rw [← hab] at hg; exact hg.init
    obtain ⟨b0, gB0⟩ : ∃ b0, Good b0 n B := by rw [← hab] at hg; exact hg.tail
    have lA : A.length ≤ 200 := by have := congrArg List.length hab; simp at this; omega
    have lB : B.length ≤ 200 := by have := congrArg List.length hab; simp at this; omega
    have cov : ∀ i, Cov l i ↔ Cov A i ∨ Cov B i := fun i => by rw [← cov_app, hab]
    -- the end
    have fin : ∀ (f' m' : Int) (A' B' : Sg) (v5 v6 : Option D) (s3 : Store), s3[N1]? = some (.lst (encS A')) → s3[N2]? = some (.lst (encS B')) → Good (-1) n A' → (∀ q ∈ A', q.1 + q.2 < f') → 0 ≤ f' → 1 ≤ m' → f' + m' ≤ n → Good (f' + m') n B' → A'.length ≤ 200 → B'.length ≤ 200 →
        (∀ i, Cov A' i ∨ (f' ≤ i ∧ i < f' + m') ∨ Cov B' i ↔ Cov l i ∨ (f ≤ i ∧ i < f + m)) →
        (sRet (eOp2 fAdd (eOp2 fAdd (eVar 3) (eLst (aCons (eTup (aCons (eVar 1) (aCons (eVar 2) (aNil)))) (aNil)))) (eVar 4)) [some (.lst (encS l)), some (.int f'), some (.int m'), some (.ref N1), some (.ref N2), v5, v6] s3).W (fun _ _ => ∃ l', D.non = .own (.lst (encS l')) ∧ Good (-1) n l' ∧ (∀ i, Cov l' i ↔ Cov l i ∨ (f ≤ i ∧ i < f + m))) (fun d _ => ∃ l', d = .own (.lst (encS l')) ∧ Good (-1) n l' ∧ (∀ i, Cov l' i ↔ Cov l i ∨ (f ≤ i ∧ i < f + m))) (fun c _ s' => X0 c s') := by
      intro f' m' A' B' v5 v6 s3 e1 e2 z1 z2 z3 z4 z5 z6 z7 z8 z9
      refine w_ret (d := .own (.lst (encS (A' ++ [(f', m')] ++ B')))) (s' := s3) ?_ rfl ⟨_, rfl, put_ok z1 z2 z6 z3 z4 z5, fun i => ?_⟩
      · walk_at "ev"
        rw [enc_one, cat_r e1 (by omega) (by simp)]
        simp only []
        rw [cat_r2 e2 (by simp; omega) (by omega)]
      · rw [← z9 i, cov_app, cov_app, cov_cons, cov_nil]
        simp only [or_false, or_assoc]
    -- behind
    have mid : ∀ (f' m' : Int) (A' : Sg) (v5 v6 : Option D) (s3 : Store) (b : Sx), s3[N1]? = some (.lst (encS A')) → s3[N2]? = some (.lst (encS B)) → Good (-1) n A' → (∀ q ∈ A', q.1 + q.2 < f') → 0 ≤ f' → 1 ≤ m' → f' + m' = f + m → A'.length ≤ 200 →
        (∀ i, Cov A' i ∨ (f' ≤ i ∧ i < f' + m') ↔ Cov A i ∨ (f ≤ i ∧ i < f + m)) → b = (sSeq (sIf (tAndX (tq (eOp2 fGt (eOp1 fLen (eVar 4)) (eC (D.int 0)))) (tq (eOp2 fEq (eOp2 fIx (eOp2 fIx (eVar 4) (eC (D.int 0))) (eC (D.int 0))) (eOp2 fAdd (eVar 1) (eVar 2))))) (sSetF 2 (eOp2 fAdd (eVar 2) (eOp2 fIx (eMeth fPopAt (eVar 4) (eC (D.int 0))) (eC (D.int 1))))) (sNil))
    (sRet (eOp2 fAdd (eOp2 fAdd (eVar 3) (eLst (aCons (eTup (aCons (eVar 1) (aCons (eVar 2) (aNil)))) (aNil)))) (eVar 4)))) →
        (b [some (.lst (encS l)), some (.int f'), some (.int m'), some (.ref N1), some (.ref N2), v5, v6] s3).W (fun _ _ => ∃ l', D.non = .own (.lst (encS l')) ∧ Good (-1) n l' ∧ (∀ i, Cov l' i ↔ Cov l i ∨ (f ≤ i ∧ i < f + m))) (fun d _ => ∃ l', d = .own (.lst (encS l')) ∧ Good (-1) n l' ∧ (∀ i, Cov l' i ↔ Cov l i ∨ (f ≤ i ∧ i < f + m))) (fun c _ s' => X0 c s') := by
      rintro f' m' A' v5 v6 s3 b e1 e2 z1 z2 z3 z4 z5 z7 z9 rfl
      cases hBB : B with
      | nil =>
        rw [hBB] at e2 cov
        refine w_seq (w_ifF (s' := s3) (tAndX_f ?_) (w_nil ?_))
        · walk_at "ev"
          rw [fLen_r e2]
          rfl
        · refine fin f' m' A' [] v5 v6 s3 e1 e2 z1 z2 z3 z4 (by omega) trivial z7 (by simp) fun i => ?_
          have := z9 i
          rw [cov i]
          constructor
          · rintro (c | c | c)
            · exact (this.mp (.inl c)).imp .inl id
            · exact (this.mp (.inr c)).imp .inl id
            · exact (cov_nil.mp c).elim
          · rintro ((c | c) | c)
            · exact (this.mpr (.inl c)).imp id .inl
            · exact (cov_nil.mp c).elim
            · exact (this.mpr (.inr c)).imp id .inl
      | cons p B2 =>
        obtain ⟨g, w⟩ := p
        have hp1 : f + m ≤ g := hBm (g, w) (by rw [hBB]; simp)
        rw [hBB] at e2 gB0 lB cov
        have k1 : tq (eOp2 fGt (eOp1 fLen (eVar 4)) (eC (D.int 0))) [some (.lst (encS l)), some (.int f'), some (.int m'), some (.ref N1), some (.ref N2), v5, v6] s3 = .ok true s3 := by
          walk_at "ev"
          rw [fLen_r e2]
          walk_at "ev"
          rw [encS_len]
          rw [decide_eq_true (show (0 : Int) < (((g, w) :: B2).length : Int) by rw [List.length_cons]; omega)]
        have k2 : fIx s3 (.ref N2) (.int 0) = .ok (.tup [.int g, .int w]) s3 := fIx_r e2 (atI_of (by decide) rfl)
        by_cases hj : g = f + m
        · refine w_seq (w_ifT (s' := s3) (tAndX_t k1 ?_) ?_)
          · walk_at "ev"
            rw [k2]
            walk_at "ev"
            rw [show (g == f' + m') = true from by rw [beq_iff_eq]; omega]
          · have k3 : eMeth fPopAt (eVar 4) (eC (D.int 0)) [some (.lst (encS l)), some (.int f'), some (.int m'), some (.ref N1), some (.ref N2), v5, v6] s3 = .ok (.tup [.int g, .int w]) (s3.set N2 (.lst (encS B2))) := by
              simp only [eMeth, eVar, eC, List.getElem?_cons_zero, List.getElem?_cons_succ, Gm.fz, isLD, dr, e2, if_true, fPopAt]
              have i0 : ixN (encS ((g, w) :: B2)).length 0 = some 0 := by simp [ixN, encS]
              rw [if_pos (by decide), i0]
              rfl
            refine w_setF (d := .int (m' + w)) (d' := .int (m' + w)) (s' := s3.set N2 (.lst (encS B2))) ?_ rfl ?_
            · walk_at "ev"
              rw [k3]
              walk_at "ev"
            · have hN2 : N2 < s3.length := (List.getElem?_eq_some_iff.mp e2).1
              refine fin f' (m' + w) A' B2 v5 v6 _ (by rw [List.getElem?_set_ne (by omega)]; exact e1) (by rw [List.getElem?_set_self hN2]) z1 z2 z3 (by have := gB0.2.1; omega) (by have := gB0.2.2.1; omega) (by rw [show f' + (m' + w) = g + w by omega]; exact gB0.2.2.2) z7 (by simp at lB; omega) fun i => ?_
              have := z9 i
              have hw := gB0.2.1
              rw [cov i, cov_cons]
              constructor
              · rintro (c | c | c)
                · exact (this.mp (.inl c)).imp .inl id
                · by_cases z : i < f' + m'
                  · exact (this.mp (.inr ⟨c.1, z⟩)).imp .inl id
                  · exact .inl (.inr (.inl (by show g ≤ i ∧ i < g + w; omega)))
                · exact .inl (.inr (.inr c))
              · rintro ((c | c | c) | c)
                · exact (this.mpr (.inl c)).imp id fun z => .inl ⟨z.1, by omega⟩
                · have c1 : g ≤ i := c.1
                  have c2 : i < g + w := c.2
                  exact .inr (.inl (by omega))
                · exact .inr (.inr c)
                · exact (this.mpr (.inr c)).imp id fun z => .inl ⟨z.1, by omega⟩
        · refine w_seq (w_ifF (s' := s3) (tAndX_t k1 ?_) (w_nil ?_))
          · walk_at "ev"
            rw [k2]
            walk_at "ev"
            rw [show (g == f' + m') = false from by rw [beq_eq_false_iff_ne]; omega]
          · refine fin f' m' A' ((g, w) :: B2) v5 v6 s3 e1 e2 z1 z2 z3 z4 (by omega) ⟨by omega, gB0.2⟩ z7 lB fun i => ?_
            have := z9 i
            rw [cov i]
            constructor
            · rintro (c | c | c)
              · exact (this.mp (.inl c)).imp .inl id
              · exact (this.mp (.inr c)).imp .inl id
              · exact .inl (.inr c)
            · rintro ((c | c) | c)
              · exact (this.mpr (.inl c)).imp id .inl
              · exact .inr (.inr c)
              · exact (this.mpr (.inr c)).imp id .inl
    -- ahead
    rcases List.eq_nil_or_concat A with hA0 | ⟨A2, ⟨g, w⟩, hA0⟩
    · rw [hA0] at g1 gA lA
      refine w_seq (w_ifF (s' := s2) (tAndX_f ?_) (w_nil ?_))
      · walk_at "ev"
        rw [fLen_r g1]
        rfl
      · exact mid f m [] none none s2 _ g1 g2 trivial (by intro q hq; cases hq) h0 h1 rfl (by simp) (fun i => by rw [hA0]) rfl
    · rw [List.concat_eq_append] at hA0
      have hgw : g + w ≤ f := hAm (g, w) (by rw [hA0]; simp)
      rw [hA0] at g1 gA lA
      obtain ⟨gA2, mA2, _, q1, q2, q3⟩ := gA.split (B := [])
      have lA2 : A2.length ≤ 200 := by simp at lA; omega
      have k1 : tq (eOp2 fGt (eOp1 fLen (eVar 3)) (eC (D.int 0))) [some (.lst (encS l)), some (.int f), some (.int m), some (.ref N1), some (.ref N2), none, none] s2 = .ok true s2 := by
        walk_at "ev"
        rw [fLen_r g1]
        walk_at "ev"
        rw [encS_len]
        rw [decide_eq_true (show (0 : Int) < ((A2 ++ [(g, w)]).length : Int) by rw [List.length_append, List.length_singleton]; omega)]
      have k2 : fIx s2 (.ref N1) (.int (-1)) = .ok (.tup [.int g, .int w]) s2 := fIx_r g1 (by rw [encS_snoc]; exact atI_last _ _)
      by_cases hj : g + w = f
      · refine w_seq (w_ifT (s' := s2) (tAndX_t k1 ?_) ?_)
        · walk_at "ev"
          rw [k2]
          walk_at "ev"
          rw [k2]
          walk_at "ev"
          rw [show (g + w == f) = true from by rw [beq_iff_eq]; exact hj]
        · have hN1 : N1 < s2.length := (List.getElem?_eq_some_iff.mp g1).1
          have k3 : eOp1 fPop (eVar 3) [some (.lst (encS l)), some (.int f), some (.int m), some (.ref N1), some (.ref N2), none, none] s2 = .ok (.tup [.int g, .int w]) (s2.set N1 (.lst (encS A2))) := by
            have : (encS (A2 ++ [(g, w)]))[(encS (A2 ++ [(g, w)])).length - 1]? = some (.tup [.int g, .int w]) := by
              rw [encS_snoc]; simp
            simp only [eOp1, eVar, List.getElem?_cons_zero, List.getElem?_cons_succ, Gm.fz, fPop, g1, this]
            rw [encS_snoc]
            simp
          refine w_seq (w_setT (d := .tup [.int g, .int w]) (s' := s2.set N1 (.lst (encS A2))) k3 rfl ?_)
          refine w_setF (d := .int (m + w)) (d' := .int (m + w)) (s' := s2.set N1 (.lst (encS A2))) (by walk_at "ev") rfl ?_
          refine mid g (m + w) A2 (some (.int w)) none _ _ (by rw [List.getElem?_set_self hN1]) (by rw [List.getElem?_set_ne (by omega)]; exact g2) gA2 mA2 (by omega) (by omega) (by omega) lA2 (fun i => ?_) rfl
          rw [hA0, cov_app, cov_cons, cov_nil]
          constructor
          · rintro (c | c)
            · exact .inl (.inl c)
            · by_cases z : i < f
              · exact .inl (.inr (.inl (by show g ≤ i ∧ i < g + w; omega)))
              · exact .inr (by omega)
          · rintro ((c | c | c) | c)
            · exact .inl c
            · have c1 : g ≤ i := c.1
              have c2 : i < g + w := c.2
              exact .inr (by omega)
            · exact c.elim
            · exact .inr (by omega)
      · refine w_seq (w_ifF (s' := s2) (tAndX_t k1 ?_) (w_nil ?_))
        · walk_at "ev"
          rw [k2]
          walk_at "ev"
          rw [k2]
          walk_at "ev"
          rw [show (g + w == f) = false from by rw [beq_eq_false_iff_ne]; exact hj]
        · refine mid f m (A2 ++ [(g, w)]) none none s2 _ g1 g2 gA (fun q hq => ?_) h0 h1 rfl lA (fun i => by rw [hA0]) rfl
          rcases List.mem_append.mp hq with z | z
          · have := mA2 q z; omega
          · rw [List.mem_singleton] at z; subst z; show g + w < f; omega
  obtain ⟨d, s', e, l', rfl, a, b⟩ := key.eq
  exact ⟨l', s', a, b, e⟩
abbrev putOk (l : Sg) (n f m : Int) : Prop := 1 ≤ m ∧ 0 ≤ f ∧ f + m ≤ n ∧ ∀ i, f ≤ i → i < f + m → ¬ Cov l i
theorem put_eq {l : Sg} {n f m : Int} {s : Store} (h1 : 8 ≤ n) (h2 : n ≤ 120) (hg : Good (-1) n l) :
    (putOk l n f m → ∃ l' s', Good (-1) n l' ∧ (∀ i, Cov l' i ↔ Cov l i ∨ (f ≤ i ∧ i < f + m)) ∧ f_put_back [.lst (encS l), .int n, .int f, .int m] s = .ok (.own (.lst (encS l'))) s') ∧
    (¬ putOk l n f m → f_put_back [.lst (encS l), .int n, .int f, .int m] s = .exc 2 s) := by
  have hlen := hg.len (by omega)
  have hn : l.length ≤ 500 := by omega
  have ask : f_ask [.lst (encS l), .int n] s = .ok .non s := by rw [ask_eq, if_pos ⟨h1, h2, goodB_iff.mpr hg⟩]
  have tch := touching_eq (l := l) (f := f) (m := m) (s := s) (by omega)
  constructor
  · rintro ⟨hm, h0, hfm, hc⟩
    obtain ⟨l', s', a, b, e⟩ := joined_eq (s := s) hg h2 (by omega) h0 hm hfm hc
    refine ⟨l', s', a, b, ?_⟩
    have tf : decide (0 < (l.filter fun p => decide (p.1 < f + m) && decide (f < p.1 + p.2)).length) = false := by
      rw [decide_eq_false_iff_not]
      intro z
      obtain ⟨p, hp⟩ := List.exists_mem_of_length_pos z
      obtain ⟨hp1, hp2⟩ := List.mem_filter.mp hp
      simp only [Bool.and_eq_true, decide_eq_true_eq] at hp2
      have hm := hg.mem p hp1
      by_cases z : p.1 ≤ f
      · exact hc f (Int.le_refl _) (by omega) ⟨p, hp1, z, hp2.2⟩
      · exact hc p.1 (by omega) hp2.1 ⟨p, hp1, Int.le_refl _, by omega⟩
    rw [tf] at tch
    have key : (f_put_back [.lst (encS l), .int n, .int f, .int m] s).W (fun d s1 => d = .own (.lst (encS l')) ∧ s1 = s') X0 := by
      refine w_fn (env := [some (.lst (encS l)), some (.int n), some (.int f), some (.int m)]) rfl rfl ?_
      refine w_seq (w_ex (d := .non) (s' := s) (call_eq ask (by walk_at "ev")) ?_)
      refine w_seq (w_ifF (s' := s) (tOrX_f (s1 := s) (by walk_at "ev"; rw [decide_eq_false (show ¬ m < 1 by omega)]) (tOrX_f (s1 := s) (by walk_at "ev"; rw [decide_eq_false (show ¬ f < 0 by omega)]) (tOrX_f (s1 := s) (by walk_at "ev"; rw [decide_eq_false (show ¬ n < f + m by omega)]) (tq_eq (call_eq tch (by walk_at "ev")))))) (w_nil ?_))
      exact w_ret (s' := s') (call_eq e (by walk_at "ev")) rfl ⟨rfl, rfl⟩
    obtain ⟨d, s1, e9, rfl, rfl⟩ := key.eq
    exact e9
  · intro hno
    have key : (f_put_back [.lst (encS l), .int n, .int f, .int m] s).W (fun _ _ => False) (fun c s' => c = 2 ∧ s' = s) := by
      refine w_fn (env := [some (.lst (encS l)), some (.int n), some (.int f), some (.int m)]) rfl rfl ?_
      refine w_seq (w_ex (d := .non) (s' := s) (call_eq ask (by walk_at "ev")) ?_)
      refine w_seq (w_ifT (s' := s) ?_ (w_raise ⟨rfl, rfl⟩))
      by_cases hm : m < 1
      · exact tOrX_t (by walk_at "ev"; rw [decide_eq_true hm])
      refine tOrX_f (s1 := s) (by walk_at "ev"; rw [decide_eq_false hm]) ?_
      by_cases hf : f < 0
      · exact tOrX_t (by walk_at "ev"; rw [decide_eq_true hf])
      refine tOrX_f (s1 := s) (by walk_at "ev"; rw [decide_eq_false hf]) ?_
      by_cases hb : n < f + m
      · exact tOrX_t (by walk_at "ev"; rw [decide_eq_true hb])
      refine tOrX_f (s1 := s) (by walk_at "ev"; rw [decide_eq_false hb]) ?_
      have tt : decide (0 < (l.filter fun p => decide (p.1 < f + m) && decide (f < p.1 + p.2)).length) = true := by
        rw [decide_eq_true_eq]
        apply Nat.pos_of_ne_zero
        intro z
        rw [List.length_eq_zero_iff, List.filter_eq_nil_iff] at z
        refine hno ⟨by omega, by omega, by omega, fun i i1 i2 ⟨p, hp, p1, p2⟩ => z p hp ?_⟩
        simp only [Bool.and_eq_true, decide_eq_true_eq]
        omega
      rw [tt] at tch
      exact tq_eq (call_eq tch (by walk_at "ev"))
    obtain ⟨d, s', e, rfl, rfl⟩ := key.exq
    exact e
end Lw

set_option Elab.async false
set_option linter.all false
set_option maxRecDepth 100000
set_option autoImplicit false
set_option maxHeartbeats 1000000
namespace Lw
open PySem L2 Gm
local macro_rules | `(tactic| walk_at "ev") => `(tactic| try simp only [eOp2, eOp1, eVar, eC, tq, tNotX, tAndX, tOrX, eAnd, eOr, eNot, eIf, aNil, aCons, snk, Gm.fz, eTup, eLst, eCall, oNo, oSo, eSl, iSeq, seqD, dr, tgE, setsE, Option.map_some, List.getElem?_cons_zero, List.getElem?_cons_succ, List.set_cons_zero, List.set_cons_succ, List.length_cons, List.length_nil, Nat.reduceAdd, Nat.reduceLeDiff, if_true, Int.reduceNeg,
  fAdd_i, fSub_i, fLt_i, fLe_i, fGt_i, fGe_i, fNeg_i, fMax_i, fMin_i, fEq_i, fNe_i, fEq_b, fIsN_i, fIsN_n, fNotN_i, fNotN_n, fIsN_t, fNotN_t, fNotB_b, fIsB_b, fLen_l, fLen_t, fLen_b, fLen_s, fIx_p0, fIx_p1, Bool.not_true, Bool.not_false, decide_true, decide_false])
/-! lists of bits -/
theorem mapM_bl (s : Store) (n : Nat) : ∀ xs : List Bool, (xs.map D.bl).mapM (toPy s (n + 1)) = some (xs.map PyData.bool)
  | [] => rfl
  | x :: xs => by
    have ih := mapM_bl s n xs
    show ((D.bl x) :: xs.map D.bl).mapM (toPy s (n + 1)) = _
    rw [List.mapM_cons, ih]; rfl
theorem toPy_bl (s : Store) (xs : List Bool) : toPy s 9 (.lst (xs.map D.bl)) = some (.list (xs.map PyData.bool)) := by
  show ((xs.map D.bl).mapM (toPy s 8)).map PyData.list = _
  rw [mapM_bl s 7 xs]; rfl
theorem canLay_bl : ∀ xs : List Bool, PyData.canLayAll0 (xs.map PyData.bool) = true
  | [] => rfl
  | x :: xs => by
    show (PyData.canLay0 (.bool x) && PyData.canLayAll0 (xs.map PyData.bool)) = true
    rw [canLay_bl xs]; rfl
theorem eqv_bl : ∀ xs ys : List Bool, PyData.eqvAll (xs.map PyData.bool) (ys.map PyData.bool) = decide (xs = ys)
  | [], [] => rfl
  | [], y :: ys => by simp [PyData.eqvAll]
  | x :: xs, [] => by simp [PyData.eqvAll]
  | x :: xs, y :: ys => by
    show (PyData.eqv (.bool x) (.bool y) && PyData.eqvAll (xs.map PyData.bool) (ys.map PyData.bool)) = _
    rw [eqv_bl xs ys, show PyData.eqv (.bool x) (.bool y) = decide (x = y) from by cases x <;> cases y <;> rfl]
    by_cases h : x = y <;> by_cases k : xs = ys <;> simp [h, k]
theorem fEq_bl {s : Store} {xs ys : List Bool} : fEq s (.lst (xs.map D.bl)) (.lst (ys.map D.bl)) = .ok (.bl (decide (xs = ys))) s := by
  unfold fEq
  rw [toPy_bl, toPy_bl]
  have c : ∀ zs : List Bool, (PyData.list (zs.map PyData.bool)).canLay0 = true := fun zs => canLay_bl zs
  simp only [c, and_self, if_true]
  show R.ok (D.bl (PyData.eqvAll _ _)) s = _
  rw [eqv_bl]
theorem fNe_bl {s : Store} {xs ys : List Bool} : fNe s (.lst (xs.map D.bl)) (.lst (ys.map D.bl)) = .ok (.bl (!decide (xs = ys))) s := by
  unfold fNe
  rw [toPy_bl, toPy_bl]
  have c : ∀ zs : List Bool, (PyData.list (zs.map PyData.bool)).canLay0 = true := fun zs => canLay_bl zs
  simp only [c, and_self, if_true]
  show R.ok (D.bl (!PyData.eqvAll _ _)) s = _
  rw [eqv_bl]
theorem fMul_bl {s : Store} {b : Bool} {m : Int} (hm : m ≤ 1000) (hm0 : 0 ≤ m) : fMul s (.lst [.bl b]) (.int m) = .ok (.own (.lst ((List.replicate m.toNat b).map D.bl))) s := by
  simp only [fMul, fRep, drM, dr]
  rw [if_pos (by simp only [List.length_singleton]; omega)]
  congr 3
  rw [List.map_replicate]
  generalize m.toNat = k
  induction k with
  | zero => rfl
  | succ k ih => rw [List.replicate_succ, List.flatten_cons, ih]; rfl
theorem cat_bl {s : Store} {a b : List Bool} (ha : a.length ≤ 1000) (hb : b.length ≤ 1000) : fAdd s (.lst (a.map D.bl)) (.lst (b.map D.bl)) = .ok (.own (.lst ((a ++ b).map D.bl))) s := by
  simp only [fAdd, fCat, drM, dr]
  rw [if_pos (by rw [List.length_map, List.length_map]; omega), List.map_append]
theorem cut_bl (l : List Bool) (k : Nat) (hk : k ≤ l.length) : cutD (l.map D.bl) none (some (k : Int)) = (l.take k).map D.bl ∧ cutD (l.map D.bl) (some (k : Int)) none = (l.drop k).map D.bl := by
  unfold cutD
  rw [HT.sIx_none, HT.sIx_none, HT.sIx_nat, List.length_map, Nat.min_eq_left hk]
  constructor
  · simp
  · rw [← List.map_drop, List.take_of_length_le (by simp), HT.sIx_nat, Nat.min_eq_left hk]
theorem cut_bl2 (l : List Bool) (a b : Nat) : ∃ r : List Bool, cutD (l.map D.bl) (some (a : Int)) (some (b : Int)) = r.map D.bl ∧ (a ≤ b → b ≤ l.length → r = (l.drop a).take (b - a)) := by
  unfold cutD
  rw [HT.sIx_nat, HT.sIx_nat, List.length_map, ← List.map_drop, ← List.map_take]
  exact ⟨_, rfl, fun h k => by rw [Nat.min_eq_left k, Nat.min_eq_left (by omega)]⟩
/-- the runs of bits, and bits turned -/
def rb (bs : List Bool) : Sg := runs (fun i => bs.getD i false) bs.length
def setB (bs : List Bool) (a m : Nat) (c : Bool) : List Bool := bs.take a ++ List.replicate m c ++ bs.drop (a + m)
theorem setB_len {bs : List Bool} {a m : Nat} {c : Bool} (h : a + m ≤ bs.length) : (setB bs a m c).length = bs.length := by
  unfold setB; simp; omega
theorem setB_get {bs : List Bool} {a m i : Nat} {c : Bool} (h : a + m ≤ bs.length) : (setB bs a m c).getD i false = if a ≤ i ∧ i < a + m then c else bs.getD i false := by
  unfold setB
  simp only [List.getD_eq_getElem?_getD, List.getElem?_append, List.length_append, List.length_take, List.length_replicate, List.getElem?_replicate, List.getElem?_take, List.getElem?_drop]
  rw [Nat.min_eq_left (by omega)]
  by_cases h1 : i < a
  · rw [if_pos (by omega), if_pos h1, if_pos h1, if_neg (by omega)]
  · by_cases h2 : i < a + m
    · rw [if_pos h2, if_neg h1, if_pos (by omega), if_pos (by omega)]; rfl
    · rw [if_neg h2, if_neg (by omega), show a + m + (i - (a + m)) = i by omega]
theorem rb_good (bs : List Bool) : Good (-1) bs.length (rb bs) := (runs_ok _ _).good
theorem rb_cov (bs : List Bool) (i : Int) : Cov (rb bs) i ↔ 0 ≤ i ∧ i < (bs.length : Int) ∧ bs.getD i.toNat false = true := runs_cov _ _ _
theorem rb_len (bs : List Bool) : (rb bs).length ≤ bs.length := runs_len _ _
theorem rb_is {bs : List Bool} {n : Int} {l : Sg} (hg : Good (-1) n l) (h : ∀ i, Cov l i ↔ 0 ≤ i ∧ i < (bs.length : Int) ∧ bs.getD i.toNat false = true) : l = rb bs :=
  good_uniq hg (rb_good bs) fun i => by rw [h, rb_cov]
theorem take_iff {bs : List Bool} {f m : Int} : takeOk (rb bs) f m ↔ 1 ≤ m ∧ 0 ≤ f ∧ f + m ≤ bs.length ∧ ∀ i : Nat, f ≤ i → i < f + m → bs.getD i false = true := by
  constructor
  · rintro ⟨h1, h⟩
    have a := (rb_cov bs f).mp (h f (Int.le_refl _) (by omega))
    have b := (rb_cov bs (f + m - 1)).mp (h (f + m - 1) (by omega) (by omega))
    exact ⟨h1, a.1, by omega, fun i i1 i2 => by have := ((rb_cov bs i).mp (h i i1 i2)).2.2; simpa using this⟩
  · rintro ⟨h1, h2, h3, h⟩
    refine ⟨h1, fun i i1 i2 => (rb_cov bs i).mpr ⟨by omega, by omega, h i.toNat (by omega) (by omega)⟩⟩
theorem put_iff {bs : List Bool} {f m n : Int} (hn : n = bs.length) : putOk (rb bs) n f m ↔ 1 ≤ m ∧ 0 ≤ f ∧ f + m ≤ bs.length ∧ ∀ i : Nat, f ≤ i → i < f + m → bs.getD i false = false := by
  subst hn
  constructor
  · rintro ⟨h1, h2, h3, h⟩
    refine ⟨h1, h2, h3, fun i i1 i2 => ?_⟩
    have := h i i1 i2
    rw [rb_cov] at this
    cases e : bs.getD i false with
    | false => rfl
    | true => exact absurd ⟨by omega, by omega, by simpa using e⟩ this
  · rintro ⟨h1, h2, h3, h⟩
    refine ⟨h1, h2, h3, fun i i1 i2 c => ?_⟩
    have y := (rb_cov bs i).mp c
    have z := h i.toNat (by omega) (by omega)
    rw [y.2.2] at z
    cases z
theorem taken_bits {bs : List Bool} {n f m : Int} {s : Store} {a k : Nat} (hn : n = bs.length) (h8 : 8 ≤ n) (h120 : n ≤ 120) (ha : f = a) (hk : m = k) (ht : takeOk (rb bs) f m) :
    f_taken_off [.lst (encS (rb bs)), .int n, .int f, .int m] s = .ok (.own (.lst (encS (rb (setB bs a k false))))) s := by
  obtain ⟨l', G, C, e⟩ := (taken_eq (s := s) (f := f) (m := m) h8 h120 (hn ▸ rb_good bs)).1 ht
  obtain ⟨t1, t2, t3, t4⟩ := take_iff.mp ht
  have hl : a + k ≤ bs.length := by omega
  rw [e, rb_is (bs := setB bs a k false) G fun i => ?_]
  rw [C, rb_cov, setB_len hl, setB_get hl]
  constructor
  · rintro ⟨⟨c1, c2, c3⟩, z⟩
    exact ⟨c1, c2, by rw [if_neg (by omega)]; exact c3⟩
  · rintro ⟨c1, c2, c3⟩
    by_cases z : a ≤ i.toNat ∧ i.toNat < a + k
    · rw [if_pos z] at c3; cases c3
    · rw [if_neg z] at c3; exact ⟨⟨c1, c2, c3⟩, by omega⟩
theorem put_bits {bs : List Bool} {n f m : Int} {s : Store} {a k : Nat} (hn : n = bs.length) (h8 : 8 ≤ n) (h120 : n ≤ 120) (ha : f = a) (hk : m = k) (ht : putOk (rb bs) n f m) :
    ∃ s', f_put_back [.lst (encS (rb bs)), .int n, .int f, .int m] s = .ok (.own (.lst (encS (rb (setB bs a k true))))) s' := by
  obtain ⟨l', s', G, C, e⟩ := (put_eq (s := s) (f := f) (m := m) h8 h120 (hn ▸ rb_good bs)).1 ht
  obtain ⟨t1, t2, t3, t4⟩ := (put_iff hn).mp ht
  have hl : a + k ≤ bs.length := by omega
  refine ⟨s', ?_⟩
  rw [e, rb_is (bs := setB bs a k true) G fun i => ?_]
  rw [C, rb_cov, setB_len hl, setB_get hl]
  constructor
  · rintro (⟨c1, c2, c3⟩ | z)
    · refine ⟨c1, c2, ?_⟩
      by_cases z : a ≤ i.toNat ∧ i.toNat < a + k
      · rw [if_pos z]
      · rw [if_neg z]; exact c3
    · exact ⟨by omega, by omega, by rw [if_pos (by omega)]⟩
  · rintro ⟨c1, c2, c3⟩
    by_cases z : a ≤ i.toNat ∧ i.toNat < a + k
    · exact .inr (by omega)
    · rw [if_neg z] at c3; exact .inl ⟨c1, c2, c3⟩
/-! a list is one of stretches -/
theorem whole_eq {i : Int} {s : Store} : f__law_whole [.int i] s = .ok (.bl true) s := by rfl
theorem fEq_py {s : Store} {a b : D} {p : PyData} (h : toPy s 9 a = some p) (k : toPy s 9 b = some p) (c : p.canLay0 = true) : fEq s a b = .ok (.bl true) s := by
  unfold fEq
  rw [h, k]
  simp only [c, and_self, if_true, eqv_self p c]
theorem iss_eq {x : D} {l : Sg} {s : Store} (hx0 : fIsi "list" s x = .ok (.bl true) s) (hx1 : fLen s x = .ok (.int (encS l).length) s) (hx2 : seqD s x = some (encS l)) (hx3 : toPy s 9 x = some (.list (l.map pyP))) (hx4 : snk (Gm.fz x) = some x) (hx5 : Gm.fz x = x) (hx6 : ∀ e : Gm.Env, e[0]? = some (some x) → eVar 0 e s = .ok x s) :
    f__law_is_stretches [x, .lst (encS l)] s = .ok (.bl true) s := by
  have key : (f__law_is_stretches [x, .lst (encS l)] s).W (fun d s' => d = .bl true ∧ s' = s) X0 := by
    refine w_fn (env := [some x, some (.lst (encS l)), none]) rfl rfl ?_
    refine w_seq (w_ifF (s' := s) (tOrX_f (s1 := s) ?_ (tq_eq (op2_eq (op1_eq (hx6 _ rfl) (by rw [hx5]; exact hx1)) (op1_eq (x := .lst (encS l)) (s1 := s) rfl (r := .ok (.int (encS l).length) s) rfl) ?_))) (w_nil ?_))
    · unfold tNotX
      rw [tq_eq (op1_eq (hx6 _ rfl) (by rw [hx5]; exact hx0))]
      rfl
    · show fNe s (.int _) (.int _) = _
      rw [fNe_i]
      simp
    · refine w_seq (w_for (xs := encS l) (it := .seq x) (s' := s) (iSeq_of (hx6 _ rfl) hx4 hx2) (by simp only [Itr.fuel, hx2]; rfl) (fun i e s' => s' = s ∧ ∃ v, e = [some x, some (.lst (encS l)), v]) ⟨rfl, _, rfl⟩ (fun i e s' _ hI => by rw [hI.1]; simp only [Itr.at, hx2]; rfl) ?_ ?_)
      · rintro i y e s' hy ⟨rfl, v, rfl⟩
        obtain ⟨⟨f, m⟩, hp, rfl⟩ := encS_get hy
        refine ⟨_, rfl, w_ifF (s' := s') ?_ (w_nil ⟨rfl, some (.tup [.int f, .int m]), rfl⟩)⟩
        rfl
      · rintro e s' ⟨rfl, v, rfl⟩
        refine w_ret (d := .bl true) (s' := s') (op2_eq (hx6 _ rfl) (y := .lst (encS l)) (s2 := s') rfl ?_) rfl ⟨rfl, rfl⟩
        rw [hx5]
        exact fEq_py hx3 (toPy_L s' l) (canLay_enc l)
  obtain ⟨d, s', e, rfl, rfl⟩ := key.eq
  exact e
theorem iss_lst {l : Sg} {s : Store} : f__law_is_stretches [.lst (encS l), .lst (encS l)] s = .ok (.bl true) s :=
  iss_eq rfl rfl rfl (toPy_L s l) rfl rfl (fun e h => by unfold eVar; rw [h])
theorem iss_ref {l : Sg} {s : Store} {n : Nat} (h : s[n]? = some (.lst (encS l))) : f__law_is_stretches [.ref n, .lst (encS l)] s = .ok (.bl true) s :=
  iss_eq (by unfold fIsi; simp only [tyD, dr, h]; rfl) (by simp only [fLen, dr, h]) (by simp only [seqD, dr, h]) (by
    show (match dr s (.ref n) with | some (.lst xs) => (xs.mapM (toPy s 8)).map PyData.list | _ => none) = _
    simp only [dr, h]
    rw [toPy_enc s 6 l]; rfl) rfl rfl (fun e h => by unfold eVar; rw [h])
end Lw

set_option Elab.async false
set_option linter.all false
set_option maxRecDepth 100000
set_option autoImplicit false
set_option maxHeartbeats 1000000
namespace Lw
open PySem L2 Gm
local macro_rules | `(tactic| walk_at "ev") => `(tactic| try simp only [eOp2, eOp1, eVar, eC, tq, tNotX, tAndX, tOrX, eAnd, eOr, eNot, eIf, aNil, aCons, snk, Gm.fz, eTup, eLst, eCall, oNo, oSo, eSl, iSeq, seqD, dr, tgE, setsE, Option.map_some, List.getElem?_cons_zero, List.getElem?_cons_succ, List.set_cons_zero, List.set_cons_succ, List.length_cons, List.length_nil, Nat.reduceAdd, Nat.reduceLeDiff, if_true, Int.reduceNeg,
  fAdd_i, fSub_i, fLt_i, fLe_i, fGt_i, fGe_i, fNeg_i, fMax_i, fMin_i, fEq_i, fNe_i, fEq_b, fIsN_i, fIsN_n, fNotN_i, fNotN_n, fIsN_t, fNotN_t, fNotB_b, fIsB_b, fLen_l, fLen_t, fLen_b, fLen_s, fIx_p0, fIx_p1, Bool.not_true, Bool.not_false, decide_true, decide_false])
theorem runs_rb {bs : List Bool} {s : Store} (h : bs.length ≤ 1000) : f__law_runs [.lst (bs.map D.bl)] s = .ok (.own (.lst (encS (rb bs)))) s := runs_eq h
theorem acons_eq {e : Ex} {r : Ax} {env : Gm.Env} {s s1 s2 : Store} {x d : D} {ds : List D} (h : e env s = .ok x s1) (hd : snk (Gm.fz x) = some d) (k : r env s1 = .ok ds s2) : aCons e r env s = .ok (d :: ds) s2 := by
  unfold aCons; rw [h]; simp only [hd, k]
theorem var_lst {i : Nat} {xs : List D} {env : Gm.Env} {s : Store} (h : env[i]? = some (some (.lst xs))) : eVar i env s = .ok (.lst xs) s := by unfold eVar; rw [h]
theorem tNot_t {t : Tx} {env : Gm.Env} {s s' : Store} (h : t env s = .ok true s') : tNotX t env s = .ok false s' := by unfold tNotX; rw [h]; rfl
theorem iss_call {i j : Nat} {env : Gm.Env} {s : Store} {bs : List Bool} (h1 : env[i]? = some (some (.lst (encS (rb bs))))) (h2 : env[j]? = some (some (.lst (bs.map D.bl)))) (hl : bs.length ≤ 1000) :
    tNotX (tq (eCall f__law_is_stretches (aCons (eVar i) (aCons (eCall f__law_runs (aCons (eVar j) (aNil))) (aNil))))) env s = .ok false s := by
  have e2 : eCall f__law_runs (aCons (eVar j) (aNil)) env s = .ok (.own (.lst (encS (rb bs)))) s := call_eq (runs_rb hl) (acons_eq (x := .lst (bs.map D.bl)) (var_lst h2) rfl (ds := []) (s2 := s) rfl)
  have e3 : aCons (eVar i) (aCons (eCall f__law_runs (aCons (eVar j) (aNil))) (aNil)) env s = .ok [.lst (encS (rb bs)), .lst (encS (rb bs))] s := acons_eq (x := .lst (encS (rb bs))) (var_lst h1) rfl (acons_eq e2 rfl (ds := []) (s2 := s) rfl)
  exact tNot_t (tq_eq (call_eq iss_lst e3))
/-- the places that are held -/
def heldN (bs : List Bool) : List Nat := (List.range bs.length).filter fun i => !bs.getD i false
theorem heldN_get {bs : List Bool} {i p : Nat} (h : (heldN bs)[i]? = some p) : p < bs.length ∧ bs.getD p false = false := by
  have := List.mem_of_getElem? h
  unfold heldN at this
  obtain ⟨h1, h2⟩ := List.mem_filter.mp this
  exact ⟨List.mem_range.mp h1, by simpa using h2⟩
theorem heldN_len (bs : List Bool) : (heldN bs).length ≤ bs.length := by
  unfold heldN
  exact Nat.le_trans (List.length_filter_le _ _) (by simp)
theorem bl_ix {bs : List Bool} {i : Nat} {k : Int} {s : Store} (hi : i < bs.length) (hk : k = (i : Int)) : fIx s (.lst (bs.map D.bl)) (.int k) = .ok (.bl (bs.getD i false)) s := runs_get hi hk
/-- the first stretch that has so many words: all of them are free -/
theorem ffit_ok {bs : List Bool} {m f : Int} (hm : 1 ≤ m) (h : ffit (rb bs) m = some f) : takeOk (rb bs) f m := by
  unfold ffit at h
  cases q : (rb bs).find? (fun p => decide (m ≤ p.2)) with
  | none => rw [q] at h; cases h
  | some p =>
    rw [q] at h
    cases h
    have h1 := List.mem_of_find?_eq_some q
    have h2 := List.find?_some q
    have h3 : m ≤ p.2 := of_decide_eq_true h2
    refine ⟨hm, fun i i1 i2 => ⟨p, h1, i1, ?_⟩⟩
    have i3 : i < p.1 + m := i2
    omega
theorem seg_all {bs : List Bool} {A M : Nat} {c : Bool} (h : A + M ≤ bs.length) (k : ∀ i : Nat, A ≤ i → i < A + M → bs.getD i false = c) : (bs.drop A).take M = List.replicate M c := by
  apply List.ext_getElem?
  intro j
  rw [List.getElem?_replicate, List.getElem?_take, List.getElem?_drop]
  by_cases hj : j < M
  · rw [if_pos hj, if_pos hj]
    have := k (A + j) (by omega) (by omega)
    rw [List.getD_eq_getElem?_getD, List.getElem?_eq_getElem (by omega)] at this
    rw [List.getElem?_eq_getElem (by omega), ← this]; rfl
  · rw [if_neg hj, if_neg hj]
/-- bits turned, as the law writes it -/
theorem turn_eq {bs : List Bool} {A M : Nat} {f m : Int} {c : Bool} {env : Gm.Env} {s : Store} (hA : f = A) (hM : m = M) (h : A + M ≤ bs.length) (hl : bs.length ≤ 100) (h2 : env[2]? = some (some (.lst (bs.map D.bl)))) (h8 : env[8]? = some (some (.int f))) (h7 : env[7]? = some (some (.int m))) :
    eOp2 fAdd (eOp2 fAdd (eSl (eVar 2) (oNo) (oSo (eVar 8))) (eOp2 fMul (eLst (aCons (eC (D.bl c)) (aNil))) (eVar 7))) (eSl (eVar 2) (oSo (eOp2 fAdd (eVar 8) (eVar 7))) (oNo)) env s = .ok (.own (.lst ((setB bs A M c).map D.bl))) s := by
  have v2 : eVar 2 env s = .ok (.lst (bs.map D.bl)) s := var_lst h2
  have v8 : eVar 8 env s = .ok (.int f) s := by unfold eVar; rw [h8]
  have v7 : eVar 7 env s = .ok (.int m) s := by unfold eVar; rw [h7]
  have c1 := (cut_bl bs A (by omega)).1
  have c2 := (cut_bl bs (A + M) (by omega)).2
  rw [← hA] at c1
  rw [show ((A + M : Nat) : Int) = f + m by omega] at c2
  refine op2_eq (op2_eq (x := .own (.lst ((bs.take A).map D.bl))) (s1 := s) ?_ (y := .own (.lst ((List.replicate M c).map D.bl))) (s2 := s) ?_ (cat_bl (by simp; omega) (by simp; omega))) (y := .own (.lst ((bs.drop (A + M)).map D.bl))) (s2 := s) ?_ ?_
  · simp only [eSl, v2, v8, oNo, oSo, Gm.fz, fSl, dr, c1]
  · refine op2_eq (x := .own (.lst [.bl c])) (s1 := s) rfl (y := .int m) (s2 := s) v7 ?_
    show fMul s (.lst [.bl c]) (.int m) = _
    rw [fMul_bl (by omega) (by omega), show m.toNat = M by omega]
  · have v9 : eOp2 fAdd (eVar 8) (eVar 7) env s = .ok (.int (f + m)) s := op2_eq v8 v7 rfl
    simp only [eSl, v2, oNo, oSo, v9, Gm.fz, fSl, dr, c2]
  · exact cat_bl (s := s) (a := bs.take A ++ List.replicate M c) (b := bs.drop (A + M)) (by simp; omega) (by simp; omega)
theorem rb_all (k : Nat) (hk : 0 < k) : rb (List.replicate k true) = [(0, (k : Int))] := by
  refine (rb_is (bs := List.replicate k true) (n := k) (l := [(0, (k : Int))]) ⟨by omega, by omega, by omega, trivial⟩ fun i => ?_).symm
  rw [cov_cons, cov_nil, or_false, List.length_replicate]
  constructor
  · rintro ⟨a, b⟩
    have a1 : 0 ≤ i := a
    have b1 : i < 0 + (k : Int) := b
    refine ⟨a1, by omega, ?_⟩
    rw [List.getD_eq_getElem?_getD, List.getElem?_replicate, if_pos (by omega)]; rfl
  · rintro ⟨a, b, _⟩
    exact ⟨a, by show i < 0 + (k : Int); omega⟩
theorem main (ns : List Int) (hn : ns.length ≤ 63) : ∃ s', f_law [.scr ns] [] = .ok (.bl true) s' := by
  have key : (f_law [.scr ns] []).W (fun d s' => d = .bl true) X0 := by
    generalize hs : ([] : Store) = s
    refine w_fn (env := [some (.scr ns), none, none, none, none, none, none, none, none, none]) rfl rfl ?_
    have h33 : fMod s (.int (cellAt ns 0)) (.int 33) = .ok (.int (cellAt ns 0 % 33)) s := fMod_i (by decide)
    generalize hr : 8 + cellAt ns 0 % 33 = r
    have hr1 : 8 ≤ r := by have := Int.emod_nonneg (cellAt ns 0) (show (33 : Int) ≠ 0 by decide); omega
    have hr2 : r ≤ 40 := by have := Int.emod_lt_of_pos (cellAt ns 0) (show (0 : Int) < 33 by decide); omega
    obtain ⟨k, hk⟩ : ∃ k : Nat, r = (k : Int) := ⟨r.toNat, by omega⟩
    refine w_seq (w_setF (d := .int r) (d' := .int r) (s' := s) ?_ rfl ?_)
    · walk_at "ev"
      rw [cell_eq (by decide)]
      walk_at "ev"
      rw [h33]
      walk_at "ev"
      rw [hr]
    refine w_seq (w_setF (d := .own (.lst ((List.replicate k true).map D.bl))) (d' := .lst ((List.replicate k true).map D.bl)) (s' := s) ?_ rfl ?_)
    · refine op2_eq (x := .own (.lst [.bl true])) (s1 := s) rfl (y := .int r) (s2 := s) (by walk_at "ev") ?_
      show fMul s (.lst [.bl true]) (.int r) = _
      rw [fMul_bl (by omega) (by omega), show r.toNat = k by omega]
    refine w_seq (w_setF (d := .own (.lst (encS (rb (List.replicate k true))))) (d' := .lst (encS (rb (List.replicate k true)))) (s' := s) ?_ rfl ?_)
    · rw [rb_all k (by omega), ← hk]
      walk_at "ev"
      rfl
    generalize hdc : cellAt ns 1 % 25 = dc
    have hdc1 : 0 ≤ dc := by have := Int.emod_nonneg (cellAt ns 1) (show (25 : Int) ≠ 0 by decide); omega
    have hdc2 : dc ≤ 24 := by have := Int.emod_lt_of_pos (cellAt ns 1) (show (0 : Int) < 25 by decide); omega
    refine w_seq (w_forR (lo := 0) (n := dc.toNat) (s' := s) (xRng1_of (j := dc) ?_ rfl (by omega)) (fun i e _ => ∃ bs : List Bool, bs.length = k ∧ ∃ v4 v5 v6 v7 v8 v9, e = ([some (.scr ns), some (.int r), some (.lst (bs.map D.bl)), some (.lst (encS (rb bs))), v4, v5, v6, v7, v8, v9] : Gm.Env)) ⟨_, by simp, _, _, _, _, _, _, rfl⟩ ?_ ?_)
    · walk_at "ev"
      rw [cell_eq (by decide)]
      walk_at "ev"
      rw [fMod_i (by decide), hdc]
    · rintro i e s1 hi ⟨bs, hbk, v4, v5, v6, v7, v8, v9, rfl⟩
      have hrb : r = bs.length := by omega
      generalize hw : (0 : Int) + (i : Int) = w
      generalize hc : cellAt ns (2 + w) = c
      refine w_seq (w_setF (d := .int c) (d' := .int c) (s' := s1) (call_eq (by rw [← hc]; exact cell_eq (k := 2 + w) (by omega)) (by walk_at "ev")) rfl ?_)
      simp only [List.set_cons_succ, List.set_cons_zero]
      -- held
      have eH : eLc (Tg.nm 9) (xRng1 (eVar 1)) (tNotX (tq (eOp2 fIx (eVar 2) (eVar 9)))) (eVar 9) [9] [some (.scr ns), some (.int r), some (.lst (bs.map D.bl)), some (.lst (encS (rb bs))), some (.int w), some (.int c), v6, v7, v8, v9] s1 = .ok (.own (.lst ((heldN bs).map fun p => D.int (p : Nat)))) s1 := by
        let P : D → Bool := fun d => match d with
          | .int p => !bs.getD p.toNat false
          | _ => false
        rw [eLc_eq (it := .rng 0 bs.length) (s1 := s1) (xs := (List.range bs.length).map fun p => D.int (p : Nat)) P id (xRng1_of (j := r) (by walk_at "ev") (by omega) (by omega)) (by simp [Itr.fuel]) (fun i => ?_) (by simp; omega) (fun x hx => ?_)]
        · congr 3
          rw [List.map_id, List.filter_map]
          unfold heldN
          congr 1
        · by_cases h : i < bs.length <;> simp [Itr.at, h]
        · obtain ⟨p, hp, rfl⟩ := List.mem_map.mp hx
          have hp := List.mem_range.mp hp
          refine ⟨_, rfl, ?_, fun _ => ⟨.int (p : Nat), rfl, rfl⟩⟩
          show tNotX _ [some (.scr ns), some (.int r), some (.lst (bs.map D.bl)), some (.lst (encS (rb bs))), some (.int w), some (.int c), v6, v7, v8, some (.int (p : Nat))] s1 = _
          walk_at "ev"
          rw [bl_ix hp rfl]
          rfl
      refine w_seq (w_setF (d' := .lst ((heldN bs).map fun p => D.int (p : Nat))) (s' := s1) eH rfl ?_)
      simp only [List.set_cons_succ, List.set_cons_zero]
      have hhl := heldN_len bs
      generalize hH : heldN bs = H at *
      -- what stands behind
      have fin : ∀ (bs2 : List Bool) (s2 : Store) (v7 v8 v9 : Option D), bs2.length = k → (sIf (tNotX (tq (eCall f__law_is_stretches (aCons (eVar 3) (aCons (eCall f__law_runs (aCons (eVar 2) (aNil))) (aNil)))))) (sRet (eC (D.bl false))) (sNil) [some (.scr ns), some (.int r), some (.lst (bs2.map D.bl)), some (.lst (encS (rb bs2))), some (.int w), some (.int c), some (.lst (H.map fun p => D.int (p : Nat))), v7, v8, v9] s2).W (fun e _ => ∃ bs : List Bool, bs.length = k ∧ ∃ v4 v5 v6 v7 v8 v9, e = ([some (.scr ns), some (.int r), some (.lst (bs.map D.bl)), some (.lst (encS (rb bs))), v4, v5, v6, v7, v8, v9] : Gm.Env)) (fun d s' => d = .bl true) (fun c _ s' => X0 c s') := by
        intro bs2 s2 v7 v8 v9 h2
        exact w_ifF (s' := s2) (iss_call (bs := bs2) rfl rfl (by omega)) (w_nil ⟨bs2, h2, _, _, _, _, _, _, rfl⟩)
      have hm5 : fMod s1 (.int c) (.int 5) = .ok (.int (c % 5)) s1 := fMod_i (by decide)
      have hd5 : fDiv s1 (.int c) (.int 5) = .ok (.int (c / 5)) s1 := fDiv_i (by decide) (by decide)
      have hd200 : fDiv s1 (.int c) (.int 200) = .ok (.int (c / 200)) s1 := fDiv_i (by decide) (by decide)
      generalize hq : c % 5 = q at hm5
      refine w_seq ?_
      by_cases ht : q < 3 ∨ H.length = 0
      · -- taken where they fit
        refine w_ifT (s' := s1) ?_ ?_
        · by_cases h1 : q < 3
          · refine tOrX_t ?_
            walk_at "ev"
            rw [hm5]
            walk_at "ev"
            rw [decide_eq_true h1]
          · refine tOrX_f (s1 := s1) ?_ ?_
            · walk_at "ev"
              rw [hm5]
              walk_at "ev"
              rw [decide_eq_false h1]
            · walk_at "ev"
              rw [List.length_map]
              have : H.length = 0 := by omega
              rw [this]; rfl
        generalize hm : 1 + c / 5 % 6 = m
        have hm1 : 1 ≤ m := by have := Int.emod_nonneg (c / 5) (show (6 : Int) ≠ 0 by decide); omega
        have hm2 : m ≤ 6 := by have := Int.emod_lt_of_pos (c / 5) (show (0 : Int) < 6 by decide); omega
        refine w_seq (w_setF (d := .int m) (d' := .int m) (s' := s1) ?_ rfl ?_)
        · walk_at "ev"
          rw [hd5]
          walk_at "ev"
          rw [fMod_i (by decide)]
          walk_at "ev"
          rw [hm]
        simp only [List.set_cons_succ, List.set_cons_zero]
        have hfit := fit_ok (s := s1) (m := m) hr1 (by omega) (goodB_iff.mpr (hrb ▸ rb_good bs)) hm1
        refine w_seq (w_setF (d := optI (ffit (rb bs) m)) (d' := optI (ffit (rb bs) m)) (s' := s1) (call_eq hfit (by walk_at "ev")) (by cases ffit (rb bs) m <;> rfl) ?_)
        simp only [List.set_cons_succ, List.set_cons_zero]
        cases hff : ffit (rb bs) m with
        | none =>
          refine w_ifF (s' := s1) (by simp only [optI]; walk_at "ev") (w_nil ?_)
          exact fin bs s1 _ _ _ hbk
        | some f =>
          have htk := ffit_ok hm1 hff
          obtain ⟨t1, t2, t3, t4⟩ := take_iff.mp htk
          simp only [optI]
          refine w_ifT (s' := s1) (by walk_at "ev") ?_
          generalize hA : f.toNat = A
          generalize hM : m.toNat = M
          have hAM : A + M ≤ bs.length := by omega
          have hall := seg_all (c := true) hAM (fun i i1 i2 => t4 i (by omega) (by omega))
          obtain ⟨seg, hsg, hsg2⟩ := cut_bl2 bs A (A + M)
          have hsg3 := hsg2 (by omega) hAM
          rw [show A + M - A = M by omega, hall] at hsg3
          rw [show ((A : Nat) : Int) = f by omega, show ((A + M : Nat) : Int) = f + m by omega, hsg3] at hsg
          refine w_seq (w_ifF (s' := s1) (tOrX_f (s1 := s1) (tNot_t (tq_eq (call_eq (whole_eq (i := f)) (by walk_at "ev")))) ?_) (w_nil ?_))
          · have e1 : eSl (eVar 2) (oSo (eVar 8)) (oSo (eOp2 fAdd (eVar 8) (eVar 7))) [some (.scr ns), some (.int r), some (.lst (bs.map D.bl)), some (.lst (encS (rb bs))), some (.int w), some (.int c), some (.lst (H.map fun p => D.int (p : Nat))), some (.int m), some (.int f), v9] s1 = .ok (.own (.lst ((List.replicate M true).map D.bl))) s1 := by
              walk_at "ev"
              simp only [fSl, dr, hsg]
            have e2 : eOp2 fMul (eLst (aCons (eC (D.bl true)) (aNil))) (eVar 7) [some (.scr ns), some (.int r), some (.lst (bs.map D.bl)), some (.lst (encS (rb bs))), some (.int w), some (.int c), some (.lst (H.map fun p => D.int (p : Nat))), some (.int m), some (.int f), v9] s1 = .ok (.own (.lst ((List.replicate M true).map D.bl))) s1 := by
              refine op2_eq (x := .own (.lst [.bl true])) (s1 := s1) rfl (y := .int m) (s2 := s1) (by walk_at "ev") ?_
              show fMul s1 (.lst [.bl true]) (.int m) = _
              rw [fMul_bl (by omega) (by omega), hM]
            refine tq_eq (op2_eq e1 e2 ?_)
            show fNe s1 (.lst _) (.lst _) = _
            rw [fNe_bl, decide_eq_true rfl]; rfl
          refine w_seq (w_setF (d := .own (.lst ((setB bs A M false).map D.bl))) (d' := .lst ((setB bs A M false).map D.bl)) (s' := s1) (turn_eq (f := f) (m := m) (by omega) (by omega) hAM (by omega) rfl rfl rfl) rfl ?_)
          simp only [List.set_cons_succ, List.set_cons_zero]
          have tk := taken_bits (s := s1) (a := A) (k := M) (f := f) (m := m) hrb hr1 (by omega) (by omega) (by omega) htk
          refine w_setF (d := .own (.lst (encS (rb (setB bs A M false))))) (d' := .lst (encS (rb (setB bs A M false)))) (s' := s1) (call_eq tk (by walk_at "ev")) rfl ?_
          simp only [List.set_cons_succ, List.set_cons_zero]
          exact fin _ s1 _ _ _ (by rw [setB_len hAM]; exact hbk)
      · -- some given back
        have hq3 : ¬ q < 3 := fun z => ht (.inl z)
        have hH0 : H.length ≠ 0 := fun z => ht (.inr z)
        refine w_ifF (s' := s1) (tOrX_f (s1 := s1) ?_ ?_) ?_
        · walk_at "ev"
          rw [hm5]
          walk_at "ev"
          rw [decide_eq_false hq3]
        · walk_at "ev"
          rw [List.length_map, show (((H.length : Nat) : Int) == 0) = false from by rw [beq_eq_false_iff_ne]; omega]
        obtain ⟨j, hj, hjm⟩ : ∃ j : Nat, j < H.length ∧ c / 5 % (H.length : Int) = (j : Int) := by
          have h0 := Int.emod_nonneg (c / 5) (show (H.length : Int) ≠ 0 by omega)
          have h1 := Int.emod_lt_of_pos (c / 5) (show (0 : Int) < (H.length : Int) by omega)
          exact ⟨(c / 5 % (H.length : Int)).toNat, by omega, by omega⟩
        obtain ⟨A, hA⟩ : ∃ A, H[j]? = some A := ⟨H[j], List.getElem?_eq_getElem hj⟩
        obtain ⟨hA1, hA2⟩ := heldN_get (by rw [hH]; exact hA)
        generalize hf : ((A : Nat) : Int) = f
        have hix : fIx s1 (.lst (H.map fun p => D.int (p : Nat))) (.int (j : Int)) = .ok (.int f) s1 := by
          refine fIx_l (atI_of (by omega) ?_)
          rw [show ((j : Int)).toNat = j by omega, List.getElem?_map, hA, ← hf]; rfl
        refine w_seq (w_setF (d := .int f) (d' := .int f) (s' := s1) ?_ rfl ?_)
        · walk_at "ev"
          rw [hd5]
          walk_at "ev"
          rw [List.length_map, fMod_i (by omega), hjm]
          walk_at "ev"
          rw [hix]
        simp only [List.set_cons_succ, List.set_cons_zero]
        refine w_seq (w_setF (d := .int 1) (d' := .int 1) (s' := s1) (by walk_at "ev") rfl ?_)
        simp only [List.set_cons_succ, List.set_cons_zero]
        generalize hub : 1 + c / 200 % 6 = ub
        have hub2 : ub ≤ 6 := by have := Int.emod_lt_of_pos (c / 200) (show (0 : Int) < 6 by decide); omega
        refine w_seq (w_while (fun t e s2 => s2 = s1 ∧ ∃ M : Nat, t + M = 50 ∧ 1 ≤ M ∧ A + M ≤ bs.length ∧ (∀ i : Nat, A ≤ i → i < A + M → bs.getD i false = false) ∧ e = ([some (.scr ns), some (.int r), some (.lst (bs.map D.bl)), some (.lst (encS (rb bs))), some (.int w), some (.int c), some (.lst (H.map fun p => D.int (p : Nat))), some (.int (M : Nat)), some (.int f), v9] : Gm.Env)) 49 (by decide) ⟨rfl, 1, rfl, by omega, by omega, fun i i1 i2 => by rw [show i = A by omega]; exact hA2, rfl⟩ ?_)
        rintro t e s2 ⟨rfl, M, htM, hM1, hAM, hall, rfl⟩
        generalize hM : ((M : Nat) : Int) = m
        have c1 : tq (eOp2 fLt (eVar 7) (eOp2 fAdd (eC (D.int 1)) (eOp2 fMod (eOp2 fDiv (eVar 5) (eC (D.int 200))) (eC (D.int 6))))) [some (.scr ns), some (.int r), some (.lst (bs.map D.bl)), some (.lst (encS (rb bs))), some (.int w), some (.int c), some (.lst (H.map fun p => D.int (p : Nat))), some (.int m), some (.int f), v9] s2 = .ok (decide (m < ub)) s2 := by
          walk_at "ev"
          rw [hd200]
          walk_at "ev"
          rw [fMod_i (by decide)]
          walk_at "ev"
          rw [hub]
        have c2 : tq (eOp2 fLt (eOp2 fAdd (eVar 8) (eVar 7)) (eVar 1)) [some (.scr ns), some (.int r), some (.lst (bs.map D.bl)), some (.lst (encS (rb bs))), some (.int w), some (.int c), some (.lst (H.map fun p => D.int (p : Nat))), some (.int m), some (.int f), v9] s2 = .ok (decide (f + m < r)) s2 := by
          walk_at "ev"
        have out : (sSeq (sSetF 2 (eOp2 fAdd (eOp2 fAdd (eSl (eVar 2) (oNo) (oSo (eVar 8))) (eOp2 fMul (eLst (aCons (eC (D.bl true)) (aNil))) (eVar 7))) (eSl (eVar 2) (oSo (eOp2 fAdd (eVar 8) (eVar 7))) (oNo))))
    (sSetF 3 (eCall f_put_back (aCons (eVar 3) (aCons (eVar 1) (aCons (eVar 8) (aCons (eVar 7) (aNil))))))) [some (.scr ns), some (.int r), some (.lst (bs.map D.bl)), some (.lst (encS (rb bs))), some (.int w), some (.int c), some (.lst (H.map fun p => D.int (p : Nat))), some (.int m), some (.int f), v9] s2).W (fun e s => (sIf (tNotX (tq (eCall f__law_is_stretches (aCons (eVar 3) (aCons (eCall f__law_runs (aCons (eVar 2) (aNil))) (aNil)))))) (sRet (eC (D.bl false))) (sNil) e s).W (fun e _ => ∃ bs : List Bool, bs.length = k ∧ ∃ v4 v5 v6 v7 v8 v9, e = ([some (.scr ns), some (.int r), some (.lst (bs.map D.bl)), some (.lst (encS (rb bs))), v4, v5, v6, v7, v8, v9] : Gm.Env)) (fun d s' => d = .bl true) (fun c _ s' => X0 c s')) (fun d s' => d = .bl true) (fun c _ s' => X0 c s') := by
          refine w_seq (w_setF (d := .own (.lst ((setB bs A M true).map D.bl))) (d' := .lst ((setB bs A M true).map D.bl)) (s' := s2) (turn_eq (f := f) (m := m) (by omega) (by omega) hAM (by omega) rfl rfl rfl) rfl ?_)
          simp only [List.set_cons_succ, List.set_cons_zero]
          obtain ⟨s3, pk⟩ := put_bits (s := s2) (a := A) (k := M) (f := f) (m := m) hrb hr1 (by omega) (by omega) (by omega) ((put_iff hrb).mpr ⟨by omega, by omega, by omega, fun i i1 i2 => hall i (by omega) (by omega)⟩)
          refine w_setF (d := .own (.lst (encS (rb (setB bs A M true))))) (d' := .lst (encS (rb (setB bs A M true)))) (s' := s3) (call_eq pk (by walk_at "ev")) rfl ?_
          simp only [List.set_cons_succ, List.set_cons_zero]
          exact fin _ s3 _ _ _ (by rw [setB_len hAM]; exact hbk)
        by_cases b1 : m < ub
        · rw [decide_eq_true b1] at c1
          by_cases b2 : f + m < r
          · rw [decide_eq_true b2] at c2
            have c3 : fIx s2 (.lst (bs.map D.bl)) (.int (f + m)) = .ok (.bl (bs.getD (A + M) false)) s2 := bl_ix (by omega) (by omega)
            have c4 : tNotX (tq (eOp2 fIx (eVar 2) (eOp2 fAdd (eVar 8) (eVar 7)))) [some (.scr ns), some (.int r), some (.lst (bs.map D.bl)), some (.lst (encS (rb bs))), some (.int w), some (.int c), some (.lst (H.map fun p => D.int (p : Nat))), some (.int m), some (.int f), v9] s2 = .ok (!bs.getD (A + M) false) s2 := by
              walk_at "ev"
              rw [c3]
            refine ⟨_, s2, tAndX_t c1 (tAndX_t c2 c4), fun _ => out, fun hb => ?_⟩
            refine w_setF (d := .int (m + 1)) (d' := .int (m + 1)) (s' := s2) (by walk_at "ev") rfl ?_
            refine ⟨t - 1, by omega, rfl, M + 1, by omega, by omega, by omega, fun i i1 i2 => ?_, by simp only [List.set_cons_succ, List.set_cons_zero]; rw [← hM]; rfl⟩
            by_cases z : i = A + M
            · rw [z]; simpa using hb
            · exact hall i i1 (by omega)
          · rw [decide_eq_false b2] at c2
            exact ⟨_, s2, tAndX_t c1 (tAndX_f c2), fun _ => out, fun z => by cases z⟩
        · rw [decide_eq_false b1] at c1
          exact ⟨_, s2, tAndX_f c1, fun _ => out, fun z => by cases z⟩
    · rintro e s1 ⟨bs, _, v4, v5, v6, v7, v8, v9, rfl⟩
      exact w_ret (d := .bl true) (s' := s1) rfl rfl rfl
  obtain ⟨d, s', e, rfl⟩ := key.eq
  exact ⟨s', e⟩
end Lw

set_option Elab.async false
set_option linter.all false
set_option maxRecDepth 100000
set_option autoImplicit false
set_option maxHeartbeats 0
namespace Lw
open PySem PySem.Spec PyProof.Rows L2 Gm
def top (i : Nat) : Stmt := PySem.Challenge.pw_gleanyard_k23_whole_rows_of_takings.main.body.getD i (.Pass ⟨0, 0, 0, 0⟩)
def acls (K : PySem.W.Frag) : Nat → Addr
  | 0 => He.ga K "YardError"
  | 1 => He.ga K "NoRoom"
  | 2 => He.ga K "NoNumber"
  | _ => 0
abbrev st__law_cell_at : Stmt := top 18
abbrev n__law_cell_at : List Str := ["script", "k"]
theorem sc__law_cell_at : FnScope n__law_cell_at ["script", "k"] (defScope st__law_cell_at) := ⟨rfl, rfl, rfl, by decide +kernel, rfl, by decide +kernel, by decide +kernel⟩
def d__law_cell_at : He.DefD := ⟨("_law_cell_at", none), "_law_cell_at", "_law_cell_at", defArgs st__law_cell_at, defBody st__law_cell_at, defScope st__law_cell_at, [], []⟩
abbrev st_are_stretches : Stmt := top 7
abbrev n_are_stretches : List Str := ["free", "room", "at", "first", "many"]
theorem sc_are_stretches : FnScope n_are_stretches ["free", "room"] (defScope st_are_stretches) := ⟨rfl, rfl, rfl, by decide +kernel, rfl, by decide +kernel, by decide +kernel⟩
def d_are_stretches : He.DefD := ⟨("are_stretches", none), "are_stretches", "are_stretches", defArgs st_are_stretches, defBody st_are_stretches, defScope st_are_stretches, [], []⟩
abbrev st_ask : Stmt := top 8
abbrev n_ask : List Str := ["free", "room"]
theorem sc_ask : FnScope n_ask ["free", "room"] (defScope st_ask) := ⟨rfl, rfl, rfl, by decide +kernel, rfl, by decide +kernel, by decide +kernel⟩
def d_ask : He.DefD := ⟨("ask", none), "ask", "ask", defArgs st_ask, defBody st_ask, defScope st_ask, [], []⟩
abbrev st_first_fit : Stmt := top 9
abbrev n_first_fit : List Str := ["free", "many", "stretch"]
theorem sc_first_fit : FnScope n_first_fit ["free", "many"] (defScope st_first_fit) := ⟨rfl, rfl, rfl, by decide +kernel, rfl, by decide +kernel, by decide +kernel⟩
def d_first_fit : He.DefD := ⟨("first_fit", none), "first_fit", "first_fit", defArgs st_first_fit, defBody st_first_fit, defScope st_first_fit, [], []⟩
abbrev st_fit : Stmt := top 14
abbrev n_fit : List Str := ["free", "room", "many"]
theorem sc_fit : FnScope n_fit ["free", "room", "many"] (defScope st_fit) := ⟨rfl, rfl, rfl, by decide +kernel, rfl, by decide +kernel, by decide +kernel⟩
def d_fit : He.DefD := ⟨("fit", none), "fit", "fit", defArgs st_fit, defBody st_fit, defScope st_fit, [], []⟩
abbrev st_joined : Stmt := top 13
abbrev n_joined : List Str := ["free", "first", "many", "ahead", "behind", "more", "stretch"]
theorem sc_joined : FnScope n_joined ["free", "first", "many"] (defScope st_joined) := ⟨rfl, rfl, rfl, by decide +kernel, rfl, by decide +kernel, by decide +kernel⟩
def d_joined : He.DefD := ⟨("joined", none), "joined", "joined", defArgs st_joined, defBody st_joined, defScope st_joined, [], []⟩
abbrev st_touching : Stmt := top 12
abbrev n_touching : List Str := ["free", "first", "many", "stretch"]
theorem sc_touching : FnScope n_touching ["free", "first", "many"] (defScope st_touching) := ⟨rfl, rfl, rfl, by decide +kernel, rfl, by decide +kernel, by decide +kernel⟩
def d_touching : He.DefD := ⟨("touching", none), "touching", "touching", defArgs st_touching, defBody st_touching, defScope st_touching, [], []⟩
abbrev st_put_back : Stmt := top 16
abbrev n_put_back : List Str := ["free", "room", "first", "many"]
theorem sc_put_back : FnScope n_put_back ["free", "room", "first", "many"] (defScope st_put_back) := ⟨rfl, rfl, rfl, by decide +kernel, rfl, by decide +kernel, by decide +kernel⟩
def d_put_back : He.DefD := ⟨("put_back", none), "put_back", "put_back", defArgs st_put_back, defBody st_put_back, defScope st_put_back, [], []⟩
abbrev st__law_whole : Stmt := top 19
abbrev n__law_whole : List Str := ["found"]
theorem sc__law_whole : FnScope n__law_whole ["found"] (defScope st__law_whole) := ⟨rfl, rfl, rfl, by decide +kernel, rfl, by decide +kernel, by decide +kernel⟩
def d__law_whole : He.DefD := ⟨("_law_whole", none), "_law_whole", "_law_whole", defArgs st__law_whole, defBody st__law_whole, defScope st__law_whole, [], []⟩
abbrev st__law_is_stretches : Stmt := top 21
abbrev n__law_is_stretches : List Str := ["found", "due", "stretch"]
theorem sc__law_is_stretches : FnScope n__law_is_stretches ["found", "due"] (defScope st__law_is_stretches) := ⟨rfl, rfl, rfl, by decide +kernel, rfl, by decide +kernel, by decide +kernel⟩
def d__law_is_stretches : He.DefD := ⟨("_law_is_stretches", none), "_law_is_stretches", "_law_is_stretches", defArgs st__law_is_stretches, defBody st__law_is_stretches, defScope st__law_is_stretches, [], []⟩
abbrev st_covering : Stmt := top 10
abbrev n_covering : List Str := ["free", "first", "many", "k"]
theorem sc_covering : FnScope n_covering ["free", "first", "many"] (defScope st_covering) := ⟨rfl, rfl, rfl, by decide +kernel, rfl, by decide +kernel, by decide +kernel⟩
def d_covering : He.DefD := ⟨("covering", none), "covering", "covering", defArgs st_covering, defBody st_covering, defScope st_covering, [], []⟩
abbrev st_without : Stmt := top 11
abbrev n_without : List Str := ["free", "first", "many", "k", "start", "size", "parts", "part"]
theorem sc_without : FnScope n_without ["free", "first", "many"] (defScope st_without) := ⟨rfl, rfl, rfl, by decide +kernel, rfl, by decide +kernel, by decide +kernel⟩
def d_without : He.DefD := ⟨("without", none), "without", "without", defArgs st_without, defBody st_without, defScope st_without, [], []⟩
abbrev st_taken_off : Stmt := top 15
abbrev n_taken_off : List Str := ["free", "room", "first", "many"]
theorem sc_taken_off : FnScope n_taken_off ["free", "room", "first", "many"] (defScope st_taken_off) := ⟨rfl, rfl, rfl, by decide +kernel, rfl, by decide +kernel, by decide +kernel⟩
def d_taken_off : He.DefD := ⟨("taken_off", none), "taken_off", "taken_off", defArgs st_taken_off, defBody st_taken_off, defScope st_taken_off, [], []⟩
abbrev st__law_runs : Stmt := top 20
abbrev n__law_runs : List Str := ["bits", "found", "k"]
theorem sc__law_runs : FnScope n__law_runs ["bits"] (defScope st__law_runs) := ⟨rfl, rfl, rfl, by decide +kernel, rfl, by decide +kernel, by decide +kernel⟩
def d__law_runs : He.DefD := ⟨("_law_runs", none), "_law_runs", "_law_runs", defArgs st__law_runs, defBody st__law_runs, defScope st__law_runs, [], []⟩
abbrev st_law : Stmt := top 22
abbrev n_law : List Str := ["script", "room", "bits", "free", "k", "cell", "held", "many", "first", "place"]
theorem sc_law : FnScope n_law ["script"] (defScope st_law) := ⟨rfl, rfl, rfl, by decide +kernel, rfl, by decide +kernel, by decide +kernel⟩
def d_law : He.DefD := ⟨("law", none), "law", "law", defArgs st_law, defBody st_law, defScope st_law, [], []⟩
structure Txt (K : PySem.W.Frag) (mg : Str → Option Value) : Prop where
  g__law_cell_at : mg "_law_cell_at" = some (.ref (He.ga K "_law_cell_at"))
  g_are_stretches : mg "are_stretches" = some (.ref (He.ga K "are_stretches"))
  g_ask : mg "ask" = some (.ref (He.ga K "ask"))
  g_first_fit : mg "first_fit" = some (.ref (He.ga K "first_fit"))
  g_fit : mg "fit" = some (.ref (He.ga K "fit"))
  g_joined : mg "joined" = some (.ref (He.ga K "joined"))
  g_touching : mg "touching" = some (.ref (He.ga K "touching"))
  g_put_back : mg "put_back" = some (.ref (He.ga K "put_back"))
  g__law_whole : mg "_law_whole" = some (.ref (He.ga K "_law_whole"))
  g__law_is_stretches : mg "_law_is_stretches" = some (.ref (He.ga K "_law_is_stretches"))
  g_covering : mg "covering" = some (.ref (He.ga K "covering"))
  g_without : mg "without" = some (.ref (He.ga K "without"))
  g_taken_off : mg "taken_off" = some (.ref (He.ga K "taken_off"))
  g__law_runs : mg "_law_runs" = some (.ref (He.ga K "_law_runs"))
  g_law : mg "law" = some (.ref (He.ga K "law"))
  g_NoRoom : mg "NoRoom" = some (.ref (He.ga K "NoRoom"))
  x_NoRoom : PySem.W.excIn K (He.ga K "NoRoom") He.veBase "ValueError.__new__" = true ∧ PySem.W.keepIn K (.ref (He.ga K "NoRoom")) = true ∧ PySem.W.subIn K (.ref (He.ga K "NoRoom")) (.type "BaseException") = some true ∧ PySem.W.typeIn K (.ref (He.ga K "NoRoom")) = some (.type "type")
  g_NoNumber : mg "NoNumber" = some (.ref (He.ga K "NoNumber"))
  x_NoNumber : PySem.W.excIn K (He.ga K "NoNumber") He.veBase "ValueError.__new__" = true ∧ PySem.W.keepIn K (.ref (He.ga K "NoNumber")) = true ∧ PySem.W.subIn K (.ref (He.ga K "NoNumber")) (.type "BaseException") = some true ∧ PySem.W.typeIn K (.ref (He.ga K "NoNumber")) = some (.type "type")
  c_LEAST_ROOM : ∃ t, mg "LEAST_ROOM" = some (.int 8 t)
  c_MOST_ROOM : ∃ t, mg "MOST_ROOM" = some (.int 120 t)
  z_bool : mg "bool" = none
  z_int : mg "int" = none
  z_isinstance : mg "isinstance" = none
  z_len : mg "len" = none
  z_list : mg "list" = none
  z_range : mg "range" = none
  z_tuple : mg "tuple" = none
  f__law_cell_at : ∃ fd, FunD K "_law_cell_at" "_law_cell_at" (defArgs st__law_cell_at) (defBody st__law_cell_at) (defScope st__law_cell_at) [] [] (He.ga K "_law_cell_at") fd
  f_are_stretches : ∃ fd, FunD K "are_stretches" "are_stretches" (defArgs st_are_stretches) (defBody st_are_stretches) (defScope st_are_stretches) [] [] (He.ga K "are_stretches") fd
  f_ask : ∃ fd, FunD K "ask" "ask" (defArgs st_ask) (defBody st_ask) (defScope st_ask) [] [] (He.ga K "ask") fd
  f_first_fit : ∃ fd, FunD K "first_fit" "first_fit" (defArgs st_first_fit) (defBody st_first_fit) (defScope st_first_fit) [] [] (He.ga K "first_fit") fd
  f_fit : ∃ fd, FunD K "fit" "fit" (defArgs st_fit) (defBody st_fit) (defScope st_fit) [] [] (He.ga K "fit") fd
  f_joined : ∃ fd, FunD K "joined" "joined" (defArgs st_joined) (defBody st_joined) (defScope st_joined) [] [] (He.ga K "joined") fd
  f_touching : ∃ fd, FunD K "touching" "touching" (defArgs st_touching) (defBody st_touching) (defScope st_touching) [] [] (He.ga K "touching") fd
  f_put_back : ∃ fd, FunD K "put_back" "put_back" (defArgs st_put_back) (defBody st_put_back) (defScope st_put_back) [] [] (He.ga K "put_back") fd
  f__law_whole : ∃ fd, FunD K "_law_whole" "_law_whole" (defArgs st__law_whole) (defBody st__law_whole) (defScope st__law_whole) [] [] (He.ga K "_law_whole") fd
  f__law_is_stretches : ∃ fd, FunD K "_law_is_stretches" "_law_is_stretches" (defArgs st__law_is_stretches) (defBody st__law_is_stretches) (defScope st__law_is_stretches) [] [] (He.ga K "_law_is_stretches") fd
  f_covering : ∃ fd, FunD K "covering" "covering" (defArgs st_covering) (defBody st_covering) (defScope st_covering) [] [] (He.ga K "covering") fd
  f_without : ∃ fd, FunD K "without" "without" (defArgs st_without) (defBody st_without) (defScope st_without) [] [] (He.ga K "without") fd
  f_taken_off : ∃ fd, FunD K "taken_off" "taken_off" (defArgs st_taken_off) (defBody st_taken_off) (defScope st_taken_off) [] [] (He.ga K "taken_off") fd
  f__law_runs : ∃ fd, FunD K "_law_runs" "_law_runs" (defArgs st__law_runs) (defBody st__law_runs) (defScope st__law_runs) [] [] (He.ga K "_law_runs") fd
  f_law : ∃ fd, FunD K "law" "law" (defArgs st_law) (defBody st_law) (defScope st_law) [] [] (He.ga K "law") fd
section
variable {P : Program} {wl : World} {K : PySem.W.Frag} {mg : Str → Option Value} {base : Heap}
theorem ok__law_cell_at (T : Txt K mg) {fd : FuncData} (F : FunD K "_law_cell_at" "_law_cell_at" (defArgs st__law_cell_at) (defBody st__law_cell_at) (defScope st__law_cell_at) [] [] (He.ga K "_law_cell_at") fd) : FnOk P wl K mg base (L2.CX P wl) 1 (He.ga K "_law_cell_at") fd ["script", "k"] (spOf ⟨K, acls K, none⟩ 2 f__law_cell_at) := by
  refine fn_ok (k := 0) F sc__law_cell_at (by decide) fun cdv Ar outer s H E hr tk po => ?_
  exact mss_cons (ms_if (mt_lt (me_var 1) (me_len rfl T.z_len (me_var 0))) (mss_one (ms_ret (me_ix (me_var 0) (me_var 1)))) (mss_nil))
    (mss_one (ms_ret (me_int)))
theorem ok_are_stretches (T : Txt K mg) {fd : FuncData} (F : FunD K "are_stretches" "are_stretches" (defArgs st_are_stretches) (defBody st_are_stretches) (defScope st_are_stretches) [] [] (He.ga K "are_stretches") fd) : FnOk P wl K mg base (L2.CX P wl) 1 (He.ga K "are_stretches") fd ["free", "room"] (spOf ⟨K, acls K, none⟩ 2 f_are_stretches) := by
  refine fn_ok (k := 0) F sc_are_stretches (by decide) fun cdv Ar outer s H E hr tk po => ?_
  exact mss_cons (ms_setF 2 sc_are_stretches.nd (me_neg (me_int)))
    (mss_cons (ms_for po rfl (mi_seq (me_var 0)) (mg_tp rfl (mgs_cons 3 sc_are_stretches.nd (mgs_cons 4 sc_are_stretches.nd (mgs_nil)))) (mss_cons (ms_if (mw_pt (mw_or (mt_le (me_var 3) (me_var 2)) (mw_or (mt_lt (me_var 4) (me_int)) (mw_or1 (mt_gt (me_add (me_var 3) (me_var 4)) (me_var 1)))))) (mss_one (ms_ret (me_bl))) (mss_nil))
    (mss_one (ms_setF 2 sc_are_stretches.nd (me_add (me_var 3) (me_var 4))))))
    (mss_one (ms_ret (me_bl))))
theorem ok_ask (T : Txt K mg) {fd : FuncData} (F : FunD K "ask" "ask" (defArgs st_ask) (defBody st_ask) (defScope st_ask) [] [] (He.ga K "ask") fd) : FnOk P wl K mg base (L2.CX P wl) 2 (He.ga K "ask") fd ["free", "room"] (spOf ⟨K, acls K, none⟩ 2 f_ask) := by
  obtain ⟨fd_are_stretches, F_are_stretches⟩ := T.f_are_stretches
  have G_are_stretches := ok_are_stretches (P := P) (wl := wl) (base := base) T F_are_stretches
  have b_are_stretches : Binds K fd_are_stretches ["free", "room"] [] := F_are_stretches.bindsN (fun _ _ _ _ _ _ us hl => match us, hl with | [_, _], _ => rfl)
  have k_are_stretches := F_are_stretches.kp
  refine fn_ok (k := 1) F sc_ask (by decide) fun cdv Ar outer s H E hr tk po => ?_
  exact mss_one (ms_if (mw_pt (mw_or (mt_lt (me_var 1) (me_num rfl T.c_LEAST_ROOM)) (mw_or (mt_gt (me_var 1) (me_num rfl T.c_MOST_ROOM)) (mw_or1 (mt_not (mt_val (me_call G_are_stretches ar_are_stretches (hr.mono (by decide)) tk rfl T.g_are_stretches k_are_stretches b_are_stretches (ma_cons (me_var 0) (ma_cons (me_var 1) (ma_nil)))))))))) (mss_one (ms_raise (k := 1) rfl tk (pmk_own PySem.F.excBase_ValueError T.x_NoRoom.1 T.g_NoRoom T.x_NoRoom.2.1 (raises_own T.x_NoRoom.2.2.1 T.x_NoRoom.2.2.2) rfl))) (mss_nil))
theorem ok_first_fit (T : Txt K mg) {fd : FuncData} (F : FunD K "first_fit" "first_fit" (defArgs st_first_fit) (defBody st_first_fit) (defScope st_first_fit) [] [] (He.ga K "first_fit") fd) : FnOk P wl K mg base (L2.CX P wl) 1 (He.ga K "first_fit") fd ["free", "many"] (spOf ⟨K, acls K, none⟩ 2 f_first_fit) := by
  refine fn_ok (k := 0) F sc_first_fit (by decide) fun cdv Ar outer s H E hr tk po => ?_
  exact mss_cons (ms_for po rfl (mi_seq (me_var 0)) (mg_nm 2 sc_first_fit.nd) (mss_one (ms_if (mt_ge (me_ix (me_var 2) (me_int)) (me_var 1)) (mss_one (ms_ret (me_ix (me_var 2) (me_int)))) (mss_nil))))
    (mss_one (ms_ret (me_non)))
theorem ok_fit (T : Txt K mg) {fd : FuncData} (F : FunD K "fit" "fit" (defArgs st_fit) (defBody st_fit) (defScope st_fit) [] [] (He.ga K "fit") fd) : FnOk P wl K mg base (L2.CX P wl) 3 (He.ga K "fit") fd ["free", "room", "many"] (spOf ⟨K, acls K, none⟩ 3 f_fit) := by
  obtain ⟨fd_ask, F_ask⟩ := T.f_ask
  have G_ask := ok_ask (P := P) (wl := wl) (base := base) T F_ask
  have b_ask : Binds K fd_ask ["free", "room"] [] := F_ask.bindsN (fun _ _ _ _ _ _ us hl => match us, hl with | [_, _], _ => rfl)
  have k_ask := F_ask.kp
  obtain ⟨fd_first_fit, F_first_fit⟩ := T.f_first_fit
  have G_first_fit := ok_first_fit (P := P) (wl := wl) (base := base) T F_first_fit
  have b_first_fit : Binds K fd_first_fit ["free", "many"] [] := F_first_fit.bindsN (fun _ _ _ _ _ _ us hl => match us, hl with | [_, _], _ => rfl)
  have k_first_fit := F_first_fit.kp
  refine fn_ok (k := 2) F sc_fit (by decide) fun cdv Ar outer s H E hr tk po => ?_
  exact mss_cons (ms_ex (me_call G_ask ar_ask (hr.mono (by decide)) tk rfl T.g_ask k_ask b_ask (ma_cons (me_var 0) (ma_cons (me_var 1) (ma_nil)))))
    (mss_cons (ms_if (mt_lt (me_var 2) (me_int)) (mss_one (ms_raise (k := 2) rfl tk (pmk_own PySem.F.excBase_ValueError T.x_NoNumber.1 T.g_NoNumber T.x_NoNumber.2.1 (raises_own T.x_NoNumber.2.2.1 T.x_NoNumber.2.2.2) rfl))) (mss_nil))
    (mss_one (ms_ret (me_call G_first_fit ar_first_fit (hr.mono (by decide)) tk rfl T.g_first_fit k_first_fit b_first_fit (ma_cons (me_var 0) (ma_cons (me_var 2) (ma_nil)))))))
theorem ok_joined (T : Txt K mg) {fd : FuncData} (F : FunD K "joined" "joined" (defArgs st_joined) (defBody st_joined) (defScope st_joined) [] [] (He.ga K "joined") fd) : FnOk P wl K mg base (L2.CX P wl) 1 (He.ga K "joined") fd ["free", "first", "many"] (spOf ⟨K, acls K, none⟩ 3 f_joined) := by
  refine fn_ok (k := 0) F sc_joined (by decide) fun cdv Ar outer s H E hr tk po => ?_
  exact mss_cons (ms_ad 3 (ms_setLc rfl sc_joined.nd rfl rfl (sw_true rfl rfl rfl (by decide +kernel)) (mi_seq (me_var 0)) (blkOk_by (N := n_joined) (sc := defScope st_joined) (own := [("stretch", 6)]) (by decide +kernel)) rfl (by decide) (fun _ _ _ _ _ => mg_nm 6 sc_joined.nd) (fun _ _ _ _ _ => mpt_one (mt_le (me_add (me_ix (me_var 6) (me_int)) (me_ix (me_var 6) (me_int))) (me_var 1))) (fun _ _ _ _ _ tk2 => me_var 6)))
    (mss_cons (ms_ad 4 (ms_setLc rfl sc_joined.nd rfl rfl (sw_true rfl rfl rfl (by decide +kernel)) (mi_seq (me_var 0)) (blkOk_by (N := n_joined) (sc := defScope st_joined) (own := [("stretch", 6)]) (by decide +kernel)) rfl (by decide) (fun _ _ _ _ _ => mg_nm 6 sc_joined.nd) (fun _ _ _ _ _ => mpt_one (mt_ge (me_ix (me_var 6) (me_int)) (me_add (me_var 1) (me_var 2)))) (fun _ _ _ _ _ tk1 => me_var 6)))
    (mss_cons (ms_if (mw_pt (mw_and (mt_gt (me_len rfl T.z_len (me_var 3)) (me_int)) (mw_and1 (mt_eq hr.units (me_add (me_ix (me_ix (me_var 3) (me_neg (me_int))) (me_int)) (me_ix (me_ix (me_var 3) (me_neg (me_int))) (me_int))) (me_var 1))))) (mss_cons (ms_setT (mg_tp rfl (mgs_cons 1 sc_joined.nd (mgs_cons 5 sc_joined.nd (mgs_nil)))) (me_pop (me_var 3)))
    (mss_one (ms_setF 2 sc_joined.nd (me_add (me_var 2) (me_var 5))))) (mss_nil))
    (mss_cons (ms_if (mw_pt (mw_and (mt_gt (me_len rfl T.z_len (me_var 4)) (me_int)) (mw_and1 (mt_eq hr.units (me_ix (me_ix (me_var 4) (me_int)) (me_int)) (me_add (me_var 1) (me_var 2)))))) (mss_one (ms_setF 2 sc_joined.nd (me_add (me_var 2) (me_ix (me_popAt (me_var 4) (me_int)) (me_int))))) (mss_nil))
    (mss_one (ms_ret (me_add (me_add (me_var 3) (me_lst (ma_cons (me_tup (ma_cons (me_var 1) (ma_cons (me_var 2) (ma_nil)))) (ma_nil)))) (me_var 4)))))))
theorem ok_touching (T : Txt K mg) {fd : FuncData} (F : FunD K "touching" "touching" (defArgs st_touching) (defBody st_touching) (defScope st_touching) [] [] (He.ga K "touching") fd) : FnOk P wl K mg base (L2.CX P wl) 1 (He.ga K "touching") fd ["free", "first", "many"] (spOf ⟨K, acls K, none⟩ 3 f_touching) := by
  refine fn_ok (k := 0) F sc_touching (by decide) fun cdv Ar outer s H E hr tk po => ?_
  exact mss_one (ms_ret (me_gt (me_len rfl T.z_len (me_lc rfl sc_touching.nd (mi_seq (me_var 0)) (blkOk_by (N := n_touching) (sc := defScope st_touching) (own := [("stretch", 3)]) (by decide +kernel)) rfl (by decide) (fun _ _ _ _ _ => mg_nm 3 sc_touching.nd) (fun _ _ _ _ _ => mpt_one (mw_pt (mw_and (mt_lt (me_ix (me_var 3) (me_int)) (me_add (me_var 1) (me_var 2))) (mw_and1 (mt_lt (me_var 1) (me_add (me_ix (me_var 3) (me_int)) (me_ix (me_var 3) (me_int)))))))) (fun _ _ _ _ _ tk1 => me_var 3))) (me_int)))
theorem ok_put_back (T : Txt K mg) {fd : FuncData} (F : FunD K "put_back" "put_back" (defArgs st_put_back) (defBody st_put_back) (defScope st_put_back) [] [] (He.ga K "put_back") fd) : FnOk P wl K mg base (L2.CX P wl) 3 (He.ga K "put_back") fd ["free", "room", "first", "many"] (spOf ⟨K, acls K, none⟩ 4 f_put_back) := by
  obtain ⟨fd_ask, F_ask⟩ := T.f_ask
  have G_ask := ok_ask (P := P) (wl := wl) (base := base) T F_ask
  have b_ask : Binds K fd_ask ["free", "room"] [] := F_ask.bindsN (fun _ _ _ _ _ _ us hl => match us, hl with | [_, _], _ => rfl)
  have k_ask := F_ask.kp
  obtain ⟨fd_joined, F_joined⟩ := T.f_joined
  have G_joined := ok_joined (P := P) (wl := wl) (base := base) T F_joined
  have b_joined : Binds K fd_joined ["free", "first", "many"] [] := F_joined.bindsN (fun _ _ _ _ _ _ us hl => match us, hl with | [_, _, _], _ => rfl)
  have k_joined := F_joined.kp
  obtain ⟨fd_touching, F_touching⟩ := T.f_touching
  have G_touching := ok_touching (P := P) (wl := wl) (base := base) T F_touching
  have b_touching : Binds K fd_touching ["free", "first", "many"] [] := F_touching.bindsN (fun _ _ _ _ _ _ us hl => match us, hl with | [_, _, _], _ => rfl)
  have k_touching := F_touching.kp
  refine fn_ok (k := 2) F sc_put_back (by decide) fun cdv Ar outer s H E hr tk po => ?_
  exact mss_cons (ms_ex (me_call G_ask ar_ask (hr.mono (by decide)) tk rfl T.g_ask k_ask b_ask (ma_cons (me_var 0) (ma_cons (me_var 1) (ma_nil)))))
    (mss_cons (ms_if (mw_pt (mw_or (mt_lt (me_var 3) (me_int)) (mw_or (mt_lt (me_var 2) (me_int)) (mw_or (mt_gt (me_add (me_var 2) (me_var 3)) (me_var 1)) (mw_or1 (mt_val (me_call G_touching ar_touching (hr.mono (by decide)) tk rfl T.g_touching k_touching b_touching (ma_cons (me_var 0) (ma_cons (me_var 2) (ma_cons (me_var 3) (ma_nil))))))))))) (mss_one (ms_raise (k := 2) rfl tk (pmk_own PySem.F.excBase_ValueError T.x_NoNumber.1 T.g_NoNumber T.x_NoNumber.2.1 (raises_own T.x_NoNumber.2.2.1 T.x_NoNumber.2.2.2) rfl))) (mss_nil))
    (mss_one (ms_ret (me_call G_joined ar_joined (hr.mono (by decide)) tk rfl T.g_joined k_joined b_joined (ma_cons (me_var 0) (ma_cons (me_var 2) (ma_cons (me_var 3) (ma_nil))))))))
theorem ok__law_whole (T : Txt K mg) {fd : FuncData} (F : FunD K "_law_whole" "_law_whole" (defArgs st__law_whole) (defBody st__law_whole) (defScope st__law_whole) [] [] (He.ga K "_law_whole") fd) : FnOk P wl K mg base (L2.CX P wl) 1 (He.ga K "_law_whole") fd ["found"] (spOf ⟨K, acls K, none⟩ 1 f__law_whole) := by
  refine fn_ok (k := 0) F sc__law_whole (by decide) fun cdv Ar outer s H E hr tk po => ?_
  exact mss_one (ms_ret (me_and (me_isi (T := "int") rfl T.z_isinstance rfl T.z_int (by decide +kernel) (me_var 0)) (me_one (me_not (me_isi (T := "bool") rfl T.z_isinstance rfl T.z_bool (by decide +kernel) (me_var 0))))))
theorem ok__law_is_stretches (T : Txt K mg) {fd : FuncData} (F : FunD K "_law_is_stretches" "_law_is_stretches" (defArgs st__law_is_stretches) (defBody st__law_is_stretches) (defScope st__law_is_stretches) [] [] (He.ga K "_law_is_stretches") fd) : FnOk P wl K mg base (L2.CX P wl) 2 (He.ga K "_law_is_stretches") fd ["found", "due"] (spOf ⟨K, acls K, none⟩ 2 f__law_is_stretches) := by
  obtain ⟨fd__law_whole, F__law_whole⟩ := T.f__law_whole
  have G__law_whole := ok__law_whole (P := P) (wl := wl) (base := base) T F__law_whole
  have b__law_whole : Binds K fd__law_whole ["found"] [] := F__law_whole.bindsN (fun _ _ _ _ _ _ us hl => match us, hl with | [_], _ => rfl)
  have k__law_whole := F__law_whole.kp
  refine fn_ok (k := 1) F sc__law_is_stretches (by decide) fun cdv Ar outer s H E hr tk po => ?_
  exact mss_cons (ms_if (mw_pt (mw_or (mt_not (mt_val (me_isi (T := "list") rfl T.z_isinstance rfl T.z_list (by decide +kernel) (me_var 0)))) (mw_or1 (mt_ne hr.units (me_len rfl T.z_len (me_var 0)) (me_len rfl T.z_len (me_var 1)))))) (mss_one (ms_ret (me_bl))) (mss_nil))
    (mss_cons (ms_for po rfl (mi_seq (me_var 0)) (mg_nm 2 sc__law_is_stretches.nd) (mss_one (ms_if (mw_pt (mw_or (mt_not (mt_val (me_isi (T := "tuple") rfl T.z_isinstance rfl T.z_tuple (by decide +kernel) (me_var 2)))) (mw_or (mt_not (mt_val (me_call G__law_whole ar__law_whole (hr.mono (by decide)) tk rfl T.g__law_whole k__law_whole b__law_whole (ma_cons (me_ix (me_var 2) (me_int)) (ma_nil))))) (mw_or1 (mt_not (mt_val (me_call G__law_whole ar__law_whole (hr.mono (by decide)) tk rfl T.g__law_whole k__law_whole b__law_whole (ma_cons (me_ix (me_var 2) (me_int)) (ma_nil))))))))) (mss_one (ms_ret (me_bl))) (mss_nil))))
    (mss_one (ms_ret (me_eq hr.units (me_var 0) (me_var 1)))))
theorem ok_covering (T : Txt K mg) {fd : FuncData} (F : FunD K "covering" "covering" (defArgs st_covering) (defBody st_covering) (defScope st_covering) [] [] (He.ga K "covering") fd) : FnOk P wl K mg base (L2.CX P wl) 1 (He.ga K "covering") fd ["free", "first", "many"] (spOf ⟨K, acls K, none⟩ 3 f_covering) := by
  refine fn_ok (k := 0) F sc_covering (by decide) fun cdv Ar outer s H E hr tk po => ?_
  exact mss_cons (ms_for po rfl (mi_rng1 (by exact rfl) T.z_range (me_len rfl T.z_len (me_var 0))) (mg_nm 3 sc_covering.nd) (mss_one (ms_if (mw_pt (mw_and (mt_le (me_ix (me_ix (me_var 0) (me_var 3)) (me_int)) (me_var 1)) (mw_and1 (mt_le (me_add (me_var 1) (me_var 2)) (me_add (me_ix (me_ix (me_var 0) (me_var 3)) (me_int)) (me_ix (me_ix (me_var 0) (me_var 3)) (me_int))))))) (mss_one (ms_retV 3)) (mss_nil))))
    (mss_one (ms_ret (me_non)))
theorem ok_without (T : Txt K mg) {fd : FuncData} (F : FunD K "without" "without" (defArgs st_without) (defBody st_without) (defScope st_without) [] [] (He.ga K "without") fd) : FnOk P wl K mg base (L2.CX P wl) 2 (He.ga K "without") fd ["free", "first", "many"] (spOf ⟨K, acls K, none⟩ 3 f_without) := by
  obtain ⟨fd_covering, F_covering⟩ := T.f_covering
  have G_covering := ok_covering (P := P) (wl := wl) (base := base) T F_covering
  have b_covering : Binds K fd_covering ["free", "first", "many"] [] := F_covering.bindsN (fun _ _ _ _ _ _ us hl => match us, hl with | [_, _, _], _ => rfl)
  have k_covering := F_covering.kp
  refine fn_ok (k := 1) F sc_without (by decide) fun cdv Ar outer s H E hr tk po => ?_
  exact mss_cons (ms_setF 3 sc_without.nd (me_call G_covering ar_covering (hr.mono (by decide)) tk rfl T.g_covering k_covering b_covering (ma_cons (me_var 0) (ma_cons (me_var 1) (ma_cons (me_var 2) (ma_nil))))))
    (mss_cons (ms_setT (mg_tp rfl (mgs_cons 4 sc_without.nd (mgs_cons 5 sc_without.nd (mgs_nil)))) (me_ix (me_var 0) (me_var 3)))
    (mss_cons (ms_setF 6 sc_without.nd (me_lst (ma_cons (me_tup (ma_cons (me_var 4) (ma_cons (me_sub (me_var 1) (me_var 4)) (ma_nil)))) (ma_cons (me_tup (ma_cons (me_add (me_var 1) (me_var 2)) (ma_cons (me_sub (me_sub (me_add (me_var 4) (me_var 5)) (me_var 1)) (me_var 2)) (ma_nil)))) (ma_nil)))))
    (mss_one (ms_ret (me_add (me_add (me_sl (me_var 0) (mo_no) (mo_so (me_var 3))) (me_lc rfl sc_without.nd (mi_seq (me_var 6)) (blkOk_by (N := n_without) (sc := defScope st_without) (own := [("part", 7)]) (by decide +kernel)) rfl (by decide) (fun _ _ _ _ _ => mg_nm 7 sc_without.nd) (fun _ _ _ _ _ => mpt_one (mt_gt (me_ix (me_var 7) (me_int)) (me_int))) (fun _ _ _ _ _ tk1 => me_var 7))) (me_sl (me_var 0) (mo_so (me_add (me_var 3) (me_int))) (mo_no)))))))
theorem ok_taken_off (T : Txt K mg) {fd : FuncData} (F : FunD K "taken_off" "taken_off" (defArgs st_taken_off) (defBody st_taken_off) (defScope st_taken_off) [] [] (He.ga K "taken_off") fd) : FnOk P wl K mg base (L2.CX P wl) 3 (He.ga K "taken_off") fd ["free", "room", "first", "many"] (spOf ⟨K, acls K, none⟩ 4 f_taken_off) := by
  obtain ⟨fd_ask, F_ask⟩ := T.f_ask
  have G_ask := ok_ask (P := P) (wl := wl) (base := base) T F_ask
  have b_ask : Binds K fd_ask ["free", "room"] [] := F_ask.bindsN (fun _ _ _ _ _ _ us hl => match us, hl with | [_, _], _ => rfl)
  have k_ask := F_ask.kp
  obtain ⟨fd_covering, F_covering⟩ := T.f_covering
  have G_covering := ok_covering (P := P) (wl := wl) (base := base) T F_covering
  have b_covering : Binds K fd_covering ["free", "first", "many"] [] := F_covering.bindsN (fun _ _ _ _ _ _ us hl => match us, hl with | [_, _, _], _ => rfl)
  have k_covering := F_covering.kp
  obtain ⟨fd_without, F_without⟩ := T.f_without
  have G_without := ok_without (P := P) (wl := wl) (base := base) T F_without
  have b_without : Binds K fd_without ["free", "first", "many"] [] := F_without.bindsN (fun _ _ _ _ _ _ us hl => match us, hl with | [_, _, _], _ => rfl)
  have k_without := F_without.kp
  refine fn_ok (k := 2) F sc_taken_off (by decide) fun cdv Ar outer s H E hr tk po => ?_
  exact mss_cons (ms_ex (me_call G_ask ar_ask (hr.mono (by decide)) tk rfl T.g_ask k_ask b_ask (ma_cons (me_var 0) (ma_cons (me_var 1) (ma_nil)))))
    (mss_cons (ms_if (mw_pt (mw_or (mt_lt (me_var 3) (me_int)) (mw_or1 (mt_isN (me_call G_covering ar_covering (hr.mono (by decide)) tk rfl T.g_covering k_covering b_covering (ma_cons (me_var 0) (ma_cons (me_var 2) (ma_cons (me_var 3) (ma_nil))))) (me_non))))) (mss_one (ms_raise (k := 2) rfl tk (pmk_own PySem.F.excBase_ValueError T.x_NoNumber.1 T.g_NoNumber T.x_NoNumber.2.1 (raises_own T.x_NoNumber.2.2.1 T.x_NoNumber.2.2.2) rfl))) (mss_nil))
    (mss_one (ms_ret (me_call G_without ar_without (hr.mono (by decide)) tk rfl T.g_without k_without b_without (ma_cons (me_var 0) (ma_cons (me_var 2) (ma_cons (me_var 3) (ma_nil))))))))
theorem ok__law_runs (T : Txt K mg) {fd : FuncData} (F : FunD K "_law_runs" "_law_runs" (defArgs st__law_runs) (defBody st__law_runs) (defScope st__law_runs) [] [] (He.ga K "_law_runs") fd) : FnOk P wl K mg base (L2.CX P wl) 1 (He.ga K "_law_runs") fd ["bits"] (spOf ⟨K, acls K, none⟩ 1 f__law_runs) := by
  refine fn_ok (k := 0) F sc__law_runs (by decide) fun cdv Ar outer s H E hr tk po => ?_
  exact mss_cons (ms_set 1 sc__law_runs.nd (me_lst (ma_nil)))
    (mss_cons (ms_for po rfl (mi_rng1 (by exact rfl) T.z_range (me_len rfl T.z_len (me_var 0))) (mg_nm 2 sc__law_runs.nd) (mss_one (ms_if (mw_pt (mw_and (mt_val (me_ix (me_var 0) (me_var 2))) (mw_and (mt_gt (me_var 2) (me_int)) (mw_and1 (mt_val (me_ix (me_var 0) (me_sub (me_var 2) (me_int)))))))) (mss_one (ms_sub 1 (me_tup (ma_cons (me_ix (me_ix (me_var 1) (me_neg (me_int))) (me_int)) (ma_cons (me_add (me_ix (me_ix (me_var 1) (me_neg (me_int))) (me_int)) (me_int)) (ma_nil)))) (me_neg (me_int)))) (mss_one (ms_if (mt_val (me_ix (me_var 0) (me_var 2))) (mss_one (ms_app 1 (me_tup (ma_cons (me_var 2) (ma_cons (me_int) (ma_nil)))))) (mss_nil))))))
    (mss_one (ms_retV 1)))
theorem ok_law (T : Txt K mg) {fd : FuncData} (F : FunD K "law" "law" (defArgs st_law) (defBody st_law) (defScope st_law) [] [] (He.ga K "law") fd) : FnOk P wl K mg base (L2.CX P wl) 4 (He.ga K "law") fd ["script"] (spOf ⟨K, acls K, none⟩ 1 f_law) := by
  obtain ⟨fd__law_cell_at, F__law_cell_at⟩ := T.f__law_cell_at
  have G__law_cell_at := ok__law_cell_at (P := P) (wl := wl) (base := base) T F__law_cell_at
  have b__law_cell_at : Binds K fd__law_cell_at ["script", "k"] [] := F__law_cell_at.bindsN (fun _ _ _ _ _ _ us hl => match us, hl with | [_, _], _ => rfl)
  have k__law_cell_at := F__law_cell_at.kp
  obtain ⟨fd__law_is_stretches, F__law_is_stretches⟩ := T.f__law_is_stretches
  have G__law_is_stretches := ok__law_is_stretches (P := P) (wl := wl) (base := base) T F__law_is_stretches
  have b__law_is_stretches : Binds K fd__law_is_stretches ["found", "due"] [] := F__law_is_stretches.bindsN (fun _ _ _ _ _ _ us hl => match us, hl with | [_, _], _ => rfl)
  have k__law_is_stretches := F__law_is_stretches.kp
  obtain ⟨fd__law_runs, F__law_runs⟩ := T.f__law_runs
  have G__law_runs := ok__law_runs (P := P) (wl := wl) (base := base) T F__law_runs
  have b__law_runs : Binds K fd__law_runs ["bits"] [] := F__law_runs.bindsN (fun _ _ _ _ _ _ us hl => match us, hl with | [_], _ => rfl)
  have k__law_runs := F__law_runs.kp
  obtain ⟨fd__law_whole, F__law_whole⟩ := T.f__law_whole
  have G__law_whole := ok__law_whole (P := P) (wl := wl) (base := base) T F__law_whole
  have b__law_whole : Binds K fd__law_whole ["found"] [] := F__law_whole.bindsN (fun _ _ _ _ _ _ us hl => match us, hl with | [_], _ => rfl)
  have k__law_whole := F__law_whole.kp
  obtain ⟨fd_fit, F_fit⟩ := T.f_fit
  have G_fit := ok_fit (P := P) (wl := wl) (base := base) T F_fit
  have b_fit : Binds K fd_fit ["free", "room", "many"] [] := F_fit.bindsN (fun _ _ _ _ _ _ us hl => match us, hl with | [_, _, _], _ => rfl)
  have k_fit := F_fit.kp
  obtain ⟨fd_put_back, F_put_back⟩ := T.f_put_back
  have G_put_back := ok_put_back (P := P) (wl := wl) (base := base) T F_put_back
  have b_put_back : Binds K fd_put_back ["free", "room", "first", "many"] [] := F_put_back.bindsN (fun _ _ _ _ _ _ us hl => match us, hl with | [_, _, _, _], _ => rfl)
  have k_put_back := F_put_back.kp
  obtain ⟨fd_taken_off, F_taken_off⟩ := T.f_taken_off
  have G_taken_off := ok_taken_off (P := P) (wl := wl) (base := base) T F_taken_off
  have b_taken_off : Binds K fd_taken_off ["free", "room", "first", "many"] [] := F_taken_off.bindsN (fun _ _ _ _ _ _ us hl => match us, hl with | [_, _, _, _], _ => rfl)
  have k_taken_off := F_taken_off.kp
  refine fn_ok (k := 3) F sc_law (by decide) fun cdv Ar outer s H E hr tk po => ?_
  exact mss_cons (ms_setF 1 sc_law.nd (me_add (me_int) (me_mod (me_call G__law_cell_at ar__law_cell_at (hr.mono (by decide)) tk rfl T.g__law_cell_at k__law_cell_at b__law_cell_at (ma_cons (me_var 0) (ma_cons (me_int) (ma_nil)))) (me_int))))
    (mss_cons (ms_setF 2 sc_law.nd (me_mul (me_lst (ma_cons (me_bl) (ma_nil))) (me_var 1)))
    (mss_cons (ms_setF 3 sc_law.nd (me_lst (ma_cons (me_tup (ma_cons (me_int) (ma_cons (me_var 1) (ma_nil)))) (ma_nil))))
    (mss_cons (ms_for po rfl (mi_rng1 (by exact rfl) T.z_range (me_mod (me_call G__law_cell_at ar__law_cell_at (hr.mono (by decide)) tk rfl T.g__law_cell_at k__law_cell_at b__law_cell_at (ma_cons (me_var 0) (ma_cons (me_int) (ma_nil)))) (me_int))) (mg_nm 4 sc_law.nd) (mss_cons (ms_setF 5 sc_law.nd (me_call G__law_cell_at ar__law_cell_at (hr.mono (by decide)) tk rfl T.g__law_cell_at k__law_cell_at b__law_cell_at (ma_cons (me_var 0) (ma_cons (me_add (me_int) (me_var 4)) (ma_nil)))))
    (mss_cons (ms_setLcF rfl sc_law.nd rfl rfl (sw_true rfl rfl rfl (by decide +kernel)) (mi_rng1 (by exact rfl) T.z_range (me_var 1)) (blkOk_by (N := n_law) (sc := defScope st_law) (own := [("place", 9)]) (by decide +kernel)) rfl (by decide) (fun _ _ _ _ _ => mg_nm 9 sc_law.nd) (fun _ _ _ _ _ => mpt_one (mt_not (mt_val (me_ix (me_var 2) (me_var 9))))) (fun _ _ _ _ _ tk1 => me_var 9))
    (mss_cons (ms_if (mw_pt (mw_or (mt_lt (me_mod (me_var 5) (me_int)) (me_int)) (mw_or1 (mt_eq hr.units (me_len rfl T.z_len (me_var 6)) (me_int))))) (mss_cons (ms_setF 7 sc_law.nd (me_add (me_int) (me_mod (me_div (me_var 5) (me_int)) (me_int))))
    (mss_cons (ms_setF 8 sc_law.nd (me_call G_fit ar_fit (hr.mono (by decide)) tk rfl T.g_fit k_fit b_fit (ma_cons (me_var 3) (ma_cons (me_var 1) (ma_cons (me_var 7) (ma_nil))))))
    (mss_one (ms_if (mt_notN (me_var 8) (me_non)) (mss_cons (ms_if (mw_pt (mw_or (mt_not (mt_val (me_call G__law_whole ar__law_whole (hr.mono (by decide)) tk rfl T.g__law_whole k__law_whole b__law_whole (ma_cons (me_var 8) (ma_nil))))) (mw_or1 (mt_ne hr.units (me_sl (me_var 2) (mo_so (me_var 8)) (mo_so (me_add (me_var 8) (me_var 7)))) (me_mul (me_lst (ma_cons (me_bl) (ma_nil))) (me_var 7)))))) (mss_one (ms_ret (me_bl))) (mss_nil))
    (mss_cons (ms_setF 2 sc_law.nd (me_add (me_add (me_sl (me_var 2) (mo_no) (mo_so (me_var 8))) (me_mul (me_lst (ma_cons (me_bl) (ma_nil))) (me_var 7))) (me_sl (me_var 2) (mo_so (me_add (me_var 8) (me_var 7))) (mo_no))))
    (mss_one (ms_setF 3 sc_law.nd (me_call G_taken_off ar_taken_off (hr.mono (by decide)) tk rfl T.g_taken_off k_taken_off b_taken_off (ma_cons (me_var 3) (ma_cons (me_var 1) (ma_cons (me_var 8) (ma_cons (me_var 7) (ma_nil)))))))))) (mss_nil))))) (mss_cons (ms_setF 8 sc_law.nd (me_ix (me_var 6) (me_mod (me_div (me_var 5) (me_int)) (me_len rfl T.z_len (me_var 6)))))
    (mss_cons (ms_setF 7 sc_law.nd (me_int))
    (mss_cons (ms_while 400 po (mw_pt (mw_and (mt_lt (me_var 7) (me_add (me_int) (me_mod (me_div (me_var 5) (me_int)) (me_int)))) (mw_and (mt_lt (me_add (me_var 8) (me_var 7)) (me_var 1)) (mw_and1 (mt_not (mt_val (me_ix (me_var 2) (me_add (me_var 8) (me_var 7))))))))) (mss_one (ms_setF 7 sc_law.nd (me_add (me_var 7) (me_int)))))
    (mss_cons (ms_setF 2 sc_law.nd (me_add (me_add (me_sl (me_var 2) (mo_no) (mo_so (me_var 8))) (me_mul (me_lst (ma_cons (me_bl) (ma_nil))) (me_var 7))) (me_sl (me_var 2) (mo_so (me_add (me_var 8) (me_var 7))) (mo_no))))
    (mss_one (ms_setF 3 sc_law.nd (me_call G_put_back ar_put_back (hr.mono (by decide)) tk rfl T.g_put_back k_put_back b_put_back (ma_cons (me_var 3) (ma_cons (me_var 1) (ma_cons (me_var 8) (ma_cons (me_var 7) (ma_nil)))))))))))))
    (mss_one (ms_if (mt_not (mt_val (me_call G__law_is_stretches ar__law_is_stretches (hr.mono (by decide)) tk rfl T.g__law_is_stretches k__law_is_stretches b__law_is_stretches (ma_cons (me_var 3) (ma_cons (me_call G__law_runs ar__law_runs (hr.mono (by decide)) tk rfl T.g__law_runs k__law_runs b__law_runs (ma_cons (me_var 2) (ma_nil))) (ma_nil)))))) (mss_one (ms_ret (me_bl))) (mss_nil)))))))
    (mss_one (ms_ret (me_bl))))))
end
def fn : List He.DefD := [d__law_cell_at, d_are_stretches, d_ask, d_first_fit, d_fit, d_joined, d_touching, d_put_back, d__law_whole, d__law_is_stretches, d_covering, d_without, d_taken_off, d__law_runs, d_law]
def fa : List He.Fa := [.glo "_law_cell_at", .glo "are_stretches", .glo "ask", .glo "first_fit", .glo "fit", .glo "joined", .glo "touching", .glo "put_back", .glo "_law_whole", .glo "_law_is_stretches", .glo "covering", .glo "without", .glo "taken_off", .glo "_law_runs", .glo "law", .glo "NoRoom", .exc "NoRoom", .glo "NoNumber", .exc "NoNumber", .int "LEAST_ROOM" 8, .int "MOST_ROOM" 120, .free "bool", .free "int", .free "isinstance", .free "len", .free "list", .free "range", .free "tuple"]
def exs : Exs := []
def nm0 : List Str := ["YardError", "NoRoom", "NoNumber", "LEAST_ROOM", "MOST_ROOM", "are_stretches", "ask", "first_fit", "covering", "without", "touching", "joined", "fit", "taken_off", "put_back", "_law_cell_at", "_law_whole", "_law_runs", "_law_is_stretches"]
theorem facts {K : PySem.W.Frag} {h : Heap} {mg : Str → Option Value} (X : K.In h) (G : h.Ns mainGlobals mg) (c : He.SaysD fa fn K) (ce : exK exs K = true) : Txt K mg :=
  ⟨He.glo_ok X G (c.fact 0 rfl),
   He.glo_ok X G (c.fact 1 rfl),
   He.glo_ok X G (c.fact 2 rfl),
   He.glo_ok X G (c.fact 3 rfl),
   He.glo_ok X G (c.fact 4 rfl),
   He.glo_ok X G (c.fact 5 rfl),
   He.glo_ok X G (c.fact 6 rfl),
   He.glo_ok X G (c.fact 7 rfl),
   He.glo_ok X G (c.fact 8 rfl),
   He.glo_ok X G (c.fact 9 rfl),
   He.glo_ok X G (c.fact 10 rfl),
   He.glo_ok X G (c.fact 11 rfl),
   He.glo_ok X G (c.fact 12 rfl),
   He.glo_ok X G (c.fact 13 rfl),
   He.glo_ok X G (c.fact 14 rfl),
   He.glo_ok X G (c.fact 15 rfl),
   He.exc_ok (c.fact 16 rfl),
   He.glo_ok X G (c.fact 17 rfl),
   He.exc_ok (c.fact 18 rfl),
   He.int_ok X G (c.fact 19 rfl),
   He.int_ok X G (c.fact 20 rfl),
   He.free_ok X G (c.fact 21 rfl),
   He.free_ok X G (c.fact 22 rfl),
   He.free_ok X G (c.fact 23 rfl),
   He.free_ok X G (c.fact 24 rfl),
   He.free_ok X G (c.fact 25 rfl),
   He.free_ok X G (c.fact 26 rfl),
   He.free_ok X G (c.fact 27 rfl),
   c.def_ 0 (d := d__law_cell_at) rfl,
   c.def_ 1 (d := d_are_stretches) rfl,
   c.def_ 2 (d := d_ask) rfl,
   c.def_ 3 (d := d_first_fit) rfl,
   c.def_ 4 (d := d_fit) rfl,
   c.def_ 5 (d := d_joined) rfl,
   c.def_ 6 (d := d_touching) rfl,
   c.def_ 7 (d := d_put_back) rfl,
   c.def_ 8 (d := d__law_whole) rfl,
   c.def_ 9 (d := d__law_is_stretches) rfl,
   c.def_ 10 (d := d_covering) rfl,
   c.def_ 11 (d := d_without) rfl,
   c.def_ 12 (d := d_taken_off) rfl,
   c.def_ 13 (d := d__law_runs) rfl,
   c.def_ 14 (d := d_law) rfl⟩
abbrev Rw : PySem.W.OpenRow := PySem.W.OpenLaw.row PySem.Challenge.rw_gleanyard_k23_whole_rows_of_takings
abbrev hk : PySem.W.Hook := hookE 4 fa fn exs
def ob (s : PySem.W.SharedT) : He.AlD × Bool := obsE 4 fa fn exs (HandSHeadRun.getT s)
theorem ob_eq (s : PySem.W.SharedT) : ob s = hk.obs s.abs := obsE_eq (HandSHeadRun.getT_eq s)
def names : List Str := nm0
theorem run (w : World) : HandSHeadRun.RunEq Rw (PySem.W.view Rw.prog [22]) hk ob 20000 names w := by
  intro os
  kernel_rfl
end Lw

open PySem PySem.W PySem.Calls PyProof.Rows
set_option maxRecDepth 100000 in
set_option maxHeartbeats 0 in
theorem PySem.Challenge.cw_gleanyard_k23_whole_rows_of_takings_holds : PySem.Challenge.rw_gleanyard_k23_whole_rows_of_takings.Holds := by
  w_on; o_law
  refine HandSHeadRun.head_any (r := OpenLaw.row PySem.Challenge.rw_gleanyard_k23_whole_rows_of_takings) (q := view (OpenLaw.row PySem.Challenge.rw_gleanyard_k23_whole_rows_of_takings).prog [22]) (H := Lw.hk) (ob := Lw.ob) (M := 20000) (loose := Lw.names) (d := HandSHeadRun.topDef (OpenLaw.row PySem.Challenge.rw_gleanyard_k23_whole_rows_of_takings).prog 22) (kwd := []) Lw.ob_eq
    (by kernel_rfl) (fun s => by kernel_rfl) Lw.run (by kernel_rfl) (by kernel_rfl) (by kernel_rfl) (by rfl) (by first | assumption | decide +kernel) (by decide +kernel) ⟨rfl, rfl, rfl, rfl, rfl, by decide +kernel⟩ ?hw ?hc
  case hw => w_witness2
  case hc =>
    refine Gm.walk_w (l := PySem.Challenge.rw_gleanyard_k23_whole_rows_of_takings) (n := 63) (k := 4) (x := "script") (CX := fun w => L2.CX (PySem.Challenge.rw_gleanyard_k23_whole_rows_of_takings).prog w) rfl (by decide) (by kernel_rfl) ⟨rfl, by decide, by decide⟩ ?F (fun w H s e s' z => Gm.cx_false H s e s' z)
    intro w mg fa h Y G hmg0
    obtain ⟨K, KX, c, ce⟩ := Y
    have hmg : mg ("law" : PySem.Str) = some (.ref fa) := by
      have e : (HandSHeadRun.topDef (OpenLaw.row PySem.Challenge.rw_gleanyard_k23_whole_rows_of_takings).prog 22).name = ("law" : PySem.Str) := by kernel_rfl
      rw [← e]
      exact hmg0
    have T := Lw.facts KX G c ce
    have ea := hmg.symm.trans T.g_law
    cases ea
    obtain ⟨fd, F⟩ := T.f_law
    have b := L2.FunD.bindsA (ps := ["script"]) F fun _ _ _ _ _ _ us hl => match us, hl with | [_], _ => rfl
    refine ⟨K, fd, Gm.spOf ⟨K, Lw.acls K, none⟩ 1 Lw.f_law, KX, fun s v => b s [v] rfl, Gm.law_in Lw.main, fun base _ _ => ?_⟩
    exact Lw.ok_law T F
