import PyProof.Rows.All
import Wide.All
import OpenK.AllK
import Wide.FinOn
import HandS.ForMost
import HandS.ForExc
import HandS.IsInst
import HandS.TryMany
import HandS.Defaults
import HandS.Style
import HandS.HeadEnd
import HandS.HeadHook1
import HandS.HeadHook2
import HandS.Head0
import HandS.Head1
import HandS.Head2
import HandS.ExcIs
import HandS.Dict
import HandS.SortInts
import HandS.More
import HandS.Conv
import HandS.SetFor
import HandS.Strs
import PyProof.Rows.SetFrom
import HandS.TupAny
import HandS.ClsMeth
import HandS.SortRule
import HandS.HeadHook3
import HandS.Zip
import HandS.HotCalls
import Wide.Once
import HandS.Words
import PySem.Challenge.RW_gleanyard_k09_pictures_refused
set_option Elab.async false
set_option linter.all false
set_option maxRecDepth 100000
set_option autoImplicit false
namespace Gm
open PySem PySem.Spec PyProof.Rows L2
/-! ## values and stores of the mirror -/
mutual
inductive D where
  | non | bl (b : Bool) | int (i : Int) | str (x : Str)
  | tup (xs : List D) | lst (xs : List D) | scr (ns : List Int) | dct (kv : List (Key × D)) | ref (n : Nat) | own (o : O) | bor (o : O) | exn
inductive O where
  | lst (xs : List D) | dK (kv : List (Key × D)) | ins (c : Nat) (fs : List (Str × D)) | dead
end
abbrev Store := List O
abbrev Sl := L2.St
abbrev Env := List (Option D)
inductive R (t : Type) where
  | ok (a : t) (s : Store) | exc (c : Nat) (s : Store) | no
inductive SR where
  | nx (e : Env) (s : Store) | rt (d : D) (s : Store) | bk (e : Env) (s : Store) | ct (e : Env) (s : Store) | exc (c : Nat) (e : Env) (s : Store) | no
abbrev Ex := Env → Store → R D
abbrev Tx := Env → Store → R Bool
abbrev Ax := Env → Store → R (List D)
abbrev Sx := Env → Store → SR
abbrev Fx := List D → Store → R D

/-! ## the ground: the written part, the classes -/
structure Gc where
  K : PySem.W.Frag
  A : Nat → Addr
  x : Option Addr
structure Wd where
  m : List Addr
  s : Store
  H : Hp
  T : List Addr
def Wd.Live (w : Wd) (p : Addr) : Prop := ∃ (n : Nat) (o : O), w.m[n]? = some p ∧ w.s[n]? = some o ∧ o ≠ O.dead
def KL (K : PySem.W.Frag) (a : Addr) (xs : List V) : Prop :=
  ∃ (o : Obj) (its : Array Value) (n : Nat), K.lookup a = some o ∧ o.cls = .type "list" ∧ o.dict = none ∧ o.data = .seq its n ∧ its.size ≤ sizeLine ∧ Vals xs its.toList
section
variable (g : Gc)
mutual
def Rv (w : Wd) : D → V → Prop
  | .non, v => v = .non
  | .bl b, v => v = .bl b
  | .int i, v => v = .int i
  | .str x, v => v = .str x
  | .tup xs, v => ∃ p ys, v = .ref p ∧ SqT g.K w.H p ys ∧ RvL w xs ys
  | .lst xs, v => ∃ p ys, v = .ref p ∧ w.H p = some (.lst ys) ∧ ¬ w.Live p ∧ p ∉ w.T ∧ RvL w xs ys
  | .scr ns, v => ∃ p, v = .ref p ∧ ((∃ o, w.H p = some (.frz o (.lst (ns.map V.int)))) ∨ KL g.K p (ns.map V.int))
  | .dct kv, v => ∃ p ys, v = .ref p ∧ w.H p = some (.dK ys) ∧ ¬ w.Live p ∧ p ∉ w.T ∧ RvK w kv ys
  | .ref n, v => ∃ p, v = .ref p ∧ w.m[n]? = some p
  | .own _, _ => False
  | .bor _, _ => False
  | .exn, _ => False
def RvL (w : Wd) : List D → List V → Prop
  | [], ys => ys = []
  | d :: r, ys => ∃ y t, ys = y :: t ∧ Rv w d y ∧ RvL w r t
def RvK (w : Wd) : List (Key × D) → List (Key × V) → Prop
  | [], ys => ys = []
  | (k, d) :: r, ys => ∃ y t, ys = (k, y) :: t ∧ Rv w d y ∧ RvK w r t
end
def RvF (w : Wd) : List (Str × D) → List (Str × V) → Prop
  | [], ys => ys = []
  | (k, d) :: r, ys => ∃ y t, ys = (k, y) :: t ∧ Rv g w d y ∧ RvF w r t
/-- an object that may be written, at its address -/
def Ro (w : Wd) (p : Addr) : O → Prop
  | .lst xs => ∃ ys, w.H p = some (.lst ys) ∧ RvL g w xs ys
  | .dK kv => ∃ ys, w.H p = some (.dK ys) ∧ RvK g w kv ys
  | .ins c fs => ∃ dx ys, w.H p = some (.ins (g.A c) dx ys) ∧ RvF g w fs ys
  | .dead => ∃ o, w.H p = some o
/-- the store stands -/
structure Rst (w : Wd) : Prop where
  len : w.m.length = w.s.length
  nd : w.m.Nodup
  tt : ∀ p ∈ w.T, p ∉ w.m ∧ ∃ o, w.H p = some o
  ce : ∀ (n : Nat) (p : Addr) (o : O), w.m[n]? = some p → w.s[n]? = some o → Ro g w p o
/-- what is passed on: ex may be written -/
structure Ext (ex : List Addr) (w w' : Wd) : Prop where
  pre : ∃ t, w'.m = w.m ++ t
  keep : ∀ (p : Addr) (o : HO), w.H p = some o → ¬ w.Live p → p ∉ ex → w'.H p = some o
  new : ∀ p, w'.Live p → w.Live p ∨ w.H p = none ∨ p ∈ ex
  nm : ∀ p, p ∈ w'.m → p ∈ w.m ∨ w.H p = none ∨ p ∈ ex
end
section
variable {g : Gc} {w w' : Wd} {ex : List Addr}
theorem Rst.trk (r : Rst g w) {p : Addr} (h : p ∈ w.m) : ∃ o, w.H p = some o := by
  obtain ⟨n, hn, e⟩ := List.mem_iff_getElem.mp h
  have h1 : w.m[n]? = some p := by rw [List.getElem?_eq_getElem hn, e]
  have h2 : n < w.s.length := by rw [← r.len]; exact hn
  have c := r.ce n p _ h1 (List.getElem?_eq_getElem h2)
  cases q : w.s[n] with
  | lst xs => rw [q] at c; obtain ⟨ys, e, _⟩ := c; exact ⟨_, e⟩
  | dK xs => rw [q] at c; obtain ⟨ys, e, _⟩ := c; exact ⟨_, e⟩
  | ins a xs => rw [q] at c; obtain ⟨_, ys, e, _⟩ := c; exact ⟨_, e⟩
  | dead => rw [q] at c; exact c
theorem Wd.Live.mem {p : Addr} (h : w.Live p) : p ∈ w.m := by
  obtain ⟨n, o, h1, _⟩ := h
  exact List.mem_of_getElem? h1
theorem Rst.fresh (r : Rst g w) {p : Addr} (h : w.H p = none) : p ∉ w.m := fun hm => by
  obtain ⟨o, e⟩ := r.trk hm
  rw [h] at e; cases e
theorem Rst.mut (r : Rst g w) {p : Addr} (h : w.Live p) : Mut (w.H p) := by
  obtain ⟨n, o, h1, h2, h3⟩ := h
  have c := r.ce n p o h1 h2
  cases o with
  | lst xs => obtain ⟨ys, e, _⟩ := c; rw [e]; trivial
  | dK xs => obtain ⟨ys, e, _⟩ := c; rw [e]; trivial
  | ins a xs => obtain ⟨_, ys, e, _⟩ := c; rw [e]; trivial
  | dead => exact absurd rfl h3
theorem Ext.refl : Ext ex w w := ⟨⟨[], by simp⟩, fun _ _ h _ _ => h, fun _ h => .inl h, fun _ h => .inl h⟩
theorem Ext.get (e : Ext ex w w') {n : Nat} {p : Addr} (h : w.m[n]? = some p) : w'.m[n]? = some p := by
  obtain ⟨t, q⟩ := e.pre
  rw [q, List.getElem?_append_left (List.getElem?_eq_some_iff.mp h).1]
  exact h
/-- when a value is carried on -/
structure Cy (g : Gc) (ex : List Addr) (w w' : Wd) : Prop where
  r : Rst g w
  e : Ext ex w w'
  mx : ∀ p ∈ ex, Mut (w.H p)
  xt : ∀ p ∈ ex, p ∈ w.T
  nt : ∀ p ∈ w'.T, p ∈ w.T ∨ w.H p = none
theorem Cy.of (r : Rst g w) (e : Ext [] w w') (t : w'.T = w.T) : Cy g [] w w' := ⟨r, e, by simp, by simp, fun p h => .inl (t ▸ h)⟩
theorem Cy.keepT (c : Cy g ex w w') {p : Addr} {o : HO} (h : w.H p = some o) (nm : ¬ Mut (some o)) : w'.H p = some o := by
  refine c.e.keep p o h (fun l => ?_) (fun x => ?_)
  · have := c.r.mut l; rw [h] at this; exact nm this
  · have := c.mx p x; rw [h] at this; exact nm this
theorem Cy.rdT (c : Cy g ex w w') {p : Addr} {ys : List V} (h : SqT g.K w.H p ys) : SqT g.K w'.H p ys := by
  rcases h with (h | ⟨o, h⟩) | h
  · exact .inl (.inl (c.keepT h fun z => z))
  · exact .inl (.inr ⟨o, c.keepT h fun z => z⟩)
  · exact .inr h
theorem Cy.keepN (c : Cy g ex w w') {p : Addr} {o : HO} (h : w.H p = some o) (nl : ¬ w.Live p) (nt : p ∉ w.T) : w'.H p = some o ∧ ¬ w'.Live p ∧ p ∉ w'.T := by
  refine ⟨c.e.keep p o h nl (fun x => nt (c.xt p x)), fun l => ?_, fun x => ?_⟩
  · rcases c.e.new p l with l | l | l
    · exact nl l
    · rw [h] at l; cases l
    · exact nt (c.xt p l)
  · rcases c.nt p x with l | l
    · exact nt l
    · rw [h] at l; cases l
mutual
theorem Rv.mono (c : Cy g ex w w') : ∀ (d : D) (v : V), Rv g w d v → Rv g w' d v
  | .non, v, h => by unfold Rv at *; exact h
  | .bl b, v, h => by unfold Rv at *; exact h
  | .int i, v, h => by unfold Rv at *; exact h
  | .str x, v, h => by unfold Rv at *; exact h
  | .tup xs, v, h => by
    unfold Rv at *
    obtain ⟨p, ys, e, q, r⟩ := h
    exact ⟨p, ys, e, c.rdT q, RvL.mono c xs ys r⟩
  | .lst xs, v, h => by
    unfold Rv at *
    obtain ⟨p, ys, e, q, n1, n2, r⟩ := h
    obtain ⟨a, b, d⟩ := c.keepN q n1 n2
    exact ⟨p, ys, e, a, b, d, RvL.mono c xs ys r⟩
  | .scr ns, v, h => by
    unfold Rv at *
    obtain ⟨p, e, q⟩ := h
    refine ⟨p, e, ?_⟩
    rcases q with ⟨o, q⟩ | q
    · exact .inl ⟨o, c.keepT q fun z => z⟩
    · exact .inr q
  | .dct kv, v, h => by
    unfold Rv at *
    obtain ⟨p, ys, e, q, n1, n2, r⟩ := h
    obtain ⟨a, b, d⟩ := c.keepN q n1 n2
    exact ⟨p, ys, e, a, b, d, RvK.mono c kv ys r⟩
  | .ref n, v, h => by
    unfold Rv at *
    obtain ⟨p, e, q⟩ := h
    exact ⟨p, e, c.e.get q⟩
  | .own _, v, h => by unfold Rv at h; exact h.elim
  | .bor _, v, h => by unfold Rv at h; exact h.elim
  | .exn, v, h => by unfold Rv at h; exact h.elim
theorem RvL.mono (c : Cy g ex w w') : ∀ (ds : List D) (ys : List V), RvL g w ds ys → RvL g w' ds ys
  | [], ys, h => by unfold RvL at *; exact h
  | d :: r, ys, h => by
    unfold RvL at *
    obtain ⟨y, t, e, a, b⟩ := h
    exact ⟨y, t, e, Rv.mono c d y a, RvL.mono c r t b⟩
theorem RvK.mono (c : Cy g ex w w') : ∀ (ds : List (Key × D)) (ys : List (Key × V)), RvK g w ds ys → RvK g w' ds ys
  | [], ys, h => by unfold RvK at *; exact h
  | (k, d) :: r, ys, h => by
    unfold RvK at *
    obtain ⟨y, t, e, a, b⟩ := h
    exact ⟨y, t, e, Rv.mono c d y a, RvK.mono c r t b⟩
end
theorem RvF.mono (c : Cy g ex w w') : ∀ (ds : List (Str × D)) (ys : List (Str × V)), RvF g w ds ys → RvF g w' ds ys
  | [], ys, h => by unfold RvF at *; exact h
  | (k, d) :: r, ys, h => by
    unfold RvF at *
    obtain ⟨y, t, e, a, b⟩ := h
    exact ⟨y, t, e, Rv.mono c d y a, RvF.mono c r t b⟩
end
end Gm

set_option Elab.async false
set_option linter.all false
set_option maxRecDepth 100000
set_option autoImplicit false
namespace Gm
open PySem PySem.Spec PyProof.Rows L2
def Fzo : O → Prop
  | .lst _ => True
  | .dK _ => True
  | _ => False
section
variable (g : Gc)
/-- an operand: a value, or a list of the frame's own that is read -/
def Po (w : Wd) : D → V → Prop
  | .bor o, v => ∃ p, v = .ref p ∧ Ro g w p o ∧ p ∉ w.m
  | .exn, v => ∃ a, g.x = some a ∧ v = .ref a
  | d, v => Rv g w d v
/-- what a slot holds -/
def Sv (w : Wd) : D → V → Prop
  | .own o, v => ∃ p, v = .ref p ∧ Fzo o ∧ Ro g w p o ∧ p ∉ w.m ∧ p ∈ w.T
  | .exn, v => ∃ a, g.x = some a ∧ v = .ref a
  | d, v => Rv g w d v
structure Re (w : Wd) (env : Env) (σ : Sl) : Prop where
  st : Rst g w
  len : env.length = σ.length
  sl : ∀ (i : Nat) (d : D), env[i]? = some (some d) → ∃ v, σ[i]? = some (some v) ∧ Sv g w d v
def fz : D → D
  | .own (.lst xs) => .lst xs
  | .own (.dK kv) => .dct kv
  | d => d
/-- a result: a value; a new list that nothing else leads to -/
def Px (H0 : Hp) (w : Wd) : D → V → Prop
  | .own o, v => ∃ p, v = .ref p ∧ H0 p = none ∧ p ∉ w.T ∧ Fzo o ∧ Rst g { w with T := p :: w.T } ∧ Ro g { w with T := p :: w.T } p o
  | .bor o, v => Rst g w ∧ ∃ p, v = .ref p ∧ Ro g w p o ∧ p ∉ w.m
  | .exn, v => Rst g w ∧ ∃ a, g.x = some a ∧ v = .ref a
  | d, v => Rst g w ∧ Rv g w d v
/-- the wish of a mirror's answer -/
def Post {α β : Type} (Pr : Hp → Wd → α → β → Prop) (W : WX) (w : Wd) (σ : Sl) (Q : β → Hp → Prop) : R α → Prop
  | .ok a s' => ∀ (w' : Wd) (b : β), w'.s = s' → w'.T = w.T → Ext [] w w' → Pr w.H w' a b → Q b w'.H
  | .exc c s' => ∀ (w' : Wd), w'.s = s' → w'.T = w.T → Ext [] w w' → Rst g w' → W (.ref (g.A c)) none σ w'.H
  | .no => False
def tEv (W : WX) (e : Ex) : TE := fun σ H Q => ∃ (w : Wd) (env : Env), w.H = H ∧ Re g w env σ ∧ Post g (Px g) W w σ Q (e env w.s)
def Pb (_ : Hp) (w : Wd) (a b : Bool) : Prop := Rst g w ∧ a = b
def tTe (W : WX) (e : Tx) : TT := fun σ H Q => ∃ (w : Wd) (env : Env), w.H = H ∧ Re g w env σ ∧ Post g (Pb g) W w σ Q (e env w.s)
def Pl (_ : Hp) (w : Wd) (ds : List D) (vs : List V) : Prop := Rst g w ∧ RvL g w ds vs
def tAe (W : WX) (e : Ax) : TA := fun σ H Q => ∃ (w : Wd) (env : Env), w.H = H ∧ Re g w env σ ∧ Post g (Pl g) W w σ Q (e env w.s)
end
/-! ### what is read -/
def dr (s : Store) : D → Option O
  | .ref n => s[n]?
  | .lst xs => some (.lst xs)
  | .scr ns => some (.lst (ns.map D.int))
  | .dct kv => some (.dK kv)
  | .bor o => some o
  | _ => none
/-- .. where it may stand beside a list of one's own -/
def drM (s : Store) : D → Option O
  | .scr _ => none
  | d => dr s d
section
variable {g : Gc} {w w' : Wd} {env : Env} {σ : Sl} {W : WX} {H0 : Hp}
theorem Ext.trans {w1 w2 w3 : Wd} (a : Ext [] w1 w2) (b : Ext [] w2 w3) : Ext [] w1 w3 := by
  have back : ∀ p, w2.H p = none → w1.Live p ∨ w1.H p = none := fun p l => by
    by_cases q : w1.Live p
    · exact .inl q
    · refine .inr ?_
      cases e : w1.H p with
      | none => rfl
      | some o => rw [a.keep p o e q (by simp)] at l; cases l
  refine ⟨?_, fun p o h nl _ => ?_, fun p l => ?_, fun p l => ?_⟩
  · obtain ⟨t, e⟩ := a.pre
    obtain ⟨u, f⟩ := b.pre
    exact ⟨t ++ u, by rw [f, e, List.append_assoc]⟩
  · have h1 := a.keep p o h nl (by simp)
    refine b.keep p o h1 (fun l => ?_) (by simp)
    rcases a.new p l with l | l | l
    · exact nl l
    · rw [h] at l; cases l
    · cases l
  · rcases b.new p l with l | l | l
    · exact a.new p l
    · rcases back p l with q | q
      · exact .inl q
      · exact .inr (.inl q)
    · cases l
  · rcases b.nm p l with l | l | l
    · exact a.nm p l
    · rcases back p l with q | q
      · exact .inl q.mem
      · exact .inr (.inl q)
    · cases l
theorem Rst.inT (r : Rst g w) {T : List Addr} (h : ∀ p ∈ T, p ∈ w.T) : Rst g { w with T := T } := by
  have c : Cy g [] w { w with T := T } := ⟨r, ⟨⟨[], by simp⟩, fun _ _ e _ _ => e, fun _ l => .inl l, fun _ l => .inl l⟩, by simp, by simp, fun p q => .inl (h p q)⟩
  refine ⟨r.len, r.nd, fun p q => r.tt p (h p q), fun n p o a b => ?_⟩
  have q := r.ce n p o a b
  cases o with
  | lst xs => obtain ⟨ys, e, z⟩ := q; exact ⟨ys, e, RvL.mono c _ _ z⟩
  | dK xs => obtain ⟨ys, e, z⟩ := q; exact ⟨ys, e, RvK.mono c _ _ z⟩
  | ins a xs => obtain ⟨dx, ys, e, z⟩ := q; exact ⟨dx, ys, e, RvF.mono c _ _ z⟩
  | dead => exact q
theorem Cy.sub (r : Rst g w) {T : List Addr} (h : ∀ p ∈ T, p ∈ w.T) : Cy g [] w { w with T := T } :=
  ⟨r, ⟨⟨[], by simp⟩, fun _ _ e _ _ => e, fun _ l => .inl l, fun _ l => .inl l⟩, by simp, by simp, fun p q => .inl (h p q)⟩
theorem Ro.mono {p : Addr} {o : O} {ex : List Addr} (c : Cy g ex w w') (h : Ro g w p o) (nl : ¬ w.Live p) (nx : p ∉ ex) : Ro g w' p o := by
  cases o with
  | lst xs => obtain ⟨ys, e, z⟩ := h; exact ⟨ys, c.e.keep _ _ e nl nx, RvL.mono c _ _ z⟩
  | dK xs => obtain ⟨ys, e, z⟩ := h; exact ⟨ys, c.e.keep _ _ e nl nx, RvK.mono c _ _ z⟩
  | ins a xs => obtain ⟨dx, ys, e, z⟩ := h; exact ⟨dx, ys, c.e.keep _ _ e nl nx, RvF.mono c _ _ z⟩
  | dead => obtain ⟨o, e⟩ := h; exact ⟨o, c.e.keep _ _ e nl nx⟩
theorem Ro.trk {p : Addr} {o : O} (h : Ro g w p o) : ∃ u, w.H p = some u := by
  cases o with
  | lst xs => obtain ⟨ys, e, z⟩ := h; exact ⟨_, e⟩
  | dK xs => obtain ⟨ys, e, z⟩ := h; exact ⟨_, e⟩
  | ins a xs => obtain ⟨dx, ys, e, z⟩ := h; exact ⟨_, e⟩
  | dead => exact h
theorem Ext.out (e : Ext [] w w') {p : Addr} (h : ∃ u, w.H p = some u) (n : p ∉ w.m) : p ∉ w'.m := fun q => by
  rcases e.nm p q with l | l | l
  · exact n l
  · obtain ⟨u, h⟩ := h; rw [h] at l; cases l
  · cases l
theorem nolive {p : Addr} (n : p ∉ w.m) : ¬ w.Live p := fun l => n l.mem
theorem Po.mono {d : D} {v : V} (c : Cy g [] w w') (h : Po g w d v) : Po g w' d v := by
  cases d with
  | bor o =>
    obtain ⟨p, e, r, n⟩ := h
    exact ⟨p, e, r.mono c (nolive n) (by simp), c.e.out r.trk n⟩
  | own o => exact Rv.mono c _ _ h
  | non => exact Rv.mono c _ _ h
  | bl b => exact Rv.mono c _ _ h
  | int i => exact Rv.mono c _ _ h
  | str x => exact Rv.mono c _ _ h
  | tup xs => exact Rv.mono c _ _ h
  | lst xs => exact Rv.mono c _ _ h
  | scr xs => exact Rv.mono c _ _ h
  | dct xs => exact Rv.mono c _ _ h
  | ref n => exact Rv.mono c _ _ h
  | exn => exact h
theorem Sv.mono {d : D} {v : V} (c : Cy g [] w w') (hT : ∀ p ∈ w.T, p ∈ w'.T) (h : Sv g w d v) : Sv g w' d v := by
  cases d with
  | own o =>
    obtain ⟨p, e, fo, r, n, t⟩ := h
    exact ⟨p, e, fo, r.mono c (nolive n) (by simp), c.e.out r.trk n, hT p t⟩
  | bor o => exact Rv.mono c _ _ h
  | non => exact Rv.mono c _ _ h
  | bl b => exact Rv.mono c _ _ h
  | int i => exact Rv.mono c _ _ h
  | str x => exact Rv.mono c _ _ h
  | tup xs => exact Rv.mono c _ _ h
  | lst xs => exact Rv.mono c _ _ h
  | scr xs => exact Rv.mono c _ _ h
  | dct xs => exact Rv.mono c _ _ h
  | ref n => exact Rv.mono c _ _ h
  | exn => exact h
theorem Re.mono (c : Cy g [] w w') (r' : Rst g w') (hT : ∀ p ∈ w.T, p ∈ w'.T) (h : Re g w env σ) : Re g w' env σ :=
  ⟨r', h.len, fun i d e => let ⟨v, a, b⟩ := h.sl i d e; ⟨v, a, b.mono c hT⟩⟩
theorem Rv.nofz {d : D} {v : V} (h : Rv g w d v) : fz d = d := by
  cases d with
  | own o => unfold Rv at h; exact h.elim
  | _ => rfl
theorem Rv.po {d : D} {v : V} (h : Rv g w d v) : Po g w d v := by
  cases d with
  | bor o => unfold Rv at h; exact h.elim
  | exn => unfold Rv at h; exact h.elim
  | _ => exact h
/-- a result as an operand -/
theorem Px.fz {d : D} {v : V} (h : Px g H0 w d v) : Rst g w ∧ Po g w (fz d) v := by
  cases d with
  | own o =>
    obtain ⟨p, e, h0, nt, fo, r, q⟩ := h
    have c : Cy g [] { w with T := p :: w.T } w := Cy.sub (w := { w with T := p :: w.T }) r (T := w.T) (fun x hx => List.mem_cons_of_mem _ hx)
    have r' : Rst g w := r.inT (w := { w with T := p :: w.T }) (T := w.T) (fun x hx => List.mem_cons_of_mem _ hx)
    have nm : p ∉ w.m := (r.tt p (List.mem_cons_self)).1
    refine ⟨r', ?_⟩
    cases o with
    | lst xs =>
      obtain ⟨ys, e1, z⟩ := q
      show Rv g w (.lst xs) v
      unfold Rv
      exact ⟨p, ys, e, e1, nolive nm, nt, RvL.mono c _ _ z⟩
    | dK kv =>
      obtain ⟨ys, e1, z⟩ := q
      show Rv g w (.dct kv) v
      unfold Rv
      exact ⟨p, ys, e, e1, nolive nm, nt, RvK.mono c _ _ z⟩
    | ins a b => exact fo.elim
    | dead => exact fo.elim
  | bor o => exact h
  | non => exact h
  | bl b => exact h
  | int i => exact h
  | str x => exact h
  | tup xs => exact h
  | lst xs => exact h
  | scr xs => exact h
  | dct xs => exact h
  | ref n => exact h
  | exn => exact h
theorem Px.of {d : D} {v : V} (r : Rst g w) (h : Rv g w d v) : Px g H0 w d v := by
  cases d with
  | own o => unfold Rv at h; exact h.elim
  | bor o => unfold Rv at h; exact h.elim
  | exn => unfold Rv at h; exact h.elim
  | _ => exact ⟨r, h⟩
theorem RvL.length : ∀ {ds : List D} {vs : List V}, RvL g w ds vs → vs.length = ds.length
  | [], vs, h => by unfold RvL at h; subst h; rfl
  | d :: r, vs, h => by
    unfold RvL at h
    obtain ⟨y, t, e, _, b⟩ := h
    subst e
    simp [RvL.length b]
theorem RvL.get : ∀ {ds : List D} {vs : List V} {i : Nat} {d : D}, RvL g w ds vs → ds[i]? = some d → ∃ v, vs[i]? = some v ∧ Rv g w d v
  | [], vs, i, d, h, e => by simp at e
  | a :: r, vs, i, d, h, e => by
    unfold RvL at h
    obtain ⟨y, t, e1, h1, h2⟩ := h
    subst e1
    cases i with
    | zero => simp at e; subst e; exact ⟨y, rfl, h1⟩
    | succ j => simp at e; obtain ⟨v, a, b⟩ := RvL.get h2 e; exact ⟨v, by simpa using a, b⟩
theorem RvL.ints : ∀ {ns : List Int}, RvL g w (ns.map D.int) (ns.map V.int)
  | [] => by unfold RvL; rfl
  | a :: r => by
    show RvL g w (D.int a :: r.map D.int) (V.int a :: r.map V.int)
    unfold RvL
    exact ⟨_, _, rfl, by unfold Rv; rfl, RvL.ints⟩
theorem RvL.app : ∀ {ds es : List D} {vs us : List V}, RvL g w ds vs → RvL g w es us → RvL g w (ds ++ es) (vs ++ us)
  | [], es, vs, us, h, k => by unfold RvL at h; subst h; exact k
  | a :: r, es, vs, us, h, k => by
    unfold RvL at h
    obtain ⟨y, t, e1, h1, h2⟩ := h
    subst e1
    show RvL g w (a :: (r ++ es)) (y :: (t ++ us))
    unfold RvL
    exact ⟨_, _, rfl, h1, RvL.app h2 k⟩
theorem RvL.one {d : D} {v : V} (h : Rv g w d v) : RvL g w [d] [v] := by
  unfold RvL; exact ⟨_, _, rfl, h, by unfold RvL; rfl⟩
theorem RvL.take : ∀ (n : Nat) {ds : List D} {vs : List V}, RvL g w ds vs → RvL g w (ds.take n) (vs.take n)
  | 0, ds, vs, _ => by simp [RvL]
  | n + 1, [], vs, h => by unfold RvL at h; subst h; simp [RvL]
  | n + 1, a :: r, vs, h => by
    unfold RvL at h
    obtain ⟨y, t, e1, h1, h2⟩ := h
    subst e1
    simp only [List.take_succ_cons]
    unfold RvL
    exact ⟨_, _, rfl, h1, RvL.take n h2⟩
theorem RvL.drop : ∀ (n : Nat) {ds : List D} {vs : List V}, RvL g w ds vs → RvL g w (ds.drop n) (vs.drop n)
  | 0, ds, vs, h => by simpa using h
  | n + 1, [], vs, h => by unfold RvL at h; subst h; simp [RvL]
  | n + 1, a :: r, vs, h => by
    unfold RvL at h
    obtain ⟨y, t, e1, h1, h2⟩ := h
    subst e1
    simpa using RvL.drop n h2
theorem RvL.set {d : D} {v : V} (k : Rv g w d v) : ∀ {ds : List D} {vs : List V} (n : Nat), RvL g w ds vs → RvL g w (ds.set n d) (vs.set n v)
  | [], vs, n, h => by unfold RvL at h; subst h; simp [RvL]
  | a :: r, vs, n, h => by
    unfold RvL at h
    obtain ⟨y, t, e1, h1, h2⟩ := h
    subst e1
    cases n with
    | zero => simp only [List.set_cons_zero]; unfold RvL; exact ⟨_, _, rfl, k, h2⟩
    | succ n => simp only [List.set_cons_succ]; unfold RvL; exact ⟨_, _, rfl, h1, RvL.set k n h2⟩
theorem RvL.none {ds : List D} {vs : List V} {i : Nat} (h : RvL g w ds vs) (e : ds[i]? = Option.none) : vs[i]? = Option.none := by
  rw [List.getElem?_eq_none_iff] at *
  rw [h.length]; exact e
/-- what may be read at an address -/
def RoR (g : Gc) (w : Wd) (p : Addr) : O → Prop
  | .lst xs => ∃ ys, SqL g.K w.H p ys ∧ RvL g w xs ys
  | o => Ro g w p o
theorem Ro.r {p : Addr} {o : O} (h : Ro g w p o) : RoR g w p o := by
  cases o with
  | lst xs => obtain ⟨ys, e, z⟩ := h; exact ⟨ys, SqL.of e, z⟩
  | _ => exact h
theorem drM_ok {d : D} {v : V} {o : O} (r : Rst g w) (h : Po g w d v) (e : drM w.s d = some o) : ∃ p, v = .ref p ∧ Ro g w p o := by
  cases d with
  | ref n =>
    have h : Rv g w (.ref n) v := h
    unfold Rv at h
    obtain ⟨p, e1, e2⟩ := h
    exact ⟨p, e1, r.ce n p o e2 e⟩
  | lst xs =>
    have h : Rv g w (.lst xs) v := h
    unfold Rv at h
    obtain ⟨p, ys, e1, e2, _, _, e3⟩ := h
    cases e
    exact ⟨p, e1, ys, e2, e3⟩
  | dct xs =>
    have h : Rv g w (.dct xs) v := h
    unfold Rv at h
    obtain ⟨p, ys, e1, e2, _, _, e3⟩ := h
    cases e
    exact ⟨p, e1, ys, e2, e3⟩
  | bor o' =>
    obtain ⟨p, e1, q, _⟩ := h
    cases e
    exact ⟨p, e1, q⟩
  | scr ns => cases e
  | own o => cases e
  | non => cases e
  | bl b => cases e
  | int i => cases e
  | str x => cases e
  | tup xs => cases e
  | exn => cases e
theorem dr_ok {d : D} {v : V} {o : O} (r : Rst g w) (h : Po g w d v) (e : dr w.s d = some o) : ∃ p, v = .ref p ∧ RoR g w p o := by
  cases d with
  | scr ns =>
    have h : Rv g w (.scr ns) v := h
    unfold Rv at h
    obtain ⟨p, e1, q⟩ := h
    cases e
    refine ⟨p, e1, ns.map V.int, ?_, RvL.ints⟩
    rcases q with ⟨b, q⟩ | q
    · exact .inl (.inr ⟨b, q⟩)
    · exact .inr q
  | _ => obtain ⟨p, a, b⟩ := drM_ok r h e; exact ⟨p, a, b.r⟩
/-! ### a new thing -/
theorem upd_old {H : Hp} {p q : Addr} {u x : HO} (hp : H p = Option.none) (e : H q = some x) : upd H p u q = some x := by
  rw [upd_ne (ne_of_none e hp)]; exact e
theorem new_ext {p : Addr} {u : HO} {T : List Addr} (hp : w.H p = Option.none) : Ext [] w { w with H := upd w.H p u, T := T } :=
  ⟨⟨[], by simp⟩, fun q o e _ _ => upd_old hp e, fun _ l => .inl l, fun _ l => .inl l⟩
theorem new_cy (r : Rst g w) {p : Addr} {u : HO} (hp : w.H p = Option.none) {T : List Addr} (hT : ∀ q ∈ T, q ∈ w.T ∨ q = p) : Cy g [] w { w with H := upd w.H p u, T := T } :=
  ⟨r, new_ext hp, by simp, by simp, fun q h => (hT q h).imp id (fun e => by rw [e]; exact hp)⟩
theorem Rst.new (r : Rst g w) {p : Addr} {u : HO} (hp : w.H p = Option.none) {T : List Addr} (hT : ∀ q ∈ T, q ∈ w.T ∨ q = p) : Rst g { w with H := upd w.H p u, T := T } := by
  have c : Cy g [] w { w with H := upd w.H p u, T := T } := new_cy r hp hT
  refine ⟨r.len, r.nd, fun q hq => ?_, fun n q o a b => ?_⟩
  · rcases hT q hq with h | h
    · obtain ⟨o, e⟩ := (r.tt q h).2
      exact ⟨(r.tt q h).1, o, upd_old hp e⟩
    · subst h
      exact ⟨r.fresh hp, u, upd_same⟩
  · have h := r.ce n q o a b
    cases o with
    | lst xs => obtain ⟨ys, e, z⟩ := h; exact ⟨ys, upd_old hp e, RvL.mono c _ _ z⟩
    | dK xs => obtain ⟨ys, e, z⟩ := h; exact ⟨ys, upd_old hp e, RvK.mono c _ _ z⟩
    | ins a xs => obtain ⟨dx, ys, e, z⟩ := h; exact ⟨dx, ys, upd_old hp e, RvF.mono c _ _ z⟩
    | dead => obtain ⟨o, e⟩ := h; exact ⟨o, upd_old hp e⟩
theorem Rst.ntT (r : Rst g w) {p : Addr} (hp : w.H p = Option.none) : p ∉ w.T := fun h => by
  obtain ⟨o, e⟩ := (r.tt p h).2
  rw [hp] at e; cases e
/-- a new list of related items, as a result -/
theorem Px.newL (r : Rst g w) {p : Addr} {ds : List D} {vs : List V} (hp : w.H p = Option.none) (h : RvL g w ds vs) : Px g w.H { w with H := upd w.H p (.lst vs) } (.own (.lst ds)) (.ref p) := by
  have hT : ∀ q ∈ p :: w.T, q ∈ w.T ∨ q = p := fun q hq => by
    rcases List.mem_cons.mp hq with e | e
    · exact .inr e
    · exact .inl e
  exact ⟨p, rfl, hp, r.ntT hp, trivial, r.new hp hT, vs, upd_same, RvL.mono (new_cy r hp hT) _ _ h⟩
theorem Px.newD (r : Rst g w) {p : Addr} {ds : List (Key × D)} {vs : List (Key × V)} (hp : w.H p = Option.none) (h : RvK g w ds vs) : Px g w.H { w with H := upd w.H p (.dK vs) } (.own (.dK ds)) (.ref p) := by
  have hT : ∀ q ∈ p :: w.T, q ∈ w.T ∨ q = p := fun q hq => by
    rcases List.mem_cons.mp hq with e | e
    · exact .inr e
    · exact .inl e
  exact ⟨p, rfl, hp, r.ntT hp, trivial, r.new hp hT, vs, upd_same, RvK.mono (new_cy r hp hT) _ _ h⟩
theorem Px.newT (r : Rst g w) {p : Addr} {ds : List D} {vs : List V} (hp : w.H p = Option.none) (h : RvL g w ds vs) : Px g w.H { w with H := upd w.H p (.tup vs) } (.tup ds) (.ref p) := by
  have hT : ∀ q ∈ w.T, q ∈ w.T ∨ q = p := fun q hq => .inl hq
  refine ⟨r.new hp hT, ?_⟩
  unfold Rv
  exact ⟨p, vs, rfl, SqT.of upd_same, RvL.mono (new_cy r hp hT) _ _ h⟩
end
end Gm

set_option Elab.async false
set_option linter.all false
set_option maxRecDepth 100000
set_option autoImplicit false
set_option maxHeartbeats 1000000
namespace Gm
open PySem PySem.Spec PyProof.Rows L2
/-- the classes; the caught error within a suite -/
structure Ga where
  cl : Nat → Addr
  x : Option Addr
abbrev gx (X : Cx) (A : Ga) : Gc := ⟨X.K, A.cl, A.x⟩
section
variable {X : Cx} {e : Expr}
theorem peW {t t' : TE} (h : PE X e t) (k : ∀ σ H Q, t' σ H Q → t σ H Q) : PE X e t' := ⟨fun pins s σ H Q I q => h.run pins s σ H Q I (k σ H Q q)⟩
theorem ptW {t t' : TT} (h : PT X e t) (k : ∀ σ H Q, t' σ H Q → t σ H Q) : PT X e t' := ⟨fun pins s σ H Q I q => h.run pins s σ H Q I (k σ H Q q)⟩
theorem pwW {t t' : TT} (h : PW X e t) (k : ∀ σ H Q, t' σ H Q → t σ H Q) : PW X e t' := ⟨fun wh pins s σ H Q I q => h.run wh pins s σ H Q I (k σ H Q q)⟩
theorem paW {es : List Expr} {t t' : TA} (h : PA X es t) (k : ∀ σ H Q, t' σ H Q → t σ H Q) : PA X es t' := ⟨fun pos pins s σ H Q I q => h.run pos pins s σ H Q I (k σ H Q q)⟩
end
/-! ### the mirror's words for expressions -/
def eVar (i : Nat) : Ex := fun env s => match env[i]? with
  | some (some (.own o)) => .ok (.bor o) s
  | some (some d) => .ok d s
  | _ => .no
def eC (d : D) : Ex := fun _ s => .ok d s
def eOp2 (f : Store → D → D → R D) (a b : Ex) : Ex := fun env s => match a env s with
  | .ok x s1 => (match b env s1 with
    | .ok y s2 => f s2 (fz x) (fz y)
    | .exc c s2 => .exc c s2
    | .no => .no)
  | .exc c s1 => .exc c s1
  | .no => .no
def eOp1 (f : Store → D → R D) (a : Ex) : Ex := fun env s => match a env s with
  | .ok x s1 => f s1 (fz x)
  | .exc c s1 => .exc c s1
  | .no => .no
section
variable {g : Gc} {w w' : Wd} {env : Env} {σ : Sl} {W : WX} {H0 : Hp}
/-- what a step on operands asks: no exception -/
def PostV (g : Gc) (w : Wd) (Q : VK) : R D → Prop
  | .ok d s' => ∀ (w' : Wd) (v : V), w'.s = s' → w'.T = w.T → Ext [] w w' → Px g w.H w' d v → Q v w'.H
  | _ => False
def Snd2 (g : Gc) (f : Store → D → D → R D) (r : R2) : Prop := ∀ (w : Wd) (a b : D) (x y : V) (Q : VK), Rst g w → Po g w a x → Po g w b y → PostV g w Q (f w.s a b) → r x y w.H Q
def Snd1 (g : Gc) (f : Store → D → R D) (r : V → Hp → VK → Prop) : Prop := ∀ (w : Wd) (a : D) (x : V) (Q : VK), Rst g w → Po g w a x → PostV g w Q (f w.s a) → r x w.H Q
theorem PostV.pure {Q : VK} {d : D} {v : V} (h : PostV g w Q (.ok d w.s)) (r : Rst g w) (q : Rv g w d v) : Q v w.H := h w v rfl rfl Ext.refl (.of r q)
/-- a run's first step -/
theorem Post.step {α β γ δ : Type} {Pr : Hp → Wd → α → β → Prop} {Pr' : Hp → Wd → γ → δ → Prop} {Q : β → Hp → Prop} {Q' : δ → Hp → Prop} {m : R α} {m' : R γ} (h : Post g Pr' W w σ Q' m')
    (he : ∀ c s, m = .exc c s → m' = .exc c s) (hn : m = .no → m' = .no)
    (hk : ∀ (a : α) (s' : Store) (w' : Wd) (b : β), m = .ok a s' → w'.s = s' → w'.T = w.T → Ext [] w w' → Pr w.H w' a b → Q b w'.H) : Post g Pr W w σ Q m := by
  cases e : m with
  | ok a s' => exact fun w' b h1 h2 h3 h4 => hk a s' w' b e h1 h2 h3 h4
  | exc c s' => rw [he c s' e] at h; exact h
  | no => rw [hn e] at h; exact h
theorem Re.next (re : Re g w env σ) (r' : Rst g w') (e : Ext [] w w') (t : w'.T = w.T) : Re g w' env σ := re.mono (Cy.of re.st e t) r' (fun p h => by rw [t]; exact h)
/-- behind a first step -/
theorem Post.next {α β : Type} {Pr : Hp → Wd → α → β → Prop} {Q : β → Hp → Prop} {m : R α} (h : Post g Pr W w σ Q m) (e : Ext [] w w') (t : w'.T = w.T) (hPr : ∀ (a : α) (b : β) (w'' : Wd), Ext [] w w' → Pr w'.H w'' a b → Pr w.H w'' a b) : Post g Pr W w' σ Q m := by
  cases m with
  | ok a s' => exact fun w2 b h1 h2 h3 h4 => h w2 b h1 (h2.trans t) (e.trans h3) (hPr a b w2 e h4)
  | exc c s' => exact fun w2 h1 h2 h3 h4 => h w2 h1 (h2.trans t) (e.trans h3) h4
  | no => exact h
theorem back {p : Addr} (r : Rst g w) (r' : Rst g w') (e : Ext [] w w') (h : w'.H p = Option.none) : w.H p = Option.none := by
  cases q : w.H p with
  | none => rfl
  | some o =>
    by_cases l : w.Live p
    · have hm : p ∈ w'.m := by
        obtain ⟨t, q⟩ := e.pre
        rw [q]; exact List.mem_append_left _ l.mem
      obtain ⟨u, z⟩ := r'.trk hm
      rw [h] at z; cases z
    · have := e.keep p o q l (by simp)
      rw [h] at this; cases this
theorem Px.back {d : D} {v : V} {w2 : Wd} (r : Rst g w) (r' : Rst g w') (e : Ext [] w w') (h : Px g w'.H w2 d v) : Px g w.H w2 d v := by
  cases d with
  | own o => obtain ⟨p, a, b, c⟩ := h; exact ⟨p, a, Gm.back r r' e b, c⟩
  | bor o => exact h
  | non => exact h
  | bl b => exact h
  | int i => exact h
  | str x => exact h
  | tup xs => exact h
  | lst xs => exact h
  | scr xs => exact h
  | dct xs => exact h
  | ref n => exact h
  | exn => exact h
theorem PostV.next {Q : VK} {m : R D} (r : Rst g w) (r' : Rst g w') (e : Ext [] w w') (t : w'.T = w.T) (h : Post g (Px g) W w σ Q m) (hne : ∀ c s, m ≠ .exc c s) : PostV g w' Q m := by
  cases m with
  | ok a s' => exact fun w2 b h1 h2 h3 h4 => h w2 b h1 (h2.trans t) (e.trans h3) (h4.back r r' e)
  | exc c s' => exact absurd rfl (hne c s')
  | no => exact h
theorem tOp_snd {f : Store → D → D → R D} {r : R2} {a b : Ex} (hf : Snd2 g f r) (hne : ∀ s x y c s', f s x y ≠ .exc c s') {H : Hp} {Q : VK} (h : tEv g W (eOp2 f a b) σ H Q) : tOp r (tEv g W a) (tEv g W b) σ H Q := by
  obtain ⟨w, env, rfl, re, h⟩ := h
  refine ⟨w, env, rfl, re, ?_⟩
  refine Post.step (m' := eOp2 f a b env w.s) h (fun c s e => by simp only [eOp2, e]) (fun e => by simp only [eOp2, e]) fun x s1 w1 v ea hs1 ht1 e1 p1 => ?_
  obtain ⟨r1, o1⟩ := p1.fz
  refine ⟨w1, env, rfl, re.next r1 e1 ht1, ?_⟩
  refine Post.step (m' := eOp2 f a b env w.s) (h.next e1 ht1 fun _ _ w2 _ q => q.back re.st r1 e1) (fun c s e => by rw [hs1] at e; simp only [eOp2, ea, e]) (fun e => by rw [hs1] at e; simp only [eOp2, ea, e]) fun y s2 w2 u eb hs2 ht2 e2 p2 => ?_
  obtain ⟨r2, o2⟩ := p2.fz
  have em : eOp2 f a b env w.s = f w2.s (fz x) (fz y) := by
    rw [hs1] at eb
    simp only [eOp2, ea, eb, hs2]
  rw [em] at h
  exact hf w2 (fz x) (fz y) v u Q r2 (o1.mono (Cy.of r1 e2 ht2)) o2 (PostV.next re.st r2 (e1.trans e2) (ht2.trans ht1) h fun c s => hne _ _ _ _ _)
theorem tUn_snd {f : Store → D → R D} {r : V → Hp → VK → Prop} {a : Ex} (hf : Snd1 g f r) (hne : ∀ s x c s', f s x ≠ .exc c s') {H : Hp} {Q : VK} (h : tEv g W (eOp1 f a) σ H Q) : tEv g W a σ H fun x H1 => r x H1 Q := by
  obtain ⟨w, env, rfl, re, h⟩ := h
  refine ⟨w, env, rfl, re, ?_⟩
  refine Post.step (m' := eOp1 f a env w.s) h (fun c s e => by simp only [eOp1, e]) (fun e => by simp only [eOp1, e]) fun x s1 w1 v ea hs1 ht1 e1 p1 => ?_
  obtain ⟨r1, o1⟩ := p1.fz
  have em : eOp1 f a env w.s = f w1.s (fz x) := by simp only [eOp1, ea, hs1]
  rw [em] at h
  exact hf w1 (fz x) v Q r1 o1 (PostV.next re.st r1 e1 ht1 h fun c s => hne _ _ _ _)
end
section
variable {X : Cx} {A : Ga} {W : WX} {a b : Expr} {ma mb : Ex} {pos : Pos}
theorem meG_var {g : Gc} (hg : g.K = X.K) (i : Nat) {x : Str} (hN : X.N[i]? = some x := by rfl) (hv : Vis X.env.scope x := by first | exact Or.inl rfl | exact Or.inr (Or.inl rfl) | exact Or.inr (Or.inr rfl)) (hd : (x == ("__debug__" : Str)) = false := by decide)
    (hcd : (x == ("__classdict__" : Str)) = false := by decide) : PE X (.Name x pos) (tEv g W (eVar i)) := by
  refine peW (pe_var hN hv hd hcd) fun σ H Q h => ?_
  obtain ⟨w, env, rfl, re, h⟩ := h
  cases e : env[i]? with
  | none => simp only [eVar, e] at h; exact h.elim
  | some o =>
    cases o with
    | none => simp only [eVar, e] at h; exact h.elim
    | some d =>
      obtain ⟨v, hv, sv⟩ := re.sl i d e
      refine ⟨v, hv, ?_⟩
      cases d with
      | own o =>
        simp only [eVar, e] at h
        obtain ⟨p, e1, _, ro, nm, _⟩ := sv
        exact h w v rfl rfl Ext.refl ⟨re.st, p, e1, ro, nm⟩
      | bor o => exact (show False by simpa [Sv, Rv] using sv).elim
      | non => simp only [eVar, e] at h; exact h w v rfl rfl Ext.refl (.of re.st sv)
      | bl b => simp only [eVar, e] at h; exact h w v rfl rfl Ext.refl (.of re.st sv)
      | int n => simp only [eVar, e] at h; exact h w v rfl rfl Ext.refl (.of re.st sv)
      | str n => simp only [eVar, e] at h; exact h w v rfl rfl Ext.refl (.of re.st sv)
      | tup n => simp only [eVar, e] at h; exact h w v rfl rfl Ext.refl (.of re.st sv)
      | lst n => simp only [eVar, e] at h; exact h w v rfl rfl Ext.refl (.of re.st sv)
      | scr n => simp only [eVar, e] at h; exact h w v rfl rfl Ext.refl (.of re.st sv)
      | dct n => simp only [eVar, e] at h; exact h w v rfl rfl Ext.refl (.of re.st sv)
      | ref n => simp only [eVar, e] at h; exact h w v rfl rfl Ext.refl (.of re.st sv)
      | exn => simp only [eVar, e] at h; exact h w v rfl rfl Ext.refl ⟨re.st, sv⟩
theorem me_var (i : Nat) {x : Str} (hN : X.N[i]? = some x := by rfl) (hv : Vis X.env.scope x := by first | exact Or.inl rfl | exact Or.inr (Or.inl rfl) | exact Or.inr (Or.inr rfl)) (hd : (x == ("__debug__" : Str)) = false := by decide)
    (hcd : (x == ("__classdict__" : Str)) = false := by decide) : PE X (.Name x pos) (tEv (gx X A) W (eVar i)) := meG_var rfl i hN hv hd hcd
theorem tC_snd {g : Gc} {d : D} {v : V} (hr : ∀ w, Rv g w d v) {σ : Sl} {H : Hp} {Q : VK} (h : tEv g W (eC d) σ H Q) : tC v σ H Q := by
  obtain ⟨w, env, rfl, re, h⟩ := h
  exact h w v rfl rfl Ext.refl (.of re.st (hr w))
theorem me_int {i : Int} {j} : PE X (.Constant (.int i) j pos) (tEv (gx X A) W (eC (.int i))) := peW pe_int fun _ _ _ h => tC_snd (fun w => by unfold Rv; rfl) h
theorem me_bl {i : Bool} {j} : PE X (.Constant (.bool i) j pos) (tEv (gx X A) W (eC (.bl i))) := peW pe_bl fun _ _ _ h => tC_snd (fun w => by unfold Rv; rfl) h
theorem me_non {j} : PE X (.Constant .none j pos) (tEv (gx X A) W (eC .non)) := peW pe_non fun _ _ _ h => tC_snd (fun w => by unfold Rv; rfl) h
theorem me_str {x : Str} {j} : PE X (.Constant (.str x) j pos) (tEv (gx X A) W (eC (.str x))) := peW pe_str fun _ _ _ h => tC_snd (fun w => by unfold Rv; rfl) h
/-- a number of the module's top -/
theorem me_num {x : Str} {i : Int} (hg : Gl X x) (hm : ∃ t, X.mg x = some (.int i t)) (hd : (x == ("__debug__" : Str)) = false := by decide) : PE X (.Name x pos) (tEv (gx X A) W (eC (.int i))) := by
  obtain ⟨t, hm⟩ := hm
  exact peW (pe_glob (v := .int i) hg hm ⟨t, rfl⟩ hd) fun _ _ _ h => tC_snd (fun w => by unfold Rv; rfl) h
theorem me_op {op : Operator} {f : Store → D → D → R D} {r : R2} (ho : OpR X (binaryOp op) r) (hf : Snd2 (gx X A) f r) (hne : ∀ s x y c s', f s x y ≠ .exc c s') (ha : PE X a (tEv (gx X A) W ma)) (hb : PE X b (tEv (gx X A) W mb)) :
    PE X (.BinOp a op b pos) (tEv (gx X A) W (eOp2 f ma mb)) := peW (pe_op ho ha hb) fun _ _ _ h => tOp_snd hf hne h
theorem me_cmp {op : CmpOp} {f : Store → D → D → R D} {r : R2} (ho : OpR X (compareOp op) r) (hf : Snd2 (gx X A) f r) (hne : ∀ s x y c s', f s x y ≠ .exc c s') (hm : behindInMarks op b = false) (ha : PE X a (tEv (gx X A) W ma)) (hb : PE X b (tEv (gx X A) W mb)) :
    PE X (.Compare a [op] [b] pos) (tEv (gx X A) W (eOp2 f ma mb)) := peW (pe_cmpR ho ha hb hm) fun _ _ _ h => tOp_snd hf hne h
theorem me_ix0 {f : Store → D → D → R D} {r : R2} (ho : IxR X r) (hf : Snd2 (gx X A) f r) (hne : ∀ s x y c s', f s x y ≠ .exc c s') (hs : PlainIx b) (ha : PE X a (tEv (gx X A) W ma)) (hb : PE X b (tEv (gx X A) W mb)) :
    PE X (.Subscript a b pos) (tEv (gx X A) W (eOp2 f ma mb)) := peW (pe_ix ho ha hb hs) fun _ _ _ h => tOp_snd hf hne h
theorem me_un {op : UnaryOp} {f : Store → D → R D} {r : V → Hp → VK → Prop} (ho : UnR X (unaryOp op) r) (hf : Snd1 (gx X A) f r) (hne : ∀ s x c s', f s x ≠ .exc c s') (ha : PE X a (tEv (gx X A) W ma)) :
    PE X (.UnaryOp op a pos) (tEv (gx X A) W (eOp1 f ma)) := peW (pe_un ho ha) fun _ _ _ h => tUn_snd hf hne h
end
end Gm

set_option Elab.async false
set_option linter.all false
set_option maxRecDepth 100000
set_option autoImplicit false
set_option maxHeartbeats 1000000
namespace Gm
open PySem PySem.Spec PyProof.Rows L2
/-! ### steps on numbers -/
def fI (c : Int → Int → Bool) (f : Int → Int → D) : Store → D → D → R D := fun s a b => match a, b with
  | .int i, .int j => if c i j = true then .ok (f i j) s else .no
  | _, _ => .no
abbrev cT : Int → Int → Bool := fun _ _ => true
def fSub := fI cT fun i j => .int (i - j)
def fDiv := fI (fun _ j => decide (0 < j) && decide (j < 1073741824)) fun i j => .int (i / j)
def fMod := fI (fun _ j => decide (0 < j)) fun i j => .int (i % j)
def fPow := fI (fun i j => decide (0 ≤ j) && decide (j ≤ 1000000) && decide (i.natAbs < 18446744073709551616)) fun i j => .int (i ^ j.toNat)
def fLt := fI cT fun i j => .bl (decide (i < j))
def fLe := fI cT fun i j => .bl (decide (i ≤ j))
def fGt := fI cT fun i j => .bl (decide (j < i))
def fGe := fI cT fun i j => .bl (decide (j ≤ i))
def fCat : Store → D → D → R D := fun s a b => match drM s a, drM s b with
  | some (.lst xs), some (.lst ys) => if xs.length + ys.length ≤ 16777216 then .ok (.own (.lst (xs ++ ys))) s else .no
  | _, _ => .no
def fAdd : Store → D → D → R D := fun s a b => match a, b with
  | .int i, .int j => .ok (.int (i + j)) s
  | .str x, .str y => if x.length + y.length ≤ 16777216 then .ok (.str (x ++ y)) s else .no
  | _, _ => fCat s a b
def fRep : Store → D → D → R D := fun s a b => match drM s a, b with
  | some (.lst xs), .int k => if k < 9223372036854775808 ∧ -9223372036854775808 ≤ k ∧ xs.length * k.toNat ≤ 16777216 then .ok (.own (.lst (List.replicate k.toNat xs).flatten)) s else .no
  | _, _ => .no
def cMul (i j : Int) : Bool := (decide (-(18446744073709551616) < i) && decide (i < 18446744073709551616)) || (decide (-(18446744073709551616) < j) && decide (j < 18446744073709551616))
def fMul : Store → D → D → R D := fun s a b => match a, b with
  | .int i, .int j => if cMul i j = true then .ok (.int (i * j)) s else .no
  | _, _ => fRep s a b
def fIx : Store → D → D → R D := fun s a b => match b with
  | .int i => (match a with
    | .tup xs => (match atI xs i with
      | some d => .ok d s
      | none => .no)
    | _ => (match dr s a with
      | some (.lst xs) => (match atI xs i with
        | some d => .ok d s
        | none => .no)
      | _ => .no))
  | _ => .no
/-! ### == -/
def toPy (s : Store) : Nat → D → Option PyData
  | 0, _ => none
  | n + 1, d => match d with
    | .non => some .none
    | .bl b => some (.bool b)
    | .int i => some (.int i)
    | .str x => some (.str x)
    | .tup xs => (xs.mapM (toPy s n)).map PyData.tuple
    | d => (match dr s d with
      | some (.lst xs) => (xs.mapM (toPy s n)).map PyData.list
      | _ => none)
def fEq : Store → D → D → R D := fun s a b => match toPy s 9 a, toPy s 9 b with
  | some d, some e => if d.canLay0 = true ∧ e.canLay0 = true then .ok (.bl (PyData.eqv d e)) s else .no
  | _, _ => .no
def fNe : Store → D → D → R D := fun s a b => match toPy s 9 a, toPy s 9 b with
  | some d, some e => if d.canLay0 = true ∧ e.canLay0 = true then .ok (.bl (!PyData.eqv d e)) s else .no
  | _, _ => .no
/-! ### in -/
def flD : D → Option V
  | .non => some .non
  | .bl b => some (.bl b)
  | .int i => some (.int i)
  | .str x => some (.str x)
  | _ => none
def seqD (s : Store) : D → Option (List D)
  | .tup xs => some xs
  | d => match dr s d with
    | some (.lst xs) => some xs
    | _ => none
def fIn (neg : Bool) : Store → D → D → R D := fun s a b => match flD a, (seqD s b).bind fun xs => xs.mapM flD with
  | some x, some ys => .ok (.bl (if neg then !inV x ys else inV x ys)) s
  | _, _ => .no
def fIsN : Store → D → D → R D := fun s a b => match b with
  | .non => (match a with
    | .non => .ok (.bl true) s
    | .bor _ => .ok (.bl false) s
    | .own _ => .no
    | _ => .ok (.bl false) s)
  | _ => .no
def fNotN : Store → D → D → R D := fun s a b => match b with
  | .non => (match a with
    | .non => .ok (.bl false) s
    | .bor _ => .ok (.bl true) s
    | .own _ => .no
    | _ => .ok (.bl true) s)
  | _ => .no
def fNeg : Store → D → R D := fun s a => match a with
  | .int i => .ok (.int (-i)) s
  | _ => .no
def fLen : Store → D → R D := fun s a => match a with
  | .tup xs => .ok (.int xs.length) s
  | .str x => if x.length ≤ 16777216 then .ok (.int x.length) s else .no
  | _ => (match dr s a with
    | some (.lst xs) => .ok (.int xs.length) s
    | _ => .no)
section
variable {g : Gc} {w : Wd}
theorem po_int {i : Int} {x : V} (h : Po g w (.int i) x) : x = .int i := by
  have h : Rv g w (.int i) x := h
  unfold Rv at h; exact h
theorem po_str {i : Str} {x : V} (h : Po g w (.str i) x) : x = .str i := by
  have h : Rv g w (.str i) x := h
  unfold Rv at h; exact h
theorem rv_int {i : Int} : Rv g w (.int i) (.int i) := by unfold Rv; rfl
theorem rv_bl {i : Bool} : Rv g w (.bl i) (.bl i) := by unfold Rv; rfl
theorem rv_str {i : Str} : Rv g w (.str i) (.str i) := by unfold Rv; rfl
theorem rv_non : Rv g w .non .non := by unfold Rv; rfl
theorem snd_I {c : Int → Int → Bool} {f : Int → Int → D} {C : Int → Int → Prop} {k : Int → Int → V} (hc : ∀ i j, c i j = true → C i j) (hr : ∀ (w : Wd) i j, Rv g w (f i j) (k i j)) : Snd2 g (fI c f) (rI C k) := by
  intro w a b x y Q r pa pb h
  unfold fI at h
  split at h
  · rename_i i j
    split at h
    · rename_i hcc
      exact ⟨i, j, po_int pa, po_int pb, hc i j hcc, h.pure r (hr w i j)⟩
    · exact h.elim
  · exact h.elim
theorem snd_I0 {f : Int → Int → D} {k : Int → Int → V} (hr : ∀ (w : Wd) i j, Rv g w (f i j) (k i j)) : Snd2 g (fI cT f) (rI0 k) := by
  intro w a b x y Q r pa pb h
  obtain ⟨i, j, h1, h2, _, h3⟩ := snd_I (C := fun _ _ => True) (fun _ _ _ => trivial) hr w a b x y Q r pa pb h
  exact ⟨i, j, h1, h2, h3⟩
theorem ne_I {c : Int → Int → Bool} {f : Int → Int → D} : ∀ s x y k s', fI c f s x y ≠ .exc k s' := by
  intro s x y k s'
  unfold fI
  split
  · split <;> exact fun z => nomatch z
  · exact fun z => nomatch z
theorem drM_lst {a : D} {x : V} {xs : List D} (r : Rst g w) (h : Po g w a x) (e : drM w.s a = some (.lst xs)) : ∃ p ys, x = .ref p ∧ w.H p = some (.lst ys) ∧ RvL g w xs ys := by
  obtain ⟨p, e1, ys, e2, e3⟩ := drM_ok r h e
  exact ⟨p, ys, e1, e2, e3⟩
theorem dr_lst {a : D} {x : V} {xs : List D} (r : Rst g w) (h : Po g w a x) (e : dr w.s a = some (.lst xs)) : ∃ p ys, x = .ref p ∧ SqL g.K w.H p ys ∧ RvL g w xs ys := by
  obtain ⟨p, e1, ys, e2, e3⟩ := dr_ok r h e
  exact ⟨p, ys, e1, e2, e3⟩
theorem snd_cat : Snd2 g fCat rCat := by
  intro w a b x y Q r pa pb h
  unfold fCat at h
  split at h
  · rename_i xs ys ea eb
    split at h
    · rename_i hl
      obtain ⟨p, us, e1, e2, e3⟩ := drM_lst r pa ea
      obtain ⟨q, vs, k1, k2, k3⟩ := drM_lst r pb eb
      refine ⟨p, q, us, vs, e1, k1, e2, k2, ?_, fun l hl' => ?_⟩
      · rw [e3.length, k3.length, sizeLine_eq]; exact hl
      · exact h { w with H := upd w.H l (.lst (us ++ vs)) } _ rfl rfl (new_ext hl') (Px.newL r hl' (e3.app k3))
    · exact h.elim
  · exact h.elim
theorem snd_add : Snd2 g fAdd (fun x y H Q => rI0 (fun i j => .int (i + j)) x y H Q ∨ (∃ i j, x = .str i ∧ y = .str j ∧ i.length + j.length ≤ sizeLine ∧ Q (.str (i ++ j)) H) ∨ rCat x y H Q) := by
  intro w a b x y Q r pa pb h
  unfold fAdd at h
  split at h
  · rename_i i j
    exact .inl ⟨i, j, po_int pa, po_int pb, h.pure r rv_int⟩
  · rename_i i j
    split at h
    · rename_i hl
      exact .inr (.inl ⟨i, j, po_str pa, po_str pb, by rw [sizeLine_eq]; exact hl, h.pure r rv_str⟩)
    · exact h.elim
  · exact .inr (.inr (snd_cat w a b x y Q r pa pb h))
theorem ne_cat : ∀ s x y k s', fCat s x y ≠ .exc k s' := by
  intro s x y k s'
  unfold fCat
  split
  · split <;> exact fun z => nomatch z
  · exact fun z => nomatch z
theorem ne_add : ∀ s x y k s', fAdd s x y ≠ .exc k s' := by
  intro s x y k s'
  unfold fAdd
  split
  · exact fun z => nomatch z
  · split <;> exact fun z => nomatch z
  · exact ne_cat _ _ _ _ _
theorem RvL.flat : ∀ {n : Nat} {xs : List D} {ys : List V}, RvL g w xs ys → RvL g w (List.replicate n xs).flatten (List.replicate n ys).flatten
  | 0, _, _, _ => by simp [RvL]
  | n + 1, xs, ys, h => by
    rw [List.replicate_succ, List.replicate_succ, List.flatten_cons, List.flatten_cons]
    exact h.app (RvL.flat h)
theorem snd_rep : Snd2 g fRep rRep := by
  intro w a b x y Q r pa pb h
  unfold fRep at h
  split at h
  · rename_i xs k ea
    split at h
    · rename_i hl
      obtain ⟨p, us, e1, e2, e3⟩ := drM_lst r pa ea
      refine ⟨p, k, us, e1, po_int pb, e2, by omega, by omega, ?_, fun l hl' => ?_⟩
      · rw [e3.length, sizeLine_eq]; exact hl.2.2
      · exact h { w with H := upd w.H l (.lst (List.replicate k.toNat us).flatten) } _ rfl rfl (new_ext hl') (Px.newL r hl' e3.flat)
    · exact h.elim
  · exact h.elim
theorem cMul_ok {i j : Int} (h : cMul i j = true) : CMul i j := by
  unfold cMul at h
  simp only [Bool.or_eq_true, Bool.and_eq_true, decide_eq_true_eq] at h
  unfold CMul
  omega
theorem snd_mul : Snd2 g fMul (fun x y H Q => rI CMul (fun i j => .int (i * j)) x y H Q ∨ rRep x y H Q) := by
  intro w a b x y Q r pa pb h
  unfold fMul at h
  split at h
  · rename_i i j
    split at h
    · rename_i hc
      exact .inl ⟨i, j, po_int pa, po_int pb, cMul_ok hc, h.pure r rv_int⟩
    · exact h.elim
  · exact .inr (snd_rep w a b x y Q r pa pb h)
theorem ne_mul : ∀ s x y k s', fMul s x y ≠ .exc k s' := by
  intro s x y k s'
  unfold fMul fRep
  split
  · split <;> exact fun z => nomatch z
  · split
    · split <;> exact fun z => nomatch z
    · exact fun z => nomatch z
theorem RvL.atI {xs : List D} {ys : List V} {i : Int} {d : D} (h : RvL g w xs ys) (e : L2.atI xs i = some d) : ∃ v, L2.atI ys i = some v ∧ Rv g w d v := by
  unfold L2.atI at *
  rw [h.length]
  cases q : ixN xs.length i with
  | none => rw [q] at e; cases e
  | some j =>
    rw [q] at e
    exact h.get e
theorem snd_ix : Snd2 g fIx (rIx g.K) := by
  intro w a b x y Q r pa pb h
  unfold fIx at h
  split at h
  · rename_i i
    split at h
    · rename_i xs
      split at h
      · rename_i d e
        have pa' : Rv g w (.tup xs) x := pa
        unfold Rv at pa'
        obtain ⟨p, ys, e1, e2, e3⟩ := pa'
        obtain ⟨v, k1, k2⟩ := e3.atI e
        exact .inr (.inl ⟨p, ys, i, v, e1, po_int pb, e2, k1, h.pure r k2⟩)
      · exact h.elim
    · split at h
      · rename_i xs ed
        split at h
        · rename_i d e
          obtain ⟨p, ys, e1, e2, e3⟩ := dr_lst r pa ed
          obtain ⟨v, k1, k2⟩ := e3.atI e
          exact .inl ⟨p, ys, i, v, e1, po_int pb, e2, k1, h.pure r k2⟩
        · exact h.elim
      · exact h.elim
  · exact h.elim
theorem ne_ix : ∀ s x y k s', fIx s x y ≠ .exc k s' := by
  intro s x y k s'
  unfold fIx
  repeat' split
  all_goals exact fun z => nomatch z
/-! ### == -/
theorem mapM_ok {f : D → Option PyData} {K : PySem.W.Frag} {H : Hp} (hf : ∀ (d : D) (v : V) (p : PyData), Rv g w d v → f d = some p → Dp K H v p) : ∀ (xs : List D) (ys : List V) (ps : List PyData), RvL g w xs ys → xs.mapM f = some ps → DpAll K H ys ps
  | [], ys, ps, h, e => by
    unfold RvL at h; subst h
    simp at e; subst e; exact .nil
  | d :: r, ys, ps, h, e => by
    unfold RvL at h
    obtain ⟨y, t, e1, h1, h2⟩ := h
    subst e1
    rw [List.mapM_cons] at e
    cases q : f d with
    | none => rw [q] at e; cases e
    | some p =>
      rw [q] at e
      cases q2 : r.mapM f with
      | none => rw [q2] at e; cases e
      | some ps' =>
        rw [q2] at e
        cases e
        exact .cons (hf d y p h1 q) (mapM_ok hf r t ps' h2 q2)
theorem mapM_dp {f : D → Option PyData} {n : Nat} (hf : ∀ (d : D) (p : PyData), f d = some p → p.depth ≤ n) : ∀ (xs : List D) (ps : List PyData), xs.mapM f = some ps → PyData.depthAll ps ≤ n
  | [], ps, e => by simp at e; subst e; simp [PyData.depthAll]
  | d :: r, ps, e => by
    rw [List.mapM_cons] at e
    cases q : f d with
    | none => rw [q] at e; cases e
    | some p =>
      rw [q] at e
      cases q2 : r.mapM f with
      | none => rw [q2] at e; cases e
      | some ps' =>
        rw [q2] at e
        cases e
        have h1 := hf d p q
        have h2 := mapM_dp hf r ps' q2
        simp only [PyData.depthAll]
        omega
theorem toPy_depth (s : Store) : ∀ (n : Nat) (d : D) (p : PyData), toPy s n d = some p → p.depth ≤ n
  | 0, _, _, e => by cases e
  | n + 1, d, p, e => by
    unfold toPy at e
    split at e
    · cases e; simp [PyData.depth]
    · cases e; simp [PyData.depth]
    · cases e; simp [PyData.depth]
    · cases e; simp [PyData.depth]
    · rename_i xs
      cases q : xs.mapM (toPy s n) with
      | none => rw [q] at e; cases e
      | some ps =>
        rw [q] at e; cases e
        have := mapM_dp (toPy_depth s n) xs ps q
        simp only [PyData.depth]; omega
    · split at e
      · rename_i xs _
        cases q : xs.mapM (toPy s n) with
        | none => rw [q] at e; cases e
        | some ps =>
          rw [q] at e; cases e
          have := mapM_dp (toPy_depth s n) xs ps q
          simp only [PyData.depth]; omega
      · cases e
theorem toPy_ok (r : Rst g w) : ∀ (n : Nat) (d : D) (v : V) (p : PyData), Po g w d v → toPy w.s n d = some p → Dp g.K w.H v p
  | 0, _, _, _, _, e => by cases e
  | n + 1, d, v, p, h, e => by
    have ih : ∀ (d : D) (v : V) (p : PyData), Rv g w d v → toPy w.s n d = some p → Dp g.K w.H v p := fun d v p h e => toPy_ok r n d v p h.po e
    unfold toPy at e
    split at e
    · have h : Rv g w .non v := h
      unfold Rv at h; subst h; cases e; exact .non
    · rename_i b
      have h : Rv g w (.bl b) v := h
      unfold Rv at h; subst h; cases e; exact .bl _
    · rename_i b
      have h : Rv g w (.int b) v := h
      unfold Rv at h; subst h; cases e; exact .int _
    · rename_i b
      have h : Rv g w (.str b) v := h
      unfold Rv at h; subst h; cases e; exact .str _
    · rename_i xs
      have h : Rv g w (.tup xs) v := h
      unfold Rv at h
      obtain ⟨q, ys, e1, e2, e3⟩ := h
      subst e1
      cases q2 : xs.mapM (toPy w.s n) with
      | none => rw [q2] at e; cases e
      | some ps => rw [q2] at e; cases e; exact .tup e2 (mapM_ok ih xs ys ps e3 q2)
    · split at e
      · rename_i xs ed
        obtain ⟨q, ys, e1, e2, e3⟩ := dr_lst r h ed
        subst e1
        cases q2 : xs.mapM (toPy w.s n) with
        | none => rw [q2] at e; cases e
        | some ps => rw [q2] at e; cases e; exact .lst e2 (mapM_ok ih xs ys ps e3 q2)
      · cases e
theorem shaped_of {s : Store} {d : D} {p : PyData} (e : toPy s 9 d = some p) (h : p.canLay0 = true) : SeqAt.shaped p = true := by
  unfold SeqAt.shaped
  have := toPy_depth s 9 d p e
  rw [h]
  simp only [Bool.true_and, decide_eq_true_eq]
  omega
theorem snd_eq : Snd2 g fEq (rEqD g.K) := by
  intro w a b x y Q r pa pb h
  unfold fEq at h
  split at h
  · rename_i d e ea eb
    split at h
    · rename_i hs
      exact ⟨d, e, toPy_ok r _ _ _ _ pa ea, toPy_ok r _ _ _ _ pb eb, shaped_of ea hs.1, shaped_of eb hs.2, h.pure r rv_bl⟩
    · exact h.elim
  · exact h.elim
theorem snd_ne : Snd2 g fNe (rNeD g.K) := by
  intro w a b x y Q r pa pb h
  unfold fNe at h
  split at h
  · rename_i d e ea eb
    split at h
    · rename_i hs
      exact ⟨d, e, toPy_ok r _ _ _ _ pa ea, toPy_ok r _ _ _ _ pb eb, shaped_of ea hs.1, shaped_of eb hs.2, h.pure r rv_bl⟩
    · exact h.elim
  · exact h.elim
theorem ne_eq : ∀ s x y k s', fEq s x y ≠ .exc k s' := by
  intro s x y k s'
  unfold fEq
  repeat' split
  all_goals exact fun z => nomatch z
theorem ne_ne : ∀ s x y k s', fNe s x y ≠ .exc k s' := by
  intro s x y k s'
  unfold fNe
  repeat' split
  all_goals exact fun z => nomatch z
/-! ### in -/
theorem flD_ok {d : D} {v x : V} (h : Po g w d v) (e : flD d = some x) : v = x ∧ flatV x = true := by
  cases d with
  | non => cases e; have h : Rv g w .non v := h; unfold Rv at h; exact ⟨h, rfl⟩
  | bl b => cases e; have h : Rv g w (.bl b) v := h; unfold Rv at h; exact ⟨h, rfl⟩
  | int b => cases e; have h : Rv g w (.int b) v := h; unfold Rv at h; exact ⟨h, rfl⟩
  | str b => cases e; have h : Rv g w (.str b) v := h; unfold Rv at h; exact ⟨h, rfl⟩
  | _ => cases e
theorem flL_ok : ∀ {xs : List D} {ys zs : List V}, RvL g w xs ys → xs.mapM flD = some zs → ys = zs ∧ zs.all flatV = true
  | [], ys, zs, h, e => by
    unfold RvL at h; subst h
    simp at e; subst e; exact ⟨rfl, rfl⟩
  | d :: r, ys, zs, h, e => by
    unfold RvL at h
    obtain ⟨y, t, e1, h1, h2⟩ := h
    subst e1
    rw [List.mapM_cons] at e
    cases q : flD d with
    | none => rw [q] at e; cases e
    | some p =>
      rw [q] at e
      cases q2 : r.mapM flD with
      | none => rw [q2] at e; cases e
      | some ps' =>
        rw [q2] at e
        cases e
        obtain ⟨a, b⟩ := flD_ok h1.po q
        obtain ⟨a2, b2⟩ := flL_ok h2 q2
        subst a; subst a2
        exact ⟨rfl, by simp [b, b2]⟩
theorem seqD_ok {d : D} {v : V} {xs : List D} (r : Rst g w) (h : Po g w d v) (e : seqD w.s d = some xs) : ∃ p ys, v = .ref p ∧ (SqL g.K w.H p ys ∨ SqT g.K w.H p ys) ∧ RvL g w xs ys := by
  unfold seqD at e
  split at e
  · rename_i zs
    cases e
    have h : Rv g w (.tup xs) v := h
    unfold Rv at h
    obtain ⟨q, ys, e1, e2, e3⟩ := h
    exact ⟨q, ys, e1, .inr e2, e3⟩
  · split at e
    · rename_i zs ed
      cases e
      obtain ⟨q, ys, e1, e2, e3⟩ := dr_lst r h ed
      exact ⟨q, ys, e1, .inl e2, e3⟩
    · cases e
theorem snd_in {neg : Bool} : Snd2 g (fIn neg) (rIn g.K neg) := by
  intro w a b x y Q r pa pb h
  unfold fIn at h
  split at h
  · rename_i u zs e1 e2
    cases q : seqD w.s b with
    | none => rw [q] at e2; cases e2
    | some ds =>
      rw [q] at e2
      obtain ⟨p, ys, k1, k2, k3⟩ := seqD_ok r pb q
      obtain ⟨a1, a2⟩ := flD_ok pa e1
      obtain ⟨b1, b2⟩ := flL_ok k3 e2
      subst a1; subst b1
      exact ⟨p, ys, k1, k2, a2, b2, h.pure r rv_bl⟩
  · exact h.elim
theorem ne_in {neg : Bool} : ∀ s x y k s', fIn neg s x y ≠ .exc k s' := by
  intro s x y k s'
  unfold fIn
  repeat' split
  all_goals exact fun z => nomatch z
theorem po_nn {d : D} {x : V} (h : Po g w d x) (hd : d ≠ .non) : x ≠ .non := by
  cases d with
  | non => exact absurd rfl hd
  | bl b => have h : Rv g w (.bl b) x := h; unfold Rv at h; subst h; exact fun z => nomatch z
  | int b => have h : Rv g w (.int b) x := h; unfold Rv at h; subst h; exact fun z => nomatch z
  | str b => have h : Rv g w (.str b) x := h; unfold Rv at h; subst h; exact fun z => nomatch z
  | tup b => have h : Rv g w (.tup b) x := h; unfold Rv at h; obtain ⟨p, _, rfl, _⟩ := h; exact fun z => nomatch z
  | lst b => have h : Rv g w (.lst b) x := h; unfold Rv at h; obtain ⟨p, _, rfl, _⟩ := h; exact fun z => nomatch z
  | scr b => have h : Rv g w (.scr b) x := h; unfold Rv at h; obtain ⟨p, rfl, _⟩ := h; exact fun z => nomatch z
  | dct b => have h : Rv g w (.dct b) x := h; unfold Rv at h; obtain ⟨p, _, rfl, _⟩ := h; exact fun z => nomatch z
  | ref b => have h : Rv g w (.ref b) x := h; unfold Rv at h; obtain ⟨p, rfl, _⟩ := h; exact fun z => nomatch z
  | own b => have h : Rv g w (.own b) x := h; unfold Rv at h; exact h.elim
  | bor b => obtain ⟨p, rfl, _⟩ := h; exact fun z => nomatch z
  | exn => obtain ⟨a, _, rfl⟩ := h; exact fun z => nomatch z
theorem po_non {x : V} (h : Po g w .non x) : x = .non := by
  have h : Rv g w .non x := h
  unfold Rv at h; exact h
theorem snd_isN : Snd2 g fIsN (fun x y H Q => y = .non ∧ Q (.bl (decide (x = .non))) H) := by
  intro w a b x y Q r pa pb h
  unfold fIsN at h
  split at h
  · refine ⟨po_non pb, ?_⟩
    split at h
    · rw [po_non pa]; exact h.pure r rv_bl
    · rw [decide_eq_false (po_nn pa fun z => nomatch z)]; exact h.pure r rv_bl
    · exact h.elim
    · rename_i n1 n2 n3
      rw [decide_eq_false (po_nn pa n1)]; exact h.pure r rv_bl
  · exact h.elim
theorem snd_notN : Snd2 g fNotN (fun x y H Q => y = .non ∧ Q (.bl (!decide (x = .non))) H) := by
  intro w a b x y Q r pa pb h
  unfold fNotN at h
  split at h
  · refine ⟨po_non pb, ?_⟩
    split at h
    · rw [po_non pa]; exact h.pure r rv_bl
    · rw [decide_eq_false (po_nn pa fun z => nomatch z)]; exact h.pure r rv_bl
    · exact h.elim
    · rename_i n1 n2 n3
      rw [decide_eq_false (po_nn pa n1)]; exact h.pure r rv_bl
  · exact h.elim
theorem ne_isN : ∀ s x y k s', fIsN s x y ≠ .exc k s' := by
  intro s x y k s'
  unfold fIsN
  repeat' split
  all_goals exact fun z => nomatch z
theorem ne_notN : ∀ s x y k s', fNotN s x y ≠ .exc k s' := by
  intro s x y k s'
  unfold fNotN
  repeat' split
  all_goals exact fun z => nomatch z
theorem snd_neg : Snd1 g fNeg (rU fun i => .int (-i)) := by
  intro w a x Q r pa h
  unfold fNeg at h
  split at h
  · rename_i i; exact ⟨i, po_int pa, h.pure r rv_int⟩
  · exact h.elim
theorem ne_neg : ∀ s x k s', fNeg s x ≠ .exc k s' := by
  intro s x k s'
  unfold fNeg
  split
  all_goals exact fun z => nomatch z
theorem snd_len : Snd1 g fLen (fun x H Q => ∃ z n, [x] = [z] ∧ LenV g.K z H n ∧ Q (.int n) H) := by
  intro w a x Q r pa h
  unfold fLen at h
  split at h
  · rename_i xs
    have pa' : Rv g w (.tup xs) x := pa
    unfold Rv at pa'
    obtain ⟨p, ys, e1, e2, e3⟩ := pa'
    subst e1
    exact ⟨_, xs.length, rfl, .inr ⟨ys, e2, e3.length.symm⟩, h.pure r rv_int⟩
  · rename_i z
    split at h
    · rename_i hl
      rw [po_str pa]
      exact ⟨_, z.length, rfl, ⟨by rw [sizeLine_eq]; exact hl, rfl⟩, h.pure r rv_int⟩
    · exact h.elim
  · split at h
    · rename_i xs ed
      obtain ⟨p, ys, e1, e2, e3⟩ := dr_lst r pa ed
      subst e1
      exact ⟨_, xs.length, rfl, .inl ⟨ys, e2, e3.length.symm⟩, h.pure r rv_int⟩
    · exact h.elim
theorem ne_len : ∀ s x k s', fLen s x ≠ .exc k s' := by
  intro s x k s'
  unfold fLen
  repeat' split
  all_goals exact fun z => nomatch z
end
end Gm

set_option Elab.async false
set_option linter.all false
set_option maxRecDepth 100000
set_option autoImplicit false
set_option maxHeartbeats 1000000
namespace Gm
open PySem PySem.Spec PyProof.Rows L2
/-! ### tests -/
def tq (e : Ex) : Tx := fun env s => match e env s with
  | .ok (.bl b) s' => .ok b s'
  | .ok _ _ => .no
  | .exc c s' => .exc c s'
  | .no => .no
def tNotX (t : Tx) : Tx := fun env s => match t env s with
  | .ok b s' => .ok (!b) s'
  | .exc c s' => .exc c s'
  | .no => .no
def tAndX (t u : Tx) : Tx := fun env s => match t env s with
  | .ok true s' => u env s'
  | .ok false s' => .ok false s'
  | .exc c s' => .exc c s'
  | .no => .no
def tOrX (t u : Tx) : Tx := fun env s => match t env s with
  | .ok true s' => .ok true s'
  | .ok false s' => u env s'
  | .exc c s' => .exc c s'
  | .no => .no
def eAnd (a b : Ex) : Ex := fun env s => match tq a env s with
  | .ok true s' => b env s'
  | .ok false s' => .ok (.bl false) s'
  | .exc c s' => .exc c s'
  | .no => .no
def eOr (a b : Ex) : Ex := fun env s => match tq a env s with
  | .ok true s' => .ok (.bl true) s'
  | .ok false s' => b env s'
  | .exc c s' => .exc c s'
  | .no => .no
def eNot (a : Ex) : Ex := fun env s => match tq a env s with
  | .ok b s' => .ok (.bl (!b)) s'
  | .exc c s' => .exc c s'
  | .no => .no
def eIf (t : Tx) (a b : Ex) : Ex := fun env s => match t env s with
  | .ok true s' => a env s'
  | .ok false s' => b env s'
  | .exc c s' => .exc c s'
  | .no => .no
/-! ### argument lists, displays -/
def snk : D → Option D
  | .own _ => none
  | .bor _ => none
  | .exn => none
  | d => some d
def aNil : Ax := fun _ s => .ok [] s
def aCons (e : Ex) (r : Ax) : Ax := fun env s => match e env s with
  | .ok x s1 => (match snk (fz x) with
    | some d => (match r env s1 with
      | .ok ds s2 => .ok (d :: ds) s2
      | .exc c s2 => .exc c s2
      | .no => .no)
    | none => .no)
  | .exc c s1 => .exc c s1
  | .no => .no
def eTup (a : Ax) : Ex := fun env s => match a env s with
  | .ok ds s' => if ds.length ≤ 16777216 then .ok (.tup ds) s' else .no
  | .exc c s' => .exc c s'
  | .no => .no
def eLst (a : Ax) : Ex := fun env s => match a env s with
  | .ok ds s' => if ds.length ≤ 16777216 then .ok (.own (.lst ds)) s' else .no
  | .exc c s' => .exc c s'
  | .no => .no
/-! ### slices -/
def cutD (xs : List D) (lo hi : Option Int) : List D := (xs.drop (HT.sIx xs.length 0 lo)).take (HT.sIx xs.length xs.length hi - HT.sIx xs.length 0 lo)
abbrev Ox := Env → Store → R (Option Int)
def oNo : Ox := fun _ s => .ok none s
def oSo (e : Ex) : Ox := fun env s => match e env s with
  | .ok (.int i) s' => .ok (some i) s'
  | .ok _ _ => .no
  | .exc c s' => .exc c s'
  | .no => .no
def fSl (s : Store) (a : D) (lo hi : Option Int) : R D := match dr s a with
  | some (.lst xs) => .ok (.own (.lst (cutD xs lo hi))) s
  | _ => .no
def eSl (a : Ex) (lo hi : Ox) : Ex := fun env s => match a env s with
  | .ok x s1 => (match lo env s1 with
    | .ok l s2 => (match hi env s2 with
      | .ok h s3 => fSl s3 (fz x) l h
      | .exc c s' => .exc c s'
      | .no => .no)
    | .exc c s' => .exc c s'
    | .no => .no)
  | .exc c s' => .exc c s'
  | .no => .no
/-! ### kinds -/
def tyD (s : Store) : D → Option String
  | .non => some "NoneType"
  | .bl _ => some "bool"
  | .int _ => some "int"
  | .str _ => some "str"
  | .tup _ => some "tuple"
  | d => (match dr s d with
    | some (.lst _) => some "list"
    | some (.dK _) => some "dict"
    | _ => none)
def fIsi (T : String) : Store → D → R D := fun s a => match tyD s a with
  | some t => (match kitB t T with
    | some b => .ok (.bl b) s
    | none => .no)
  | none => .no
section
variable {g : Gc} {w w' : Wd} {env : Env} {σ : Sl} {W : WX} {H : Hp} {a b : Ex} {Q : VK}
theorem Px.rst {H0 : Hp} {d : D} {v : V} (h : Px g H0 w d v) : Rst g w := h.fz.1
theorem tq_ok {Q : Bool → Hp → Prop} (h : tTe g W (tq a) σ H Q) : tEv g W a σ H fun x H1 => ∃ k, x = .bl k ∧ Q k H1 := by
  obtain ⟨w, env, rfl, re, h⟩ := h
  refine ⟨w, env, rfl, re, ?_⟩
  refine Post.step (m' := tq a env w.s) h (fun c s e => by simp only [tq, e]) (fun e => by simp only [tq, e]) fun x s1 w1 v ea hs1 ht1 e1 p1 => ?_
  cases x with
  | bl k =>
    simp only [tq, ea] at h
    obtain ⟨r1, q⟩ : Rst g w1 ∧ Rv g w1 (.bl k) v := p1
    unfold Rv at q
    exact ⟨k, q, h w1 k hs1 ht1 e1 ⟨r1, rfl⟩⟩
  | _ => simp only [tq, ea] at h; exact h.elim
theorem Pb.back {w1 w2 : Wd} {x y : Bool} {H1 H2 : Hp} (h : Pb g H1 w2 x y) : Pb g H2 w2 x y := h
theorem tNot_ok {t : Tx} {Q : Bool → Hp → Prop} (h : tTe g W (tNotX t) σ H Q) : tNot (tTe g W t) σ H Q := by
  obtain ⟨w, env, rfl, re, h⟩ := h
  refine ⟨w, env, rfl, re, ?_⟩
  refine Post.step (m' := tNotX t env w.s) h (fun c s e => by simp only [tNotX, e]) (fun e => by simp only [tNotX, e]) fun x s1 w1 v ea hs1 ht1 e1 p1 => ?_
  obtain ⟨r1, rfl⟩ := p1
  simp only [tNotX, ea] at h
  exact h w1 _ hs1 ht1 e1 ⟨r1, rfl⟩
theorem tAnd_ok {t u : Tx} {Q : Bool → Hp → Prop} (h : tTe g W (tAndX t u) σ H Q) : tAnd (tTe g W t) (tTe g W u) σ H Q := by
  obtain ⟨w, env, rfl, re, h⟩ := h
  refine ⟨w, env, rfl, re, ?_⟩
  refine Post.step (m' := tAndX t u env w.s) h (fun c s e => by simp only [tAndX, e]) (fun e => by simp only [tAndX, e]) fun x s1 w1 v ea hs1 ht1 e1 p1 => ?_
  obtain ⟨r1, rfl⟩ := p1
  cases x with
  | true =>
    simp only [tAndX, ea, ← hs1] at h
    exact iteT ⟨w1, env, rfl, re.next r1 e1 ht1, h.next e1 ht1 fun _ _ _ _ q => q⟩
  | false =>
    simp only [tAndX, ea] at h
    exact iteF (h w1 _ hs1 ht1 e1 ⟨r1, rfl⟩)
theorem tOr_ok {t u : Tx} {Q : Bool → Hp → Prop} (h : tTe g W (tOrX t u) σ H Q) : tOr (tTe g W t) (tTe g W u) σ H Q := by
  obtain ⟨w, env, rfl, re, h⟩ := h
  refine ⟨w, env, rfl, re, ?_⟩
  refine Post.step (m' := tOrX t u env w.s) h (fun c s e => by simp only [tOrX, e]) (fun e => by simp only [tOrX, e]) fun x s1 w1 v ea hs1 ht1 e1 p1 => ?_
  obtain ⟨r1, rfl⟩ := p1
  cases x with
  | false =>
    simp only [tOrX, ea, ← hs1] at h
    exact iteF ⟨w1, env, rfl, re.next r1 e1 ht1, h.next e1 ht1 fun _ _ _ _ q => q⟩
  | true =>
    simp only [tOrX, ea] at h
    exact iteT (h w1 _ hs1 ht1 e1 ⟨r1, rfl⟩)
theorem eAnd_ok (h : tEv g W (eAnd a b) σ H Q) : tAndV (tEv g W a) (tEv g W b) σ H Q := by
  obtain ⟨w, env, rfl, re, h⟩ := h
  have h2 : tEv g W a σ w.H fun x H1 => ∃ k, x = .bl k ∧ (if k = true then tEv g W b σ H1 Q else Q (.bl false) H1) := by
    refine tq_ok ⟨w, env, rfl, re, ?_⟩
    refine Post.step (m' := eAnd a b env w.s) h (fun c s e => by simp only [eAnd, e]) (fun e => by simp only [eAnd, e]) fun x s1 w1 v ea hs1 ht1 e1 p1 => ?_
    obtain ⟨r1, rfl⟩ := p1
    cases x with
    | true =>
      simp only [eAnd, ea, ← hs1] at h
      exact iteT ⟨w1, env, rfl, re.next r1 e1 ht1, h.next e1 ht1 fun _ _ _ _ q => q.back re.st r1 e1⟩
    | false =>
      simp only [eAnd, ea] at h
      exact iteF (h w1 _ hs1 ht1 e1 (.of r1 rv_bl))
  exact h2
theorem eOr_ok (h : tEv g W (eOr a b) σ H Q) : tOrV (tEv g W a) (tEv g W b) σ H Q := by
  obtain ⟨w, env, rfl, re, h⟩ := h
  have h2 : tEv g W a σ w.H fun x H1 => ∃ k, x = .bl k ∧ (if k = true then Q (.bl true) H1 else tEv g W b σ H1 Q) := by
    refine tq_ok ⟨w, env, rfl, re, ?_⟩
    refine Post.step (m' := eOr a b env w.s) h (fun c s e => by simp only [eOr, e]) (fun e => by simp only [eOr, e]) fun x s1 w1 v ea hs1 ht1 e1 p1 => ?_
    obtain ⟨r1, rfl⟩ := p1
    cases x with
    | false =>
      simp only [eOr, ea, ← hs1] at h
      exact iteF ⟨w1, env, rfl, re.next r1 e1 ht1, h.next e1 ht1 fun _ _ _ _ q => q.back re.st r1 e1⟩
    | true =>
      simp only [eOr, ea] at h
      exact iteT (h w1 _ hs1 ht1 e1 (.of r1 rv_bl))
  exact h2
theorem eNot_ok (h : tEv g W (eNot a) σ H Q) : tNotV (tEv g W a) σ H Q := by
  obtain ⟨w, env, rfl, re, h⟩ := h
  have h2 : tEv g W a σ w.H fun x H1 => ∃ k, x = .bl k ∧ Q (.bl (!k)) H1 := by
    refine tq_ok ⟨w, env, rfl, re, ?_⟩
    refine Post.step (m' := eNot a env w.s) h (fun c s e => by simp only [eNot, e]) (fun e => by simp only [eNot, e]) fun x s1 w1 v ea hs1 ht1 e1 p1 => ?_
    obtain ⟨r1, rfl⟩ := p1
    simp only [eNot, ea] at h
    exact h w1 _ hs1 ht1 e1 (.of r1 rv_bl)
  exact h2
theorem eIf_ok {t : Tx} (h : tEv g W (eIf t a b) σ H Q) : tIf (tTe g W t) (tEv g W a) (tEv g W b) σ H Q := by
  obtain ⟨w, env, rfl, re, h⟩ := h
  refine ⟨w, env, rfl, re, ?_⟩
  refine Post.step (m' := eIf t a b env w.s) h (fun c s e => by simp only [eIf, e]) (fun e => by simp only [eIf, e]) fun x s1 w1 v ea hs1 ht1 e1 p1 => ?_
  obtain ⟨r1, rfl⟩ := p1
  cases x with
  | true =>
    simp only [eIf, ea, ← hs1] at h
    exact iteT ⟨w1, env, rfl, re.next r1 e1 ht1, h.next e1 ht1 fun _ _ _ _ q => q.back re.st r1 e1⟩
  | false =>
    simp only [eIf, ea, ← hs1] at h
    exact iteF ⟨w1, env, rfl, re.next r1 e1 ht1, h.next e1 ht1 fun _ _ _ _ q => q.back re.st r1 e1⟩
theorem snk_ok {x d : D} {v : V} (h : Po g w (fz x) v) (e : snk (fz x) = some d) : Rv g w d v := by
  generalize fz x = y at h e
  cases y with
  | own o => cases e
  | bor o => cases e
  | exn => cases e
  | _ => cases e; exact h
theorem aNil_ok {Q : List V → Hp → Prop} (h : tAe g W aNil σ H Q) : tNil σ H Q := by
  obtain ⟨w, env, rfl, re, h⟩ := h
  exact h w [] rfl rfl Ext.refl ⟨re.st, by unfold RvL; rfl⟩
theorem aCons_ok {r : Ax} {Q : List V → Hp → Prop} (h : tAe g W (aCons a r) σ H Q) : tCons (tEv g W a) (tAe g W r) σ H Q := by
  obtain ⟨w, env, rfl, re, h⟩ := h
  refine ⟨w, env, rfl, re, ?_⟩
  refine Post.step (m' := aCons a r env w.s) h (fun c s e => by simp only [aCons, e]) (fun e => by simp only [aCons, e]) fun x s1 w1 v ea hs1 ht1 e1 p1 => ?_
  obtain ⟨r1, o1⟩ := p1.fz
  cases es : snk (fz x) with
  | none => simp only [aCons, ea, es] at h; exact h.elim
  | some d =>
    have rd := snk_ok o1 es
    refine ⟨w1, env, rfl, re.next r1 e1 ht1, ?_⟩
    refine Post.step (m' := aCons a r env w.s) (h.next e1 ht1 fun _ _ _ _ q => q) (fun c s e => by rw [hs1] at e; simp only [aCons, ea, es, e]) (fun e => by rw [hs1] at e; simp only [aCons, ea, es, e]) fun ds s2 w2 vs eb hs2 ht2 e2 p2 => ?_
    obtain ⟨r2, q2⟩ := p2
    rw [hs1] at eb
    simp only [aCons, ea, es, eb] at h
    refine h w2 (v :: vs) hs2 (ht2.trans ht1) (e1.trans e2) ⟨r2, ?_⟩
    unfold RvL
    exact ⟨v, vs, rfl, Rv.mono (Cy.of r1 e2 ht2) _ _ rd, q2⟩
theorem eTup_ok {r : Ax} (h : tEv g W (eTup r) σ H Q) : tTup (tAe g W r) σ H Q := by
  obtain ⟨w, env, rfl, re, h⟩ := h
  refine ⟨w, env, rfl, re, ?_⟩
  refine Post.step (m' := eTup r env w.s) h (fun c s e => by simp only [eTup, e]) (fun e => by simp only [eTup, e]) fun ds s1 w1 vs ea hs1 ht1 e1 p1 => ?_
  obtain ⟨r1, q1⟩ := p1
  simp only [eTup, ea] at h
  split at h
  · rename_i hl
    refine ⟨by rw [q1.length, sizeLine_eq]; exact hl, fun p hp => ?_⟩
    exact h { w1 with H := upd w1.H p (.tup vs) } _ hs1 ht1 (e1.trans (new_ext hp)) ((Px.newT r1 hp q1).back re.st r1 e1)
  · exact h.elim
theorem eLst_ok {r : Ax} (h : tEv g W (eLst r) σ H Q) : tLst (tAe g W r) σ H Q := by
  obtain ⟨w, env, rfl, re, h⟩ := h
  refine ⟨w, env, rfl, re, ?_⟩
  refine Post.step (m' := eLst r env w.s) h (fun c s e => by simp only [eLst, e]) (fun e => by simp only [eLst, e]) fun ds s1 w1 vs ea hs1 ht1 e1 p1 => ?_
  obtain ⟨r1, q1⟩ := p1
  simp only [eLst, ea] at h
  split at h
  · rename_i hl
    refine ⟨by rw [q1.length, sizeLine_eq]; exact hl, fun p hp => ?_⟩
    exact h { w1 with H := upd w1.H p (.lst vs) } _ hs1 ht1 (e1.trans (new_ext hp)) ((Px.newL r1 hp q1).back re.st r1 e1)
  · exact h.elim
/-! slices -/
def Pp (_ : Hp) (w : Wd) (a b : Option Int) : Prop := Rst g w ∧ a = b
def tOe (g : Gc) (W : WX) (e : Ox) : TO := fun σ H Q => ∃ (w : Wd) (env : Env), w.H = H ∧ Re g w env σ ∧ Post g (Pp (g := g)) W w σ Q (e env w.s)
theorem oNo_ok {Q : Option Int → Hp → Prop} (h : tOe g W oNo σ H Q) : tNoPart σ H Q := by
  obtain ⟨w, env, rfl, re, h⟩ := h
  exact h w none rfl rfl Ext.refl ⟨re.st, rfl⟩
theorem oSo_ok {Q : Option Int → Hp → Prop} (h : tOe g W (oSo a) σ H Q) : tPart (tEv g W a) σ H Q := by
  obtain ⟨w, env, rfl, re, h⟩ := h
  refine ⟨w, env, rfl, re, ?_⟩
  refine Post.step (m' := oSo a env w.s) h (fun c s e => by simp only [oSo, e]) (fun e => by simp only [oSo, e]) fun x s1 w1 v ea hs1 ht1 e1 p1 => ?_
  cases x with
  | int k =>
    simp only [oSo, ea] at h
    obtain ⟨r1, q⟩ : Rst g w1 ∧ Rv g w1 (.int k) v := p1
    unfold Rv at q
    exact ⟨k, q, h w1 _ hs1 ht1 e1 ⟨r1, rfl⟩⟩
  | _ => simp only [oSo, ea] at h; exact h.elim
theorem RvL.cut {xs : List D} {ys : List V} (h : RvL g w xs ys) (lo hi : Option Int) : RvL g w (cutD xs lo hi) (cutV ys lo hi) := by
  unfold cutD cutV
  rw [h.length]
  exact (h.drop _).take _
theorem eSl_ok {lo hi : Ox} (h : tEv g W (eSl a lo hi) σ H Q) : tSl (rSlL g.K) (tEv g W a) (tOe g W lo) (tOe g W hi) σ H Q := by
  obtain ⟨w, env, rfl, re, h⟩ := h
  refine ⟨w, env, rfl, re, ?_⟩
  refine Post.step (m' := eSl a lo hi env w.s) h (fun c s e => by simp only [eSl, e]) (fun e => by simp only [eSl, e]) fun x s1 w1 v ea hs1 ht1 e1 p1 => ?_
  obtain ⟨r1, o1⟩ := p1.fz
  refine ⟨w1, env, rfl, re.next r1 e1 ht1, ?_⟩
  refine Post.step (m' := eSl a lo hi env w.s) (h.next e1 ht1 fun _ _ _ _ q => q.back re.st r1 e1) (fun c s e => by rw [hs1] at e; simp only [eSl, ea, e]) (fun e => by rw [hs1] at e; simp only [eSl, ea, e]) fun l s2 w2 l' eb hs2 ht2 e2 p2 => ?_
  obtain ⟨r2, rfl⟩ := p2
  rw [hs1] at eb
  refine ⟨w2, env, rfl, (re.next r1 e1 ht1).next r2 e2 ht2, ?_⟩
  have h2 := (h.next e1 ht1 fun _ _ _ _ q => q.back re.st r1 e1)
  refine Post.step (m' := eSl a lo hi env w.s) (h2.next e2 ht2 fun _ _ _ _ q => q.back r1 r2 e2) (fun c s e => by rw [hs2] at e; simp only [eSl, ea, eb, e]) (fun e => by rw [hs2] at e; simp only [eSl, ea, eb, e]) fun u s3 w3 u' ec hs3 ht3 e3 p3 => ?_
  obtain ⟨r3, rfl⟩ := p3
  rw [hs2] at ec
  have o3 := (o1.mono (Cy.of r1 e2 ht2)).mono (Cy.of r2 e3 ht3)
  have e13 := (e1.trans e2).trans e3
  simp only [eSl, ea, eb, ec, ← hs3, fSl] at h
  split at h
  · rename_i xs ed
    obtain ⟨p, ys, k1, k2, k3⟩ := dr_lst r3 o3 ed
    exact ⟨p, ys, k1, k2, fun q hq => h { w3 with H := upd w3.H q (.lst (cutV ys l u)) } _ rfl (ht3.trans (ht2.trans ht1)) (e13.trans (new_ext hq)) ((Px.newL r3 hq (k3.cut l u)).back re.st r3 e13)⟩
  · exact h.elim
/-! kinds -/
theorem tyD_ok {d : D} {v : V} {t : String} (r : Rst g w) (h : Po g w d v) (e : tyD w.s d = some t) : TyX g.K w.H v (.type t) := by
  unfold tyD at e
  split at e
  · cases e; rw [po_non h]; exact .base .non
  · rename_i b; cases e
    have h : Rv g w (.bl b) v := h
    unfold Rv at h; subst h; exact .base (.bl _)
  · cases e; rw [po_int h]; exact .base (.int _)
  · cases e; rw [po_str h]; exact .base (.str _)
  · rename_i xs; cases e
    have h : Rv g w (.tup xs) v := h
    unfold Rv at h
    obtain ⟨p, ys, rfl, q, _⟩ := h
    rcases q with (q | ⟨o, q⟩) | ⟨o, its, n, q1, q2, _⟩
    · exact .base (.tup q)
    · exact .fTuple q
    · exact .kTuple q1 q2
  · split at e
    · rename_i xs ed
      cases e
      obtain ⟨p, ys, rfl, q, _⟩ := dr_lst r h ed
      rcases q with (q | ⟨o, q⟩) | ⟨o, its, n, q1, q2, _⟩
      · exact .base (.lst q)
      · exact .base (.frz q)
      · exact .kList q1 q2
    · rename_i xs ed
      cases e
      obtain ⟨p, rfl, ys, q, _⟩ := dr_ok r h ed
      exact .base (.dK q)
    · cases e
theorem snd_isi {T : String} : Snd1 g (fIsi T) (fun x H Q => rIsi g.K [x, .ty T] H Q) := by
  intro w a x Q r pa h
  unfold fIsi at h
  split at h
  · rename_i t et
    split at h
    · rename_i b eb
      exact ⟨x, .ty T, .type t, .type T, b, rfl, .ty T, tyD_ok r pa et, kit_ty eb, h.pure r rv_bl⟩
    · exact h.elim
  · exact h.elim
theorem ne_isi {T : String} : ∀ s x k s', fIsi T s x ≠ .exc k s' := by
  intro s x k s'
  unfold fIsi
  repeat' split
  all_goals exact fun z => nomatch z
end
/-! ### the derivations -/
section
variable {X : Cx} {A : Ga} {W : WX} {a b c : Expr} {ma mb : Ex} {mt mu : Tx} {pos : Pos} {rest : List Expr}
abbrev ME (X : Cx) (A : Ga) (W : WX) (e : Expr) (m : Ex) : Prop := PE X e (tEv (gx X A) W m)
abbrev MT (X : Cx) (A : Ga) (W : WX) (e : Expr) (m : Tx) : Prop := PT X e (tTe (gx X A) W m)
abbrev MW (X : Cx) (A : Ga) (W : WX) (e : Expr) (m : Tx) : Prop := PW X e (tTe (gx X A) W m)
abbrev MA (X : Cx) (A : Ga) (W : WX) (es : List Expr) (m : Ax) : Prop := PA X es (tAe (gx X A) W m)
abbrev MO (X : Cx) (A : Ga) (W : WX) (e : Option Expr) (m : Ox) : Prop := PO X e (tOe (gx X A) W m)
theorem mt_val (h : ME X A W a ma) (he : ∀ whole, isTrue a X.env whole = (do let v ← whole; standAt a.pos; holding [v] (truthy v)) := by intro _; rfl) : MT X A W a (tq ma) :=
  ptW (pt_val h he) fun _ _ _ h => tq_ok h
theorem mt_cmp {op : CmpOp} {f : Store → D → D → R D} {r : R2} (ho : OpR X (compareOp op) r) (hf : Snd2 (gx X A) f r) (hne : ∀ s x y c s', f s x y ≠ .exc c s') (hm : behindInMarks op b = false) (ha : ME X A W a ma) (hb : ME X A W b mb) :
    MT X A W (.Compare a [op] [b] pos) (tq (eOp2 f ma mb)) := ptW (pt_cmpR ho ha hb hm) fun _ _ _ h => tOp_snd hf hne (tq_ok h)
theorem mt_not (h : MT X A W a mt) : MT X A W (.UnaryOp .Not a pos) (tNotX mt) := ptW (pt_not h) fun _ _ _ h => tNot_ok h
theorem mw_and1 (h : MT X A W a mt) : MW X A W (.BoolOp .And [a] pos) mt := pw_and1 h
theorem mw_or1 (h : MT X A W a mt) : MW X A W (.BoolOp .Or [a] pos) mt := pw_or1 h
theorem mw_and (h : MT X A W a mt) (k : MW X A W (.BoolOp .And (b :: rest) pos) mu) : MW X A W (.BoolOp .And (a :: b :: rest) pos) (tAndX mt mu) := pwW (pw_and h k) fun _ _ _ h => tAnd_ok h
theorem mw_or (h : MT X A W a mt) (k : MW X A W (.BoolOp .Or (b :: rest) pos) mu) : MW X A W (.BoolOp .Or (a :: b :: rest) pos) (tOrX mt mu) := pwW (pw_or h k) fun _ _ _ h => tOr_ok h
theorem mw_pt (h : MW X A W a mt) : MT X A W a mt := h.pt
theorem me_one {op} (h : ME X A W a ma) : ME X A W (.BoolOp op [a] pos) ma := pe_one h
theorem me_and (h : ME X A W a ma) (k : ME X A W (.BoolOp .And (b :: rest) pos) mb) : ME X A W (.BoolOp .And (a :: b :: rest) pos) (eAnd ma mb) := peW (pe_and h k) fun _ _ _ h => eAnd_ok h
theorem me_or (h : ME X A W a ma) (k : ME X A W (.BoolOp .Or (b :: rest) pos) mb) : ME X A W (.BoolOp .Or (a :: b :: rest) pos) (eOr ma mb) := peW (pe_or h k) fun _ _ _ h => eOr_ok h
theorem me_not (h : ME X A W a ma) : ME X A W (.UnaryOp .Not a pos) (eNot ma) := peW (pe_not h) fun _ _ _ h => eNot_ok h
theorem me_if (h : MT X A W c mt) (ha : ME X A W a ma) (hb : ME X A W b mb) : ME X A W (.IfExp c a b pos) (eIf mt ma mb) := peW (pe_ifExp h ha hb) fun _ _ _ h => eIf_ok h
theorem ma_nil : MA X A W [] aNil := paW pa_nil fun _ _ _ h => aNil_ok h
theorem ma_cons {es : List Expr} {mr : Ax} (h : ME X A W a ma) (k : MA X A W es mr) (hs : starEach (a :: es) X.env = (false, eval a X.env) :: starEach es X.env := by rfl) : MA X A W (a :: es) (aCons ma mr) := paW (pa_cons h k hs) fun _ _ _ h => aCons_ok h
theorem me_tup {es : List Expr} {mr : Ax} {x1} (h : MA X A W es mr) : ME X A W (.Tuple es x1 pos) (eTup mr) := peW (pe_tup h) fun _ _ _ h => eTup_ok h
theorem me_lst {es : List Expr} {mr : Ax} (h : MA X A W es mr) : ME X A W (.List es pos) (eLst mr) := peW (pe_lst h) fun _ _ _ h => eLst_ok h
theorem mo_no : MO X A W none oNo := ⟨fun pins s σ H Q I h => po_none.run pins s σ H Q I (oNo_ok h)⟩
theorem mo_so (h : ME X A W a ma) : MO X A W (some a) (oSo ma) := ⟨fun pins s σ H Q I q => (po_some h).run pins s σ H Q I (oSo_ok q)⟩
theorem me_sl {lo hi : Option Expr} {ml mh : Ox} {p2 : Pos} (h : ME X A W a ma) (hl : MO X A W lo ml) (hh : MO X A W hi mh) : ME X A W (.Subscript a (.Slice lo hi none p2) pos) (eSl ma ml mh) := peW (pe_slice sl_list h hl hh) fun _ _ _ h => eSl_ok h
theorem me_call1 {id : String} {x : Str} {p : Pos} {f : Store → D → R D} {r : List V → Hp → VK → Prop} (hc : CallR X (.builtin id) r) (hf : Snd1 (gx X A) f fun x H Q => r [x] H Q) (hne : ∀ s x c s', f s x ≠ .exc c s') (hg : Gl X x) (hm : X.mg x = none) (hv : bootBuiltins x = some (.builtin id)) (h : ME X A W a ma)
    (hn : x ≠ "__name__" := by decide) (hdb : (x == ("__debug__" : Str)) = false := by decide) (hs : starEach [a] X.env = (false, eval a X.env) :: starEach [] X.env := by rfl) (hpl : (backTo pos (starEach [] X.env)).any (·.1) = false := by rfl) : ME X A W (.Call (.Name x p) [a] [] pos) (eOp1 f ma) :=
  peW (pe_callB hc hg hm hv (pa_cons h pa_nil hs) hn hdb hs hpl) fun _ _ _ h => tUn_snd hf hne h
theorem me_callT1 {T : String} {x : Str} {p : Pos} {f : Store → D → R D} {r : List V → Hp → VK → Prop} (hc : CallR X (.type T) r) (hf : Snd1 (gx X A) f fun x H Q => r [x] H Q) (hne : ∀ s x c s', f s x ≠ .exc c s') (hg : Gl X x) (hm : X.mg x = none) (hv : bootBuiltins x = some (.type T)) (h : ME X A W a ma)
    (hn : x ≠ "__name__" := by decide) (hdb : (x == ("__debug__" : Str)) = false := by decide) (hs : starEach [a] X.env = (false, eval a X.env) :: starEach [] X.env := by rfl) (hpl : (backTo pos (starEach [] X.env)).any (·.1) = false := by rfl) : ME X A W (.Call (.Name x p) [a] [] pos) (eOp1 f ma) :=
  peW (pe_callTy hc hg hm hv (pa_cons h pa_nil hs) hn hdb hs hpl) fun _ _ _ h => tUn_snd hf hne h
theorem me_call2 {id : String} {x : Str} {p : Pos} {f : Store → D → D → R D} {r : List V → Hp → VK → Prop} (hc : CallR X (.builtin id) r) (hf : Snd2 (gx X A) f fun x y H Q => r [x, y] H Q) (hne : ∀ s x y c s', f s x y ≠ .exc c s') (hg : Gl X x) (hm : X.mg x = none) (hv : bootBuiltins x = some (.builtin id)) (ha : ME X A W a ma) (hb : ME X A W b mb)
    (hn : x ≠ "__name__" := by decide) (hdb : (x == ("__debug__" : Str)) = false := by decide) (hs : starEach [a, b] X.env = (false, eval a X.env) :: starEach [b] X.env := by rfl) (hs2 : starEach [b] X.env = (false, eval b X.env) :: starEach [] X.env := by rfl) (hpl : (backTo pos (starEach [b] X.env)).any (·.1) = false := by rfl) : ME X A W (.Call (.Name x p) [a, b] [] pos) (eOp2 f ma mb) :=
  peW (pe_callB hc hg hm hv (pa_cons ha (pa_cons hb pa_nil hs2) hs) hn hdb hs hpl) fun _ _ _ h => tOp_snd hf hne h
/-- isinstance(e, T), T a built-in class -/
theorem me_isi {T : String} {y : Str} {p p2 : Pos} (hg : Gl X "isinstance") (hm : X.mg "isinstance" = none) (hg2 : Gl X y) (hm2 : X.mg y = none) (hv2 : bootBuiltins y = some (.type T)) (h : ME X A W a ma) (hn2 : y ≠ "__name__" := by decide) (hdb2 : (y == ("__debug__" : Str)) = false := by decide)
    (hs : starEach [a, .Name y p2] X.env = (false, eval a X.env) :: starEach [.Name y p2] X.env := by rfl) (hs2 : starEach [.Name y p2] X.env = (false, eval (.Name y p2) X.env) :: starEach [] X.env := by rfl) (hpl : (backTo pos (starEach [.Name y p2] X.env)).any (·.1) = false := by rfl) :
    ME X A W (.Call (.Name "isinstance" p) [a, .Name y p2] [] pos) (eOp1 (fIsi T) ma) :=
  peW (pe_callB call_isi hg hm (by decide +kernel) (pa_cons h (pa_cons (pe_bltn (v := .ty T) hg2 hm2 hv2 rfl hn2 hdb2) pa_nil hs2) hs) (by decide) (by decide) hs hpl) fun _ _ _ h => tUn_snd snd_isi ne_isi h
end
end Gm

set_option Elab.async false
set_option linter.all false
set_option maxRecDepth 100000
set_option autoImplicit false
set_option maxHeartbeats 1000000
namespace Gm
open PySem PySem.Spec PyProof.Rows L2
/-! ### the frame's own lists -/
def OwnAt (env : Env) (σ : Sl) (i : Nat) (p : Addr) : Prop := ∃ o, env[i]? = some (some (.own o)) ∧ σ[i]? = some (some (.ref p))
def owns (env : Env) (σ : Sl) : List Addr := (List.range env.length).filterMap fun (i : Nat) => match (env[i]? : Option (Option D)), (σ[i]? : Option (Option V)) with
  | some (some (D.own _)), some (some (V.ref p)) => some p
  | _, _ => none
theorem mem_owns {env : Env} {σ : Sl} {p : Addr} : p ∈ owns env σ ↔ ∃ i, OwnAt env σ i p := by
  unfold owns
  rw [List.mem_filterMap]
  constructor
  · rintro ⟨i, _, e⟩
    refine ⟨i, ?_⟩
    split at e
    · rename_i o q a b
      cases e
      exact ⟨o, a, b⟩
    · cases e
  · rintro ⟨i, o, a, b⟩
    refine ⟨i, List.mem_range.mpr ?_, ?_⟩
    · exact (List.getElem?_eq_some_iff.mp a).1
    · rw [a, b]
structure Rm (g : Gc) (tb : List Addr) (w : Wd) (env : Env) (σ : Sl) : Prop where
  re : Re g w env σ
  T : ∀ p, p ∈ w.T ↔ p ∈ owns env σ ∨ p ∈ tb
  inj : ∀ i j p, OwnAt env σ i p → OwnAt env σ j p → i = j
  dj : ∀ p ∈ owns env σ, p ∉ tb
structure Xs (w : Wd) (env : Env) (σ : Sl) (w' : Wd) (env' : Env) (σ' : Sl) : Prop where
  e : Ext (owns env σ) w w'
  ow : ∀ p ∈ owns env' σ', p ∈ owns env σ ∨ w.H p = none
/-- what is handed back -/
def Pt (g : Gc) (ow : List Addr) (H0 : Hp) (w : Wd) : D → V → Prop
  | .own o, v => ∃ p, v = .ref p ∧ (H0 p = none ∨ p ∈ ow) ∧ p ∉ w.T ∧ Fzo o ∧ Rst g { w with T := p :: w.T } ∧ Ro g { w with T := p :: w.T } p o
  | d, v => Rst g w ∧ Rv g w d v
def PostS (g : Gc) (tb : List Addr) (W : WX) (w : Wd) (env : Env) (σ : Sl) (Dn : Ends) : SR → Prop
  | .nx env' s' => ∀ (w' : Wd) (σ' : Sl), w'.s = s' → Rm g tb w' env' σ' → Xs w env σ w' env' σ' → Dn.nx σ' w'.H
  | .bk env' s' => ∀ (w' : Wd) (σ' : Sl), w'.s = s' → Rm g tb w' env' σ' → Xs w env σ w' env' σ' → Dn.bk σ' w'.H
  | .ct env' s' => ∀ (w' : Wd) (σ' : Sl), w'.s = s' → Rm g tb w' env' σ' → Xs w env σ w' env' σ' → Dn.ct σ' w'.H
  | .exc c env' s' => ∀ (w' : Wd) (σ' : Sl), w'.s = s' → Rm g tb w' env' σ' → Xs w env σ w' env' σ' → W (.ref (g.A c)) none σ' w'.H
  | .rt d s' => ∀ (w' : Wd) (v : V), w'.s = s' → w'.T = tb → Ext (owns env σ) w w' → Pt g (owns env σ) w.H w' d v → Dn.rt v w'.H
  | .no => False
def tSt (g : Gc) (W : WX) (m : Sx) : TS := fun Dn σ H => ∃ (w : Wd) (env : Env) (tb : List Addr), w.H = H ∧ Rm g tb w env σ ∧ PostS g tb W w env σ Dn (m env w.s)
section
variable {g : Gc} {tb : List Addr} {w w' w1 w2 w3 : Wd} {env env1 env2 : Env} {σ σ1 σ2 : Sl} {W : WX} {Dn : Ends}
theorem Ro.mut {p : Addr} {o : O} (f : Fzo o) (h : Ro g w p o) : Mut (w.H p) := by
  cases o with
  | lst xs => obtain ⟨ys, e, _⟩ := h; rw [e]; trivial
  | dK xs => obtain ⟨ys, e, _⟩ := h; rw [e]; trivial
  | ins c xs => exact f.elim
  | dead => exact f.elim
theorem Rm.own (r : Rm g tb w env σ) {p : Addr} (h : p ∈ owns env σ) : Mut (w.H p) ∧ p ∈ w.T := by
  obtain ⟨i, o, a, b⟩ := mem_owns.mp h
  obtain ⟨v, e, s⟩ := r.re.sl i _ a
  rw [b] at e
  cases e
  obtain ⟨q, e1, fo, ro, nm, t⟩ := s
  cases e1
  exact ⟨ro.mut fo, t⟩
theorem Xs.refl : Xs w env σ w env σ := ⟨Ext.refl, fun _ h => .inl h⟩
theorem Ext.toS {ex : List Addr} (e : Ext [] w w') : Ext ex w w' :=
  ⟨e.pre, fun p o h n _ => e.keep p o h n (by simp), fun p l => (e.new p l).imp id (Or.imp id fun z => nomatch z), fun p l => (e.nm p l).imp id (Or.imp id fun z => nomatch z)⟩
theorem Ext.transS {x1 x2 : List Addr} (a : Ext x1 w1 w2) (b : Ext x2 w2 w3) (hx : ∀ p ∈ x2, p ∈ x1 ∨ w1.H p = Option.none) : Ext x1 w1 w3 := by
  have bk : ∀ p, w2.H p = Option.none → w1.Live p ∨ w1.H p = Option.none ∨ p ∈ x1 := fun p l => by
    by_cases q : w1.Live p
    · exact .inl q
    · by_cases q2 : p ∈ x1
      · exact .inr (.inr q2)
      · refine .inr (.inl ?_)
        cases e : w1.H p with
        | none => rfl
        | some o => rw [a.keep p o e q q2] at l; cases l
  refine ⟨?_, fun p o h nl nx => ?_, fun p l => ?_, fun p l => ?_⟩
  · obtain ⟨t, e⟩ := a.pre
    obtain ⟨u, f⟩ := b.pre
    exact ⟨t ++ u, by rw [f, e, List.append_assoc]⟩
  · have h1 := a.keep p o h nl nx
    refine b.keep p o h1 (fun l => ?_) (fun l => ?_)
    · rcases a.new p l with l | l | l
      · exact nl l
      · rw [h] at l; cases l
      · exact nx l
    · rcases hx p l with l | l
      · exact nx l
      · rw [h] at l; cases l
  · rcases b.new p l with l | l | l
    · exact a.new p l
    · rcases bk p l with q | q | q
      · exact .inl q
      · exact .inr (.inl q)
      · exact .inr (.inr q)
    · rcases hx p l with l | l
      · exact .inr (.inr l)
      · exact .inr (.inl l)
  · rcases b.nm p l with l | l | l
    · exact a.nm p l
    · rcases bk p l with q | q | q
      · exact .inl q.mem
      · exact .inr (.inl q)
      · exact .inr (.inr q)
    · rcases hx p l with l | l
      · exact .inr (.inr l)
      · exact .inr (.inl l)
theorem backS (r : Rm g tb w env σ) (r' : Rst g w') (e : Ext (owns env σ) w w') {p : Addr} (h : w'.H p = Option.none) : w.H p = Option.none ∨ p ∈ owns env σ := by
  by_cases q2 : p ∈ owns env σ
  · exact .inr q2
  · refine .inl ?_
    cases q : w.H p with
    | none => rfl
    | some o =>
      by_cases l : w.Live p
      · have hm : p ∈ w'.m := by
          obtain ⟨t, q⟩ := e.pre
          rw [q]; exact List.mem_append_left _ l.mem
        obtain ⟨u, z⟩ := r'.trk hm
        rw [h] at z; cases z
      · have := e.keep p o q l q2
        rw [h] at this; cases this
theorem Xs.trans (r : Rm g tb w1 env σ) (r' : Rst g w2) (a : Xs w1 env σ w2 env1 σ1) (b : Xs w2 env1 σ1 w3 env2 σ2) : Xs w1 env σ w3 env2 σ2 := by
  refine ⟨a.e.transS b.e a.ow, fun p h => ?_⟩
  rcases b.ow p h with l | l
  · exact a.ow p l
  · rcases backS r r' a.e l with q | q
    · exact .inr q
    · exact .inl q
theorem Pt.imp {ow1 ow2 : List Addr} {H1 H2 : Hp} {d : D} {v : V} (h : Pt g ow1 H1 w d v) (k : ∀ p, (H1 p = Option.none ∨ p ∈ ow1) → H2 p = Option.none ∨ p ∈ ow2) : Pt g ow2 H2 w d v := by
  cases d with
  | own o => obtain ⟨p, a, b, c⟩ := h; exact ⟨p, a, k p b, c⟩
  | _ => exact h
theorem Pt.of {ow : List Addr} {H0 : Hp} {d : D} {v : V} (r : Rst g w) (h : Rv g w d v) : Pt g ow H0 w d v := by
  cases d with
  | own o => unfold Rv at h; exact h.elim
  | _ => exact ⟨r, h⟩
/-- behind a first statement -/
theorem PostS.next {m : SR} (r : Rm g tb w env σ) (r' : Rst g w1) (a : Xs w env σ w1 env1 σ1) (h : PostS g tb W w env σ Dn m) : PostS g tb W w1 env1 σ1 Dn m := by
  cases m with
  | nx e s => exact fun w' σ' h1 h2 h3 => h w' σ' h1 h2 (a.trans r r' h3)
  | bk e s => exact fun w' σ' h1 h2 h3 => h w' σ' h1 h2 (a.trans r r' h3)
  | ct e s => exact fun w' σ' h1 h2 h3 => h w' σ' h1 h2 (a.trans r r' h3)
  | exc c e s => exact fun w' σ' h1 h2 h3 => h w' σ' h1 h2 (a.trans r r' h3)
  | rt d s => exact fun w' v h1 h2 h3 h4 => h w' v h1 h2 (a.e.transS h3 a.ow) (h4.imp fun p z => by
      rcases z with z | z
      · exact backS r r' a.e z
      · rcases a.ow p z with q | q
        · exact .inr q
        · exact .inl q)
  | no => exact h
/-- behind an expression of a statement -/
theorem Rm.ev (r : Rm g tb w env σ) (r' : Rst g w') (e : Ext [] w w') (t : w'.T = w.T) : Rm g tb w' env σ :=
  ⟨r.re.next r' e t, fun p => by rw [t]; exact r.T p, r.inj, r.dj⟩
theorem Xs.ev (e : Ext [] w w') : Xs w env σ w' env σ := ⟨e.toS, fun _ h => .inl h⟩
/-- an expression's run within a statement -/
theorem ev_in {e : Ex} {Q : VK} {m : SR} (r : Rm g tb w env σ) (h : PostS g tb W w env σ Dn m) (he : ∀ c s, e env w.s = .exc c s → m = .exc c env s) (hn : e env w.s = .no → m = .no)
    (hk : ∀ (d : D) (s' : Store) (w' : Wd) (v : V), e env w.s = .ok d s' → w'.s = s' → w'.T = w.T → Ext [] w w' → Px g w.H w' d v → Q v w'.H) : tEv g W e σ w.H Q := by
  refine ⟨w, env, rfl, r.re, ?_⟩
  cases q : e env w.s with
  | ok d s' => exact fun w' v h1 h2 h3 h4 => hk d s' w' v q h1 h2 h3 h4
  | exc c s' =>
    rw [he c s' q] at h
    exact fun w' h1 h2 h3 h4 => h w' σ h1 (r.ev h4 h3 h2) (Xs.ev h3)
  | no => rw [hn q] at h; exact h
theorem ev_inT {e : Tx} {Q : Bool → Hp → Prop} {m : SR} (r : Rm g tb w env σ) (h : PostS g tb W w env σ Dn m) (he : ∀ c s, e env w.s = .exc c s → m = .exc c env s) (hn : e env w.s = .no → m = .no)
    (hk : ∀ (d : Bool) (s' : Store) (w' : Wd), e env w.s = .ok d s' → w'.s = s' → w'.T = w.T → Ext [] w w' → Rst g w' → Q d w'.H) : tTe g W e σ w.H Q := by
  refine ⟨w, env, rfl, r.re, ?_⟩
  cases q : e env w.s with
  | ok d s' => exact fun w' v h1 h2 h3 h4 => h4.2 ▸ hk d s' w' q h1 h2 h3 h4.1
  | exc c s' =>
    rw [he c s' q] at h
    exact fun w' h1 h2 h3 h4 => h w' σ h1 (r.ev h4 h3 h2) (Xs.ev h3)
  | no => rw [hn q] at h; exact h
end
/-! ### the mirror's words for statements -/
def sNil : Sx := fun env s => .nx env s
def sSeq (a b : Sx) : Sx := fun env s => match a env s with
  | .nx e s' => b e s'
  | r => r
def sEx (e : Ex) : Sx := fun env s => match e env s with
  | .ok _ s' => .nx env s'
  | .exc c s' => .exc c env s'
  | .no => .no
def putE (i : Nat) (d : D) (env : Env) : Option Env := match d with
  | .bor _ => none
  | .exn => none
  | d => some (env.set i (some d))
def sSet (i : Nat) (e : Ex) : Sx := fun env s => match e env s with
  | .ok d s' => (match putE i d env with
    | some env' => .nx env' s'
    | none => .no)
  | .exc c s' => .exc c env s'
  | .no => .no
def sIf (t : Tx) (a b : Sx) : Sx := fun env s => match t env s with
  | .ok true s' => a env s'
  | .ok false s' => b env s'
  | .exc c s' => .exc c env s'
  | .no => .no
def sRet (e : Ex) : Sx := fun env s => match e env s with
  | .ok (.bor _) _ => .no
  | .ok .exn _ => .no
  | .ok d s' => .rt d s'
  | .exc c s' => .exc c env s'
  | .no => .no
def sRetN : Sx := fun _ s => .rt .non s
/-- a name is handed back: a list of the frame's own goes along -/
def sRetV (i : Nat) : Sx := fun env s => match env[i]? with
  | some (some .exn) => .no
  | some (some d) => .rt d s
  | _ => .no
def sRaise (c : Nat) : Sx := fun env s => .exc c env s
def sBk : Sx := fun env s => .bk env s
def sCt : Sx := fun env s => .ct env s
section
variable {g : Gc} {tb : List Addr} {w w' w1 w2 w3 : Wd} {env env1 env2 : Env} {σ σ1 σ2 : Sl} {W : WX} {Dn : Ends} {H : Hp}
theorem sNil_ok (h : tSt g W sNil Dn σ H) : tNext Dn σ H := by
  obtain ⟨w, env, tb, rfl, r, h⟩ := h
  exact h w σ rfl r Xs.refl
theorem sBk_ok (h : tSt g W sBk Dn σ H) : tBreak Dn σ H := by
  obtain ⟨w, env, tb, rfl, r, h⟩ := h
  exact h w σ rfl r Xs.refl
theorem sCt_ok (h : tSt g W sCt Dn σ H) : tCont Dn σ H := by
  obtain ⟨w, env, tb, rfl, r, h⟩ := h
  exact h w σ rfl r Xs.refl
theorem sSeq_ok {a b : Sx} (h : tSt g W (sSeq a b) Dn σ H) : tSeq (tSt g W a) (tSt g W b) Dn σ H := by
  obtain ⟨w, env, tb, rfl, r, h⟩ := h
  refine ⟨w, env, tb, rfl, r, ?_⟩
  cases q : a env w.s with
  | nx e s =>
    simp only [sSeq, q] at h
    intro w1 σ1 h1 r1 x1
    refine ⟨w1, e, tb, rfl, r1, ?_⟩
    rw [h1]
    exact h.next r r1.re.st x1
  | bk e s => simp only [sSeq, q] at h; exact h
  | ct e s => simp only [sSeq, q] at h; exact h
  | exc c e s => simp only [sSeq, q] at h; exact h
  | rt d s => simp only [sSeq, q] at h; exact h
  | no => simp only [sSeq, q] at h; exact h
theorem sEx_ok {e : Ex} (h : tSt g W (sEx e) Dn σ H) : tDrop (tEv g W e) Dn σ H := by
  obtain ⟨w, env, tb, rfl, r, h⟩ := h
  refine ev_in (m := sEx e env w.s) r h (fun c s q => by simp only [sEx, q]) (fun q => by simp only [sEx, q]) fun d s' w' v q h1 h2 h3 h4 => ?_
  simp only [sEx, q] at h
  exact h w' σ h1 (r.ev h4.rst h3 h2) (Xs.ev h3)
theorem sIf_ok {t : Tx} {a b : Sx} (h : tSt g W (sIf t a b) Dn σ H) : tIfS (tTe g W t) (tSt g W a) (tSt g W b) Dn σ H := by
  obtain ⟨w, env, tb, rfl, r, h⟩ := h
  refine ev_inT (m := sIf t a b env w.s) r h (fun c s q => by simp only [sIf, q]) (fun q => by simp only [sIf, q]) fun d s' w' q h1 h2 h3 h4 => ?_
  have r' := r.ev h4 h3 h2
  cases d with
  | true =>
    simp only [sIf, q, ← h1] at h
    exact iteT ⟨w', env, tb, rfl, r', h.next r h4 (Xs.ev h3)⟩
  | false =>
    simp only [sIf, q, ← h1] at h
    exact iteF ⟨w', env, tb, rfl, r', h.next r h4 (Xs.ev h3)⟩
theorem Rv.T {T : List Addr} {d : D} {v : V} (r : Rst g w) (h : Rv g w d v) (hT : ∀ p ∈ T, p ∈ w.T) : Rv g { w with T := T } d v := Rv.mono (Cy.sub r hT) _ _ h
theorem sRet_ok {e : Ex} (h : tSt g W (sRet e) Dn σ H) : tRet (tEv g W e) Dn σ H := by
  obtain ⟨w, env, tb, rfl, r, h⟩ := h
  refine ev_in (m := sRet e env w.s) r h (fun c s q => by simp only [sRet, q]) (fun q => by simp only [sRet, q]) fun d s' w' v q h1 h2 h3 h4 => ?_
  have hT : ∀ p ∈ tb, p ∈ w'.T := fun p hp => by rw [h2]; exact (r.T p).mpr (.inr hp)
  have e' : Ext (owns env σ) w { w' with T := tb } := ⟨h3.pre, (h3.toS (ex := owns env σ)).keep, (h3.toS (ex := owns env σ)).new, (h3.toS (ex := owns env σ)).nm⟩
  cases d with
  | bor o => simp only [sRet, q] at h; exact h.elim
  | exn => simp only [sRet, q] at h; exact h.elim
  | own o =>
    simp only [sRet, q] at h
    obtain ⟨p, k1, k2, k3, k4, k5, k6⟩ := h4
    have hT2 : ∀ x ∈ p :: tb, x ∈ p :: w'.T := fun x hx => by
      rcases List.mem_cons.mp hx with e | e
      · rw [e]; exact List.mem_cons_self
      · exact List.mem_cons_of_mem _ (hT x e)
    refine h { w' with T := tb } v h1 rfl e' ⟨p, k1, .inl k2, fun z => k3 (hT p z), k4, k5.inT (w := { w' with T := p :: w'.T }) hT2, ?_⟩
    exact k6.mono (ex := []) (Cy.sub (w := { w' with T := p :: w'.T }) k5 hT2) (nolive (k5.tt p List.mem_cons_self).1) (by simp)
  | non => simp only [sRet, q] at h; exact h { w' with T := tb } v h1 rfl e' (.of (h4.rst.inT hT) (Rv.T h4.1 h4.2 hT))
  | bl b => simp only [sRet, q] at h; exact h { w' with T := tb } v h1 rfl e' (.of (h4.rst.inT hT) (Rv.T h4.1 h4.2 hT))
  | int b => simp only [sRet, q] at h; exact h { w' with T := tb } v h1 rfl e' (.of (h4.rst.inT hT) (Rv.T h4.1 h4.2 hT))
  | str b => simp only [sRet, q] at h; exact h { w' with T := tb } v h1 rfl e' (.of (h4.rst.inT hT) (Rv.T h4.1 h4.2 hT))
  | tup b => simp only [sRet, q] at h; exact h { w' with T := tb } v h1 rfl e' (.of (h4.rst.inT hT) (Rv.T h4.1 h4.2 hT))
  | lst b => simp only [sRet, q] at h; exact h { w' with T := tb } v h1 rfl e' (.of (h4.rst.inT hT) (Rv.T h4.1 h4.2 hT))
  | scr b => simp only [sRet, q] at h; exact h { w' with T := tb } v h1 rfl e' (.of (h4.rst.inT hT) (Rv.T h4.1 h4.2 hT))
  | dct b => simp only [sRet, q] at h; exact h { w' with T := tb } v h1 rfl e' (.of (h4.rst.inT hT) (Rv.T h4.1 h4.2 hT))
  | ref b => simp only [sRet, q] at h; exact h { w' with T := tb } v h1 rfl e' (.of (h4.rst.inT hT) (Rv.T h4.1 h4.2 hT))
theorem sRetN_ok (h : tSt g W sRetN Dn σ H) : tRetN Dn σ H := by
  obtain ⟨w, env, tb, rfl, r, h⟩ := h
  have hT : ∀ p ∈ tb, p ∈ w.T := fun p hp => (r.T p).mpr (.inr hp)
  have e' : Ext (owns env σ) w { w with T := tb } := ⟨⟨[], by simp⟩, fun _ _ h _ _ => h, fun _ h => .inl h, fun _ h => .inl h⟩
  exact h { w with T := tb } .non rfl rfl e' (.of (r.re.st.inT hT) rv_non)
theorem sRetV_ok {i : Nat} (h : tSt g W (sRetV i) Dn σ H) : tRet (tVar i) Dn σ H := by
  obtain ⟨w, env, tb, rfl, r, h⟩ := h
  have hT : ∀ p ∈ tb, p ∈ w.T := fun p hp => (r.T p).mpr (.inr hp)
  have e' : Ext (owns env σ) w { w with T := tb } := ⟨⟨[], by simp⟩, fun _ _ h _ _ => h, fun _ h => .inl h, fun _ h => .inl h⟩
  cases q : env[i]? with
  | none => simp only [sRetV, q] at h; exact h.elim
  | some o =>
    cases o with
    | none => simp only [sRetV, q] at h; exact h.elim
    | some d =>
      obtain ⟨v, ev, sv⟩ := r.re.sl i d q
      have hx : d ≠ .exn → PostS g tb W w env σ Dn (.rt d w.s) := fun nx => by
        cases d with
        | exn => exact absurd rfl nx
        | _ => simp only [sRetV, q] at h; exact h
      by_cases nx : d = .exn
      · subst nx; simp only [sRetV, q] at h; exact h.elim
      refine ⟨v, ev, hx nx { w with T := tb } v rfl rfl e' ?_⟩
      have rv : ∀ d, Rv g w d v → Pt g (owns env σ) w.H { w with T := tb } d v := fun d z => .of (r.re.st.inT hT) (Rv.T r.re.st z hT)
      cases d with
      | own o =>
        obtain ⟨p, k1, k2, k3, k4, k5⟩ := sv
        subst k1
        have hp : p ∈ owns env σ := mem_owns.mpr ⟨i, o, q, ev⟩
        have hT2 : ∀ x ∈ p :: tb, x ∈ w.T := fun x hx => by
          rcases List.mem_cons.mp hx with e | e
          · rw [e]; exact k5
          · exact hT x e
        exact ⟨p, rfl, .inr hp, r.dj p hp, k2, r.re.st.inT hT2, k3.mono (ex := []) (Cy.sub r.re.st hT2) (nolive k4) (by simp)⟩
      | bor o => exact rv _ sv
      | non => exact rv _ sv
      | bl b => exact rv _ sv
      | int b => exact rv _ sv
      | str b => exact rv _ sv
      | tup b => exact rv _ sv
      | lst b => exact rv _ sv
      | scr b => exact rv _ sv
      | dct b => exact rv _ sv
      | ref b => exact rv _ sv
      | exn => exact absurd rfl nx
/-! ### a slot is stored -/
theorem ownAt_set {i j : Nat} {p : Addr} {d : D} {v : V} (h : OwnAt (env.set i (some d)) (σ.set i (some v)) j p) : (j = i ∧ (∃ o, d = .own o) ∧ v = .ref p) ∨ (j ≠ i ∧ OwnAt env σ j p) := by
  obtain ⟨o, a, b⟩ := h
  by_cases e : j = i
  · subst e
    have h1 : j < env.length := by
      have := (List.getElem?_eq_some_iff.mp a).1
      rwa [List.length_set] at this
    have h2 : j < σ.length := by
      have := (List.getElem?_eq_some_iff.mp b).1
      rwa [List.length_set] at this
    rw [List.getElem?_set_self h1] at a
    rw [List.getElem?_set_self h2] at b
    refine .inl ⟨rfl, ⟨o, by simpa using a⟩, by simpa using b⟩
  · rw [List.getElem?_set_ne (Ne.symm e)] at a b
    exact .inr ⟨e, o, a, b⟩
/-- the world with other taboos -/
abbrev Wd.wT (w : Wd) (T : List Addr) : Wd := { w with T := T }
theorem Rm.set {i : Nat} {d : D} {v : V} {H0 : Hp} (r : Rm g tb w env σ) (e : Ext [] w w') (t : w'.T = w.T) (h : Px g w.H w' d v) (nb : ∀ o, d ≠ .bor o) :
    Rm g tb (w'.wT (owns (env.set i (some d)) (σ.set i (some v)) ++ tb)) (env.set i (some d)) (σ.set i (some v)) ∧ Xs w env σ (w'.wT (owns (env.set i (some d)) (σ.set i (some v)) ++ tb)) (env.set i (some d)) (σ.set i (some v)) := by
  generalize hT : owns (env.set i (some d)) (σ.set i (some v)) ++ tb = T
  have mT : ∀ p, p ∈ T ↔ p ∈ owns (env.set i (some d)) (σ.set i (some v)) ∨ p ∈ tb := fun p => by rw [← hT, List.mem_append]
  -- a wider world in which the new list is taboo
  obtain ⟨T2, hT2, rT2, sT2, cT2⟩ : ∃ T2 : List Addr, (∀ p ∈ w'.T, p ∈ T2) ∧ Rst g (w'.wT T2) ∧ Sv g (w'.wT T2) d v ∧ (∀ p ∈ T2, p ∈ w'.T ∨ (∃ o, d = .own o) ∧ v = .ref p ∧ w.H p = Option.none) := by
    cases d with
    | own o =>
      obtain ⟨p, k1, k2, k3, k4, k5, k6⟩ := h
      refine ⟨p :: w'.T, fun q hq => List.mem_cons_of_mem _ hq, k5, ⟨p, k1, k4, k6, (k5.tt p List.mem_cons_self).1, List.mem_cons_self⟩, fun q hq => ?_⟩
      rcases List.mem_cons.mp hq with z | z
      · subst z; exact .inr ⟨⟨o, rfl⟩, k1, k2⟩
      · exact .inl z
    | bor o => exact absurd rfl (nb o)
    | non => exact ⟨w'.T, fun _ z => z, h.1, h.2, fun _ z => .inl z⟩
    | bl b => exact ⟨w'.T, fun _ z => z, h.1, h.2, fun _ z => .inl z⟩
    | int b => exact ⟨w'.T, fun _ z => z, h.1, h.2, fun _ z => .inl z⟩
    | str b => exact ⟨w'.T, fun _ z => z, h.1, h.2, fun _ z => .inl z⟩
    | tup b => exact ⟨w'.T, fun _ z => z, h.1, h.2, fun _ z => .inl z⟩
    | lst b => exact ⟨w'.T, fun _ z => z, h.1, h.2, fun _ z => .inl z⟩
    | scr b => exact ⟨w'.T, fun _ z => z, h.1, h.2, fun _ z => .inl z⟩
    | dct b => exact ⟨w'.T, fun _ z => z, h.1, h.2, fun _ z => .inl z⟩
    | ref b => exact ⟨w'.T, fun _ z => z, h.1, h.2, fun _ z => .inl z⟩
    | exn => exact ⟨w'.T, fun _ z => z, h.1, h.2, fun _ z => .inl z⟩
  -- every slot in that world
  have c2 : Cy g [] w (w'.wT T2) := ⟨r.re.st, ⟨e.pre, e.keep, e.new, e.nm⟩, by simp, by simp, fun p hp => by
    rcases cT2 p hp with z | ⟨_, _, z⟩
    · exact .inl (t ▸ z)
    · exact .inr z⟩
  have ownT : ∀ j p, OwnAt (env.set i (some d)) (σ.set i (some v)) j p → p ∈ T2 := fun j p q => by
    rcases ownAt_set q with ⟨rfl, ⟨o, rfl⟩, rfl⟩ | ⟨_, q⟩
    · obtain ⟨p', e1, _, _, _, z⟩ := sT2; cases e1; exact z
    · exact hT2 p (by rw [t]; exact (r.T p).mpr (.inl (mem_owns.mpr ⟨j, q⟩)))
  have subT : ∀ p ∈ T, p ∈ (w'.wT T2).T := fun p hp => by
    rcases (mT p).mp hp with z | z
    · obtain ⟨j, z⟩ := mem_owns.mp z
      exact ownT j p z
    · exact hT2 p (by rw [t]; exact (r.T p).mpr (.inr z))
  have c3 : Cy g [] (w'.wT T2) (w'.wT T) := Cy.sub rT2 subT
  have fin : ∀ (j : Nat) (d' : D) (v' : V), (env.set i (some d))[j]? = some (some d') → (σ.set i (some v))[j]? = some (some v') → Sv g (w'.wT T2) d' v' → Sv g (w'.wT T) d' v' := fun j d' v' ea eb z => by
    cases d' with
    | own o =>
      obtain ⟨p, e1, k2, k3, k4, k5⟩ := z
      subst e1
      exact ⟨p, rfl, k2, k3.mono c3 (nolive k4) (by simp), k4, (mT p).mpr (.inl (mem_owns.mpr ⟨j, o, ea, eb⟩))⟩
    | bor o => exact Rv.mono c3 _ _ z
    | non => exact Rv.mono c3 _ _ z
    | bl b => exact Rv.mono c3 _ _ z
    | int b => exact Rv.mono c3 _ _ z
    | str b => exact Rv.mono c3 _ _ z
    | tup b => exact Rv.mono c3 _ _ z
    | lst b => exact Rv.mono c3 _ _ z
    | scr b => exact Rv.mono c3 _ _ z
    | dct b => exact Rv.mono c3 _ _ z
    | ref b => exact Rv.mono c3 _ _ z
    | exn => exact z
  have fresh : ∀ j p, j ≠ i → OwnAt env σ j p → ∀ o, d = .own o → v = .ref p → False := fun j p _ q o ed ev => by
    subst ed
    obtain ⟨p', e1, k2, _⟩ := h
    rw [ev] at e1; cases e1
    obtain ⟨m, _⟩ := r.own (mem_owns.mpr ⟨j, q⟩)
    rw [k2] at m; exact m
  refine ⟨⟨⟨rT2.inT subT, by rw [List.length_set, List.length_set]; exact r.re.len, fun j d' ej => ?_⟩, mT, fun a b p qa qb => ?_, fun p hp => ?_⟩, ⟨⟨e.pre, (e.toS (ex := owns env σ)).keep, (e.toS (ex := owns env σ)).new, (e.toS (ex := owns env σ)).nm⟩, fun p hp => ?_⟩⟩
  · by_cases q : j = i
    · subst q
      have h1 : j < env.length := by
        have := (List.getElem?_eq_some_iff.mp ej).1
        rwa [List.length_set] at this
      have h2 : (σ.set j (some v))[j]? = some (some v) := by rw [List.getElem?_set_self (r.re.len ▸ h1)]
      have ej' := ej
      rw [List.getElem?_set_self h1] at ej'
      cases ej'
      exact ⟨v, h2, fin j d v ej h2 sT2⟩
    · have ej' := ej
      rw [List.getElem?_set_ne (Ne.symm q)] at ej'
      obtain ⟨v', a, b⟩ := r.re.sl j d' ej'
      have h2 : (σ.set i (some v))[j]? = some (some v') := by rw [List.getElem?_set_ne (Ne.symm q)]; exact a
      exact ⟨v', h2, fin j d' v' ej h2 (b.mono c2 fun p hp => hT2 p (by rw [t]; exact hp))⟩
  · rcases ownAt_set qa with ⟨ea, ⟨o, eo⟩, ev⟩ | ⟨na, qa2⟩
    · rcases ownAt_set qb with ⟨eb, _, _⟩ | ⟨nb', qb2⟩
      · rw [ea, eb]
      · exact (fresh b p nb' qb2 o eo ev).elim
    · rcases ownAt_set qb with ⟨eb, ⟨o, eo⟩, ev⟩ | ⟨nb', qb2⟩
      · exact (fresh a p na qa2 o eo ev).elim
      · exact r.inj a b p qa2 qb2
  · obtain ⟨j, q⟩ := mem_owns.mp hp
    rcases ownAt_set q with ⟨rfl, ⟨o, rfl⟩, rfl⟩ | ⟨_, q⟩
    · obtain ⟨p', e1, _, k3, _⟩ := h
      cases e1
      exact fun z => k3 (by rw [t]; exact (r.T p).mpr (.inr z))
    · exact r.dj p (mem_owns.mpr ⟨j, q⟩)
  · obtain ⟨j, q⟩ := mem_owns.mp hp
    rcases ownAt_set q with ⟨rfl, ⟨o, rfl⟩, rfl⟩ | ⟨_, q⟩
    · obtain ⟨p', e1, k2, _⟩ := h
      cases e1
      exact .inr k2
    · exact .inl (mem_owns.mpr ⟨j, q⟩)
theorem sSet_ok {i : Nat} {e : Ex} (h : tSt g W (sSet i e) Dn σ H) : tAsg (tEv g W e) (gName i) Dn σ H := by
  obtain ⟨w, env, tb, rfl, r, h⟩ := h
  refine ev_in (m := sSet i e env w.s) r h (fun c s q => by simp only [sSet, q]) (fun q => by simp only [sSet, q]) fun d s' w' v q h1 h2 h3 h4 => ?_
  simp only [sSet, q] at h
  by_cases hx : d = .exn
  · subst hx; simp only [putE] at h; exact h.elim
  have key : (∀ o, d ≠ .bor o) → putE i d env = some (env.set i (some d)) := fun nb => by
    cases d with
    | bor o => exact absurd rfl (nb o)
    | exn => exact absurd rfl hx
    | _ => rfl
  by_cases nb : ∀ o, d ≠ .bor o
  · rw [key nb] at h
    obtain ⟨a, b⟩ := r.set (i := i) (H0 := w.H) h3 h2 h4 nb
    exact h (w'.wT (owns (env.set i (some d)) (σ.set i (some v)) ++ tb)) (σ.set i (some v)) h1 a b
  · cases d with
    | bor o => simp only [putE] at h; exact h.elim
    | _ => exact absurd (fun o z => nomatch z) nb
end
section
variable {X : Cx} {A : Ga} {W : WX} {a b c : Expr} {ma mb : Ex} {mt mu : Tx} {st : Stmt} {ss : List Stmt} {m n : Sx} {pos : Pos}
theorem psW {t t' : TS} (h : PS X st t) (k : ∀ D σ H, t' D σ H → t D σ H) : PS X st t' := ⟨fun pins s σ H D I q => h.run pins s σ H D I (k D σ H q)⟩
theorem pssW {t t' : TS} (h : PSs X ss t) (k : ∀ D σ H, t' D σ H → t D σ H) : PSs X ss t' := ⟨fun pins s σ H D I q => h.run pins s σ H D I (k D σ H q)⟩
abbrev MS (X : Cx) (A : Ga) (W : WX) (st : Stmt) (m : Sx) : Prop := PS X st (tSt (gx X A) W m)
abbrev MSs (X : Cx) (A : Ga) (W : WX) (ss : List Stmt) (m : Sx) : Prop := PSs X ss (tSt (gx X A) W m)
theorem mss_nil : MSs X A W [] sNil := pssW pss_nil fun _ _ _ h => sNil_ok h
theorem mss_one (h : MS X A W st m) : MSs X A W [st] m := pss_one h
theorem mss_cons (h : MS X A W st m) (k : MSs X A W ss n) : MSs X A W (st :: ss) (sSeq m n) := pssW (pss_cons h k) fun _ _ _ h => sSeq_ok h
theorem ms_pass : MS X A W (.Pass pos) sNil := psW ps_pass fun _ _ _ h => sNil_ok h
theorem ms_break : MS X A W (.Break pos) sBk := psW ps_break fun _ _ _ h => sBk_ok h
theorem ms_continue : MS X A W (.Continue pos) sCt := psW ps_continue fun _ _ _ h => sCt_ok h
theorem ms_ex (h : ME X A W a ma) (hs : swapsWith a none pos.line X.env = pure false := by rfl) : MS X A W (.Expr a pos) (sEx ma) := psW (ps_expr h hs) fun _ _ _ h => sEx_ok h
theorem ms_if {x y : List Stmt} (h : MT X A W c mt) (k : MSs X A W x m) (l : MSs X A W y n) : MS X A W (.If c x y pos) (sIf mt m n) := psW (ps_if h k l) fun _ _ _ h => sIf_ok h
theorem ms_ret (h : ME X A W a ma) : MS X A W (.Return (some a) pos) (sRet ma) := psW (ps_ret h) fun _ _ _ h => sRet_ok h
theorem ms_retN : MS X A W (.Return none pos) sRetN := psW ps_retN fun _ _ _ h => sRetN_ok h
theorem ms_retV (i : Nat) {x : Str} {p : Pos} (hN : X.N[i]? = some x := by rfl) (hv : Vis X.env.scope x := by first | exact Or.inl rfl | exact Or.inr (Or.inl rfl) | exact Or.inr (Or.inr rfl)) (hd : (x == ("__debug__" : Str)) = false := by decide)
    (hcd : (x == ("__classdict__" : Str)) = false := by decide) : MS X A W (.Return (some (.Name x p)) pos) (sRetV i) := psW (ps_ret (pe_var hN hv hd hcd)) fun _ _ _ h => sRetV_ok h
theorem ms_set (i : Nat) {x : Str} {p : Pos} (hN : X.N.Nodup) (h : ME X A W a ma) (hi : X.N[i]? = some x := by rfl) (hx : Loc X.env.scope x := by first | exact Or.inl rfl | exact Or.inr rfl) (hs : swapsWith a (some (.Name x p)) pos.line X.env = pure false := by rfl) (hf : X.fn x = true ∨ X.env.scope.names.lookup x = some .local := by first | exact .inl rfl | exact .inr rfl | assumption) :
    MS X A W (.Assign [.Name x p] a pos) (sSet i ma) := psW (ps_set hN hi hx h hs hf) fun _ _ _ h => sSet_ok h
theorem ms_raise {k : Nat} (hc : X.calm = true) (tk : Takes X W) (he : PMk X a (fun _ H Q => Q (.ref (A.cl k)) none H)) : MS X A W (.Raise (some a) none pos) (sRaise k) := psW (ps_raise hc tk he) fun D σ H h => by
  obtain ⟨w, env, tb, rfl, r, h⟩ := h
  exact h w σ rfl r Xs.refl
end
end Gm

set_option Elab.async false
set_option linter.all false
set_option maxRecDepth 100000
set_option autoImplicit false
set_option maxHeartbeats 1000000
namespace Gm
open PySem PySem.Spec PyProof.Rows L2
/-! ### targets -/
inductive Tg where
  | nm (i : Nat) | tp (is : List Nat)
def setsE : List Nat → List D → Env → Option Env
  | [], [], env => some env
  | i :: is, d :: ds, env => setsE is ds (env.set i (some d))
  | _, _, _ => none
def setsV : List Nat → List V → Sl → Sl
  | i :: is, v :: vs, σ => setsV is vs (σ.set i (some v))
  | _, _, σ => σ
def tgE : Tg → D → Env → Option Env
  | .nm i, d, env => (snk d).map fun d => env.set i (some d)
  | .tp is, .tup ds, env => setsE is ds env
  | .tp _, _, _ => none
def gNames : List Nat → TGs
  | [] => gNil
  | i :: r => gCons (gName i) (gNames r)
def tgT (K : PySem.W.Frag) : Tg → TG
  | .nm i => gName i
  | .tp is => gTup K is.length (gNames is)
section
variable {g : Gc} {tb : List Addr} {w w' w1 w2 w3 : Wd} {env env' env1 env2 : Env} {σ σ' σ1 σ2 : Sl} {W : WX} {Dn : Ends} {H : Hp}
theorem Rm.cy (r : Rm g tb w env σ) (r' : Rm g tb w' env' σ') (x : Xs w env σ w' env' σ') : Cy g (owns env σ) w w' :=
  ⟨r.re.st, x.e, fun p h => (r.own h).1, fun p h => (r.own h).2, fun p h => by
    rcases (r'.T p).mp h with z | z
    · exact (x.ow p z).imp (fun q => (r.own q).2) id
    · exact .inl ((r.T p).mpr (.inr z))⟩
theorem Rv.nb {d : D} {v : V} (h : Rv g w d v) : ∀ o, d ≠ .bor o := fun o e => by subst e; unfold Rv at h; exact h
theorem Rm.setP {i : Nat} {d : D} {v : V} (r : Rm g tb w env σ) (h : Rv g w d v) :
    ∃ w', w'.s = w.s ∧ w'.H = w.H ∧ Rm g tb w' (env.set i (some d)) (σ.set i (some v)) ∧ Xs w env σ w' (env.set i (some d)) (σ.set i (some v)) := by
  obtain ⟨a, b⟩ := r.set (i := i) (H0 := w.H) Ext.refl rfl (Px.of (H0 := w.H) r.re.st h) h.nb
  exact ⟨w.wT (owns (env.set i (some d)) (σ.set i (some v)) ++ tb), rfl, rfl, a, b⟩
theorem sets_ok : ∀ (is : List Nat) (ds : List D) (vs : List V) (w : Wd) (env env' : Env) (σ : Sl), Rm g tb w env σ → RvL g w ds vs → setsE is ds env = some env' →
    vs.length = is.length ∧ ∃ w', w'.s = w.s ∧ w'.H = w.H ∧ Rm g tb w' env' (setsV is vs σ) ∧ Xs w env σ w' env' (setsV is vs σ)
  | [], [], vs, w, env, env', σ, r, h, e => by
    unfold RvL at h; subst h
    cases e
    exact ⟨rfl, w, rfl, rfl, r, Xs.refl⟩
  | i :: is, d :: ds, vs, w, env, env', σ, r, h, e => by
    unfold RvL at h
    obtain ⟨v, t, rfl, h1, h2⟩ := h
    obtain ⟨w1, e1, e2, r1, x1⟩ := r.setP (i := i) h1
    obtain ⟨hl, w2, e3, e4, r2, x2⟩ := sets_ok is ds t w1 _ env' _ r1 (RvL.mono (r.cy r1 x1) _ _ h2) e
    exact ⟨by simp [hl], w2, e3.trans e1, e4.trans e2, r2, x1.trans r r1.re.st x2⟩
  | [], _ :: _, _, _, _, _, _, _, _, e => by cases e
  | _ :: _, [], _, _, _, _, _, _, _, e => by cases e
theorem gNames_ok {H : Hp} {Q : Sl → Hp → Prop} : ∀ {is : List Nat} {vs : List V} {σ : Sl}, vs.length = is.length → Q (setsV is vs σ) H → gNames is vs σ H Q
  | [], [], σ, _, h => ⟨rfl, h⟩
  | [], _ :: _, _, e, _ => by cases e
  | _ :: _, [], _, e, _ => by cases e
  | i :: is, v :: vs, σ, e, h => ⟨v, vs, rfl, gNames_ok (by simpa using e) h⟩
theorem tg_ok {tg : Tg} {d : D} {v : V} {Q : Sl → Hp → Prop} (r : Rm g tb w env σ) (h : Rv g w d v) (e : tgE tg d env = some env')
    (k : ∀ (w' : Wd) (σ' : Sl), w'.s = w.s → w'.H = w.H → Rm g tb w' env' σ' → Xs w env σ w' env' σ' → Q σ' w'.H) : tgT g.K tg v σ w.H Q := by
  cases tg with
  | nm i =>
    have e' : env' = env.set i (some d) := by
      cases d with
      | own o => unfold Rv at h; exact h.elim
      | bor o => unfold Rv at h; exact h.elim
      | exn => unfold Rv at h; exact h.elim
      | _ => simp only [tgE, snk, Option.map_some, Option.some.injEq] at e; exact e.symm
    subst e'
    obtain ⟨w1, e1, e2, r1, x1⟩ := r.setP (i := i) h
    show Q (σ.set i (some v)) w.H
    rw [← e2]
    exact k w1 _ e1 e2 r1 x1
  | tp is =>
    cases d with
    | tup ds =>
      unfold Rv at h
      obtain ⟨p, ys, rfl, hp, hl⟩ := h
      obtain ⟨l, w1, e1, e2, r1, x1⟩ := sets_ok is ds ys w env env' σ r hl e
      refine ⟨p, ys, rfl, hp, l, gNames_ok l ?_⟩
      rw [← e2]
      exact k w1 _ e1 e2 r1 x1
    | _ => cases e
end
def sSetT (is : List Nat) (e : Ex) : Sx := fun env s => match e env s with
  | .ok d s' => (match tgE (.tp is) d env with
    | some env' => .nx env' s'
    | none => .no)
  | .exc c s' => .exc c env s'
  | .no => .no
/-! ### what is walked -/
inductive Itr where
  | seq (d : D) | rng (lo : Int) (n : Nat)
def Itr.at (s : Store) : Itr → Nat → Option (Option D)
  | .seq d, i => (seqD s d).map fun xs => xs[i]?
  | .rng lo n, i => some (if i < n then some (.int (lo + (i : Nat))) else none)
def Itr.fuel (s : Store) : Itr → Nat
  | .seq d => ((seqD s d).getD []).length + 1
  | .rng _ n => n + 1
abbrev Ix := Env → Store → R Itr
def iSeq (e : Ex) : Ix := fun env s => match e env s with
  | .ok d s' => (match snk (fz d) with
    | some d => (match seqD s' d with
      | some _ => .ok (.seq d) s'
      | none => .no)
    | none => .no)
  | .exc c s' => .exc c s'
  | .no => .no
def rOk (i : Int) : Bool := decide (-4611686018427387904 ≤ i) && decide (i < 4611686018427387904)
def xRng1 (e : Ex) : Ix := fun env s => match e env s with
  | .ok (.int j) s' => if rOk j = true then .ok (.rng 0 j.toNat) s' else .no
  | .ok _ _ => .no
  | .exc c s' => .exc c s'
  | .no => .no
def xRng2 (a b : Ex) : Ix := fun env s => match a env s with
  | .ok (.int i) s1 => (match b env s1 with
    | .ok (.int j) s2 => if rOk i = true ∧ rOk j = true then .ok (.rng i (j - i).toNat) s2 else .no
    | .ok _ _ => .no
    | .exc c s' => .exc c s'
    | .no => .no)
  | .ok _ _ => .no
  | .exc c s' => .exc c s'
  | .no => .no
def forX (body : Sx) (tg : Tg) (it : Itr) : Nat → Nat → Env → Store → SR
  | 0, _, _, _ => .no
  | f + 1, i, env, s => match it.at s i with
    | none => .no
    | some none => .nx env s
    | some (some d) => match tgE tg d env with
      | none => .no
      | some env1 => match body env1 s with
        | .nx e s' => forX body tg it f (i + 1) e s'
        | .ct e s' => forX body tg it f (i + 1) e s'
        | .bk e s' => .nx e s'
        | r => r
def sFor (tg : Tg) (ix : Ix) (body : Sx) : Sx := fun env s => match ix env s with
  | .ok it s' => forX body tg it (it.fuel s') 0 env s'
  | .exc c s' => .exc c env s'
  | .no => .no
def whileX (t : Tx) (body : Sx) : Nat → Env → Store → SR
  | 0, _, _ => .no
  | f + 1, env, s => match t env s with
    | .ok true s1 => (match body env s1 with
      | .nx e s' => whileX t body f e s'
      | .ct e s' => whileX t body f e s'
      | .bk e s' => .nx e s'
      | r => r)
    | .ok false s1 => .nx env s1
    | .exc c s' => .exc c env s'
    | .no => .no
def sWhile (n : Nat) (t : Tx) (body : Sx) : Sx := whileX t body n
section
variable {g : Gc} {tb : List Addr} {w w' w1 w2 w3 : Wd} {env env' env1 env2 : Env} {σ σ' σ1 σ2 : Sl} {W : WX} {Dn : Ends} {H : Hp}
theorem sSetT_ok {is : List Nat} {e : Ex} (h : tSt g W (sSetT is e) Dn σ H) : tAsg (tEv g W e) (tgT g.K (.tp is)) Dn σ H := by
  obtain ⟨w, env, tb, rfl, r, h⟩ := h
  refine ev_in (m := sSetT is e env w.s) r h (fun c s q => by simp only [sSetT, q]) (fun q => by simp only [sSetT, q]) fun d s' w' v q h1 h2 h3 h4 => ?_
  cases k : tgE (.tp is) d env with
  | none => simp only [sSetT, q, k] at h; exact h.elim
  | some env' =>
    simp only [sSetT, q, k] at h
    have rv : Rv g w' d v := by
      cases d with
      | tup ds => exact h4.2
      | _ => cases k
    have r' := r.ev h4.rst h3 h2
    exact tg_ok r' rv k fun w2 σ2 e1 e2 r2 x2 => h w2 σ2 (e1.trans h1) r2 ((Xs.ev h3).trans r r'.re.st x2)
def ItR (g : Gc) (w : Wd) : Itr → L2.It → Prop
  | .seq d, J => ∃ p, Rv g w d (.ref p) ∧ ((J = Itl g.K p ∧ ∀ xs, d ≠ .tup xs) ∨ (J = Itt g.K p ∧ ∃ xs, d = .tup xs))
  | .rng lo n, J => J = L2.Itr lo n
theorem ItR.mono {it : Itr} {J : L2.It} {ex : List Addr} (c : Cy g ex w w') (h : ItR g w it J) : ItR g w' it J := by
  cases it with
  | seq d => obtain ⟨p, a, b⟩ := h; exact ⟨p, Rv.mono c _ _ a, b⟩
  | rng lo n => exact h
theorem seqD_l {d : D} {xs : List D} (n : ∀ zs, d ≠ .tup zs) (e : seqD w.s d = some xs) : dr w.s d = some (.lst xs) := by
  unfold seqD at e
  split at e
  · rename_i zs; exact absurd rfl (n zs)
  · split at e
    · rename_i ed; cases e; exact ed
    · cases e
theorem ItR.stop {it : Itr} {J : L2.It} {i : Nat} (r : Rst g w) (h : ItR g w it J) (e : it.at w.s i = some none) : J.stop i w.H := by
  cases it with
  | rng lo n =>
    cases h
    simp only [Itr.at, Option.some.injEq] at e
    show n ≤ i
    split at e
    · cases e
    · omega
  | seq d =>
    obtain ⟨p, rv, z⟩ := h
    simp only [Itr.at] at e
    cases q : seqD w.s d with
    | none => rw [q] at e; cases e
    | some xs =>
      rw [q] at e
      simp only [Option.map_some, Option.some.injEq] at e
      have hl : xs.length ≤ i := List.getElem?_eq_none_iff.mp e
      rcases z with ⟨rfl, n⟩ | ⟨rfl, zs, rfl⟩
      · obtain ⟨p', ys, e1, e2, e3⟩ := dr_lst r rv.po (seqD_l n q)
        cases e1
        exact ⟨ys, e2, by rw [e3.length]; exact hl⟩
      · cases q
        unfold Rv at rv
        obtain ⟨p', ys, e1, e2, e3⟩ := rv
        cases e1
        exact ⟨ys, e2, by rw [e3.length]; exact hl⟩
theorem ItR.go {it : Itr} {J : L2.It} {i : Nat} {d : D} (r : Rst g w) (h : ItR g w it J) (e : it.at w.s i = some (some d)) : J.go i w.H ∧ ∀ x H', J.yld i w.H x H' → H' = w.H ∧ Rv g w d x := by
  cases it with
  | rng lo n =>
    cases h
    simp only [Itr.at, Option.some.injEq] at e
    split at e
    · rename_i hi
      cases e
      refine ⟨hi, fun x H' y => ⟨y.1, ?_⟩⟩
      obtain ⟨_, y⟩ := y
      subst y
      exact rv_int
    · cases e
  | seq c =>
    obtain ⟨p, rv, z⟩ := h
    simp only [Itr.at] at e
    cases q : seqD w.s c with
    | none => rw [q] at e; cases e
    | some xs =>
      rw [q] at e
      simp only [Option.map_some, Option.some.injEq] at e
      rcases z with ⟨rfl, n⟩ | ⟨rfl, zs, rfl⟩
      · obtain ⟨p', ys, e1, e2, e3⟩ := dr_lst r rv.po (seqD_l n q)
        cases e1
        obtain ⟨v, k1, k2⟩ := e3.get e
        refine ⟨⟨ys, v, e2, k1⟩, fun x H' y => ⟨y.1, ?_⟩⟩
        have := y.2 ys e2
        rw [k1] at this; cases this
        exact k2
      · cases q
        unfold Rv at rv
        obtain ⟨p', ys, e1, e2, e3⟩ := rv
        cases e1
        obtain ⟨v, k1, k2⟩ := e3.get e
        refine ⟨⟨ys, v, e2, k1⟩, fun x H' y => ⟨y.1, ?_⟩⟩
        have := y.2 ys e2
        rw [k1] at this; cases this
        exact k2
def Pi (g : Gc) (_ : Hp) (w : Wd) (a : Itr) (J : L2.It) : Prop := Rst g w ∧ ItR g w a J
def tIe (g : Gc) (W : WX) (e : Ix) : TI := fun σ H Q => ∃ (w : Wd) (env : Env), w.H = H ∧ Re g w env σ ∧ Post g (Pi g) W w σ Q (e env w.s)
theorem iRng1_ok {e : Ex} {Q : L2.It → Hp → Prop} (h : tIe g W (xRng1 e) σ H Q) : L2.iRng1 (tCons (tEv g W e) tNil) σ H Q := by
  obtain ⟨w, env, rfl, re, h⟩ := h
  refine ⟨w, env, rfl, re, ?_⟩
  refine Post.step (m' := xRng1 e env w.s) h (fun c s q => by simp only [xRng1, q]) (fun q => by simp only [xRng1, q]) fun x s1 w1 v ea hs1 ht1 e1 p1 => ?_
  cases x with
  | int j =>
    simp only [xRng1, ea] at h
    split at h
    · rename_i hj
      unfold rOk at hj
      simp only [Bool.and_eq_true, decide_eq_true_eq] at hj
      have rv : Rv g w1 (.int j) v := p1.2
      unfold Rv at rv
      subst rv
      exact ⟨j, rfl, by omega, by omega, h w1 _ hs1 ht1 e1 ⟨p1.1, rfl⟩⟩
    · exact h.elim
  | _ => simp only [xRng1, ea] at h; exact h.elim
theorem iRng2_ok {a b : Ex} {Q : L2.It → Hp → Prop} (h : tIe g W (xRng2 a b) σ H Q) : L2.iRng2 (tCons (tEv g W a) (tCons (tEv g W b) tNil)) σ H Q := by
  obtain ⟨w, env, rfl, re, h⟩ := h
  refine ⟨w, env, rfl, re, ?_⟩
  refine Post.step (m' := xRng2 a b env w.s) h (fun c s q => by simp only [xRng2, q]) (fun q => by simp only [xRng2, q]) fun x s1 w1 v ea hs1 ht1 e1 p1 => ?_
  cases x with
  | int i =>
    have rv : Rv g w1 (.int i) v := p1.2
    unfold Rv at rv
    subst rv
    refine ⟨w1, env, rfl, re.next p1.1 e1 ht1, ?_⟩
    refine Post.step (m' := xRng2 a b env w.s) (h.next e1 ht1 fun _ _ _ _ q => q) (fun c s e => by rw [hs1] at e; simp only [xRng2, ea, e]) (fun e => by rw [hs1] at e; simp only [xRng2, ea, e]) fun y s2 w2 u eb hs2 ht2 e2 p2 => ?_
    rw [hs1] at eb
    cases y with
    | int j =>
      have rv : Rv g w2 (.int j) u := p2.2
      unfold Rv at rv
      subst rv
      simp only [xRng2, ea, eb] at h
      split at h
      · rename_i hj
        unfold rOk at hj
        simp only [Bool.and_eq_true, decide_eq_true_eq] at hj
        exact ⟨i, j, rfl, ⟨by omega, by omega, by omega, by omega⟩, h w2 _ hs2 (ht2.trans ht1) (e1.trans e2) ⟨p2.1, rfl⟩⟩
      · exact h.elim
    | _ => simp only [xRng2, ea, eb] at h; exact h.elim
  | _ => simp only [xRng2, ea] at h; exact h.elim
theorem iSeq_ok {e : Ex} {Q : L2.It → Hp → Prop} (h : tIe g W (iSeq e) σ H Q) : L2.iList g.K (tEv g W e) σ H Q ∨ L2.iTup g.K (tEv g W e) σ H Q := by
  obtain ⟨w, env, rfl, re, h⟩ := h
  by_cases ht : ∃ xs s1, e env w.s = .ok (.tup xs) s1
  · obtain ⟨xs, s1, ht⟩ := ht
    refine .inr ⟨w, env, rfl, re, ?_⟩
    refine Post.step (m' := iSeq e env w.s) h (fun c s q => by simp only [iSeq, q]) (fun q => by simp only [iSeq, q]) fun x s1 w1 v ea hs1 ht1 e1 p1 => ?_
    rw [ht] at ea
    cases ea
    simp only [iSeq, ht] at h
    have rv : Rv g w1 (.tup xs) v := p1.2
    have rv0 := rv
    unfold Rv at rv
    obtain ⟨p, ys, rfl, e2, e3⟩ := rv
    exact ⟨p, rfl, ⟨ys, e2⟩, h w1 _ hs1 ht1 e1 ⟨p1.1, p, rv0, .inr ⟨rfl, xs, rfl⟩⟩⟩
  · refine .inl ⟨w, env, rfl, re, ?_⟩
    refine Post.step (m' := iSeq e env w.s) h (fun c s q => by simp only [iSeq, q]) (fun q => by simp only [iSeq, q]) fun x s1 w1 v ea hs1 ht1 e1 p1 => ?_
    obtain ⟨r1, o1⟩ := p1.fz
    cases es : snk (fz x) with
    | none => simp only [iSeq, ea, es] at h; exact h.elim
    | some d =>
      have rd := snk_ok o1 es
      cases q : seqD s1 d with
      | none => simp only [iSeq, ea, es, q] at h; exact h.elim
      | some xs =>
        simp only [iSeq, ea, es, q] at h
        have nt : ∀ zs, d ≠ .tup zs := fun zs ez => by
          subst ez
          apply ht
          refine ⟨zs, s1, ?_⟩
          rw [ea]
          cases x with
          | own o => cases o <;> simp [fz, snk] at es
          | bor o => simp [fz, snk] at es
          | exn => simp [fz, snk] at es
          | _ => simp [fz, snk] at es; try rw [es]
        rw [← hs1] at q
        obtain ⟨p, ys, rfl, e2, e3⟩ := dr_lst r1 rd.po (seqD_l nt q)
        exact ⟨p, rfl, ⟨ys, e2⟩, h w1 _ hs1 ht1 e1 ⟨r1, p, rd, .inl ⟨rfl, nt⟩⟩⟩
theorem sFor_ok {tg : Tg} {ix : Ix} {body : Sx} (h : tSt g W (sFor tg ix body) Dn σ H) : tFor (tIe g W ix) (tgT g.K tg) (tSt g W body) Dn σ H := by
  obtain ⟨w, env, tb, rfl, r, h⟩ := h
  refine ⟨w, env, rfl, r.re, ?_⟩
  cases q : ix env w.s with
  | no => simp only [sFor, q] at h; exact h
  | exc c s' =>
    simp only [sFor, q] at h
    exact fun w' h1 h2 h3 h4 => h w' σ h1 (r.ev h4 h3 h2) (Xs.ev h3)
  | ok it s1 =>
    simp only [sFor, q] at h
    intro w1 J h1 h2 h3 h4
    have r1 := r.ev h4.1 h3 h2
    refine ⟨fun i m σ H => ∃ (w2 : Wd) (env2 : Env), w2.H = H ∧ Rm g tb w2 env2 σ ∧ ItR g w2 it J ∧ PostS g tb W w2 env2 σ Dn (forX body tg it m i env2 w2.s), ⟨it.fuel s1, w1, env, rfl, r1, h4.2, ?_⟩, ?_⟩
    · rw [h1]; exact h.next r r1.re.st (Xs.ev h3)
    · rintro i m σ H ⟨w2, env2, rfl, r2, j2, p2⟩
      cases m with
      | zero => exact p2.elim
      | succ m =>
        cases ei : it.at w2.s i with
        | none => simp only [forX, ei] at p2; exact p2.elim
        | some o =>
          cases o with
          | none =>
            simp only [forX, ei] at p2
            exact .inl ⟨j2.stop r2.re.st ei, p2 w2 σ rfl r2 Xs.refl⟩
          | some d =>
            obtain ⟨g1, g2⟩ := j2.go r2.re.st ei
            refine .inr ⟨g1, fun σ' H' => ∃ (w3 : Wd) (env3 : Env), w3.H = H' ∧ Rm g tb w3 env3 σ' ∧ ItR g w3 it J ∧ PostS g tb W w3 env3 σ' Dn (forX body tg it m (i + 1) env3 w3.s), fun σ' H' z => ⟨m, Nat.lt_succ_self m, z⟩, fun x H' y => ?_⟩
            obtain ⟨rfl, rv⟩ := g2 x H' y
            cases et : tgE tg d env2 with
            | none => simp only [forX, ei, et] at p2; exact p2.elim
            | some env3 =>
              refine tg_ok r2 rv et fun w3 σ3 e1 e2 r3 x3 => ⟨w3, env3, tb, rfl, r3, ?_⟩
              have j3 := j2.mono (r2.cy r3 x3)
              have p3 := p2.next r2 r3.re.st x3
              cases eb : body env3 w3.s with
              | nx e s' =>
                rw [e1] at eb
                simp only [forX, ei, et, eb] at p3
                exact fun w4 σ4 k1 r4 x4 => ⟨w4, e, rfl, r4, j3.mono (r3.cy r4 x4), by rw [k1]; exact p3.next r3 r4.re.st x4⟩
              | ct e s' =>
                rw [e1] at eb
                simp only [forX, ei, et, eb] at p3
                exact fun w4 σ4 k1 r4 x4 => ⟨w4, e, rfl, r4, j3.mono (r3.cy r4 x4), by rw [k1]; exact p3.next r3 r4.re.st x4⟩
              | bk e s' =>
                rw [e1] at eb
                simp only [forX, ei, et, eb] at p3
                exact p3
              | rt d s' =>
                rw [e1] at eb
                simp only [forX, ei, et, eb] at p3
                exact p3
              | exc c e s' =>
                rw [e1] at eb
                simp only [forX, ei, et, eb] at p3
                exact p3
              | no =>
                rw [e1] at eb
                simp only [forX, ei, et, eb] at p3
                exact p3
theorem sWhile_ok {n : Nat} {t : Tx} {body : Sx} (h : tSt g W (sWhile n t body) Dn σ H) : tWhile (tTe g W t) (tSt g W body) Dn σ H := by
  obtain ⟨w, env, tb, rfl, r, h⟩ := h
  refine ⟨fun m σ H => ∃ (w2 : Wd) (env2 : Env), w2.H = H ∧ Rm g tb w2 env2 σ ∧ PostS g tb W w2 env2 σ Dn (whileX t body m env2 w2.s), ⟨n, w, env, rfl, r, h⟩, ?_⟩
  rintro m σ H ⟨w2, env2, rfl, r2, p2⟩
  cases m with
  | zero => exact p2.elim
  | succ m =>
    refine ev_inT (m := whileX t body (m + 1) env2 w2.s) r2 p2 (fun c s q => by simp only [whileX, q]) (fun q => by simp only [whileX, q]) fun d s' w' q h1 h2 h3 h4 => ?_
    have r' := r2.ev h4 h3 h2
    have p' := p2.next r2 h4 (Xs.ev h3)
    cases d with
    | false =>
      simp only [whileX, q] at p'
      exact iteF (p' w' σ h1 r' Xs.refl)
    | true =>
      refine iteT ⟨fun σ' H' => ∃ (w3 : Wd) (env3 : Env), w3.H = H' ∧ Rm g tb w3 env3 σ' ∧ PostS g tb W w3 env3 σ' Dn (whileX t body m env3 w3.s), fun σ' H' z => ⟨m, Nat.lt_succ_self m, z⟩, w', env2, tb, rfl, r', ?_⟩
      rw [h1]
      cases eb : body env2 s' with
      | nx e s2 =>
        simp only [whileX, q, eb] at p'
        exact fun w4 σ4 k1 r4 x4 => ⟨w4, e, rfl, r4, by rw [k1]; exact p'.next r' r4.re.st x4⟩
      | ct e s2 =>
        simp only [whileX, q, eb] at p'
        exact fun w4 σ4 k1 r4 x4 => ⟨w4, e, rfl, r4, by rw [k1]; exact p'.next r' r4.re.st x4⟩
      | bk e s2 => simp only [whileX, q, eb] at p'; exact p'
      | rt d s2 => simp only [whileX, q, eb] at p'; exact p'
      | exc c e s2 => simp only [whileX, q, eb] at p'; exact p'
      | no => simp only [whileX, q, eb] at p'; exact p'
end
section
variable {X : Cx} {A : Ga} {W : WX} {a b c : Expr} {ma mb : Ex} {mt mu : Tx} {st : Stmt} {ss : List Stmt} {m n : Sx} {mi : Ix} {pos : Pos} {tx : Expr} {tg : Tg}
abbrev MI (X : Cx) (A : Ga) (W : WX) (tx it : Expr) (mi : Ix) : Prop := PI X tx it (tIe (gx X A) W mi)
theorem piW {t t' : TI} (h : PI X tx a t) (k : ∀ σ H Q, t' σ H Q → t σ H Q) : PI X tx a t' := ⟨fun pins s σ H Q I q => h.run pins s σ H Q I (k σ H Q q)⟩
theorem mi_rng1 {p : Pos} (hg : Gl X "range") (hm : X.mg "range" = none) (h : ME X A W a ma) (hs : starEach [a] X.env = [(false, eval a X.env)] := by rfl) (hs2 : starEach [a] X.env = (false, eval a X.env) :: starEach [] X.env := by rfl) : MI X A W tx (.Call (.Name "range" p) [a] [] pos) (xRng1 ma) :=
  piW (pi_range1 hg hm (pa_cons h pa_nil hs2) hs) fun _ _ _ h => iRng1_ok h
theorem mi_rng2 {p : Pos} (hg : Gl X "range") (hm : X.mg "range" = none) (h : ME X A W a ma) (k : ME X A W b mb) (hs : starEach [a, b] X.env = [(false, eval a X.env), (false, eval b X.env)] := by rfl) (hs2 : starEach [b] X.env = [(false, eval b X.env)] := by rfl)
    (hs3 : starEach [a, b] X.env = (false, eval a X.env) :: starEach [b] X.env := by rfl) (hs4 : starEach [b] X.env = (false, eval b X.env) :: starEach [] X.env := by rfl) : MI X A W tx (.Call (.Name "range" p) [a, b] [] pos) (xRng2 ma mb) :=
  piW (pi_range2 hg hm (pa_cons h (pa_cons k pa_nil hs4) hs3) hs hs2) fun _ _ _ h => iRng2_ok h
theorem mi_seq (h : ME X A W a ma) : MI X A W tx a (iSeq ma) := ⟨fun pins s σ H Q I q => by
  rcases iSeq_ok q with z | z
  · exact (pi_list h).run pins s σ H Q I z
  · exact (pi_tup h).run pins s σ H Q I z⟩
abbrev MG (X : Cx) (tx : Expr) (tg : Tg) : Prop := PG X tx (tgT X.K tg)
abbrev MGs (X : Cx) (tx : List Expr) (is : List Nat) : Prop := PGs X tx (gNames is)
theorem mg_nm (i : Nat) {x : Str} (hN : X.N.Nodup) (hi : X.N[i]? = some x := by rfl) (hx : Loc X.env.scope x := by first | exact Or.inl rfl | exact Or.inr rfl) (hf : X.fn x = true ∨ X.env.scope.names.lookup x = some .local := by first | exact .inl rfl | exact .inr rfl | assumption) : MG X (.Name x pos) (.nm i) := pg_name hN hi hx hf
theorem mgs_nil : MGs X [] [] := pgs_nil
theorem mgs_cons (i : Nat) {x : Str} {es : List Expr} {is : List Nat} (hN : X.N.Nodup) (k : MGs X es is) (hi : X.N[i]? = some x := by rfl) (hx : Loc X.env.scope x := by first | exact Or.inl rfl | exact Or.inr rfl) (hf : X.fn x = true ∨ X.env.scope.names.lookup x = some .local := by first | exact .inl rfl | exact .inr rfl | assumption)
    (hs : (assignEach (.Name x pos :: es) X.env).map (·.2) = assign (.Name x pos) X.env :: (assignEach es X.env).map (·.2) := by rfl) : MGs X (.Name x pos :: es) (i :: is) := pgs_cons (pg_name hN hi hx hf) k hs
theorem mg_tp {es : List Expr} {is : List Nat} {k : Nat} (hc : X.calm = true) (h : MGs X es is) (hn : (assignEach es X.env).length = is.length := by rfl) (hst : (assignEach es X.env).findIdx? (·.1) = none := by rfl) : MG X (.Tuple es k pos) (.tp is) := pg_tup hc h hn hst
theorem ms_setT {is : List Nat} (hg : MG X tx (.tp is)) (h : ME X A W a ma) (hs : swapsWithSole [tx] a pos.line X.env = pure false := by rfl) (hw : swappedStores [tx] a X.env = pure none := by rfl) (h1 : (assignEach [tx] X.env).map (·.2) = [assign tx X.env] := by rfl) : MS X A W (.Assign [tx] a pos) (sSetT is ma) :=
  psW (ps_asg h hg hs hw h1) fun _ _ _ h => sSetT_ok h
theorem ms_for (hp : PassesOwn (model X.prog X.w) X.A X.env X.xe) (hc : X.calm = true) (hi : MI X A W tx a mi) (hg : MG X tx tg) (hb : MSs X A W ss m) (hs : ∀ x, foldedSetIterable a X.env x = pure x := by intro _; rfl) : MS X A W (.For tx a ss [] pos) (sFor tg mi m) :=
  psW (ps_for hp hc hi hg hb hs) fun _ _ _ h => sFor_ok h
theorem ms_while (n : Nat) (hp : PassesOwn (model X.prog X.w) X.A X.env X.xe) (h : MT X A W c mt) (hb : MSs X A W ss m) : MS X A W (.While c ss [] pos) (sWhile n mt m) := psW (ps_while hp h hb) fun _ _ _ h => sWhile_ok h
end
end Gm

set_option Elab.async false
set_option linter.all false
set_option maxRecDepth 100000
set_option autoImplicit false
set_option maxHeartbeats 1000000
namespace Gm
open PySem PySem.Spec PyProof.Rows L2
/-! ### calls -/
def PostF (g : Gc) (w : Wd) (Q : VK) (E : XK) : R D → Prop
  | .ok d s' => ∀ (w' : Wd) (v : V), w'.s = s' → w'.T = w.T → Ext [] w w' → Px g w.H w' d v → Q v w'.H
  | .exc c s' => ∀ (w' : Wd), w'.s = s' → w'.T = w.T → Ext [] w w' → Rst g w' → E (.ref (g.A c)) none w'.H
  | .no => False
def spOf (g : Gc) (n : Nat) (F : Fx) : Sp := fun vs H Q E => vs.length = n ∧ ∃ (w : Wd) (args : List D), w.H = H ∧ Rst g w ∧ RvL g w args vs ∧ PostF g w Q E (F args w.s)
def fnX (n N : Nat) (body : Sx) : Fx := fun args s => if args.length = n then (match body (args.map some ++ List.replicate (N - n) none) s with
  | .rt d s' => .ok d s'
  | .nx _ s' => .ok .non s'
  | .exc c _ s' => .exc c s'
  | _ => .no) else .no
def Ar (n : Nat) (F : Fx) : Prop := ∀ (args : List D) (s : Store), args.length ≠ n → F args s = .no
theorem fnX_ar {n N : Nat} {body : Sx} : Ar n (fnX n N body) := fun args s h => by unfold fnX; rw [if_neg h]
def eCall (F : Fx) (a : Ax) : Ex := fun env s => match a env s with
  | .ok ds s' => F ds s'
  | .exc c s' => .exc c s'
  | .no => .no
section
variable {g : Gc} {tb : List Addr} {w w' w1 w2 w3 : Wd} {env env' env1 env2 : Env} {σ σ' σ1 σ2 : Sl} {W : WX} {Dn : Ends} {H : Hp}
theorem call_ok {n : Nat} {F : Fx} {a : Ax} {Q : VK} (hF : Ar n F) (h : tEv g W (eCall F a) σ H Q) : tAe g W a σ H fun vs H1 => spOf g n F vs H1 Q (WE W σ) := by
  obtain ⟨w, env, rfl, re, h⟩ := h
  refine ⟨w, env, rfl, re, ?_⟩
  refine Post.step (m' := eCall F a env w.s) h (fun c s q => by simp only [eCall, q]) (fun q => by simp only [eCall, q]) fun ds s1 w1 vs ea hs1 ht1 e1 p1 => ?_
  obtain ⟨r1, q1⟩ := p1
  have em : eCall F a env w.s = F ds w1.s := by simp only [eCall, ea, hs1]
  rw [em] at h
  have hn : ds.length = n := by
    by_cases z : ds.length = n
    · exact z
    · rw [hF ds w1.s z] at h; exact h.elim
  refine ⟨by rw [q1.length]; exact hn, w1, ds, rfl, r1, q1, ?_⟩
  cases q : F ds w1.s with
  | ok d s' =>
    rw [q] at h
    exact fun w2 v h1 h2 h3 h4 => h w2 v h1 (h2.trans ht1) (e1.trans h3) (h4.back re.st r1 e1)
  | exc c s' =>
    rw [q] at h
    exact fun w2 h1 h2 h3 h4 => h w2 h1 (h2.trans ht1) (e1.trans h3) h4
  | no => rw [q] at h; exact h
theorem RvL.plain : ∀ {ds : List D} {vs : List V}, RvL g w ds vs → ∀ (i : Nat) (o : O), ds[i]? ≠ some (.own o)
  | ds, vs, h, i, o, e => by
    obtain ⟨v, _, z⟩ := h.get e
    unfold Rv at z; exact z
theorem start_owns {args : List D} {vs : List V} {k : Nat} {σ : Sl} (h : RvL g w args vs) : owns (args.map some ++ List.replicate k none) σ = [] := by
  cases e : owns (args.map some ++ List.replicate k none) σ with
  | nil => rfl
  | cons p r =>
    have hp : p ∈ owns (args.map some ++ List.replicate k none) σ := by rw [e]; exact List.mem_cons_self
    obtain ⟨i, o, a, b⟩ := mem_owns.mp hp
    exfalso
    by_cases l : i < args.length
    · rw [List.getElem?_append_left (by simpa using l), List.getElem?_map] at a
      cases q : args[i]? with
      | none => rw [q] at a; cases a
      | some d => rw [q] at a; simp at a; subst a; exact h.plain i o q
    · rw [List.getElem?_append_right (by simpa using l)] at a
      have := List.mem_of_getElem? a
      rw [List.mem_replicate] at this
      exact nomatch this.2
theorem body_ok {N ps : List Str} {m : Sx} {vs : List V} {Q : VK} {E : XK} (hl : ps.length ≤ N.length) (h : spOf g ps.length (fnX ps.length N.length m) vs H Q E) :
    tSt g (fun cls d _ H => E cls d H) m { nx := fun _ H' => Q .non H', rt := Q } (L2.start N vs) H := by
  obtain ⟨hv, w, args, rfl, r, ra, h⟩ := h
  have ha : args.length = ps.length := by rw [← ra.length]; exact hv
  refine ⟨w, args.map some ++ List.replicate (N.length - ps.length) none, w.T, rfl, ?_, ?_⟩
  · refine ⟨⟨r, ?_, fun i d e => ?_⟩, fun p => by rw [start_owns ra]; simp, fun i j p a _ => ?_, fun p hp => ?_⟩
    · unfold L2.start
      rw [List.length_append, List.length_append, List.length_map, List.length_map, List.length_replicate, List.length_replicate, hv, ha]
    · by_cases l : i < args.length
      · rw [List.getElem?_append_left (by simpa using l), List.getElem?_map] at e
        cases q : args[i]? with
        | none => rw [q] at e; cases e
        | some d' =>
          rw [q] at e; simp at e; subst e
          obtain ⟨v, k1, k2⟩ := ra.get q
          refine ⟨v, ?_, ?_⟩
          · unfold L2.start
            rw [List.getElem?_append_left (by rw [List.length_map, hv, ← ha]; exact l), List.getElem?_map, k1]
            rfl
          · cases d' with
            | own o => unfold Rv at k2; exact k2.elim
            | exn => unfold Rv at k2; exact k2.elim
            | _ => exact k2
      · rw [List.getElem?_append_right (by simpa using l)] at e
        have := List.mem_of_getElem? e
        rw [List.mem_replicate] at this
        exact nomatch this.2
    · have := mem_owns.mpr ⟨i, a⟩
      rw [start_owns ra] at this; cases this
    · rw [start_owns ra] at hp; cases hp
  · have ow : owns (args.map some ++ List.replicate (N.length - ps.length) none) (L2.start N vs) = [] := start_owns ra
    unfold fnX at h
    rw [if_pos ha] at h
    have tT : ∀ (w' : Wd) (env' : Env) (σ' : Sl), Rm g w.T w' env' σ' → ∀ p ∈ w.T, p ∈ w'.T := fun w' env' σ' r' p hp => (r'.T p).mpr (.inr hp)
    cases q : m (args.map some ++ List.replicate (N.length - ps.length) none) w.s with
    | nx e s =>
      rw [q] at h
      intro w' σ' h1 r' x'
      have e' := x'.e
      rw [ow] at e'
      exact h (w'.wT w.T) .non h1 rfl ⟨e'.pre, e'.keep, e'.new, e'.nm⟩ (.of (r'.re.st.inT (tT w' e σ' r')) rv_non)
    | rt d s =>
      rw [q] at h
      intro w' v h1 h2 e' p'
      rw [ow] at e' p'
      refine h w' v h1 h2 e' ?_
      cases d with
      | own o =>
        obtain ⟨p, a, b, c⟩ := p'
        rcases b with b | b
        · exact ⟨p, a, b, c⟩
        · cases b
      | bor o => exact (show False by obtain ⟨_, z⟩ := p'; unfold Rv at z; exact z).elim
      | exn => exact (show False by obtain ⟨_, z⟩ := p'; unfold Rv at z; exact z).elim
      | _ => exact p'
    | exc c e s =>
      rw [q] at h
      intro w' σ' h1 r' x'
      have e' := x'.e
      rw [ow] at e'
      exact h (w'.wT w.T) h1 rfl ⟨e'.pre, e'.keep, e'.new, e'.nm⟩ (r'.re.st.inT (tT w' e σ' r'))
    | bk e s => rw [q] at h; exact h.elim
    | ct e s => rw [q] at h; exact h.elim
    | no => rw [q] at h; exact h.elim
end
section
variable {P : Program} {wl : World} {K : PySem.W.Frag} {mg : Str → Option Value} {base : Heap} {A : Nat → Addr}
abbrev xOf (P : Program) (wl : World) (K : PySem.W.Frag) (mg : Str → Option Value) (base : Heap) (N : List Str) (qual : Str) (scope : Scope) (f : Addr) (cdv : Value) (Ar : Around) (outer : List PySem.Env) (s : Shared) (H : Hp) (E : XK) : Cx := cxOf (L2.CX P wl) P wl K mg base N qual scope f cdv Ar outer s H E
abbrev wOf (E : XK) : WX := fun cls d _ H => E cls d H
theorem fn_ok {x qual : Str} {params : Arguments} {body : List Stmt} {scope : Scope} {f : Addr} {fd : FuncData} {N ps : List Str} {k : Nat} {m : Sx} (F : FunD K x qual params body scope [] [] f fd) (S : FnScope N ps scope) (hl : ps.length ≤ N.length)
    (hb : ∀ (cdv : Value) (Ar : Around) (outer : List PySem.Env) (s : Shared) (H : Hp) (E : XK), Room k (Ar.deeper (envOfC qual scope s.heap.objs.size f cdv)) → Takes (xOf P wl K mg base N qual scope f cdv Ar outer s H E) (wOf E) →
      PassesOwn (model P wl) (xOf P wl K mg base N qual scope f cdv Ar outer s H E).A (xOf P wl K mg base N qual scope f cdv Ar outer s H E).env (xOf P wl K mg base N qual scope f cdv Ar outer s H E).xe →
      MSs (xOf P wl K mg base N qual scope f cdv Ar outer s H E) ⟨A, none⟩ (wOf E) body m) :
    FnOk P wl K mg base (L2.CX P wl) (k + 1) f fd ps (spOf ⟨K, A, none⟩ ps.length (fnX ps.length N.length m)) := by
  refine F.ok S (fun vs H Q E h => h.1) fun cdv Ar outer s H vs Q E hr h => ?_
  exact ⟨_, hb cdv Ar outer s H E hr (takes_of rfl rfl rfl rfl) (passes_of rfl), body_ok hl h⟩
end
section
variable {X : Cx} {A : Ga} {W : WX} {a b c e : Expr} {es : List Expr} {ma mb : Ex} {mt mu : Tx} {st : Stmt} {ss : List Stmt} {m : Sx} {mr : Ax} {pos p : Pos} {k n : Nat} {f : Addr} {fd : FuncData} {ps : List Str} {F : Fx} {x : Str}
theorem me_call (G : FnOk X.prog X.w X.K X.mg X.base (L2.CX X.prog X.w) k f fd ps (spOf (gx X A) n F)) (hF : Ar n F) (hr : Room k X.A) (tk : Takes X W) (hg : Gl X x) (hm : X.mg x = some (.ref f)) (hk : PySem.W.keepIn X.K (.ref f) = true) (hb : Binds X.K fd ps [])
    (ha : MA X A W (e :: es) mr) (hdb : (x == ("__debug__" : Str)) = false := by decide) (he : starEach (e :: es) X.env = (false, eval e X.env) :: starEach es X.env := by rfl) (hpl : (backTo pos (starEach es X.env)).any (·.1) = false := by rfl) :
    ME X A W (.Call (.Name x p) (e :: es) [] pos) (eCall F mr) := peW (pe_callS G hr hg hm hk hb (fun σ => passAt tk σ) ha hdb he hpl) fun _ _ _ h => call_ok hF h
end
end Gm

set_option Elab.async false
set_option linter.all false
set_option maxRecDepth 100000
set_option autoImplicit false
set_option maxHeartbeats 1000000
namespace Gm
open PySem PySem.Spec PyProof.Rows L2
/-! ### lists that are changed -/
def mutL (i : Nat) (f : List D → Option (List D)) (env : Env) (s : Store) : Option (Env × Store) := match env[i]? with
  | some (some (.own (.lst xs))) => (f xs).map fun ys => (env.set i (some (.own (.lst ys))), s)
  | some (some (.ref n)) => (match s[n]? with
    | some (.lst xs) => (f xs).map fun ys => (env, s.set n (.lst ys))
    | _ => none)
  | _ => none
/-- a list that a place of the store holds -/
def mutR (d : D) (f : List D → Option (List D)) (s : Store) : Option Store := match d with
  | .ref n => (match s[n]? with
    | some (.lst xs) => (f xs).map fun ys => s.set n (.lst ys)
    | _ => none)
  | _ => none
def fApp (d : D) : List D → Option (List D) := fun xs => if xs.length < 16777216 then some (xs ++ [d]) else none
def fExt (zs : List D) : List D → Option (List D) := fun xs => if xs.length + zs.length ≤ 16777216 then some (xs ++ zs) else none
def fSetI (k : Int) (d : D) : List D → Option (List D) := fun xs => (ixN xs.length k).map fun j => xs.set j d
/-- x.append(e) and its like, x a name -/
def isL (i : Nat) (env : Env) (s : Store) : Bool := match env[i]? with
  | some (some (.own (.lst _))) => true
  | some (some (.ref n)) => (match s[n]? with
    | some (.lst _) => true
    | _ => false)
  | _ => false
def sMut (i : Nat) (f : Store → D → Option (List D → Option (List D))) (e : Ex) : Sx := fun env s => if isL i env s = true then (match e env s with
  | .ok d s1 => (match f s1 (fz d) with
    | some h => (match mutL i h env s1 with
      | some (env', s2) => .nx env' s2
      | none => .no)
    | none => .no)
  | .exc c s1 => .exc c env s1
  | .no => .no) else .no
def gApp : Store → D → Option (List D → Option (List D)) := fun _ d => (snk d).map fApp
def gExt : Store → D → Option (List D → Option (List D)) := fun s d => match drM s d with
  | some (.lst zs) => some (fExt zs)
  | _ => none
/-- x[j] = e, x a name -/
def sSub (i : Nat) (j : Ex) (e : Ex) : Sx := fun env s => match e env s with
  | .ok d s1 => (match snk (fz d) with
    | some d => if isL i env s1 = true then (match j env s1 with
      | .ok (.int k) s2 => (match mutL i (fSetI k d) env s2 with
        | some (env', s3) => .nx env' s3
        | none => .no)
      | .ok _ _ => .no
      | .exc c s' => .exc c env s'
      | .no => .no) else .no
    | none => .no)
  | .exc c s' => .exc c env s'
  | .no => .no
/-! ### what is told of the frame's own lists, nothing done -/
def gFz (i : Nat) (env : Env) (s : Store) : Env × Store := match env[i]? with
  | some (some (.own o)) => (env.set i (some (fz (.own o))), s)
  | _ => (env, s)
def gAd (i : Nat) (env : Env) (s : Store) : Env × Store := match env[i]? with
  | some (some (.own o)) => (env.set i (some (.ref s.length)), s ++ [o])
  | _ => (env, s)
def sPre (q : Env → Store → Env × Store) (m : Sx) : Sx := fun env s => m (q env s).1 (q env s).2
section
variable {g : Gc} {tb : List Addr} {w w' w1 w2 w3 : Wd} {env env' env1 env2 : Env} {σ σ' σ1 σ2 : Sl} {W : WX} {Dn : Ends} {H : Hp}
theorem Ro.same {p : Addr} {o : O} {ex : List Addr} (c : Cy g ex w w') (e : w'.H p = w.H p) (h : Ro g w p o) : Ro g w' p o := by
  cases o with
  | lst xs => obtain ⟨ys, k, z⟩ := h; exact ⟨ys, e.trans k, RvL.mono c _ _ z⟩
  | dK xs => obtain ⟨ys, k, z⟩ := h; exact ⟨ys, e.trans k, RvK.mono c _ _ z⟩
  | ins a xs => obtain ⟨dx, ys, k, z⟩ := h; exact ⟨dx, ys, e.trans k, RvF.mono c _ _ z⟩
  | dead => obtain ⟨u, k⟩ := h; exact ⟨u, e.trans k⟩
abbrev Wd.wr (w : Wd) (p : Addr) (u : HO) : Wd := { w with H := upd w.H p u }
theorem wr_ext {p : Addr} {u : HO} : Ext [p] w (w.wr p u) :=
  ⟨⟨[], by simp⟩, fun q o e _ n => by
    show upd w.H p u q = some o
    rw [upd_ne (fun z => n (by rw [z]; exact List.mem_cons_self))]; exact e, fun _ h => .inl h, fun _ h => .inl h⟩
theorem wr_cy {p : Addr} {u : HO} (r : Rst g w) (hm : Mut (w.H p)) (hT : p ∈ w.T) : Cy g [p] w (w.wr p u) :=
  ⟨r, wr_ext, fun q h => by rw [List.mem_singleton.mp h]; exact hm, fun q h => by rw [List.mem_singleton.mp h]; exact hT, fun q h => .inl h⟩
theorem wr_rst {p : Addr} {u : HO} (r : Rst g w) (hm : Mut (w.H p)) (hT : p ∈ w.T) : Rst g (w.wr p u) := by
  have c := wr_cy (u := u) r hm hT
  have np : p ∉ w.m := (r.tt p hT).1
  refine ⟨r.len, r.nd, fun q hq => ⟨(r.tt q hq).1, ?_⟩, fun n q o a b => ?_⟩
  · by_cases e : q = p
    · subst e; exact ⟨u, upd_same⟩
    · obtain ⟨o, z⟩ := (r.tt q hq).2
      exact ⟨o, by show upd w.H p u q = some o; rw [upd_ne e]; exact z⟩
  · refine (r.ce n q o a b).same c ?_
    show upd w.H p u q = w.H q
    refine upd_ne fun z => np ?_
    rw [← z]
    exact List.mem_of_getElem? a
theorem ownAt_upd {i j : Nat} {p : Addr} {o o' : O} (hi : env[i]? = some (some (.own o))) : OwnAt (env.set i (some (.own o'))) σ j p ↔ OwnAt env σ j p := by
  have hl : i < env.length := (List.getElem?_eq_some_iff.mp hi).1
  constructor
  · rintro ⟨q, a, b⟩
    by_cases e : j = i
    · subst e; exact ⟨o, hi, b⟩
    · rw [List.getElem?_set_ne (Ne.symm e)] at a
      exact ⟨q, a, b⟩
  · rintro ⟨q, a, b⟩
    by_cases e : j = i
    · subst e
      exact ⟨o', by rw [List.getElem?_set_self hl], b⟩
    · exact ⟨q, by rw [List.getElem?_set_ne (Ne.symm e)]; exact a, b⟩
theorem owns_upd {i : Nat} {o o' : O} (hi : env[i]? = some (some (.own o))) (p : Addr) : p ∈ owns (env.set i (some (.own o'))) σ ↔ p ∈ owns env σ := by
  rw [mem_owns, mem_owns]
  exact ⟨fun ⟨j, h⟩ => ⟨j, (ownAt_upd hi).mp h⟩, fun ⟨j, h⟩ => ⟨j, (ownAt_upd hi).mpr h⟩⟩
/-- a list of the frame's own is changed -/
theorem Rm.upd {i : Nat} {p : Addr} {o o' : O} {u : HO} (r : Rm g tb w env σ) (hi : env[i]? = some (some (.own o))) (hs : σ[i]? = some (some (.ref p))) (fo : Fzo o') (ho : Cy g [p] w (w.wr p u) → Ro g (w.wr p u) p o') :
    Rm g tb (w.wr p u) (env.set i (some (.own o'))) σ ∧ Xs w env σ (w.wr p u) (env.set i (some (.own o'))) σ := by
  have hp : p ∈ owns env σ := mem_owns.mpr ⟨i, o, hi, hs⟩
  obtain ⟨hm, hT⟩ := r.own hp
  have c := wr_cy (u := u) r.re.st hm hT
  have r' := wr_rst (u := u) r.re.st hm hT
  have hl : i < env.length := (List.getElem?_eq_some_iff.mp hi).1
  have np : p ∉ w.m := (r.re.st.tt p hT).1
  refine ⟨⟨⟨r', by rw [List.length_set]; exact r.re.len, fun j d ej => ?_⟩, fun q => by rw [owns_upd hi]; exact r.T q, fun a b q qa qb => r.inj a b q ((ownAt_upd hi).mp qa) ((ownAt_upd hi).mp qb), fun q hq => r.dj q ((owns_upd hi q).mp hq)⟩, ⟨?_, fun q hq => .inl ((owns_upd hi q).mp hq)⟩⟩
  · by_cases e : j = i
    · subst e
      rw [List.getElem?_set_self hl] at ej
      cases ej
      exact ⟨.ref p, hs, p, rfl, fo, ho c, np, hT⟩
    · rw [List.getElem?_set_ne (Ne.symm e)] at ej
      obtain ⟨v, a, z⟩ := r.re.sl j d ej
      refine ⟨v, a, ?_⟩
      cases d with
      | own o2 =>
        obtain ⟨q, rfl, k2, k3, k4, k5⟩ := z
        refine ⟨q, rfl, k2, k3.same c ?_, k4, k5⟩
        show L2.upd w.H p u q = w.H q
        refine upd_ne fun z => e ?_
        subst z
        exact r.inj j i q ⟨o2, ej, a⟩ ⟨o, hi, hs⟩
      | bor o => exact Rv.mono c _ _ z
      | non => exact Rv.mono c _ _ z
      | bl b => exact Rv.mono c _ _ z
      | int b => exact Rv.mono c _ _ z
      | str b => exact Rv.mono c _ _ z
      | tup b => exact Rv.mono c _ _ z
      | lst b => exact Rv.mono c _ _ z
      | scr b => exact Rv.mono c _ _ z
      | dct b => exact Rv.mono c _ _ z
      | ref b => exact Rv.mono c _ _ z
      | exn => exact z
  · exact ⟨⟨[], by simp⟩, fun q o e nl nx => wr_ext.keep q o e nl fun z => nx (by rw [List.mem_singleton.mp z]; exact hp), fun q h => .inl h, fun q h => .inl h⟩
/-- a place of the store is written -/
abbrev Wd.ws (w : Wd) (n : Nat) (o : O) (p : Addr) (u : HO) : Wd := { w with s := w.s.set n o, H := L2.upd w.H p u }
theorem ws_ext {n : Nat} {o o' : O} {p : Addr} {u : HO} (hm : w.m[n]? = some p) (hs : w.s[n]? = some o) (ho : o ≠ .dead) : Ext [] w (w.ws n o' p u) := by
  have lv : w.Live p := ⟨n, o, hm, hs, ho⟩
  have bk : ∀ q, (w.ws n o' p u).Live q → w.Live q := fun q ⟨k, x, a, b, d⟩ => by
    by_cases e : k = n
    · subst e
      have a : w.m[k]? = some q := a
      rw [hm] at a; cases a; exact lv
    · have b : (w.s.set n o')[k]? = some x := b
      rw [List.getElem?_set_ne (Ne.symm e)] at b
      exact ⟨k, x, a, b, d⟩
  refine ⟨⟨[], by simp⟩, fun q x e nl _ => ?_, fun q l => .inl (bk q l), fun q l => .inl l⟩
  show L2.upd w.H p u q = some x
  rw [upd_ne (fun z => nl (by rw [z]; exact lv))]
  exact e
theorem ws_rst {n : Nat} {o o' : O} {p : Addr} {u : HO} (r : Rst g w) (hm : w.m[n]? = some p) (hs : w.s[n]? = some o) (ho : o ≠ .dead) (h : Cy g [] w (w.ws n o' p u) → Ro g (w.ws n o' p u) p o') : Rst g (w.ws n o' p u) := by
  have c : Cy g [] w (w.ws n o' p u) := Cy.of r (ws_ext hm hs ho) rfl
  have hn : n < w.s.length := (List.getElem?_eq_some_iff.mp hs).1
  have uniq : ∀ k q, w.m[k]? = some q → k ≠ n → q ≠ p := fun k q a ne e => by
    subst e
    obtain ⟨l1, e1⟩ := List.getElem?_eq_some_iff.mp a
    obtain ⟨l2, e2⟩ := List.getElem?_eq_some_iff.mp hm
    exact ne ((List.getElem_inj r.nd).mp (e1.trans e2.symm))
  refine ⟨by show w.m.length = (w.s.set n o').length; rw [List.length_set]; exact r.len, r.nd, fun q hq => ⟨(r.tt q hq).1, ?_⟩, fun k q x a b => ?_⟩
  · obtain ⟨x, z⟩ := (r.tt q hq).2
    refine ⟨x, ?_⟩
    show L2.upd w.H p u q = some x
    rw [upd_ne fun e => (r.tt q hq).1 (by rw [e]; exact List.mem_of_getElem? hm)]
    exact z
  · by_cases e : k = n
    · subst e
      have a : w.m[k]? = some q := a
      rw [hm] at a; cases a
      have b : (w.s.set k o')[k]? = some x := b
      rw [List.getElem?_set_self hn] at b; cases b
      exact h c
    · have b : (w.s.set n o')[k]? = some x := b
      rw [List.getElem?_set_ne (Ne.symm e)] at b
      refine (r.ce k q x a b).same c ?_
      show L2.upd w.H p u q = w.H q
      exact upd_ne (uniq k q a e)
theorem lst_nd {xs : List D} : O.lst xs ≠ O.dead := fun z => nomatch z
/-- what a change of a name's list asks and gives -/
theorem mutL_ok {i : Nat} {f : List D → Option (List D)} {env' : Env} {s' : Store} (r : Rm g tb w env σ) (h : mutL i f env w.s = some (env', s')) :
    ∃ (p : Addr) (xs ys : List D) (vs : List V), σ[i]? = some (some (.ref p)) ∧ w.H p = some (.lst vs) ∧ RvL g w xs vs ∧ f xs = some ys ∧
      ∀ us, RvL g w ys us → ∃ w2, w2.s = s' ∧ w2.H = L2.upd w.H p (.lst us) ∧ Rm g tb w2 env' σ ∧ Xs w env σ w2 env' σ := by
  unfold mutL at h
  split at h
  · rename_i xs ei
    cases q : f xs with
    | none => rw [q] at h; cases h
    | some ys =>
      rw [q] at h
      cases h
      obtain ⟨v, a, z⟩ := r.re.sl i _ ei
      obtain ⟨p, rfl, fo, ⟨vs, e1, e2⟩, nm, t⟩ := z
      refine ⟨p, xs, ys, vs, a, e1, e2, q, fun us hu => ?_⟩
      obtain ⟨k1, k2⟩ := r.upd (o' := .lst ys) (u := .lst us) ei a trivial fun c => ⟨us, upd_same, RvL.mono c _ _ hu⟩
      exact ⟨w.wr p (.lst us), rfl, rfl, k1, k2⟩
  · rename_i n ei
    split at h
    · rename_i xs en
      cases q : f xs with
      | none => rw [q] at h; cases h
      | some ys =>
        rw [q] at h
        cases h
        obtain ⟨v, a, z⟩ := r.re.sl i _ ei
        have z : Rv g w (.ref n) v := z
        unfold Rv at z
        obtain ⟨p, rfl, hm⟩ := z
        obtain ⟨vs, e1, e2⟩ := r.re.st.ce n p _ hm en
        refine ⟨p, xs, ys, vs, a, e1, e2, q, fun us hu => ?_⟩
        have ex := ws_ext (o' := .lst ys) (u := .lst us) hm en lst_nd
        have rs := ws_rst (o' := .lst ys) (u := .lst us) r.re.st hm en lst_nd fun c => ⟨us, upd_same, RvL.mono c _ _ hu⟩
        exact ⟨w.ws n (.lst ys) p (.lst us), rfl, rfl, r.ev rs ex rfl, Xs.ev ex⟩
    · cases h
  · cases h
theorem isL_ok {i : Nat} (r : Rm g tb w env σ) (h : isL i env w.s = true) : ∃ (p : Addr) (vs : List V), σ[i]? = some (some (.ref p)) ∧ SqL g.K w.H p vs := by
  unfold isL at h
  split at h
  · rename_i xs ei
    obtain ⟨v, a, z⟩ := r.re.sl i _ ei
    obtain ⟨p, rfl, fo, ⟨vs, e1, e2⟩, nm, t⟩ := z
    exact ⟨p, vs, a, SqL.of e1⟩
  · rename_i n ei
    split at h
    · rename_i xs en
      obtain ⟨v, a, z⟩ := r.re.sl i _ ei
      have z : Rv g w (.ref n) v := z
      unfold Rv at z
      obtain ⟨p, rfl, hm⟩ := z
      obtain ⟨vs, e1, e2⟩ := r.re.st.ce n p _ hm en
      exact ⟨p, vs, a, SqL.of e1⟩
    · cases h
  · cases h
theorem sMut_ok {i : Nat} {f : Store → D → Option (List D → Option (List D))} {e : Ex} {rl : V → List V → Hp → VK → Prop}
    (hr : ∀ (w : Wd) (d : D) (v : V) (hh : List D → Option (List D)) (p : Addr) (xs ys : List D) (vs : List V) (Q : VK), Rst g w → Po g w d v → f w.s d = some hh → w.H p = some (.lst vs) → RvL g w xs vs → hh xs = some ys →
      (∀ us, RvL g w ys us → Q .non (L2.upd w.H p (.lst us))) → rl (.ref p) [v] w.H Q)
    (h : tSt g W (sMut i f e) Dn σ H) : tDrop (tBM g.K "list" rl (tVar i) (tCons (tEv g W e) tNil)) Dn σ H := by
  obtain ⟨w, env, tb, rfl, r, h⟩ := h
  cases il : isL i env w.s with
  | false => simp only [sMut, il] at h; exact h.elim
  | true =>
    obtain ⟨p, vs, e1, e2⟩ := isL_ok r il
    refine ⟨.ref p, e1, .inl ⟨rfl, vs, e2⟩, ?_⟩
    refine ev_in (m := sMut i f e env w.s) r h (fun c s q => by simp only [sMut, il, q, if_true]) (fun q => by simp only [sMut, il, q, if_true]) fun d s' w' v q h1 h2 h3 h4 => ?_
    obtain ⟨r1, o1⟩ := h4.fz
    have r' := r.ev r1 h3 h2
    simp only [sMut, il, q, if_true] at h
    cases ef : f s' (fz d) with
    | none => simp only [ef] at h; exact h.elim
    | some hh =>
      cases em : mutL i hh env s' with
      | none => simp only [ef, em] at h; exact h.elim
      | some z =>
        obtain ⟨env', s2⟩ := z
        simp only [ef, em] at h
        rw [← h1] at em ef
        obtain ⟨p', xs, ys, vs', k1, k2, k3, k4, k5⟩ := mutL_ok r' em
        rw [e1] at k1
        cases k1
        refine hr w' (fz d) v hh p xs ys vs' _ r1 o1 ef k2 k3 k4 fun us hu => ?_
        obtain ⟨w2, a1, a2, a3, a4⟩ := k5 us hu
        rw [← a2]
        exact h w2 σ a1 a3 ((Xs.ev h3).trans r r1 a4)
theorem rd_app (w : Wd) (d : D) (v : V) (hh : List D → Option (List D)) (p : Addr) (xs ys : List D) (vs : List V) (Q : VK) (r : Rst g w) (po : Po g w d v) (e : gApp w.s d = some hh) (hp : w.H p = some (.lst vs)) (hx : RvL g w xs vs) (hy : hh xs = some ys)
    (q : ∀ us, RvL g w ys us → Q .non (L2.upd w.H p (.lst us))) : rAppend (.ref p) [v] w.H Q := by
  unfold gApp at e
  cases es : snk d with
  | none => rw [es] at e; cases e
  | some d' =>
    rw [es] at e
    cases e
    unfold fApp at hy
    split at hy
    · rename_i hl
      cases hy
      have rv : Rv g w d' v := by
        cases d with
        | own o => cases es
        | bor o => cases es
        | exn => cases es
        | _ => cases es; exact po
      exact ⟨p, vs, v, rfl, rfl, hp, by rw [hx.length, sizeLine_eq]; exact hl, q _ (hx.app (RvL.one rv))⟩
    · cases hy
theorem rd_ext (w : Wd) (d : D) (v : V) (hh : List D → Option (List D)) (p : Addr) (xs ys : List D) (vs : List V) (Q : VK) (r : Rst g w) (po : Po g w d v) (e : gExt w.s d = some hh) (hp : w.H p = some (.lst vs)) (hx : RvL g w xs vs) (hy : hh xs = some ys)
    (q : ∀ us, RvL g w ys us → Q .non (L2.upd w.H p (.lst us))) : rExtend (.ref p) [v] w.H Q := by
  unfold gExt at e
  split at e
  · rename_i zs ed
    cases e
    unfold fExt at hy
    split at hy
    · rename_i hl
      cases hy
      obtain ⟨b, us, k1, k2, k3⟩ := drM_lst r po ed
      exact ⟨p, b, vs, us, rfl, by rw [k1], hp, k2, by rw [hx.length, k3.length, sizeLine_eq]; exact hl, q _ (hx.app k3)⟩
    · cases hy
  · cases e
theorem sSub_ok {i : Nat} {j e : Ex} (h : tSt g W (sSub i j e) Dn σ H) : tAsg (tEv g W e) (gSub (tVar i) (tEv g W j) rSetL) Dn σ H := by
  obtain ⟨w, env, tb, rfl, r, h⟩ := h
  refine ev_in (m := sSub i j e env w.s) r h (fun c s q => by simp only [sSub, q]) (fun q => by simp only [sSub, q]) fun d s1 w1 v q h1 h2 h3 h4 => ?_
  obtain ⟨r1, o1⟩ := h4.fz
  have rm1 := r.ev r1 h3 h2
  cases es : snk (fz d) with
  | none => simp only [sSub, q, es] at h; exact h.elim
  | some d' =>
    have rd := snk_ok o1 es
    have p1 := h.next r r1 (Xs.ev h3)
    cases il : isL i env s1 with
    | false => simp only [sSub, q, es, il] at h; exact h.elim
    | true =>
      obtain ⟨p, vs0, e1, _⟩ := isL_ok rm1 (by rw [h1]; exact il)
      refine ⟨.ref p, e1, ?_⟩
      refine ev_in (m := sSub i j e env w.s) rm1 p1 (fun c s k => by rw [h1] at k; simp only [sSub, q, es, il, k, if_true]) (fun k => by rw [h1] at k; simp only [sSub, q, es, il, k, if_true]) fun x s2 w2 u k k1 k2 k3 k4 => ?_
      rw [h1] at k
      have r2 := k4.rst
      have rm2 := rm1.ev r2 k3 k2
      have rd2 := Rv.mono (Cy.of r1 k3 k2) _ _ rd
      simp only [sSub, q, es, il, k, if_true] at p1
      cases x with
      | int n =>
        have ru : Rv g w2 (.int n) u := k4.2
        unfold Rv at ru
        subst ru
        cases em : mutL i (fSetI n d') env s2 with
        | none => simp only [em] at p1; exact p1.elim
        | some z =>
          obtain ⟨env', s3⟩ := z
          simp only [em] at p1
          rw [← k1] at em
          obtain ⟨p', xs, ys, vs, a1, a2, a3, a4, a5⟩ := mutL_ok rm2 em
          rw [e1] at a1
          cases a1
          unfold fSetI at a4
          cases ej : ixN xs.length n with
          | none => rw [ej] at a4; cases a4
          | some jj =>
            rw [ej] at a4
            cases a4
            refine ⟨p, vs, n, jj, rfl, rfl, a2, by rw [a3.length]; exact ej, ?_⟩
            obtain ⟨w3, b1, b2, b3, b4⟩ := a5 (vs.set jj v) (RvL.set rd2 jj a3)
            rw [← b2]
            exact p1 w3 σ b1 b3 ((Xs.ev k3).trans rm1 r2 b4)
      | _ => simp only at p1; exact p1.elim
/-! nothing done -/
theorem Fzo.fz {o : O} {p : Addr} (r : Rst g w) (f : Fzo o) (h : Ro g w p o) (nm : p ∉ w.m) (nT : p ∉ w.T) : Rv g w (Gm.fz (.own o)) (.ref p) := by
  cases o with
  | lst xs =>
    obtain ⟨ys, e1, z⟩ := h
    show Rv g w (.lst xs) (.ref p)
    unfold Rv
    exact ⟨p, ys, rfl, e1, nolive nm, nT, z⟩
  | dK kv =>
    obtain ⟨ys, e1, z⟩ := h
    show Rv g w (.dct kv) (.ref p)
    unfold Rv
    exact ⟨p, ys, rfl, e1, nolive nm, nT, z⟩
  | ins a b => exact f.elim
  | dead => exact f.elim
def Quiet (q : Env → Store → Env × Store) : Prop := ∀ (g : Gc) (tb : List Addr) (w : Wd) (env : Env) (σ : Sl), Rm g tb w env σ → ∃ w', w'.s = (q env w.s).2 ∧ w'.H = w.H ∧ Rm g tb w' (q env w.s).1 σ ∧ Xs w env σ w' (q env w.s).1 σ
theorem fz_no {o : O} (f : Fzo o) : ∀ o', Gm.fz (.own o) ≠ .own o' := by
  intro o'
  cases o with
  | lst xs => exact fun z => nomatch z
  | dK kv => exact fun z => nomatch z
  | ins a b => exact f.elim
  | dead => exact f.elim
theorem ownAt_off {i j : Nat} {p : Addr} {d : D} (hd : ∀ o, d ≠ .own o) (h : OwnAt (env.set i (some d)) σ j p) : j ≠ i ∧ OwnAt env σ j p := by
  obtain ⟨q, a, b⟩ := h
  by_cases e : j = i
  · subst e
    have hl : j < env.length := by
      have := (List.getElem?_eq_some_iff.mp a).1
      rwa [List.length_set] at this
    rw [List.getElem?_set_self hl] at a
    exact absurd (by simpa using a) (hd q)
  · rw [List.getElem?_set_ne (Ne.symm e)] at a
    exact ⟨e, q, a, b⟩
theorem ownAt_on {i j : Nat} {p : Addr} {d : D} (hj : j ≠ i) (h : OwnAt env σ j p) : OwnAt (env.set i (some d)) σ j p := by
  obtain ⟨q, a, b⟩ := h
  exact ⟨q, by rw [List.getElem?_set_ne (Ne.symm hj)]; exact a, b⟩
theorem quiet_fz (i : Nat) : Quiet (gFz i) := by
  intro g tb w env σ r
  unfold gFz
  split
  · rename_i o ei
    obtain ⟨v, a, z⟩ := r.re.sl i _ ei
    obtain ⟨p, rfl, fo, ro, nm, t⟩ := z
    have hd := fz_no fo
    generalize hE : env.set i (some (Gm.fz (.own o))) = env'
    have sub : ∀ q ∈ owns env' σ, q ∈ owns env σ ∧ q ≠ p := fun q hq => by
      rw [← hE] at hq
      obtain ⟨j, hj⟩ := mem_owns.mp hq
      obtain ⟨n, hj⟩ := ownAt_off hd hj
      refine ⟨mem_owns.mpr ⟨j, hj⟩, fun e => n ?_⟩
      subst e
      exact r.inj j i q hj ⟨o, ei, a⟩
    have pT : p ∉ owns env' σ ++ tb := fun hq => by
      rcases List.mem_append.mp hq with z | z
      · exact (sub p z).2 rfl
      · exact r.dj p (mem_owns.mpr ⟨i, o, ei, a⟩) z
    have hT : ∀ q ∈ owns env' σ ++ tb, q ∈ w.T := fun q hq => by
      rcases List.mem_append.mp hq with z | z
      · exact (r.T q).mpr (.inl (sub q z).1)
      · exact (r.T q).mpr (.inr z)
    have c : Cy g [] w (w.wT (owns env' σ ++ tb)) := Cy.sub r.re.st hT
    have r' : Rst g (w.wT (owns env' σ ++ tb)) := r.re.st.inT hT
    refine ⟨w.wT (owns env' σ ++ tb), rfl, rfl, ⟨⟨r', by rw [← hE, List.length_set]; exact r.re.len, fun j d ej => ?_⟩, fun q => List.mem_append, fun x y q hx hy => ?_, fun q hq => r.dj q (sub q hq).1⟩, ⟨⟨⟨[], by simp⟩, fun _ _ e _ _ => e, fun _ h => .inl h, fun _ h => .inl h⟩, fun q hq => .inl (sub q hq).1⟩⟩
    · by_cases e : j = i
      · subst e
        have hl : j < env.length := (List.getElem?_eq_some_iff.mp ei).1
        have ej' := ej
        rw [← hE, List.getElem?_set_self hl] at ej'
        cases ej'
        refine ⟨.ref p, a, ?_⟩
        have k := fo.fz r' (ro.mono c (nolive nm) (by simp)) nm pT
        generalize Gm.fz (.own o) = d' at k hd
        cases d' with
        | own o' => exact absurd rfl (hd o')
        | exn => unfold Rv at k; exact k.elim
        | _ => exact k
      · have ej' := ej
        rw [← hE, List.getElem?_set_ne (Ne.symm e)] at ej'
        obtain ⟨v, k1, k2⟩ := r.re.sl j d ej'
        refine ⟨v, k1, ?_⟩
        cases d with
        | own o2 =>
          obtain ⟨q, rfl, f2, r2, n2, t2⟩ := k2
          exact ⟨q, rfl, f2, r2.mono c (nolive n2) (by simp), n2, List.mem_append.mpr (.inl (mem_owns.mpr ⟨j, o2, ej, k1⟩))⟩
        | bor o => exact Rv.mono c _ _ k2
        | non => exact Rv.mono c _ _ k2
        | bl b => exact Rv.mono c _ _ k2
        | int b => exact Rv.mono c _ _ k2
        | str b => exact Rv.mono c _ _ k2
        | tup b => exact Rv.mono c _ _ k2
        | lst b => exact Rv.mono c _ _ k2
        | scr b => exact Rv.mono c _ _ k2
        | dct b => exact Rv.mono c _ _ k2
        | ref b => exact Rv.mono c _ _ k2
        | exn => exact k2
    · rw [← hE] at hx hy
      exact r.inj x y q (ownAt_off hd hx).2 (ownAt_off hd hy).2
  · exact ⟨w, rfl, rfl, r, Xs.refl⟩
theorem quiet_ad (i : Nat) : Quiet (gAd i) := by
  intro g tb w env σ r
  unfold gAd
  split
  · rename_i o ei
    obtain ⟨v, a, z⟩ := r.re.sl i _ ei
    obtain ⟨p, rfl, fo, ro, nm, t⟩ := z
    have hd : ∀ o', D.ref w.s.length ≠ .own o' := fun o' z => nomatch z
    have nd : o ≠ .dead := fun z => by subst z; exact fo
    generalize hE : env.set i (some (.ref w.s.length)) = env'
    have hp : p ∈ owns env σ := mem_owns.mpr ⟨i, o, ei, a⟩
    have sub : ∀ q ∈ owns env' σ, q ∈ owns env σ ∧ q ≠ p := fun q hq => by
      rw [← hE] at hq
      obtain ⟨j, hj⟩ := mem_owns.mp hq
      obtain ⟨n, hj⟩ := ownAt_off hd hj
      refine ⟨mem_owns.mpr ⟨j, hj⟩, fun e => n ?_⟩
      subst e
      exact r.inj j i q hj ⟨o, ei, a⟩
    generalize hT' : owns env' σ ++ tb = T
    have pT : p ∉ T := fun hq => by
      rw [← hT'] at hq
      rcases List.mem_append.mp hq with z | z
      · exact (sub p z).2 rfl
      · exact r.dj p hp z
    have hT : ∀ q ∈ T, q ∈ w.T := fun q hq => by
      rw [← hT'] at hq
      rcases List.mem_append.mp hq with z | z
      · exact (r.T q).mpr (.inl (sub q z).1)
      · exact (r.T q).mpr (.inr z)
    obtain ⟨w', hw⟩ : ∃ w' : Wd, w' = { m := w.m ++ [p], s := w.s ++ [o], H := w.H, T := T } := ⟨_, rfl⟩
    have wm : w'.m = w.m ++ [p] := by rw [hw]
    have wss : w'.s = w.s ++ [o] := by rw [hw]
    have wH : w'.H = w.H := by rw [hw]
    have wTT : w'.T = T := by rw [hw]
    have len := r.re.st.len
    have getm : ∀ k q, w'.m[k]? = some q → (w.m[k]? = some q) ∨ (k = w.m.length ∧ q = p) := fun k q h => by
      rw [wm] at h
      rcases Nat.lt_or_ge k w.m.length with l | l
      · rw [List.getElem?_append_left l] at h; exact .inl h
      · rw [List.getElem?_append_right l] at h
        have := (List.getElem?_eq_some_iff.mp h).1
        have e : k - w.m.length = 0 := by simp at this; omega
        rw [e] at h
        simp at h
        exact .inr ⟨by omega, h.symm⟩
    have ext : Ext (owns env σ) w w' := by
      refine ⟨⟨[p], wm⟩, fun q x e _ _ => by rw [wH]; exact e, fun q l => ?_, fun q l => ?_⟩
      · obtain ⟨k, x, h1, h2, h3⟩ := l
        rcases getm k q h1 with z | ⟨_, z⟩
        · refine .inl ⟨k, x, z, ?_, h3⟩
          rw [wss, List.getElem?_append_left (by rw [← len]; exact (List.getElem?_eq_some_iff.mp z).1)] at h2
          exact h2
        · subst z; exact .inr (.inr hp)
      · rw [wm] at l
        rcases List.mem_append.mp l with z | z
        · exact .inl z
        · rw [List.mem_singleton.mp z]; exact .inr (.inr hp)
    have c : Cy g (owns env σ) w w' := ⟨r.re.st, ext, fun q h => (r.own h).1, fun q h => (r.own h).2, fun q h => .inl (hT q (by rw [← wTT]; exact h))⟩
    have r' : Rst g w' := by
      refine ⟨by rw [wm, wss, List.length_append, List.length_append, len]; rfl, ?_, fun q hq => ?_, fun k q x h1 h2 => ?_⟩
      · rw [wm, List.nodup_append]
        refine ⟨r.re.st.nd, by simp, fun x hx y hy => ?_⟩
        rw [List.mem_singleton.mp hy]
        exact fun e => nm (by rw [← e]; exact hx)
      · rw [wTT] at hq
        obtain ⟨n1, n2⟩ := r.re.st.tt q (hT q hq)
        refine ⟨fun h => ?_, by rw [wH]; exact n2⟩
        rw [wm] at h
        rcases List.mem_append.mp h with z | z
        · exact n1 z
        · rw [List.mem_singleton.mp z] at hq; exact pT hq
      · rcases getm k q h1 with z | ⟨z1, z⟩
        · have h2' : w.s[k]? = some x := by
            rw [wss, List.getElem?_append_left (by rw [← len]; exact (List.getElem?_eq_some_iff.mp z).1)] at h2
            exact h2
          exact (r.re.st.ce k q x z h2').same c (by rw [wH])
        · have h2' : x = o := by
            rw [wss, List.getElem?_append_right (by omega), z1, len] at h2
            simpa using h2.symm
          rw [h2', z]
          exact ro.same c (by rw [wH])
    refine ⟨w', wss, wH, ⟨⟨r', by rw [← hE, List.length_set]; exact r.re.len, fun j d ej => ?_⟩, fun q => by rw [wTT, ← hT', List.mem_append], fun x y q hx hy => ?_, fun q hq => r.dj q (sub q hq).1⟩, ⟨ext, fun q hq => .inl (sub q hq).1⟩⟩
    · by_cases e : j = i
      · subst e
        have hl : j < env.length := (List.getElem?_eq_some_iff.mp ei).1
        rw [← hE, List.getElem?_set_self hl] at ej
        cases ej
        refine ⟨.ref p, a, ?_⟩
        show Rv g w' (.ref w.s.length) (.ref p)
        unfold Rv
        exact ⟨p, rfl, by rw [wm, ← len, List.getElem?_append_right (Nat.le_refl _)]; simp⟩
      · have ej' := ej
        rw [← hE, List.getElem?_set_ne (Ne.symm e)] at ej'
        obtain ⟨v, k1, k2⟩ := r.re.sl j d ej'
        refine ⟨v, k1, ?_⟩
        cases d with
        | own o2 =>
          obtain ⟨q, rfl, f2, r2, n2, t2⟩ := k2
          have hq : q ∈ owns env' σ := mem_owns.mpr ⟨j, o2, ej, k1⟩
          refine ⟨q, rfl, f2, r2.same c (by rw [wH]), fun h => ?_, by rw [wTT, ← hT', List.mem_append]; exact .inl hq⟩
          rw [wm] at h
          rcases List.mem_append.mp h with z | z
          · exact n2 z
          · exact (sub q hq).2 (List.mem_singleton.mp z)
        | bor o => exact Rv.mono c _ _ k2
        | non => exact Rv.mono c _ _ k2
        | bl b => exact Rv.mono c _ _ k2
        | int b => exact Rv.mono c _ _ k2
        | str b => exact Rv.mono c _ _ k2
        | tup b => exact Rv.mono c _ _ k2
        | lst b => exact Rv.mono c _ _ k2
        | scr b => exact Rv.mono c _ _ k2
        | dct b => exact Rv.mono c _ _ k2
        | ref b => exact Rv.mono c _ _ k2
        | exn => exact k2
    · rw [← hE] at hx hy
      exact r.inj x y q (ownAt_off hd hx).2 (ownAt_off hd hy).2
  · exact ⟨w, rfl, rfl, r, Xs.refl⟩
theorem sPre_ok {q : Env → Store → Env × Store} {m : Sx} (hq : Quiet q) (h : tSt g W (sPre q m) Dn σ H) : tSt g W m Dn σ H := by
  obtain ⟨w, env, tb, rfl, r, h⟩ := h
  obtain ⟨w', e1, e2, r', x'⟩ := hq g tb w env σ r
  refine ⟨w', (q env w.s).1, tb, e2, r', ?_⟩
  rw [e1]
  exact h.next r r'.re.st x'
end
section
variable {X : Cx} {A : Ga} {W : WX} {a b c e : Expr} {es : List Expr} {ma mb : Ex} {mt mu : Tx} {st : Stmt} {ss : List Stmt} {m : Sx} {mr : Ax} {pos p apos : Pos} {x : Str}
theorem ms_pre {q : Env → Store → Env × Store} (hq : Quiet q) (h : MS X A W st m) : MS X A W st (sPre q m) := psW h fun _ _ _ h => sPre_ok hq h
theorem ms_app (i : Nat) {cpos : Pos} (h : ME X A W e ma) (hN : X.N[i]? = some x := by rfl) (hv : Vis X.env.scope x := by first | exact Or.inl rfl | exact Or.inr (Or.inl rfl) | exact Or.inr (Or.inr rfl)) (hd : (x == ("__debug__" : Str)) = false := by decide)
    (hcd : (x == ("__classdict__" : Str)) = false := by decide)
    (hbase : attributeBase (.Name x p) "append" X.env (eval (.Name x p) X.env) = eval (.Name x p) X.env := by rfl)
    (hfew : ((backTo cpos (starEach [e] X.env)).all (fun x => !x.1) && (backToKw cpos (keywordEach [] X.env)).all (fun x => x.1.isSome)
      && decide ([e].length + ([] : List Keyword).length + (if ([] : List Keyword).isEmpty then 0 else 1) < 30)) = true := by rfl)
    (hline : (apos.endLine == cpos.line) = true := by rfl) (hs : starEach [e] X.env = (false, eval e X.env) :: starEach [] X.env := by rfl) (hplain : (backTo cpos (starEach [] X.env)).any (·.1) = false := by rfl)
    (hs2 : swapsWith (.Call (.Attribute (.Name x p) "append" apos) [e] [] cpos) none pos.line X.env = pure false := by rfl) :
    MS X A W (.Expr (.Call (.Attribute (.Name x p) "append" apos) [e] [] cpos) pos) (sMut i gApp ma) :=
  psW (ps_expr (pe_bm PySem.F.plainAttrs_list PySem.F.slot_list_append PySem.F.type_list_append mt_append (pe_var hN hv hd hcd) (pa_cons h pa_nil hs) hbase hfew hline hs hplain) hs2) fun _ _ _ h => sMut_ok rd_app h
theorem ms_ext (i : Nat) {cpos : Pos} (h : ME X A W e ma) (hN : X.N[i]? = some x := by rfl) (hv : Vis X.env.scope x := by first | exact Or.inl rfl | exact Or.inr (Or.inl rfl) | exact Or.inr (Or.inr rfl)) (hd : (x == ("__debug__" : Str)) = false := by decide)
    (hcd : (x == ("__classdict__" : Str)) = false := by decide)
    (hbase : attributeBase (.Name x p) "extend" X.env (eval (.Name x p) X.env) = eval (.Name x p) X.env := by rfl)
    (hfew : ((backTo cpos (starEach [e] X.env)).all (fun x => !x.1) && (backToKw cpos (keywordEach [] X.env)).all (fun x => x.1.isSome)
      && decide ([e].length + ([] : List Keyword).length + (if ([] : List Keyword).isEmpty then 0 else 1) < 30)) = true := by rfl)
    (hline : (apos.endLine == cpos.line) = true := by rfl) (hs : starEach [e] X.env = (false, eval e X.env) :: starEach [] X.env := by rfl) (hplain : (backTo cpos (starEach [] X.env)).any (·.1) = false := by rfl)
    (hs2 : swapsWith (.Call (.Attribute (.Name x p) "extend" apos) [e] [] cpos) none pos.line X.env = pure false := by rfl) :
    MS X A W (.Expr (.Call (.Attribute (.Name x p) "extend" apos) [e] [] cpos) pos) (sMut i gExt ma) :=
  psW (ps_expr (pe_bm PySem.F.plainAttrs_list PySem.F.slot_list_extend PySem.F.type_list_extend mt_extend (pe_var hN hv hd hcd) (pa_cons h pa_nil hs) hbase hfew hline hs hplain) hs2) fun _ _ _ h => sMut_ok rd_ext h
theorem ms_sub (i : Nat) {tpos : Pos} (h : ME X A W e ma) (k : ME X A W a mb) (hN : X.N[i]? = some x := by rfl) (hv : Vis X.env.scope x := by first | exact Or.inl rfl | exact Or.inr (Or.inl rfl) | exact Or.inr (Or.inr rfl)) (hd : (x == ("__debug__" : Str)) = false := by decide)
    (hcd : (x == ("__classdict__" : Str)) = false := by decide)
    (hs : swapsWithSole [.Subscript (.Name x p) a tpos] e pos.line X.env = pure false := by rfl) (hw : swappedStores [.Subscript (.Name x p) a tpos] e X.env = pure none := by rfl)
    (h1 : (assignEach [.Subscript (.Name x p) a tpos] X.env).map (·.2) = [assign (.Subscript (.Name x p) a tpos) X.env] := by rfl) (ha : ∀ v, assign (.Subscript (.Name x p) a tpos) X.env v = (do
      let ov ← holding [v] (eval (.Name x p) X.env)
      let iv ← holding [v, ov] (eval a X.env)
      standAt tpos
      holding [v, ov, iv] (setItem ov iv v)
      release [v, ov, iv] []) := by intro _; rfl) :
    MS X A W (.Assign [.Subscript (.Name x p) a tpos] e pos) (sSub i mb ma) := psW (ps_asg h (pg_sub (pe_var hN hv hd hcd) k set_list ha) hs hw h1) fun _ _ _ h => sSub_ok h
end
end Gm

set_option Elab.async false
set_option linter.all false
set_option maxRecDepth 100000
set_option autoImplicit false
set_option maxHeartbeats 1000000
namespace Gm
open PySem PySem.Spec PyProof.Rows L2
/-! ### comprehensions -/
def wipeE (env : Env) : List Nat → Env
  | [] => env
  | v :: vs => (wipeE env vs).set v none
def Tg.ix : Tg → List Nat
  | .nm i => [i]
  | .tp is => is
def lcX (tg : Tg) (tt : Tx) (el : Ex) (vs : List Nat) (it : Itr) : Nat → Nat → List D → Env → Store → R D
  | 0, _, _, _, _ => .no
  | f + 1, i, acc, env, s => match it.at s i with
    | none => .no
    | some none => .ok (.own (.lst acc)) s
    | some (some d) => match tgE tg d (wipeE env vs) with
      | none => .no
      | some env1 => match tt env1 s with
        | .ok true s1 => (match el env1 s1 with
          | .ok x s2 => (match snk (fz x) with
            | some y => if acc.length < 16777216 then lcX tg tt el vs it f (i + 1) (acc ++ [y]) env s2 else .no
            | none => .no)
          | _ => .no)
        | .ok false s1 => lcX tg tt el vs it f (i + 1) acc env s1
        | _ => .no
def eLc (tg : Tg) (ix : Ix) (tt : Tx) (el : Ex) (vs : List Nat) : Ex := fun env s => match ix env s with
  | .ok it s' => lcX tg tt el vs it (it.fuel s') 0 [] env s'
  | .exc c s' => .exc c s'
  | .no => .no
def tY : Tx := fun _ s => .ok true s
abbrev W0 : WX := fun _ _ _ _ => False
section
variable {g : Gc} {tb : List Addr} {w w' w1 w2 w3 : Wd} {env env' env1 env2 : Env} {σ σ' σ1 σ2 : Sl} {W : WX} {Dn : Ends} {H : Hp}
theorem wipeE_len : ∀ {vs : List Nat}, (wipeE env vs).length = env.length
  | [] => rfl
  | v :: vs => by unfold wipeE; rw [List.length_set]; exact wipeE_len
theorem wipeE_some {i : Nat} {d : D} : ∀ {vs : List Nat}, (wipeE env vs)[i]? = some (some d) → env[i]? = some (some d) ∧ i ∉ vs
  | [], h => ⟨h, by simp⟩
  | v :: vs, h => by
    unfold wipeE at h
    by_cases e : v = i
    · subst e
      rw [List.getElem?_set] at h
      simp at h
    · rw [List.getElem?_set_ne e] at h
      obtain ⟨a, b⟩ := wipeE_some h
      exact ⟨a, fun z => (List.mem_cons.mp z).elim (fun q => e q.symm) b⟩
theorem wipe_in {i : Nat} : ∀ {vs : List Nat}, i ∈ vs → (wipe σ vs)[i]? = if i < σ.length then some none else none
  | v :: vs, h => by
    unfold wipe
    by_cases e : v = i
    · subst e
      rw [List.getElem?_set]
      simp only [if_pos]
      rw [wipe_length]
    · rw [List.getElem?_set_ne e]
      exact wipe_in ((List.mem_cons.mp h).resolve_left fun q => e q.symm)
theorem wipe_ext {vs : List Nat} {σ σ' : Sl} (hl : σ'.length = σ.length) (h : ∀ i, i ∉ vs → σ'[i]? = σ[i]?) : wipe σ' vs = wipe σ vs := by
  apply List.ext_getElem?
  intro i
  by_cases e : i ∈ vs
  · rw [wipe_in e, wipe_in e, hl]
  · rw [wipe_out e, wipe_out e, h i e]
theorem Re.wipe {vs : List Nat} (re : Re g w env σ) : Re g w (wipeE env vs) (L2.wipe σ vs) :=
  ⟨re.st, by rw [wipeE_len, wipe_length]; exact re.len, fun i d e => by
    obtain ⟨a, b⟩ := wipeE_some e
    obtain ⟨v, k1, k2⟩ := re.sl i d a
    exact ⟨v, by rw [wipe_out b]; exact k1, k2⟩⟩
theorem Re.setP {i : Nat} {d : D} {v : V} (re : Re g w env σ) (h : Rv g w d v) : Re g w (env.set i (some d)) (σ.set i (some v)) := by
  refine ⟨re.st, by rw [List.length_set, List.length_set]; exact re.len, fun j d' e => ?_⟩
  by_cases q : j = i
  · subst q
    have hl : j < env.length := by
      have := (List.getElem?_eq_some_iff.mp e).1
      rwa [List.length_set] at this
    rw [List.getElem?_set_self hl] at e
    cases e
    refine ⟨v, by rw [List.getElem?_set_self (re.len ▸ hl)], ?_⟩
    cases d with
    | own o => unfold Rv at h; exact h.elim
    | exn => unfold Rv at h; exact h.elim
    | _ => exact h
  · rw [List.getElem?_set_ne (Ne.symm q)] at e
    obtain ⟨v', a, b⟩ := re.sl j d' e
    exact ⟨v', by rw [List.getElem?_set_ne (Ne.symm q)]; exact a, b⟩
theorem setsR_ok : ∀ (is : List Nat) (ds : List D) (vs : List V) (env env' : Env) (σ : Sl), Re g w env σ → RvL g w ds vs → setsE is ds env = some env' →
    vs.length = is.length ∧ Re g w env' (setsV is vs σ) ∧ (setsV is vs σ).length = σ.length ∧ ∀ j, j ∉ is → (setsV is vs σ)[j]? = σ[j]?
  | [], [], vs, env, env', σ, r, h, e => by
    unfold RvL at h; subst h
    cases e
    exact ⟨rfl, r, rfl, fun _ _ => rfl⟩
  | i :: is, d :: ds, vs, env, env', σ, r, h, e => by
    unfold RvL at h
    obtain ⟨v, t, rfl, h1, h2⟩ := h
    obtain ⟨hl, r2, l2, k2⟩ := setsR_ok is ds t _ env' _ (r.setP (i := i) h1) h2 e
    refine ⟨by simp [hl], r2, by show (setsV is t (σ.set i (some v))).length = _; rw [l2, List.length_set], fun j hj => ?_⟩
    show (setsV is t (σ.set i (some v)))[j]? = _
    rw [k2 j (fun z => hj (List.mem_cons_of_mem _ z)), List.getElem?_set_ne (fun z => hj (by rw [z]; exact List.mem_cons_self))]
  | [], _ :: _, _, _, _, _, _, _, e => by cases e
  | _ :: _, [], _, _, _, _, _, _, e => by cases e
theorem tg_re {tg : Tg} {d : D} {v : V} {Q : Sl → Hp → Prop} (r : Re g w env σ) (h : Rv g w d v) (e : tgE tg d env = some env')
    (k : ∀ σ' : Sl, Re g w env' σ' → σ'.length = σ.length → (∀ j, j ∉ tg.ix → σ'[j]? = σ[j]?) → Q σ' w.H) : tgT g.K tg v σ w.H Q := by
  cases tg with
  | nm i =>
    have e' : env' = env.set i (some d) := by
      cases d with
      | own o => unfold Rv at h; exact h.elim
      | bor o => unfold Rv at h; exact h.elim
      | exn => unfold Rv at h; exact h.elim
      | _ => simp only [tgE, snk, Option.map_some, Option.some.injEq] at e; exact e.symm
    subst e'
    exact k (σ.set i (some v)) (r.setP h) (by rw [List.length_set]) fun j hj => by rw [List.getElem?_set_ne (fun z => hj (by rw [z]; exact List.mem_cons_self))]
  | tp is =>
    cases d with
    | tup ds =>
      unfold Rv at h
      obtain ⟨p, ys, rfl, hp, hl⟩ := h
      obtain ⟨l, r2, l2, k2⟩ := setsR_ok is ds ys env env' σ r hl e
      exact ⟨p, ys, rfl, hp, l, gNames_ok l (k _ r2 l2 k2)⟩
    | _ => cases e
theorem wipe_idem {vs : List Nat} : wipe (wipe σ vs) vs = wipe σ vs := wipe_ext (wipe_length _ _) fun i h => wipe_out h
theorem lc_ok {tg : Tg} {ix : Ix} {tt : Tx} {el : Ex} {vs : List Nat} {Q : VK} (hv : ∀ i ∈ tg.ix, i ∈ vs) (h : tEv g W (eLc tg ix tt el vs) σ H Q) :
    tLc (tIe g W ix) (tgT g.K tg) (tTe g W0 tt) (tEv g W0 el) vs σ H Q := by
  obtain ⟨w, env, rfl, re, h⟩ := h
  refine ⟨w, env, rfl, re, ?_⟩
  refine Post.step (m' := eLc tg ix tt el vs env w.s) h (fun c s e => by simp only [eLc, e]) (fun e => by simp only [eLc, e]) fun it s1 w1 J ei hs1 ht1 e1 p1 => ?_
  obtain ⟨r1, j1⟩ := p1
  intro A hA
  have em : eLc tg ix tt el vs env w.s = lcX tg tt el vs it (it.fuel s1) 0 [] env s1 := by simp only [eLc, ei]
  rw [em] at h
  generalize hm : lcX tg tt el vs it (it.fuel s1) 0 [] env s1 = m' at h
  have hA0 : w.H A = none := back re.st r1 e1 hA
  have nT : A ∉ w.T := re.st.ntT hA0
  have hT0 : ∀ q ∈ A :: w1.T, q ∈ w1.T ∨ q = A := fun q hq => by
    rcases List.mem_cons.mp hq with e | e
    · exact .inr e
    · exact .inl e
  -- the invariant
  refine ⟨fun i m H => ∃ (w2 : Wd) (acc : List D) (ys : List V), w2.H = H ∧ w2.T = A :: w.T ∧ Re g w2 env σ ∧ ItR g w2 it J ∧ w2.H A = some (.lst ys) ∧ RvL g w2 acc ys ∧ Ext [] w w2 ∧ lcX tg tt el vs it m i acc env w2.s = m', ⟨it.fuel s1, ?_⟩, ?_⟩
  · obtain ⟨w2, hw2⟩ : ∃ w2 : Wd, w2 = { w1 with H := upd w1.H A (.lst []), T := A :: w1.T } := ⟨_, rfl⟩
    have c : Cy g [] w1 w2 := by rw [hw2]; exact new_cy r1 hA hT0
    have r2 : Rst g w2 := by rw [hw2]; exact r1.new hA hT0
    refine ⟨w2, [], [], by rw [hw2], by rw [hw2, ht1], (re.next r1 e1 ht1).mono c r2 (fun p hp => by rw [hw2]; exact List.mem_cons_of_mem _ hp), j1.mono c, by rw [hw2]; exact upd_same, by unfold RvL; rfl, e1.trans c.e, ?_⟩
    rw [show w2.s = s1 by rw [hw2]; exact hs1]
    exact hm
  · rintro i m H ⟨w2, acc, ys, rfl, t2, re2, j2, hA2, ra2, x2, q2⟩
    have At : A ∈ w2.T := by rw [t2]; exact List.mem_cons_self
    have An : A ∉ w2.m := (re2.st.tt A At).1
    cases m with
    | zero => rw [show m' = .no from q2.symm] at h; exact h.elim
    | succ m =>
      cases ea : it.at w2.s i with
      | none => simp only [lcX, ea] at q2; rw [← q2] at h; exact h.elim
      | some o =>
        cases o with
        | none =>
          simp only [lcX, ea] at q2
          rw [← q2] at h
          refine .inl ⟨j2.stop re2.st ea, ?_⟩
          refine h (w2.wT w.T) (.ref A) rfl rfl ⟨x2.pre, x2.keep, x2.new, x2.nm⟩ ⟨A, rfl, hA0, nT, trivial, ?_, ?_⟩
          · have : ({ w2.wT w.T with T := A :: (w2.wT w.T).T } : Wd) = w2 := by
              show ({ w2 with T := A :: w.T } : Wd) = w2
              rw [← t2]
            rw [this]; exact re2.st
          · have : ({ w2.wT w.T with T := A :: (w2.wT w.T).T } : Wd) = w2 := by
              show ({ w2 with T := A :: w.T } : Wd) = w2
              rw [← t2]
            rw [this]; exact ⟨ys, hA2, ra2⟩
        | some d =>
          obtain ⟨g1, g2⟩ := j2.go re2.st ea
          refine .inr ⟨g1, fun H => ∃ (w2 : Wd) (acc : List D) (ys : List V), w2.H = H ∧ w2.T = A :: w.T ∧ Re g w2 env σ ∧ ItR g w2 it J ∧ w2.H A = some (.lst ys) ∧ RvL g w2 acc ys ∧ Ext [] w w2 ∧ lcX tg tt el vs it m (i + 1) acc env w2.s = m', fun H' z => ⟨m, Nat.lt_succ_self m, z⟩, fun x H' y => ?_⟩
          obtain ⟨rfl, rv⟩ := g2 x H' y
          cases et : tgE tg d (wipeE env vs) with
          | none => simp only [lcX, ea, et] at q2; rw [← q2] at h; exact h.elim
          | some env1 =>
            refine tg_re (re2.wipe (vs := vs)) rv et fun σ2 reb l2 k2 => ⟨?_, ?_⟩
            · rw [← wipe_idem (σ := σ)]
              exact wipe_ext l2 fun j hj => k2 j fun z => hj (hv j z)
            · refine ⟨w2, env1, rfl, reb, ?_⟩
              cases eb : tt env1 w2.s with
              | no => simp only [lcX, ea, et, eb] at q2; rw [← q2] at h; exact h.elim
              | exc c s' => simp only [lcX, ea, et, eb] at q2; rw [← q2] at h; exact h.elim
              | ok b s3 =>
                intro w3 b' hs3 ht3 e3 p3
                obtain ⟨r3, rfl⟩ := p3
                have re3 := re2.next r3 e3 ht3
                have c3 := Cy.of re2.st e3 ht3
                have hA3 : w3.H A = some (.lst ys) := e3.keep A _ hA2 (nolive An) (by simp)
                cases b with
                | false =>
                  simp only [lcX, ea, et, eb] at q2
                  exact iteF ⟨w3, acc, ys, rfl, ht3.trans t2, re3, j2.mono c3, hA3, RvL.mono c3 _ _ ra2, x2.trans e3, by rw [hs3]; exact q2⟩
                | true =>
                  refine iteT ⟨w3, env1, rfl, reb.next r3 e3 ht3, ?_⟩
                  cases ee : el env1 w3.s with
                  | no => rw [hs3] at ee; simp only [lcX, ea, et, eb, ee] at q2; rw [← q2] at h; exact h.elim
                  | exc c s' => rw [hs3] at ee; simp only [lcX, ea, et, eb, ee] at q2; rw [← q2] at h; exact h.elim
                  | ok x4 s4 =>
                    intro w4 v4 hs4 ht4 e4 p4
                    rw [hs3] at ee
                    obtain ⟨r4, o4⟩ := p4.fz
                    cases es : snk (fz x4) with
                    | none => simp only [lcX, ea, et, eb, ee, es] at q2; rw [← q2] at h; exact h.elim
                    | some y4 =>
                      have rd := snk_ok o4 es
                      have An3 : A ∉ w3.m := e3.out ⟨_, hA2⟩ An
                      have hA4 : w4.H A = some (.lst ys) := e4.keep A _ hA3 (nolive An3) (by simp)
                      have c4 := Cy.of r3 e4 ht4
                      simp only [lcX, ea, et, eb, ee, es] at q2
                      split at q2
                      · rename_i hl
                        have ra4 := RvL.mono c4 _ _ (RvL.mono c3 _ _ ra2)
                        have t4 : w4.T = A :: w.T := ht4.trans (ht3.trans t2)
                        have cw : Cy g [A] w4 (w4.wr A (.lst (ys ++ [v4]))) := wr_cy r4 (by rw [hA4]; trivial) (by rw [t4]; exact List.mem_cons_self)
                        have rw' : Rst g (w4.wr A (.lst (ys ++ [v4]))) := wr_rst r4 (by rw [hA4]; trivial) (by rw [t4]; exact List.mem_cons_self)
                        have x4' := (x2.trans e3).trans e4
                        have re4 := re3.next r4 e4 ht4
                        have ownne : ∀ (j : Nat) (o : O) (q : Addr), env[j]? = some (some (.own o)) → σ[j]? = some (some (.ref q)) → q ≠ A := fun j o q a b z => by
                          obtain ⟨v, k1, k2⟩ := re.sl j _ a
                          rw [b] at k1; cases k1
                          obtain ⟨p', z1, _, ro, _⟩ := k2
                          cases z1
                          obtain ⟨u, zu⟩ := ro.trk
                          rw [z, hA0] at zu; cases zu
                        refine ⟨ys, hA4, by rw [ra4.length, sizeLine_eq]; exact hl, w4.wr A (.lst (ys ++ [v4])), acc ++ [y4], ys ++ [v4], rfl, t4, ⟨rw', re4.len, fun j d' ej => ?_⟩, ((j2.mono c3).mono c4).mono cw, upd_same, RvL.mono cw _ _ (ra4.app (RvL.one rd)), ?_, by show lcX tg tt el vs it m (i + 1) (acc ++ [y4]) env w4.s = m'; rw [hs4]; exact q2⟩
                        · obtain ⟨v, k1, k2⟩ := re4.sl j d' ej
                          refine ⟨v, k1, ?_⟩
                          cases d' with
                          | own o2 =>
                            obtain ⟨q, rfl, f2, rr2, n2, tt2⟩ := k2
                            refine ⟨q, rfl, f2, rr2.same cw ?_, n2, tt2⟩
                            show upd w4.H A _ q = w4.H q
                            exact upd_ne (ownne j o2 q ej k1)
                          | bor o => exact Rv.mono cw _ _ k2
                          | non => exact Rv.mono cw _ _ k2
                          | bl b => exact Rv.mono cw _ _ k2
                          | int b => exact Rv.mono cw _ _ k2
                          | str b => exact Rv.mono cw _ _ k2
                          | tup b => exact Rv.mono cw _ _ k2
                          | lst b => exact Rv.mono cw _ _ k2
                          | scr b => exact Rv.mono cw _ _ k2
                          | dct b => exact Rv.mono cw _ _ k2
                          | ref b => exact Rv.mono cw _ _ k2
                          | exn => exact k2
                        · refine ⟨x4'.pre, fun p o hp nl nx => ?_, x4'.new, x4'.nm⟩
                          show upd w4.H A _ p = some o
                          rw [upd_ne fun z => by rw [z, hA0] at hp; cases hp]
                          exact x4'.keep p o hp nl nx
                      · rw [← q2] at h; exact h.elim
theorem tY_ok {Q : Bool → Hp → Prop} (h : tTe g W tY σ H Q) : tYes σ H Q := by
  obtain ⟨w, env, rfl, re, h⟩ := h
  exact h w true rfl rfl Ext.refl ⟨re.st, rfl⟩
end
section
variable {X : Cx} {A : Ga} {W : WX} {elt tx iter c : Expr} {ifs : List Expr} {me : Ex} {mt : Tx} {mi : Ix} {tg : Tg} {pos spos : Pos} {scope : Scope} {own : List (Str × Nat)}
abbrev MPt (X : Cx) (A : Ga) (W : WX) (ifs : List Expr) (m : Tx) : Prop := PTs X ifs (tTe (gx X A) W m)
theorem mpt_nil : MPt X A W [] tY := ⟨fun pins s σ H Q I h => pts_nil.run pins s σ H Q I (tY_ok h)⟩
theorem mpt_one (h : MT X A W c mt) : MPt X A W [c] mt := pts_one h
theorem me_lc (hc : X.calm = true) (hN : X.N.Nodup) (hi : MI X A W tx iter mi) (ok : BlkOk X.N X.env.scope scope own) {vs : List Nat} (hvs : own.map (·.2) = vs) (hv : ∀ i ∈ tg.ix, i ∈ vs)
    (hg : ∀ (s : Shared) (H : Hp) (C : Addr) (cl : List (Str × Addr)) (fp : List Addr), MG (X.blk s H scope (compEnvC scope cl C X.env) fp) tx tg) (ht : ∀ (s : Shared) (H : Hp) (C : Addr) (cl : List (Str × Addr)) (fp : List Addr), MPt (X.blk s H scope (compEnvC scope cl C X.env) fp) A W0 ifs mt)
    (he : ∀ (s : Shared) (H : Hp) (C : Addr) (cl : List (Str × Addr)) (fp : List Addr), Takes (X.blk s H scope (compEnvC scope cl C X.env) fp) W0 → ME (X.blk s H scope (compEnvC scope cl C X.env) fp) A W0 elt me) (hs : ∀ x, foldedSetIterable iter X.env x = pure x := by intro _; rfl) :
    ME X A W (.ListComp elt [⟨tx, iter, ifs, 0⟩] scope pos) (eLc tg mi mt me vs) :=
  peW (pe_lc hc hN hi ok hg ht (fun s H C cl fp => he s H C cl fp takes0) hs) fun _ _ _ h => lc_ok (by rw [hvs]; exact hv) (by rw [hvs]; exact h)
theorem ms_setLc {i : Nat} {y : Str} {py : Pos} (hc : X.calm = true) (hN : X.N.Nodup) (hy : X.N[i]? = some y) (hyl : X.env.scope.names.lookup y = some .local)
    (hsw : swapsWith (.ListComp elt [⟨tx, iter, ifs, 0⟩] scope pos) (some (.Name y py)) spos.line X.env = pure true) (hi : MI X A W tx iter mi) (ok : BlkOk X.N X.env.scope scope own) {vs : List Nat} (hvs : own.map (·.2) = vs) (hv : ∀ i ∈ tg.ix, i ∈ vs)
    (hg : ∀ (s : Shared) (H : Hp) (C : Addr) (cl : List (Str × Addr)) (fp : List Addr), MG (X.blk s H scope (compEnvC scope cl C X.env) fp) tx tg) (ht : ∀ (s : Shared) (H : Hp) (C : Addr) (cl : List (Str × Addr)) (fp : List Addr), MPt (X.blk s H scope (compEnvC scope cl C X.env) fp) A W0 ifs mt)
    (he : ∀ (s : Shared) (H : Hp) (C : Addr) (cl : List (Str × Addr)) (fp : List Addr), Takes (X.blk s H scope (compEnvC scope cl C X.env) fp) W0 → ME (X.blk s H scope (compEnvC scope cl C X.env) fp) A W0 elt me) (hs : ∀ x, foldedSetIterable iter X.env x = pure x := by intro _; rfl) :
    MS X A W (.Assign [.Name y py] (.ListComp elt [⟨tx, iter, ifs, 0⟩] scope pos) spos) (sSet i (eLc tg mi mt me vs)) :=
  psW (ps_setLc hc hN hy hyl hsw hi ok hg ht (fun s H C cl fp => he s H C cl fp takes0) hs) fun _ _ _ h => lc_ok (by rw [hvs]; exact hv) (by rw [hvs]; exact sSet_ok h)
end
end Gm

set_option Elab.async false
set_option linter.all false
set_option maxRecDepth 100000
set_option autoImplicit false
set_option maxHeartbeats 1000000
namespace Gm
open PySem PySem.Spec PyProof.Rows L2
/-! ### a name that is never changed within -/
def sSetF (i : Nat) (e : Ex) : Sx := fun env s => match e env s with
  | .ok d s' => (match snk (fz d) with
    | some d => .nx (env.set i (some d)) s'
    | none => .no)
  | .exc c s' => .exc c env s'
  | .no => .no
def fIsB : Store → D → D → R D := fun s a b => match a, b with
  | .bl x, .bl y => .ok (.bl (decide (x = y))) s
  | _, _ => .no
def fNotB : Store → D → D → R D := fun s a b => match a, b with
  | .bl x, .bl y => .ok (.bl (!decide (x = y))) s
  | _, _ => .no
def fMax : Store → D → D → R D := fI cT fun i j => .int (if j > i then j else i)
def fMin : Store → D → D → R D := fI cT fun i j => .int (if j < i then j else i)
def fListOf : Store → D → R D := fun s a => match seqD s a with
  | some xs => .ok (.own (.lst xs)) s
  | none => .no
section
variable {g : Gc} {tb : List Addr} {w w' w1 w2 w3 : Wd} {env env' env1 env2 : Env} {σ σ' σ1 σ2 : Sl} {W : WX} {Dn : Ends} {H : Hp}
theorem sSetF_ok {i : Nat} {e : Ex} (h : tSt g W (sSetF i e) Dn σ H) : tAsg (tEv g W e) (gName i) Dn σ H := by
  obtain ⟨w, env, tb, rfl, r, h⟩ := h
  refine ev_in (m := sSetF i e env w.s) r h (fun c s q => by simp only [sSetF, q]) (fun q => by simp only [sSetF, q]) fun d s' w' v q h1 h2 h3 h4 => ?_
  obtain ⟨r1, o1⟩ := h4.fz
  cases es : snk (fz d) with
  | none => simp only [sSetF, q, es] at h; exact h.elim
  | some d' =>
    simp only [sSetF, q, es] at h
    have rd := snk_ok o1 es
    have r' := r.ev r1 h3 h2
    obtain ⟨w2, a, b, r2, x2⟩ := r'.setP (i := i) rd
    show Dn.nx (σ.set i (some v)) w'.H
    rw [← b]
    exact h w2 _ (a.trans h1) r2 ((Xs.ev h3).trans r r1 x2)
theorem po_bl {i : Bool} {x : V} (h : Po g w (.bl i) x) : x = .bl i := by
  have h : Rv g w (.bl i) x := h
  unfold Rv at h; exact h
theorem snd_isB : Snd2 g fIsB rIsB := by
  intro w a b x y Q r pa pb h
  unfold fIsB at h
  split at h
  · exact ⟨_, _, po_bl pa, po_bl pb, h.pure r rv_bl⟩
  · exact h.elim
theorem snd_notB : Snd2 g fNotB rNotB := by
  intro w a b x y Q r pa pb h
  unfold fNotB at h
  split at h
  · exact ⟨_, _, po_bl pa, po_bl pb, h.pure r rv_bl⟩
  · exact h.elim
theorem ne_isB : ∀ s x y k s', fIsB s x y ≠ .exc k s' := by
  intro s x y k s'
  unfold fIsB
  split
  all_goals exact fun z => nomatch z
theorem ne_notB : ∀ s x y k s', fNotB s x y ≠ .exc k s' := by
  intro s x y k s'
  unfold fNotB
  split
  all_goals exact fun z => nomatch z
theorem snd_max : Snd2 g fMax fun x y H Q => ∃ i j, [x, y] = [.int i, .int j] ∧ Q (.int (if j > i then j else i)) H := by
  intro w a b x y Q r pa pb h
  obtain ⟨i, j, h1, h2, h3⟩ := snd_I0 (k := fun i j => .int (if j > i then j else i)) (fun _ _ _ => rv_int) w a b x y Q r pa pb h
  exact ⟨i, j, by rw [h1, h2], h3⟩
theorem snd_min : Snd2 g fMin fun x y H Q => ∃ i j, [x, y] = [.int i, .int j] ∧ Q (.int (if j < i then j else i)) H := by
  intro w a b x y Q r pa pb h
  obtain ⟨i, j, h1, h2, h3⟩ := snd_I0 (k := fun i j => .int (if j < i then j else i)) (fun _ _ _ => rv_int) w a b x y Q r pa pb h
  exact ⟨i, j, by rw [h1, h2], h3⟩
theorem snd_listOf : Snd1 g fListOf fun x H Q => ∃ p ys, [x] = [.ref p] ∧ (SqL g.K H p ys ∨ SqT g.K H p ys) ∧ ∀ l, H l = none → Q (.ref l) (upd H l (.lst ys)) := by
  intro w a x Q r pa h
  unfold fListOf at h
  split at h
  · rename_i xs es
    obtain ⟨p, ys, e1, e2, e3⟩ := seqD_ok r pa es
    subst e1
    exact ⟨p, ys, rfl, e2, fun l hl => h { w with H := upd w.H l (.lst ys) } _ rfl rfl (new_ext hl) (Px.newL r hl e3)⟩
  · exact h.elim
theorem ne_listOf : ∀ s x k s', fListOf s x ≠ .exc k s' := by
  intro s x k s'
  unfold fListOf
  split
  all_goals exact fun z => nomatch z
end
section
variable {X : Cx} {A : Ga} {W : WX} {a b c : Expr} {ma mb : Ex} {mt mu : Tx} {pos p : Pos} {rest : List Expr}
theorem ms_setF (i : Nat) {x : Str} (hN : X.N.Nodup) (h : ME X A W a ma) (hi : X.N[i]? = some x := by rfl) (hx : Loc X.env.scope x := by first | exact Or.inl rfl | exact Or.inr rfl) (hs : swapsWith a (some (.Name x p)) pos.line X.env = pure false := by rfl) (hf : X.fn x = true ∨ X.env.scope.names.lookup x = some .local := by first | exact .inl rfl | exact .inr rfl | assumption) :
    MS X A W (.Assign [.Name x p] a pos) (sSetF i ma) := psW (ps_set hN hi hx h hs hf) fun _ _ _ h => sSetF_ok h
theorem ms_setLcF {elt tx iter : Expr} {ifs : List Expr} {me : Ex} {mi : Ix} {tg : Tg} {spos : Pos} {scope : Scope} {own : List (Str × Nat)} {i : Nat} {y : Str} {py : Pos} (hc : X.calm = true) (hN : X.N.Nodup) (hy : X.N[i]? = some y) (hyl : X.env.scope.names.lookup y = some .local)
    (hsw : swapsWith (.ListComp elt [⟨tx, iter, ifs, 0⟩] scope pos) (some (.Name y py)) spos.line X.env = pure true) (hi : MI X A W tx iter mi) (ok : BlkOk X.N X.env.scope scope own) {vs : List Nat} (hvs : own.map (·.2) = vs) (hv : ∀ i ∈ tg.ix, i ∈ vs)
    (hg : ∀ (s : Shared) (H : Hp) (C : Addr) (cl : List (Str × Addr)) (fp : List Addr), MG (X.blk s H scope (compEnvC scope cl C X.env) fp) tx tg) (ht : ∀ (s : Shared) (H : Hp) (C : Addr) (cl : List (Str × Addr)) (fp : List Addr), MPt (X.blk s H scope (compEnvC scope cl C X.env) fp) A W0 ifs mt)
    (he : ∀ (s : Shared) (H : Hp) (C : Addr) (cl : List (Str × Addr)) (fp : List Addr), Takes (X.blk s H scope (compEnvC scope cl C X.env) fp) W0 → ME (X.blk s H scope (compEnvC scope cl C X.env) fp) A W0 elt me) (hs : ∀ x, foldedSetIterable iter X.env x = pure x := by intro _; rfl) :
    MS X A W (.Assign [.Name y py] (.ListComp elt [⟨tx, iter, ifs, 0⟩] scope pos) spos) (sSetF i (eLc tg mi mt me vs)) :=
  psW (ps_setLc hc hN hy hyl hsw hi ok hg ht (fun s H C cl fp => he s H C cl fp takes0) hs) fun _ _ _ h => lc_ok (by rw [hvs]; exact hv) (by rw [hvs]; exact sSetF_ok h)
/-! the operators -/
theorem me_add (ha : ME X A W a ma) (hb : ME X A W b mb) : ME X A W (.BinOp a .Add b pos) (eOp2 fAdd ma mb) := me_op (op_add.or (op_add_str.or op_cat)) snd_add ne_add ha hb
theorem me_sub (ha : ME X A W a ma) (hb : ME X A W b mb) : ME X A W (.BinOp a .Sub b pos) (eOp2 fSub ma mb) := me_op op_sub (snd_I0 fun _ _ _ => rv_int) ne_I ha hb
theorem me_mul (ha : ME X A W a ma) (hb : ME X A W b mb) : ME X A W (.BinOp a .Mult b pos) (eOp2 fMul ma mb) := me_op (op_mul.or op_rep) snd_mul ne_mul ha hb
theorem me_div (ha : ME X A W a ma) (hb : ME X A W b mb) : ME X A W (.BinOp a .FloorDiv b pos) (eOp2 fDiv ma mb) := me_op op_fdiv (snd_I (fun i j h => by
  simp only [Bool.and_eq_true, decide_eq_true_eq] at h
  exact h) fun _ _ _ => rv_int) ne_I ha hb
theorem me_mod (ha : ME X A W a ma) (hb : ME X A W b mb) : ME X A W (.BinOp a .Mod b pos) (eOp2 fMod ma mb) := me_op op_mod (snd_I (fun i j h => of_decide_eq_true h) fun _ _ _ => rv_int) ne_I ha hb
theorem me_pow (ha : ME X A W a ma) (hb : ME X A W b mb) : ME X A W (.BinOp a .Pow b pos) (eOp2 fPow ma mb) := me_op op_pow (snd_I (fun i j h => by
  simp only [Bool.and_eq_true, decide_eq_true_eq] at h
  exact ⟨h.1.1, h.1.2, h.2⟩) fun _ _ _ => rv_int) ne_I ha hb
theorem me_neg (ha : ME X A W a ma) : ME X A W (.UnaryOp .USub a pos) (eOp1 fNeg ma) := me_un un_neg snd_neg ne_neg ha
theorem me_lt (ha : ME X A W a ma) (hb : ME X A W b mb) : ME X A W (.Compare a [.Lt] [b] pos) (eOp2 fLt ma mb) := me_cmp op_lt (snd_I0 fun _ _ _ => rv_bl) ne_I (nomark _) ha hb
theorem me_le (ha : ME X A W a ma) (hb : ME X A W b mb) : ME X A W (.Compare a [.LtE] [b] pos) (eOp2 fLe ma mb) := me_cmp op_le (snd_I0 fun _ _ _ => rv_bl) ne_I (nomark _) ha hb
theorem me_gt (ha : ME X A W a ma) (hb : ME X A W b mb) : ME X A W (.Compare a [.Gt] [b] pos) (eOp2 fGt ma mb) := me_cmp op_gt (snd_I0 fun _ _ _ => rv_bl) ne_I (nomark _) ha hb
theorem me_ge (ha : ME X A W a ma) (hb : ME X A W b mb) : ME X A W (.Compare a [.GtE] [b] pos) (eOp2 fGe ma mb) := me_cmp op_ge (snd_I0 fun _ _ _ => rv_bl) ne_I (nomark _) ha hb
theorem me_eq (hu : X.A.units + 64 < cLine) (ha : ME X A W a ma) (hb : ME X A W b mb) : ME X A W (.Compare a [.Eq] [b] pos) (eOp2 fEq ma mb) := me_cmp (op_eqD hu) snd_eq ne_eq (nomark _) ha hb
theorem me_ne (hu : X.A.units + 64 < cLine) (ha : ME X A W a ma) (hb : ME X A W b mb) : ME X A W (.Compare a [.NotEq] [b] pos) (eOp2 fNe ma mb) := me_cmp (op_neD hu) snd_ne ne_ne (nomark _) ha hb
theorem me_in (ha : ME X A W a ma) (hb : ME X A W b mb) (hm : behindInMarks .In b = false := by rfl) : ME X A W (.Compare a [.In] [b] pos) (eOp2 (fIn false) ma mb) := me_cmp op_in_seq snd_in ne_in hm ha hb
theorem me_notIn (ha : ME X A W a ma) (hb : ME X A W b mb) (hm : behindInMarks .NotIn b = false := by rfl) : ME X A W (.Compare a [.NotIn] [b] pos) (eOp2 (fIn true) ma mb) := me_cmp op_notIn_seq snd_in ne_in hm ha hb
theorem me_isN (ha : ME X A W a ma) (hb : ME X A W b mb) : ME X A W (.Compare a [.Is] [b] pos) (eOp2 fIsN ma mb) := me_cmp op_isN snd_isN ne_isN (nomark _) ha hb
theorem me_notN (ha : ME X A W a ma) (hb : ME X A W b mb) : ME X A W (.Compare a [.IsNot] [b] pos) (eOp2 fNotN ma mb) := me_cmp op_notN snd_notN ne_notN (nomark _) ha hb
theorem me_isB (ha : ME X A W a ma) (hb : ME X A W b mb) : ME X A W (.Compare a [.Is] [b] pos) (eOp2 fIsB ma mb) := me_cmp op_isBl snd_isB ne_isB (nomark _) ha hb
theorem me_notB (ha : ME X A W a ma) (hb : ME X A W b mb) : ME X A W (.Compare a [.IsNot] [b] pos) (eOp2 fNotB ma mb) := me_cmp op_notBl snd_notB ne_notB (nomark _) ha hb
theorem mt_lt (ha : ME X A W a ma) (hb : ME X A W b mb) : MT X A W (.Compare a [.Lt] [b] pos) (tq (eOp2 fLt ma mb)) := mt_cmp op_lt (snd_I0 fun _ _ _ => rv_bl) ne_I (nomark _) ha hb
theorem mt_le (ha : ME X A W a ma) (hb : ME X A W b mb) : MT X A W (.Compare a [.LtE] [b] pos) (tq (eOp2 fLe ma mb)) := mt_cmp op_le (snd_I0 fun _ _ _ => rv_bl) ne_I (nomark _) ha hb
theorem mt_gt (ha : ME X A W a ma) (hb : ME X A W b mb) : MT X A W (.Compare a [.Gt] [b] pos) (tq (eOp2 fGt ma mb)) := mt_cmp op_gt (snd_I0 fun _ _ _ => rv_bl) ne_I (nomark _) ha hb
theorem mt_ge (ha : ME X A W a ma) (hb : ME X A W b mb) : MT X A W (.Compare a [.GtE] [b] pos) (tq (eOp2 fGe ma mb)) := mt_cmp op_ge (snd_I0 fun _ _ _ => rv_bl) ne_I (nomark _) ha hb
theorem mt_eq (hu : X.A.units + 64 < cLine) (ha : ME X A W a ma) (hb : ME X A W b mb) : MT X A W (.Compare a [.Eq] [b] pos) (tq (eOp2 fEq ma mb)) := mt_cmp (op_eqD hu) snd_eq ne_eq (nomark _) ha hb
theorem mt_ne (hu : X.A.units + 64 < cLine) (ha : ME X A W a ma) (hb : ME X A W b mb) : MT X A W (.Compare a [.NotEq] [b] pos) (tq (eOp2 fNe ma mb)) := mt_cmp (op_neD hu) snd_ne ne_ne (nomark _) ha hb
theorem mt_in (ha : ME X A W a ma) (hb : ME X A W b mb) (hm : behindInMarks .In b = false := by rfl) : MT X A W (.Compare a [.In] [b] pos) (tq (eOp2 (fIn false) ma mb)) := mt_cmp op_in_seq snd_in ne_in hm ha hb
theorem mt_notIn (ha : ME X A W a ma) (hb : ME X A W b mb) (hm : behindInMarks .NotIn b = false := by rfl) : MT X A W (.Compare a [.NotIn] [b] pos) (tq (eOp2 (fIn true) ma mb)) := mt_cmp op_notIn_seq snd_in ne_in hm ha hb
theorem mt_isN (ha : ME X A W a ma) (hb : ME X A W b mb) : MT X A W (.Compare a [.Is] [b] pos) (tq (eOp2 fIsN ma mb)) := mt_cmp op_isN snd_isN ne_isN (nomark _) ha hb
theorem mt_notN (ha : ME X A W a ma) (hb : ME X A W b mb) : MT X A W (.Compare a [.IsNot] [b] pos) (tq (eOp2 fNotN ma mb)) := mt_cmp op_notN snd_notN ne_notN (nomark _) ha hb
theorem mt_isB (ha : ME X A W a ma) (hb : ME X A W b mb) : MT X A W (.Compare a [.Is] [b] pos) (tq (eOp2 fIsB ma mb)) := mt_cmp op_isBl snd_isB ne_isB (nomark _) ha hb
theorem mt_notB (ha : ME X A W a ma) (hb : ME X A W b mb) : MT X A W (.Compare a [.IsNot] [b] pos) (tq (eOp2 fNotB ma mb)) := mt_cmp op_notBl snd_notB ne_notB (nomark _) ha hb
theorem me_ix (ha : ME X A W a ma) (hb : ME X A W b mb) (hs : PlainIx b := by exact fun _ _ => rfl) : ME X A W (.Subscript a b pos) (eOp2 fIx ma mb) := me_ix0 ix_seq snd_ix ne_ix hs ha hb
theorem me_len (hg : Gl X "len") (hm : X.mg "len" = none) (h : ME X A W a ma) (hs : starEach [a] X.env = (false, eval a X.env) :: starEach [] X.env := by rfl) (hpl : (backTo pos (starEach [] X.env)).any (·.1) = false := by rfl) : ME X A W (.Call (.Name "len" p) [a] [] pos) (eOp1 fLen ma) :=
  me_call1 call_len snd_len ne_len hg hm boot_len h (by decide) (by decide) hs hpl
theorem me_list (hg : Gl X "list") (hm : X.mg "list" = none) (h : ME X A W a ma) (hs : starEach [a] X.env = (false, eval a X.env) :: starEach [] X.env := by rfl) (hpl : (backTo pos (starEach [] X.env)).any (·.1) = false := by rfl) : ME X A W (.Call (.Name "list" p) [a] [] pos) (eOp1 fListOf ma) :=
  me_callT1 call_list_of snd_listOf ne_listOf hg hm (by decide +kernel) h (by decide) (by decide) hs hpl
theorem me_max (hc : X.calm = true) (hg : Gl X "max") (hm : X.mg "max" = none) (ha : ME X A W a ma) (hb : ME X A W b mb) (hs : starEach [a, b] X.env = (false, eval a X.env) :: starEach [b] X.env := by rfl) (hs2 : starEach [b] X.env = (false, eval b X.env) :: starEach [] X.env := by rfl) (hpl : (backTo pos (starEach [b] X.env)).any (·.1) = false := by rfl) :
    ME X A W (.Call (.Name "max" p) [a, b] [] pos) (eOp2 fMax ma mb) := me_call2 (call_max2 hc) snd_max ne_I hg hm (by decide +kernel) ha hb (by decide) (by decide) hs hs2 hpl
theorem me_min (hc : X.calm = true) (hg : Gl X "min") (hm : X.mg "min" = none) (ha : ME X A W a ma) (hb : ME X A W b mb) (hs : starEach [a, b] X.env = (false, eval a X.env) :: starEach [b] X.env := by rfl) (hs2 : starEach [b] X.env = (false, eval b X.env) :: starEach [] X.env := by rfl) (hpl : (backTo pos (starEach [b] X.env)).any (·.1) = false := by rfl) :
    ME X A W (.Call (.Name "min" p) [a, b] [] pos) (eOp2 fMin ma mb) := me_call2 (call_min2 hc) snd_min ne_I hg hm (by decide +kernel) ha hb (by decide) (by decide) hs hs2 hpl
end
/-! ### the law's entry -/
theorem law_in {K : PySem.W.Frag} {A : Nat → Addr} {F : Fx} {n : Nat} (h : ∀ ns : List Int, ns.length ≤ n → ∃ s', F [.scr ns] [] = .ok (.bl true) s') :
    ∀ (H : Hp) (a : Addr) (ns : List Int), ns.length ≤ n → Only H → SqL K H a (ns.map V.int) → spOf ⟨K, A, none⟩ 1 F [.ref a] H (fun v _ => v = .bl true) fun _ _ _ => False := by
  intro H a ns hl hO hS
  obtain ⟨s', e⟩ := h ns hl
  refine ⟨rfl, ⟨[], [], H, []⟩, [.scr ns], rfl, ⟨rfl, List.nodup_nil, (fun p hp => nomatch hp), (fun n p o h1 _ => nomatch h1)⟩, RvL.one ?_, ?_⟩
  · unfold Rv
    refine ⟨a, rfl, ?_⟩
    rcases hS with (hS | ⟨o, hS⟩) | hS
    · rcases hO a with z | ⟨o, xs, z⟩
      · rw [hS] at z; cases z
      · rw [hS] at z; cases z
    · exact .inl ⟨o, hS⟩
    · exact .inr hS
  · show PostF _ _ _ _ (F [.scr ns] [])
    rw [e]
    intro w' v h1 h2 h3 h4
    have z : Rv ⟨K, A, none⟩ w' (.bl true) v := h4.2
    unfold Rv at z; exact z
theorem walk_w {l : PySem.W.OpenLaw} {n k : Nat} {q : Program} {loose : List Str} {XP : (Str → Option Value) → Heap → Prop} {YP : World → Heap → Prop} {d : DefRec} {CX : World → CXT} {x : Str}
    (hn : l.most = some n) (hn2 : n ≤ sizeLine) (hdf : d.params.defaults = []) (hr : Room k callerA)
    (F : ∀ (w : World) (mg : Str → Option Value) (fa : Addr) (h : Heap), YP w h → h.Ns mainGlobals mg → mg d.name = some (.ref fa) →
      ∃ (K : PySem.W.Frag) (fd : FuncData) (sp : Sp), K.In h ∧ (∀ (s : Shared) (u : Value), BindsTo s fd ⟨[u], []⟩ [(x, u)]) ∧
        (∀ (H : Hp) (a : Addr) (ns : List Int), ns.length ≤ n → Only H → SqL K H a (ns.map V.int) → sp [.ref a] H (fun v _ => v = .bl true) fun _ _ _ => False) ∧
        ∀ base : Heap, K.In base → base.Ns mainGlobals mg → FnOk l.prog w K mg base (CX w) k fa fd [x] sp)
    (hCX : ∀ (w : World) (H : Hp) (s : Shared) (e : Value) (s' : Shared), CX w [] H s (fun _ _ _ => False) e s' → False) :
    PySem.W.WalkO q loose XP YP l.row.toRowW d [] (fun f vs => PySem.call f vs) := by
  refine Att.attach_call hn hdf fun w s₀ s₁ mg mb fa o pm cd doc a vs ns G Y ho hd hcd hmg hobj hints hlen hg => ?_
  obtain ⟨K, fd, sp, KX, hb, hsp, hF⟩ := F w mg fa _ Y G.T.g hmg
  exact law_call KX G.T.g G.T.b G.T.builtins G.T.nolimit hg hobj hints (Nat.le_trans hlen hn2) hr hF hb (fun H hO hS => hsp H a ns hlen hO hS) fun H e s' => hCX w H s₁ e s'
theorem cx_false {P : Program} {w : World} (H : Hp) (s : Shared) (e : Value) (s' : Shared) (h : L2.CX P w [] H s (fun _ _ _ => False) e s') : False := by
  obtain ⟨_, _, _, _, _, _, _, _, _, _, _, _, z⟩ := h
  exact z
end Gm

set_option Elab.async false
set_option linter.all false
set_option maxRecDepth 100000
set_option autoImplicit false
set_option maxHeartbeats 1000000
namespace Gm
open PySem PySem.Spec PyProof.Rows L2
/-! ### a caught error: asked for its kind within the suite -/
def eIsX (l : List Bool) (k i : Nat) : Ex := fun env s => match env[i]?, l[k]? with
  | some (some .exn), some b => .ok (.bl b) s
  | _, _ => .no
def noX (env : Env) : Bool := env.all fun o => match o with
  | some .exn => false
  | _ => true
/-- try: body, except the classes by ct as name i: suite k for an error of the class k -/
def sTryAs (i : Nat) (ct : List Bool) (body : Sx) (suite : Nat → Sx) : Sx := fun env s => match body env s with
  | .exc k env' s' => (match ct[k]? with
    | some true => if noX env' = true then (match suite k (env'.set i (some .exn)) s' with
      | .nx e2 s2 => if noX (e2.set i none) = true then .nx (e2.set i none) s2 else .no
      | .rt d s2 => .rt d s2
      | _ => .no) else .no
    | some false => .exc k env' s'
    | none => .no)
  | r => r
section
variable {g : Gc} {tb : List Addr} {w w' w1 w2 w3 : Wd} {env env' env1 env2 : Env} {σ σ' σ1 σ2 : Sl} {W : WX} {Dn : Ends} {H : Hp} {a : Addr}
/-- the ground within the suite of the error at a -/
abbrev Gc.at (g : Gc) (a : Option Addr) : Gc := ⟨g.K, g.A, a⟩
mutual
theorem Rv.ground {x : Option Addr} : ∀ (d : D) (v : V), Rv g w d v → Rv (g.at x) w d v
  | .non, v, h => by unfold Rv at *; exact h
  | .bl b, v, h => by unfold Rv at *; exact h
  | .int i, v, h => by unfold Rv at *; exact h
  | .str y, v, h => by unfold Rv at *; exact h
  | .tup xs, v, h => by
    unfold Rv at *
    obtain ⟨p, ys, e, q, r⟩ := h
    exact ⟨p, ys, e, q, RvL.ground xs ys r⟩
  | .lst xs, v, h => by
    unfold Rv at *
    obtain ⟨p, ys, e, q, n1, n2, r⟩ := h
    exact ⟨p, ys, e, q, n1, n2, RvL.ground xs ys r⟩
  | .scr ns, v, h => by unfold Rv at *; exact h
  | .dct kv, v, h => by
    unfold Rv at *
    obtain ⟨p, ys, e, q, n1, n2, r⟩ := h
    exact ⟨p, ys, e, q, n1, n2, RvK.ground kv ys r⟩
  | .ref n, v, h => by unfold Rv at *; exact h
  | .own _, v, h => by unfold Rv at h; exact h.elim
  | .bor _, v, h => by unfold Rv at h; exact h.elim
  | .exn, v, h => by unfold Rv at h; exact h.elim
theorem RvL.ground {x : Option Addr} : ∀ (ds : List D) (ys : List V), RvL g w ds ys → RvL (g.at x) w ds ys
  | [], ys, h => by unfold RvL at *; exact h
  | d :: r, ys, h => by
    unfold RvL at *
    obtain ⟨y, t, e, p, q⟩ := h
    exact ⟨y, t, e, Rv.ground d y p, RvL.ground r t q⟩
theorem RvK.ground {x : Option Addr} : ∀ (ds : List (Key × D)) (ys : List (Key × V)), RvK g w ds ys → RvK (g.at x) w ds ys
  | [], ys, h => by unfold RvK at *; exact h
  | (k, d) :: r, ys, h => by
    unfold RvK at *
    obtain ⟨y, t, e, p, q⟩ := h
    exact ⟨y, t, e, Rv.ground d y p, RvK.ground r t q⟩
end
theorem RvF.ground {x : Option Addr} : ∀ (ds : List (Str × D)) (ys : List (Str × V)), RvF g w ds ys → RvF (g.at x) w ds ys
  | [], ys, h => by unfold RvF at *; exact h
  | (k, d) :: r, ys, h => by
    unfold RvF at *
    obtain ⟨y, t, e, p, q⟩ := h
    exact ⟨y, t, e, Rv.ground d y p, RvF.ground r t q⟩
theorem Ro.ground {x : Option Addr} {p : Addr} {o : O} (h : Ro g w p o) : Ro (g.at x) w p o := by
  cases o with
  | lst xs => obtain ⟨ys, e, z⟩ := h; exact ⟨ys, e, RvL.ground _ _ z⟩
  | dK xs => obtain ⟨ys, e, z⟩ := h; exact ⟨ys, e, RvK.ground _ _ z⟩
  | ins c xs => obtain ⟨dx, ys, e, z⟩ := h; exact ⟨dx, ys, e, RvF.ground _ _ z⟩
  | dead => exact h
theorem Rst.ground {x : Option Addr} (r : Rst g w) : Rst (g.at x) w := ⟨r.len, r.nd, r.tt, fun n p o h1 h2 => (r.ce n p o h1 h2).ground⟩
theorem noX_ok (h : noX env = true) (i : Nat) : env[i]? ≠ some (some .exn) := fun e => by
  unfold noX at h
  rw [List.all_eq_true] at h
  have := h _ (List.mem_of_getElem? e)
  cases this
theorem Rm.ground {x : Option Addr} (r : Rm g tb w env σ) (hn : noX env = true) : Rm (g.at x) tb w env σ := by
  refine ⟨⟨r.re.st.ground, r.re.len, fun i d e => ?_⟩, r.T, r.inj, r.dj⟩
  obtain ⟨v, k1, k2⟩ := r.re.sl i d e
  refine ⟨v, k1, ?_⟩
  cases d with
  | own o => obtain ⟨p, e1, f, ro, n, t⟩ := k2; exact ⟨p, e1, f, ro.ground, n, t⟩
  | exn => exact absurd e (noX_ok hn i)
  | bor o => exact Rv.ground _ _ k2
  | non => exact Rv.ground _ _ k2
  | bl b => exact Rv.ground _ _ k2
  | int b => exact Rv.ground _ _ k2
  | str b => exact Rv.ground _ _ k2
  | tup b => exact Rv.ground _ _ k2
  | lst b => exact Rv.ground _ _ k2
  | scr b => exact Rv.ground _ _ k2
  | dct b => exact Rv.ground _ _ k2
  | ref b => exact Rv.ground _ _ k2
theorem Pt.ground {ow : List Addr} {H0 : Hp} {d : D} {v : V} {x : Option Addr} (h : Pt g ow H0 w d v) : Pt (g.at x) ow H0 w d v := by
  cases d with
  | own o => obtain ⟨p, e1, b, n, f, r, ro⟩ := h; exact ⟨p, e1, b, n, f, r.ground, ro.ground⟩
  | _ => exact ⟨h.1.ground, Rv.ground _ _ h.2⟩
/-- a slot is emptied -/
theorem ownAt_del {i j : Nat} {p : Addr} {v : Option V} (h : OwnAt (env.set i none) (σ.set i v) j p) : OwnAt env σ j p := by
  obtain ⟨o, e1, e2⟩ := h
  by_cases q : j = i
  · subst q
    have hl : j < env.length := by
      have := (List.getElem?_eq_some_iff.mp e1).1
      rwa [List.length_set] at this
    rw [List.getElem?_set_self hl] at e1
    cases e1
  · rw [List.getElem?_set_ne (Ne.symm q)] at e1 e2
    exact ⟨o, e1, e2⟩
theorem Rm.del {i : Nat} (r : Rm g tb w env σ) : ∃ w', w'.s = w.s ∧ w'.H = w.H ∧ Rm g tb w' (env.set i none) (σ.set i none) ∧ Xs w env σ w' (env.set i none) (σ.set i none) := by
  generalize hT : owns (env.set i none) (σ.set i none) ++ tb = T
  have mT : ∀ p, p ∈ T ↔ p ∈ owns (env.set i none) (σ.set i none) ∨ p ∈ tb := fun p => by rw [← hT, List.mem_append]
  have so : ∀ p ∈ owns (env.set i none) (σ.set i none), p ∈ owns env σ := fun p hp => by
    obtain ⟨j, hj⟩ := mem_owns.mp hp
    exact mem_owns.mpr ⟨j, ownAt_del hj⟩
  have sub : ∀ p ∈ T, p ∈ w.T := fun p hp => by
    rcases (mT p).mp hp with z | z
    · exact (r.T p).mpr (.inl (so p z))
    · exact (r.T p).mpr (.inr z)
  have c : Cy g [] w (w.wT T) := Cy.sub r.re.st sub
  refine ⟨w.wT T, rfl, rfl, ⟨⟨r.re.st.inT sub, by rw [List.length_set, List.length_set]; exact r.re.len, fun j d e => ?_⟩, mT, fun x y p hx hy => r.inj x y p (ownAt_del hx) (ownAt_del hy), fun p hp => r.dj p (so p hp)⟩, ⟨⟨⟨[], by simp⟩, fun _ _ e _ _ => e, fun _ h => .inl h, fun _ h => .inl h⟩, fun p hp => .inl (so p hp)⟩⟩
  by_cases q : j = i
  · subst q
    have hl : j < env.length := by
      have := (List.getElem?_eq_some_iff.mp e).1
      rwa [List.length_set] at this
    rw [List.getElem?_set_self hl] at e
    cases e
  · have e' := e
    rw [List.getElem?_set_ne (Ne.symm q)] at e'
    obtain ⟨v, k1, k2⟩ := r.re.sl j d e'
    have k1' : (σ.set i none)[j]? = some (some v) := by rw [List.getElem?_set_ne (Ne.symm q)]; exact k1
    refine ⟨v, k1', ?_⟩
    cases d with
    | own o => obtain ⟨p, rfl, f, ro, n, t⟩ := k2; exact ⟨p, rfl, f, ro.mono c (nolive n) (by simp), n, (mT p).mpr (.inl (mem_owns.mpr ⟨j, o, e, k1'⟩))⟩
    | exn => exact k2
    | bor o => exact Rv.mono c _ _ k2
    | non => exact Rv.mono c _ _ k2
    | bl b => exact Rv.mono c _ _ k2
    | int b => exact Rv.mono c _ _ k2
    | str b => exact Rv.mono c _ _ k2
    | tup b => exact Rv.mono c _ _ k2
    | lst b => exact Rv.mono c _ _ k2
    | scr b => exact Rv.mono c _ _ k2
    | dct b => exact Rv.mono c _ _ k2
    | ref b => exact Rv.mono c _ _ k2
/-- the error stands at its name -/
theorem ownAt_exn {i j : Nat} {p : Addr} (h : OwnAt (env.set i (some .exn)) (σ.set i (some (.ref a))) j p) : OwnAt env σ j p := by
  rcases ownAt_set h with ⟨_, ⟨o, e⟩, _⟩ | ⟨_, h⟩
  · cases e
  · exact h
theorem Rm.exn {i : Nat} (r : Rm g tb w env σ) (hx : g.x = some a) : ∃ w', w'.s = w.s ∧ w'.H = w.H ∧ Rm g tb w' (env.set i (some .exn)) (σ.set i (some (.ref a))) ∧ Xs w env σ w' (env.set i (some .exn)) (σ.set i (some (.ref a))) := by
  obtain ⟨x, y⟩ := r.set (i := i) (H0 := w.H) (d := .exn) (v := .ref a) Ext.refl rfl ⟨r.re.st, a, hx, rfl⟩ (fun o z => nomatch z)
  exact ⟨w.wT (owns (env.set i (some .exn)) (σ.set i (some (.ref a))) ++ tb), rfl, rfl, x, y⟩
theorem sTryAs_ok {g0 : Gc} (hg0 : g0.x = none) {K : PySem.W.Frag} {c : Value} {i : Nat} {ct : List Bool} {body : Sx} {suite : Nat → Sx} {Wout : WX} (hct : ∀ k b, ct[k]? = some b → PySem.W.exmOne K (.ref (g0.A k)) c = some b) (h : tSt g0 Wout (sTryAs i ct body suite) Dn σ H) :
    tSt g0 (wAs K c i (fun a cls d => fun D2 σ H => ∃ k, ct[k]? = some true ∧ cls = .ref (g0.A k) ∧ d = none ∧ tSt (g0.at (some a)) W0 (suite k) D2 σ H) Wout Dn) body Dn σ H := by
  obtain ⟨w, env, tb, rfl, r, h⟩ := h
  refine ⟨w, env, tb, rfl, r, ?_⟩
  cases q : body env w.s with
  | nx e s => simp only [sTryAs, q] at h; exact h
  | rt d s => simp only [sTryAs, q] at h; exact h
  | bk e s => simp only [sTryAs, q] at h; exact h
  | ct e s => simp only [sTryAs, q] at h; exact h
  | no => simp only [sTryAs, q] at h; exact h
  | exc k env' s' =>
    intro w1 σ1 h1 r1 x1
    cases ek : ct[k]? with
    | none => simp only [sTryAs, q, ek] at h; exact h.elim
    | some b =>
      refine ⟨b, hct k b ek, fun hb => ?_, fun hb => ?_⟩
      · subst hb
        simp only [sTryAs, q, ek] at h
        split at h
        · rename_i hn
          intro a ha
          refine ⟨k, ek, rfl, rfl, ?_⟩
          have r2 : Rm (g0.at (some a)) tb w1 env' σ1 := r1.ground hn
          obtain ⟨w2, e1, e2, r3, x3⟩ := r2.exn (i := i) (a := a) rfl
          refine ⟨w2, env'.set i (some .exn), tb, e2, r3, ?_⟩
          have x13 := x1.trans r r1.re.st x3
          rw [e1, h1]
          have es : ({ K := g0.K, A := g0.A, x := none } : Gc) = g0 := by cases g0; cases hg0; rfl
          cases qs : suite k (env'.set i (some .exn)) s' with
          | nx e2' s2 =>
            simp only [qs] at h
            split at h
            · rename_i hn2
              intro w4 σ4 h4 r4 x4
              obtain ⟨w5, e3, e4, r5, x5⟩ := r4.del (i := i)
              have r6 : Rm g0 tb w5 (e2'.set i none) (σ4.set i none) := es ▸ (r5.ground (x := none) hn2)
              show Dn.nx (σ4.set i none) w4.H
              rw [← e4]
              have rr3 : Rst g0 w2 := es ▸ r3.re.st.ground (x := none)
              have rr4 : Rst g0 w4 := es ▸ r4.re.st.ground (x := none)
              have t1 : Xs w env σ w4 e2' σ4 := x13.trans r rr3 x4
              exact h w5 _ (e3.trans h4) r6 (t1.trans r rr4 x5)
            · exact h.elim
          | rt d s2 =>
            simp only [qs] at h
            intro w4 v h4 t4 x4 p4
            have rr3 : Rst g0 w2 := es ▸ r3.re.st.ground (x := none)
            refine h w4 v h4 t4 (x13.e.transS x4 x13.ow) ?_
            have p5 : Pt g0 (owns (env'.set i (some D.exn)) (σ1.set i (some (.ref a)))) w2.H w4 d v := by
              have z := p4.ground (x := none)
              exact es ▸ z
            exact p5.imp fun p z => by
              rcases z with z | z
              · exact backS r rr3 x13.e z
              · rcases x13.ow p z with q | q
                · exact .inr q
                · exact .inl q
          | bk e s => simp only [qs] at h; exact h.elim
          | ct e s => simp only [qs] at h; exact h.elim
          | exc k2 e s => simp only [qs] at h; exact h.elim
          | no => simp only [qs] at h; exact h.elim
        · exact h.elim
      · subst hb
        simp only [sTryAs, q, ek] at h
        exact h w1 σ1 h1 r1 x1
end
/-! ### statements within a suite, and the try -/
section
variable {X : Cx} {A : Nat → Addr} {W : WX} {e b : Expr} {pos p p2 pos' np : Pos}
theorem ms_tryAs {x n : Str} {i : Nat} {c : Value} {ct : List Bool} {body suite : List Stmt} {b0 : Stmt} {mb : Sx} {ms : Nat → Sx} (hs : X.stack = X.env :: X.outer) (hf : X.env.frame = some X.env.locals) (hN : X.N.Nodup) (hi : X.N[i]? = some n) (hln : X.env.kindOf n = some .local) (hc : Names X x c) (tk : Takes X W)
    (hct : ∀ k b, ct[k]? = some b → PySem.W.exmOne X.K (.ref (A k)) c = some b)
    (hb : ∀ (W' : WX) (pn : List (Addr × Obj)) (xe : Value → Shared → Prop), Takes (X.tr pn xe) W' → PassesOwn (model X.prog X.w) X.A X.env xe → MSs (X.tr pn xe) ⟨A, none⟩ W' body mb)
    (hsu : ∀ (k : Nat) (_ : ct[k]? = some true) (a : Addr) (oe : Obj) (pn : List (Addr × Obj)), Zc (.ref (A k)) none oe → (∃ vs, oe.data = .fields vs) → MSs (X.suite a ((a, oe) :: pn)) ⟨A, some a⟩ W0 (b0 :: suite) (ms k)) :
    MS X ⟨A, none⟩ W (.Try body [.ExceptHandler (some (.Name x np)) (some n) (b0 :: suite) pos'] [] [] pos) (sTryAs i ct mb ms) :=
  psW (ps_try_as (tb := fun W' => tSt (gx X ⟨A, none⟩) W' mb) (ts := fun a cls d => fun D2 σ H => ∃ k, ct[k]? = some true ∧ cls = .ref (A k) ∧ d = none ∧ tSt ⟨X.K, A, some a⟩ W0 (ms k) D2 σ H) hs hf hN hi hln hc tk hb
    (fun a oe cls d pn hz hfd => ⟨fun pins s σ H D I h => by
      obtain ⟨k, hk, rfl, rfl, h⟩ := h
      exact (hsu k hk a oe pn hz hfd).run pins s σ H D I h⟩)) fun _ _ _ h => sTryAs_ok (g0 := gx X ⟨A, none⟩) rfl hct h
/-- isinstance(e, C), e the caught error, C an own class -/
theorem me_isX {a : Addr} {oe : Obj} {pn : List (Addr × Obj)} {l : List Bool} {k i : Nat} {n x : Str} {C : Addr} (hE : ExcC X.K (A k)) (hz : Zc (.ref (A k)) none oe) (hfd : ∃ vs, oe.data = .fields vs) (hl : ∀ b, l[k]? = some b → PySem.W.kitOne X.K (.ref (A k)) (.ref C) = some b)
    (hN : X.N[i]? = some n) (hv : Vis X.env.scope n) (hg : Gl X "isinstance") (hm : X.mg "isinstance" = none) (hgx : Gl X x) (hmx : X.mg x = some (.ref C)) (hd : (n == ("__debug__" : Str)) = false) (hcd : (n == ("__classdict__" : Str)) = false) (hdx : (x == ("__debug__" : Str)) = false)
    (hs : starEach [.Name n p, .Name x p2] X.env = (false, eval (.Name n p) X.env) :: starEach [.Name x p2] X.env) (hs2 : starEach [.Name x p2] X.env = (false, eval (.Name x p2) X.env) :: starEach [] X.env) (hpl : (backTo pos (starEach [.Name x p2] X.env)).any (·.1) = false) :
    ME (X.suite a ((a, oe) :: pn)) ⟨A, some a⟩ W0 (.Call (.Name "isinstance" np) [.Name n p, .Name x p2] [] pos) (eIsX l k i) :=
  peW (pe_callB (X := X.suite a ((a, oe) :: pn)) (call_isE hE hz hfd) hg hm (by decide +kernel) (pa_cons (pe_var (X := X.suite a ((a, oe) :: pn)) hN hv hd hcd) (pa_cons (pe_glob (X := X.suite a ((a, oe) :: pn)) (v := .ref C) hgx hmx rfl hdx) pa_nil hs2) hs) (by decide) (by decide) hs hpl) fun σ H Q h => by
    obtain ⟨w, env, rfl, re, h⟩ := h
    cases ei : env[i]? with
    | none => simp only [eIsX, ei] at h; exact h.elim
    | some o =>
      cases el : l[k]? with
      | none => simp only [eIsX, ei, el] at h; exact h.elim
      | some b =>
        cases o with
        | none => simp only [eIsX, ei, el] at h; exact h.elim
        | some d =>
          cases d with
          | exn =>
            simp only [eIsX, ei, el] at h
            obtain ⟨v, k1, a', k2, rfl⟩ := re.sl i _ ei
            cases k2
            exact ⟨_, k1, .ref C, .ref C, b, rfl, (fun u r => r), hl b el, h w (.bl b) rfl rfl Ext.refl (.of re.st rv_bl)⟩
          | _ => simp only [eIsX, ei, el] at h; exact h.elim
/-- .. C a built-in class -/
theorem me_isT {a : Addr} {oe : Obj} {pn : List (Addr × Obj)} {l : List Bool} {k i : Nat} {n x : Str} {T : String} (hE : ExcC X.K (A k)) (hz : Zc (.ref (A k)) none oe) (hfd : ∃ vs, oe.data = .fields vs) (hl : ∀ b, l[k]? = some b → PySem.W.kitOne X.K (.ref (A k)) (.type T) = some b)
    (hN : X.N[i]? = some n) (hv : Vis X.env.scope n) (hg : Gl X "isinstance") (hm : X.mg "isinstance" = none) (hgx : Gl X x) (hmx : X.mg x = none) (hvx : bootBuiltins x = some (.type T)) (hnx : x ≠ "__name__") (hd : (n == ("__debug__" : Str)) = false) (hcd : (n == ("__classdict__" : Str)) = false) (hdx : (x == ("__debug__" : Str)) = false)
    (hs : starEach [.Name n p, .Name x p2] X.env = (false, eval (.Name n p) X.env) :: starEach [.Name x p2] X.env) (hs2 : starEach [.Name x p2] X.env = (false, eval (.Name x p2) X.env) :: starEach [] X.env) (hpl : (backTo pos (starEach [.Name x p2] X.env)).any (·.1) = false) :
    ME (X.suite a ((a, oe) :: pn)) ⟨A, some a⟩ W0 (.Call (.Name "isinstance" np) [.Name n p, .Name x p2] [] pos) (eIsX l k i) :=
  peW (pe_callB (X := X.suite a ((a, oe) :: pn)) (call_isE hE hz hfd) hg hm (by decide +kernel) (pa_cons (pe_var (X := X.suite a ((a, oe) :: pn)) hN hv hd hcd) (pa_cons (pe_bltn (X := X.suite a ((a, oe) :: pn)) (v := .ty T) hgx hmx hvx rfl hnx hdx) pa_nil hs2) hs) (by decide) (by decide) hs hpl) fun σ H Q h => by
    obtain ⟨w, env, rfl, re, h⟩ := h
    cases ei : env[i]? with
    | none => simp only [eIsX, ei] at h; exact h.elim
    | some o =>
      cases el : l[k]? with
      | none => simp only [eIsX, ei, el] at h; exact h.elim
      | some b =>
        cases o with
        | none => simp only [eIsX, ei, el] at h; exact h.elim
        | some d =>
          cases d with
          | exn =>
            simp only [eIsX, ei, el] at h
            obtain ⟨v, k1, a', k2, rfl⟩ := re.sl i _ ei
            cases k2
            exact ⟨_, k1, .ty T, .type T, b, rfl, (fun u r => r), hl b el, h w (.bl b) rfl rfl Ext.refl (.of re.st rv_bl)⟩
          | _ => simp only [eIsX, ei, el] at h; exact h.elim
end
/-! ### the head with more facts -/
def eccB (K : PySem.W.Frag) (C : Addr) : Bool :=
  decide (PySem.W.findIn K (.ref C) "__getattribute__" = some (some (.builtin "BaseException.__getattribute__"))) && (decide (PySem.W.findIn K (.ref C) "__getattr__" = some none) && (decide (PySem.W.subIn K (.ref C) (.type "BaseException") = some true) && (PySem.W.hasDictIn K C && (decide (PySem.W.findIn K (.ref C) "__class__" = some (some (.builtin "object.__class__"))) &&
    (decide (PySem.W.specialIn K (.builtin "object.__class__") "__get__" = some (some (.builtin "getset_descriptor.__get__"))) && (decide (PySem.W.takesIn K (.builtin "object.__class__") = some true) && decide (PySem.W.mroIn K C (.type "object") = some true)))))))
theorem eccB_ok {K : PySem.W.Frag} {C : Addr} (h : eccB K C = true) : ExcC K C := by
  unfold eccB at h
  simp only [Bool.and_eq_true, decide_eq_true_eq] at h
  obtain ⟨h1, h2, h3, h4, h5, h6, h7, h8⟩ := h
  exact ⟨h1, h2, h3, h4, h5, h6, h7, h8⟩
abbrev Exs := List (PySem.W.Frag → Bool)
def exK (ex : Exs) (K : PySem.W.Frag) : Bool := ex.all fun f => f K
def obsE (n : Nat) (fa : List He.Fa) (fn : List He.DefD) (ex : Exs) (g : Addr → Option Obj) : He.AlD × Bool := (He.obsD fa fn (He.frG g (He.asD g n)), exK ex (He.frG g (He.asD g n)))
def hookE (n : Nat) (fa : List He.Fa) (fn : List He.DefD) (ex : Exs) : PySem.W.Hook where
  α := He.AlD × Bool
  obs := fun s => obsE n fa fn ex s.heap.get?
  val := fun _ => (He.valD fn, true)
  says := fun _ h => ∃ K : PySem.W.Frag, K.In h ∧ He.SaysD fa fn K ∧ exK ex K = true
  of := fun _ _ e => ⟨_, He.frG_in, congrArg (fun z : He.AlD × Bool => z.1) e, congrArg (fun z : He.AlD × Bool => z.2) e⟩
  keeps := fun _ _ _ ⟨K, hK, c⟩ k => ⟨K, PySem.W.Frag.In.keeps hK k, c⟩
theorem obsE_eq {n : Nat} {fa : List He.Fa} {fn : List He.DefD} {ex : Exs} {g : Addr → Option Obj} {s : Shared} (h : ∀ a, g a = s.heap.get? a) : obsE n fa fn ex g = (hookE n fa fn ex).obs s := by
  have e : g = s.heap.get? := funext h
  rw [e] <;> rfl
theorem exK_at {ex : Exs} {K : PySem.W.Frag} (h : exK ex K = true) (i : Nat) {f : PySem.W.Frag → Bool} (e : ex[i]? = some f) : f K = true := by
  unfold exK at h
  exact List.all_eq_true.mp h f (List.mem_of_getElem? e)
end Gm

set_option Elab.async false
set_option linter.all false
set_option maxRecDepth 100000
set_option autoImplicit false
set_option maxHeartbeats 1000000
namespace Gm
open PySem PySem.Spec PyProof.Rows L2
/-! ### pop of a list in the store -/
def fPop : Store → D → R D := fun s a => match a with
  | .ref n => (match s[n]? with
    | some (.lst xs) => (match xs[xs.length - 1]? with
      | some y => .ok y (s.set n (.lst xs.dropLast))
      | none => .no)
    | _ => .no)
  | _ => .no
def isLD (s : Store) (d : D) : Bool := match dr s d with
  | some (.lst _) => true
  | _ => false
/-- a method of a list with one argument -/
def eMeth (f : Store → D → D → R D) (a b : Ex) : Ex := fun env s => match a env s with
  | .ok x s1 => if isLD s1 (fz x) = true then (match b env s1 with
    | .ok y s2 => f s2 (fz x) (fz y)
    | .exc c s2 => .exc c s2
    | .no => .no) else .no
  | .exc c s1 => .exc c s1
  | .no => .no
def fPopAt : Store → D → D → R D := fun s a b => match a, b with
  | .ref n, .int i => (match s[n]? with
    | some (.lst xs) => if -9223372036854775808 ≤ i ∧ i < 9223372036854775808 then (match ixN xs.length i with
      | some k => (match xs[k]? with
        | some y => .ok y (s.set n (.lst (xs.eraseIdx k)))
        | none => .no)
      | none => .no) else .no
    | _ => .no)
  | _, _ => .no
/-! ### a < b < c -/
def eChain (f f' : Store → D → D → R D) (a b c : Ex) : Ex := fun env s => match a env s with
  | .ok x s1 => (match b env s1 with
    | .ok y s2 => (match f s2 (fz x) (fz y) with
      | .ok (.bl true) s3 => (match c env s3 with
        | .ok z s4 => f' s4 (fz y) (fz z)
        | .exc k s' => .exc k s'
        | .no => .no)
      | .ok (.bl false) s3 => .ok (.bl false) s3
      | _ => .no)
    | .exc k s' => .exc k s'
    | .no => .no)
  | .exc k s' => .exc k s'
  | .no => .no
section
variable {g : Gc} {w w' : Wd} {env : Env} {σ : Sl} {W : WX} {H : Hp} {Q : VK}
theorem po_ref {n : Nat} {x : V} (h : Po g w (.ref n) x) : ∃ p, x = .ref p ∧ w.m[n]? = some p := by
  have h : Rv g w (.ref n) x := h
  unfold Rv at h; exact h
theorem RvL.erase {ds : List D} {vs : List V} (h : RvL g w ds vs) (k : Nat) : RvL g w (ds.eraseIdx k) (vs.eraseIdx k) := by
  rw [List.eraseIdx_eq_take_drop_succ, List.eraseIdx_eq_take_drop_succ]
  exact (h.take k).app (h.drop (k + 1))
theorem snd_pop : Snd1 g fPop (fun x H Q => tyV g.K "list" x H ∧ rPop x [] H Q) := by
  intro w a x Q r pa h
  unfold fPop at h
  split at h
  · rename_i n
    split at h
    · rename_i xs en
      split at h
      · rename_i y ey
        obtain ⟨p, rfl, hm⟩ := po_ref pa
        obtain ⟨ys, e1, e2⟩ := r.ce n p _ hm en
        obtain ⟨v, k1, k2⟩ := e2.get ey
        refine ⟨.inl ⟨rfl, ys, SqL.of e1⟩, p, ys, v, rfl, rfl, e1, by rw [e2.length]; exact k1, ?_⟩
        have ex := ws_ext (o' := .lst xs.dropLast) (u := .lst ys.dropLast) hm en lst_nd
        have hd : RvL g w xs.dropLast ys.dropLast := by
          rw [List.dropLast_eq_take, List.dropLast_eq_take, e2.length]
          exact e2.take _
        have rs := ws_rst (o' := .lst xs.dropLast) (u := .lst ys.dropLast) r hm en lst_nd fun c => ⟨_, upd_same, RvL.mono c _ _ hd⟩
        exact h (w.ws n (.lst xs.dropLast) p (.lst ys.dropLast)) v rfl rfl ex (.of rs (Rv.mono (Cy.of r ex rfl) _ _ k2))
      · exact h.elim
    · exact h.elim
  · exact h.elim
theorem ne_pop : ∀ s x k s', fPop s x ≠ .exc k s' := by
  intro s x k s'
  unfold fPop
  repeat' split
  all_goals exact fun z => nomatch z
theorem snd_popAt : Snd2 g fPopAt (fun x y H Q => rPopAt x [y] H Q) := by
  intro w a b x y Q r pa pb h
  unfold fPopAt at h
  split at h
  · rename_i n i
    split at h
    · rename_i xs en
      split at h
      · rename_i hi
        split at h
        · rename_i k ek
          split at h
          · rename_i d ed
            obtain ⟨p, rfl, hm⟩ := po_ref pa
            obtain ⟨ys, e1, e2⟩ := r.ce n p _ hm en
            obtain ⟨v, k1, k2⟩ := e2.get ed
            refine ⟨p, ys, i, k, v, rfl, by rw [po_int pb], e1, by omega, by omega, by rw [e2.length]; exact (ixN_seq ek).1, k1, ?_⟩
            have ex := ws_ext (o' := .lst (xs.eraseIdx k)) (u := .lst (ys.eraseIdx k)) hm en lst_nd
            have rs := ws_rst (o' := .lst (xs.eraseIdx k)) (u := .lst (ys.eraseIdx k)) r hm en lst_nd fun c => ⟨_, upd_same, RvL.mono c _ _ (e2.erase k)⟩
            exact h (w.ws n (.lst (xs.eraseIdx k)) p (.lst (ys.eraseIdx k))) v rfl rfl ex (.of rs (Rv.mono (Cy.of r ex rfl) _ _ k2))
          · exact h.elim
        · exact h.elim
      · exact h.elim
    · exact h.elim
  · exact h.elim
theorem ne_popAt : ∀ s x y k s', fPopAt s x y ≠ .exc k s' := by
  intro s x y k s'
  unfold fPopAt
  repeat' split
  all_goals exact fun z => nomatch z
theorem isLD_ok {d : D} {v : V} (r : Rst g w) (h : Po g w d v) (e : isLD w.s d = true) : tyV g.K "list" v w.H := by
  unfold isLD at e
  split at e
  · rename_i xs ed
    obtain ⟨p, ys, rfl, k, _⟩ := dr_lst r h ed
    exact .inl ⟨rfl, ys, k⟩
  · cases e
theorem eMeth_ok {f : Store → D → D → R D} {rl : V → List V → Hp → VK → Prop} {a b : Ex} (hf : Snd2 g f fun x y H Q => rl x [y] H Q) (hne : ∀ s x y c s', f s x y ≠ .exc c s') (h : tEv g W (eMeth f a b) σ H Q) : tBM g.K "list" rl (tEv g W a) (tCons (tEv g W b) tNil) σ H Q := by
  obtain ⟨w, env, rfl, re, h⟩ := h
  refine ⟨w, env, rfl, re, ?_⟩
  refine Post.step (m' := eMeth f a b env w.s) h (fun c s e => by simp only [eMeth, e]) (fun e => by simp only [eMeth, e]) fun x s1 w1 v ea hs1 ht1 e1 p1 => ?_
  obtain ⟨r1, o1⟩ := p1.fz
  cases il : isLD s1 (fz x) with
  | false => simp only [eMeth, ea, il] at h; exact h.elim
  | true =>
    refine ⟨isLD_ok r1 o1 (by rw [hs1]; exact il), w1, env, rfl, re.next r1 e1 ht1, ?_⟩
    refine Post.step (m' := eMeth f a b env w.s) (h.next e1 ht1 fun _ _ w2 _ q => q.back re.st r1 e1) (fun c s e => by rw [hs1] at e; simp only [eMeth, ea, il, e, if_true]) (fun e => by rw [hs1] at e; simp only [eMeth, ea, il, e, if_true]) fun y s2 w2 u eb hs2 ht2 e2 p2 => ?_
    obtain ⟨r2, o2⟩ := p2.fz
    have em : eMeth f a b env w.s = f w2.s (fz x) (fz y) := by
      rw [hs1] at eb
      simp only [eMeth, ea, il, eb, hs2, if_true]
    rw [em] at h
    exact hf w2 (fz x) (fz y) v u Q r2 (o1.mono (Cy.of r1 e2 ht2)) o2 (PostV.next re.st r2 (e1.trans e2) (ht2.trans ht1) h fun c s => hne _ _ _ _ _)
theorem eChain_ok {f f' : Store → D → D → R D} {r r' : R2} {a b c : Ex} (hf : Snd2 g f r) (hf' : Snd2 g f' r') (hne : ∀ s x y c s', f s x y ≠ .exc c s') (hne' : ∀ s x y c s', f' s x y ≠ .exc c s') (h : tEv g W (eChain f f' a b c) σ H Q) :
    tChain r r' (tEv g W a) (tEv g W b) (tEv g W c) σ H Q := by
  obtain ⟨w, env, rfl, re, h⟩ := h
  refine ⟨w, env, rfl, re, ?_⟩
  refine Post.step (m' := eChain f f' a b c env w.s) h (fun c s e => by simp only [eChain, e]) (fun e => by simp only [eChain, e]) fun x s1 w1 v ea hs1 ht1 e1 p1 => ?_
  obtain ⟨r1, o1⟩ := p1.fz
  refine ⟨w1, env, rfl, re.next r1 e1 ht1, ?_⟩
  have h1 := h.next e1 ht1 (fun _ _ w2 _ q => q.back re.st r1 e1)
  refine Post.step (m' := eChain f f' a b c env w.s) h1 (fun c s e => by rw [hs1] at e; simp only [eChain, ea, e]) (fun e => by rw [hs1] at e; simp only [eChain, ea, e]) fun y s2 w2 u eb hs2 ht2 e2 p2 => ?_
  obtain ⟨r2, o2⟩ := p2.fz
  rw [hs1] at eb
  have o1' := o1.mono (Cy.of r1 e2 ht2)
  refine hf w2 (fz x) (fz y) v u _ r2 o1' o2 ?_
  cases ef : f w2.s (fz x) (fz y) with
  | no => rw [hs2] at ef; simp only [eChain, ea, eb, ef] at h; exact h.elim
  | exc k s => exact absurd ef (hne _ _ _ _ _)
  | ok z s3 =>
    intro w3 v3 hs3 ht3 e3 p3
    rw [hs2] at ef
    have t3 : w3.T = w.T := ht3.trans (ht2.trans ht1)
    have e13 := (e1.trans e2).trans e3
    cases z with
    | bl k =>
      obtain ⟨r3, q3⟩ : Rst g w3 ∧ Rv g w3 (.bl k) v3 := p3
      unfold Rv at q3
      subst q3
      refine ⟨k, rfl, ?_⟩
      cases k with
      | false =>
        simp only [eChain, ea, eb, ef] at h
        exact iteF (h w3 _ hs3 t3 e13 (.of r3 rv_bl))
      | true =>
        refine iteT ⟨w3, env, rfl, re.next r3 e13 t3, ?_⟩
        refine Post.step (m' := eChain f f' a b c env w.s) (h.next e13 t3 fun _ _ w2 _ q => q.back re.st r3 e13) (fun c s e => by rw [hs3] at e; simp only [eChain, ea, eb, ef, e]) (fun e => by rw [hs3] at e; simp only [eChain, ea, eb, ef, e]) fun z s4 w4 v4 ec hs4 ht4 e4 p4 => ?_
        obtain ⟨r4, o4⟩ := p4.fz
        rw [hs3] at ec
        have em : eChain f f' a b c env w.s = f' w4.s (fz y) (fz z) := by simp only [eChain, ea, eb, ef, ec, hs4]
        rw [em] at h
        exact hf' w4 (fz y) (fz z) u v4 Q r4 ((o2.mono (Cy.of r2 e3 ht3)).mono (Cy.of r3 e4 ht4)) o4 (PostV.next re.st r4 (e13.trans e4) (ht4.trans t3) h fun c s => hne' _ _ _ _ _)
    | _ => simp only [eChain, ea, eb, ef] at h; exact h.elim
end
section
variable {X : Cx} {A : Ga} {W : WX} {a b c e o : Expr} {ma mb mc : Ex} {pos apos cpos : Pos}
theorem me_pop (h : ME X A W o ma) (hbase : attributeBase o "pop" X.env (eval o X.env) = eval o X.env := by rfl) (hline : (apos.endLine == cpos.line) = true := by rfl) : ME X A W (.Call (.Attribute o "pop" apos) [] [] cpos) (eOp1 fPop ma) :=
  peW (pe_bm0 PySem.F.plainAttrs_list PySem.F.slot_list_pop PySem.F.type_list_pop mt_pop h hbase hline) fun _ _ _ h => tUn_snd snd_pop ne_pop h
theorem me_popAt (h : ME X A W o ma) (k : ME X A W e mb) (hbase : attributeBase o "pop" X.env (eval o X.env) = eval o X.env := by rfl)
    (hfew : ((backTo cpos (starEach [e] X.env)).all (fun x => !x.1) && (backToKw cpos (keywordEach [] X.env)).all (fun x => x.1.isSome)
      && decide ([e].length + ([] : List Keyword).length + (if ([] : List Keyword).isEmpty then 0 else 1) < 30)) = true := by rfl)
    (hline : (apos.endLine == cpos.line) = true := by rfl) (hs : starEach [e] X.env = (false, eval e X.env) :: starEach [] X.env := by rfl) (hplain : (backTo cpos (starEach [] X.env)).any (·.1) = false := by rfl) :
    ME X A W (.Call (.Attribute o "pop" apos) [e] [] cpos) (eMeth fPopAt ma mb) :=
  peW (pe_bm PySem.F.plainAttrs_list PySem.F.slot_list_pop PySem.F.type_list_pop mt_popAt h (pa_cons k pa_nil hs) hbase hfew hline hs hplain) fun _ _ _ h => eMeth_ok snd_popAt ne_popAt h
theorem me_chain {op op' : CmpOp} {f f' : Store → D → D → R D} {r r' : R2} (ho : OpR X (compareOp op) r) (ho' : OpR X (compareOp op') r') (hf : Snd2 (gx X A) f r) (hf' : Snd2 (gx X A) f' r') (hne : ∀ s x y c s', f s x y ≠ .exc c s') (hne' : ∀ s x y c s', f' s x y ≠ .exc c s')
    (hm : lastMarks [op, op'] [b, c] = false) (ha : ME X A W a ma) (hb : ME X A W b mb) (hc : ME X A W c mc) : ME X A W (.Compare a [op, op'] [b, c] pos) (eChain f f' ma mb mc) := peW (pe_chain ho ho' ha hb hc hm) fun _ _ _ h => eChain_ok hf hf' hne hne' h
theorem me_lele (ha : ME X A W a ma) (hb : ME X A W b mb) (hc : ME X A W c mc) (hm : lastMarks [.LtE, .LtE] [b, c] = false := by with_unfolding_all rfl) : ME X A W (.Compare a [.LtE, .LtE] [b, c] pos) (eChain fLe fLe ma mb mc) := me_chain op_le op_le (snd_I0 fun _ _ _ => rv_bl) (snd_I0 fun _ _ _ => rv_bl) ne_I ne_I hm ha hb hc
theorem me_lelt (ha : ME X A W a ma) (hb : ME X A W b mb) (hc : ME X A W c mc) (hm : lastMarks [.LtE, .Lt] [b, c] = false := by with_unfolding_all rfl) : ME X A W (.Compare a [.LtE, .Lt] [b, c] pos) (eChain fLe fLt ma mb mc) := me_chain op_le op_lt (snd_I0 fun _ _ _ => rv_bl) (snd_I0 fun _ _ _ => rv_bl) ne_I ne_I hm ha hb hc
theorem mt_chain {op op' : CmpOp} {f f' : Store → D → D → R D} {r r' : R2} (ho : OpR X (compareOp op) r) (ho' : OpR X (compareOp op') r') (hf : Snd2 (gx X A) f r) (hf' : Snd2 (gx X A) f' r') (hne : ∀ s x y c s', f s x y ≠ .exc c s') (hne' : ∀ s x y c s', f' s x y ≠ .exc c s')
    (hm : lastMarks [op, op'] [b, c] = false) (ha : ME X A W a ma) (hb : ME X A W b mb) (hc : ME X A W c mc) : MT X A W (.Compare a [op, op'] [b, c] pos) (tq (eChain f f' ma mb mc)) := ptW (pt_chain ho ho' ha hb hc hm) fun _ _ _ h => eChain_ok hf hf' hne hne' (tq_ok h)
theorem mt_lele (ha : ME X A W a ma) (hb : ME X A W b mb) (hc : ME X A W c mc) (hm : lastMarks [.LtE, .LtE] [b, c] = false := by with_unfolding_all rfl) : MT X A W (.Compare a [.LtE, .LtE] [b, c] pos) (tq (eChain fLe fLe ma mb mc)) := mt_chain op_le op_le (snd_I0 fun _ _ _ => rv_bl) (snd_I0 fun _ _ _ => rv_bl) ne_I ne_I hm ha hb hc
theorem mt_lelt (ha : ME X A W a ma) (hb : ME X A W b mb) (hc : ME X A W c mc) (hm : lastMarks [.LtE, .Lt] [b, c] = false := by with_unfolding_all rfl) : MT X A W (.Compare a [.LtE, .Lt] [b, c] pos) (tq (eChain fLe fLt ma mb mc)) := mt_chain op_le op_lt (snd_I0 fun _ _ _ => rv_bl) (snd_I0 fun _ _ _ => rv_bl) ne_I ne_I hm ha hb hc
end
/-! a name's new list is given to the store -/
def sAd (i : Nat) (m : Sx) : Sx := fun env s => match m env s with
  | .nx e s' => .nx (gAd i e s').1 (gAd i e s').2
  | r => r
section
variable {X : Cx} {A : Ga} {W : WX} {st : Stmt} {m : Sx} {g : Gc} {Dn : Ends} {σ : Sl} {H : Hp}
theorem sAd_ok {i : Nat} (h : tSt g W (sAd i m) Dn σ H) : tSt g W m Dn σ H := by
  obtain ⟨w, env, tb, rfl, r, h⟩ := h
  refine ⟨w, env, tb, rfl, r, ?_⟩
  cases q : m env w.s with
  | nx e s =>
    simp only [sAd, q] at h
    intro w1 σ1 h1 r1 x1
    obtain ⟨w2, e1, e2, r2, x2⟩ := quiet_ad i g tb w1 e σ1 r1
    rw [← e2]
    rw [h1] at e1 r2 x2
    exact h w2 σ1 e1 r2 (x1.trans r r1.re.st x2)
  | rt d s => simp only [sAd, q] at h; exact h
  | bk e s => simp only [sAd, q] at h; exact h
  | ct e s => simp only [sAd, q] at h; exact h
  | exc c e s => simp only [sAd, q] at h; exact h
  | no => simp only [sAd, q] at h; exact h
theorem ms_ad (i : Nat) (h : MS X A W st m) : MS X A W st (sAd i m) := psW h fun _ _ _ h => sAd_ok h
end
end Gm

set_option Elab.async false
set_option linter.all false
set_option maxRecDepth 100000
set_option autoImplicit false
set_option maxHeartbeats 1000000
namespace Gm
open PySem PySem.Spec PyProof.Rows L2
/-! ### dicts -/
def kD : D → Option Key
  | .int i => some (.inl i)
  | .str x => some (.inr x)
  | _ => none
def valD (kv : List (Key × D)) (k : Key) : Option D := (kv.find? fun p => decide (p.1 = k)).map (·.2)
def putD (kv : List (Key × D)) (k : Key) (d : D) : List (Key × D) := if (kv.any fun p => decide (p.1 = k)) = true then kv.map (fun p => if p.1 = k then (p.1, d) else p) else kv ++ [(k, d)]
/-- d[k] -/
def fDG : Store → D → D → R D := fun s a b => match drM s a, kD b with
  | some (.dK kv), some k => (match valD kv k with
    | some d => .ok d s
    | none => .no)
  | _, _ => .no
/-- k in d -/
def fDIn (neg : Bool) : Store → D → D → R D := fun s a b => match kD a, drM s b with
  | some k, some (.dK kv) => .ok (.bl (if neg then !(valD kv k).isSome else (valD kv k).isSome)) s
  | _, _ => .no
def eDct0 : Ex := fun _ s => .ok (.own (.dK [])) s
section
variable {g : Gc} {tb : List Addr} {w w' w1 w2 w3 : Wd} {env env' env1 env2 : Env} {σ σ' σ1 σ2 : Sl} {W : WX} {Dn : Ends} {H : Hp}
theorem kD_ok {d : D} {v : V} {k : Key} (h : Po g w d v) (e : kD d = some k) : v = kV k := by
  cases d with
  | int i => cases e; exact po_int h
  | str i => cases e; exact po_str h
  | _ => cases e
theorem RvK.val (k : Key) : ∀ {kv : List (Key × D)} {ys : List (Key × V)}, RvK g w kv ys → (valD kv k = none ∧ valV ys k = none) ∨ ∃ d v, valD kv k = some d ∧ valV ys k = some v ∧ Rv g w d v
  | [], ys, h => by unfold RvK at h; subst h; exact .inl ⟨rfl, rfl⟩
  | (j, d) :: r, ys, h => by
    unfold RvK at h
    obtain ⟨y, t, rfl, h1, h2⟩ := h
    by_cases e : j = k
    · exact .inr ⟨d, y, by simp [valD, List.find?_cons, e], by simp [valV, List.find?_cons, e], h1⟩
    · have e1 : valD ((j, d) :: r) k = valD r k := by simp [valD, List.find?_cons, e]
      have e2 : valV ((j, y) :: t) k = valV t k := by simp [valV, List.find?_cons, e]
      rw [e1, e2]
      exact RvK.val k h2
theorem RvK.any (k : Key) : ∀ {kv : List (Key × D)} {ys : List (Key × V)}, RvK g w kv ys → (kv.any fun p => decide (p.1 = k)) = ys.any fun p => decide (p.1 = k)
  | [], ys, h => by unfold RvK at h; subst h; rfl
  | (j, d) :: r, ys, h => by
    unfold RvK at h
    obtain ⟨y, t, rfl, h1, h2⟩ := h
    rw [List.any_cons, List.any_cons, RvK.any k h2]
theorem RvK.len : ∀ {kv : List (Key × D)} {ys : List (Key × V)}, RvK g w kv ys → ys.length = kv.length
  | [], ys, h => by unfold RvK at h; subst h; rfl
  | (j, d) :: r, ys, h => by
    unfold RvK at h
    obtain ⟨y, t, rfl, h1, h2⟩ := h
    rw [List.length_cons, List.length_cons, RvK.len h2]
theorem RvK.repl {k : Key} {d : D} {v : V} (h : Rv g w d v) : ∀ {kv : List (Key × D)} {ys : List (Key × V)}, RvK g w kv ys → RvK g w (kv.map fun p => if p.1 = k then (p.1, d) else p) (ys.map fun p => if p.1 = k then (p.1, v) else p)
  | [], ys, q => by unfold RvK at q; subst q; simp [RvK]
  | (j, d') :: r, ys, q => by
    unfold RvK at q
    obtain ⟨y, t, rfl, h1, h2⟩ := q
    have ih := RvK.repl (k := k) h h2
    rw [List.map_cons, List.map_cons]
    by_cases e : j = k
    · simp only [e, if_true]
      unfold RvK
      exact ⟨v, _, rfl, h, ih⟩
    · simp only [e, if_false]
      unfold RvK
      exact ⟨y, _, rfl, h1, ih⟩
theorem RvK.snoc {k : Key} {d : D} {v : V} (h : Rv g w d v) : ∀ {kv : List (Key × D)} {ys : List (Key × V)}, RvK g w kv ys → RvK g w (kv ++ [(k, d)]) (ys ++ [(k, v)])
  | [], ys, q => by
    unfold RvK at q; subst q
    show RvK g w [(k, d)] [(k, v)]
    unfold RvK
    exact ⟨v, [], rfl, h, by unfold RvK; rfl⟩
  | (j, d') :: r, ys, q => by
    unfold RvK at q
    obtain ⟨y, t, rfl, h1, h2⟩ := q
    have ih := RvK.snoc (k := k) h h2
    rw [List.cons_append, List.cons_append]
    unfold RvK
    exact ⟨y, _, rfl, h1, ih⟩
theorem RvK.put {k : Key} {d : D} {v : V} (h : Rv g w d v) {kv : List (Key × D)} {ys : List (Key × V)} (q : RvK g w kv ys) : RvK g w (putD kv k d) (putK ys k v) := by
  unfold putD putK
  rw [RvK.any k q]
  split
  · exact RvK.repl h q
  · exact RvK.snoc h q
theorem drM_dK {a : D} {x : V} {kv : List (Key × D)} (r : Rst g w) (h : Po g w a x) (e : drM w.s a = some (.dK kv)) : ∃ p ys, x = .ref p ∧ w.H p = some (.dK ys) ∧ RvK g w kv ys := by
  obtain ⟨p, e1, ys, e2, e3⟩ := drM_ok r h e
  exact ⟨p, ys, e1, e2, e3⟩
def rDG : R2 := fun x y H Q => ∃ a v, x = .ref a ∧ DGet H a y (some v) ∧ Q v H
def rDIn (neg : Bool) : R2 := fun y x H Q => ∃ a o, x = .ref a ∧ DGet H a y o ∧ Q (.bl (if neg then !o.isSome else o.isSome)) H
theorem snd_dg : Snd2 g fDG rDG := by
  intro w a b x y Q r pa pb h
  unfold fDG at h
  split at h
  · rename_i kv k ea eb
    split at h
    · rename_i d ed
      obtain ⟨p, ys, rfl, e2, e3⟩ := drM_dK r pa ea
      have ey := kD_ok pb eb
      subst ey
      rcases e3.val k with ⟨z, _⟩ | ⟨d', v, z1, z2, z3⟩
      · rw [z] at ed; cases ed
      · rw [z1] at ed; cases ed
        exact ⟨p, v, rfl, z2 ▸ DGet.k e2, h.pure r z3⟩
    · exact h.elim
  · exact h.elim
theorem ne_dg : ∀ s x y k s', fDG s x y ≠ .exc k s' := by
  intro s x y k s'
  unfold fDG
  repeat' split
  all_goals exact fun z => nomatch z
theorem snd_din {neg : Bool} : Snd2 g (fDIn neg) (rDIn neg) := by
  intro w a b x y Q r pa pb h
  unfold fDIn at h
  split at h
  · rename_i k kv ea eb
    obtain ⟨p, ys, rfl, e2, e3⟩ := drM_dK r pb eb
    have ey := kD_ok pa ea
    subst ey
    have es : (valV ys k).isSome = (valD kv k).isSome := by
      rcases e3.val k with ⟨z1, z2⟩ | ⟨d', v, z1, z2, z3⟩
      · rw [z1, z2]; rfl
      · rw [z1, z2]; rfl
    refine ⟨p, valV ys k, rfl, DGet.k e2, ?_⟩
    rw [es]
    exact h.pure r rv_bl
  · exact h.elim
theorem ne_din {neg : Bool} : ∀ s x y k s', fDIn neg s x y ≠ .exc k s' := by
  intro s x y k s'
  unfold fDIn
  repeat' split
  all_goals exact fun z => nomatch z
theorem eDct0_ok {Q : VK} (h : tEv g W eDct0 σ H Q) : tDNewK σ H Q := by
  obtain ⟨w, env, rfl, re, h⟩ := h
  intro p hp
  exact h { w with H := upd w.H p (.dK []) } _ rfl rfl (new_ext hp) (Px.newD re.st hp (by unfold RvK; rfl))
/-! d[k] = e, d a name -/
def mutD (i : Nat) (f : List (Key × D) → List (Key × D)) (env : Env) (s : Store) : Option (Env × Store) := match env[i]? with
  | some (some (.own (.dK xs))) => if xs.length < 16777216 then some (env.set i (some (.own (.dK (f xs)))), s) else none
  | some (some (.ref n)) => (match s[n]? with
    | some (.dK xs) => if xs.length < 16777216 then some (env, s.set n (.dK (f xs))) else none
    | _ => none)
  | _ => none
def isDc (i : Nat) (env : Env) (s : Store) : Bool := match env[i]? with
  | some (some (.own (.dK _))) => true
  | some (some (.ref n)) => (match s[n]? with
    | some (.dK _) => true
    | _ => false)
  | _ => false
def sDP (i : Nat) (j : Ex) (e : Ex) : Sx := fun env s => match e env s with
  | .ok d s1 => (match snk (fz d) with
    | some d => if isDc i env s1 = true then (match j env s1 with
      | .ok x s2 => (match kD x with
        | some k => (match mutD i (fun kv => putD kv k d) env s2 with
          | some (env', s3) => .nx env' s3
          | none => .no)
        | none => .no)
      | .exc c s' => .exc c env s'
      | .no => .no) else .no
    | none => .no)
  | .exc c s' => .exc c env s'
  | .no => .no
theorem dK_nd {xs : List (Key × D)} : O.dK xs ≠ O.dead := fun z => nomatch z
theorem isDc_ok {i : Nat} (r : Rm g tb w env σ) (h : isDc i env w.s = true) : ∃ p : Addr, σ[i]? = some (some (.ref p)) := by
  unfold isDc at h
  split at h
  · rename_i xs ei
    obtain ⟨v, a, z⟩ := r.re.sl i _ ei
    obtain ⟨p, rfl, _⟩ := z
    exact ⟨p, a⟩
  · rename_i n ei
    obtain ⟨v, a, z⟩ := r.re.sl i _ ei
    have z : Rv g w (.ref n) v := z
    unfold Rv at z
    obtain ⟨p, rfl, hm⟩ := z
    exact ⟨p, a⟩
  · cases h
theorem mutD_ok {i : Nat} {f : List (Key × D) → List (Key × D)} {env' : Env} {s' : Store} (r : Rm g tb w env σ) (h : mutD i f env w.s = some (env', s')) :
    ∃ (p : Addr) (xs : List (Key × D)) (vs : List (Key × V)), σ[i]? = some (some (.ref p)) ∧ w.H p = some (.dK vs) ∧ RvK g w xs vs ∧ xs.length < 16777216 ∧
      ∀ us, RvK g w (f xs) us → ∃ w2, w2.s = s' ∧ w2.H = L2.upd w.H p (.dK us) ∧ Rm g tb w2 env' σ ∧ Xs w env σ w2 env' σ := by
  unfold mutD at h
  split at h
  · rename_i xs ei
    split at h
    · rename_i hl
      cases h
      obtain ⟨v, a, z⟩ := r.re.sl i _ ei
      obtain ⟨p, rfl, fo, ⟨vs, e1, e2⟩, nm, t⟩ := z
      refine ⟨p, xs, vs, a, e1, e2, hl, fun us hu => ?_⟩
      obtain ⟨k1, k2⟩ := r.upd (o' := .dK (f xs)) (u := .dK us) ei a trivial fun c => ⟨us, upd_same, RvK.mono c _ _ hu⟩
      exact ⟨w.wr p (.dK us), rfl, rfl, k1, k2⟩
    · cases h
  · rename_i n ei
    split at h
    · rename_i xs en
      split at h
      · rename_i hl
        cases h
        obtain ⟨v, a, z⟩ := r.re.sl i _ ei
        have z : Rv g w (.ref n) v := z
        unfold Rv at z
        obtain ⟨p, rfl, hm⟩ := z
        obtain ⟨vs, e1, e2⟩ := r.re.st.ce n p _ hm en
        refine ⟨p, xs, vs, a, e1, e2, hl, fun us hu => ?_⟩
        have ex := ws_ext (o' := .dK (f xs)) (u := .dK us) hm en dK_nd
        have rs := ws_rst (o' := .dK (f xs)) (u := .dK us) r.re.st hm en dK_nd fun c => ⟨us, upd_same, RvK.mono c _ _ hu⟩
        exact ⟨w.ws n (.dK (f xs)) p (.dK us), rfl, rfl, r.ev rs ex rfl, Xs.ev ex⟩
      · cases h
    · cases h
  · cases h
theorem sDP_ok {i : Nat} {j e : Ex} (h : tSt g W (sDP i j e) Dn σ H) : sDPut (tVar i) (tEv g W j) (tEv g W e) Dn σ H := by
  obtain ⟨w, env, tb, rfl, r, h⟩ := h
  refine ev_in (m := sDP i j e env w.s) r h (fun c s q => by simp only [sDP, q]) (fun q => by simp only [sDP, q]) fun d s1 w1 v q h1 h2 h3 h4 => ?_
  obtain ⟨r1, o1⟩ := h4.fz
  have rm1 := r.ev r1 h3 h2
  cases es : snk (fz d) with
  | none => simp only [sDP, q, es] at h; exact h.elim
  | some d' =>
    have rd := snk_ok o1 es
    have p1 := h.next r r1 (Xs.ev h3)
    cases il : isDc i env s1 with
    | false => simp only [sDP, q, es, il] at h; exact h.elim
    | true =>
      obtain ⟨p, e1⟩ := isDc_ok rm1 (by rw [h1]; exact il)
      refine ⟨.ref p, e1, ?_⟩
      refine ev_in (m := sDP i j e env w.s) rm1 p1 (fun c s k => by rw [h1] at k; simp only [sDP, q, es, il, k, if_true]) (fun k => by rw [h1] at k; simp only [sDP, q, es, il, k, if_true]) fun x s2 w2 u k k1 k2 k3 k4 => ?_
      rw [h1] at k
      have r2 := k4.rst
      have rm2 := rm1.ev r2 k3 k2
      have rd2 := Rv.mono (Cy.of r1 k3 k2) _ _ rd
      simp only [sDP, q, es, il, k, if_true] at p1
      cases ek : kD x with
      | none => simp only [ek] at p1; exact p1.elim
      | some kk =>
        simp only [ek] at p1
        have eu : u = kV kk := by
          cases x with
          | int n =>
            have ru : Rv g w2 (.int n) u := k4.2
            exact kD_ok ru.po ek
          | str n =>
            have ru : Rv g w2 (.str n) u := k4.2
            exact kD_ok ru.po ek
          | _ => cases ek
        subst eu
        cases em : mutD i (fun kv => putD kv kk d') env s2 with
        | none => simp only [em] at p1; exact p1.elim
        | some z =>
          obtain ⟨env', s3⟩ := z
          simp only [em] at p1
          rw [← k1] at em
          obtain ⟨p', xs, vs, a1, a2, a3, a4, a5⟩ := mutD_ok rm2 em
          rw [e1] at a1
          cases a1
          refine ⟨p, _, rfl, DPut.k a2 (by rw [RvK.len a3, sizeLine_eq]; exact a4), ?_⟩
          obtain ⟨w3, b1, b2, b3, b4⟩ := a5 (putK vs kk v) (RvK.put rd2 a3)
          rw [← b2]
          exact p1 w3 σ b1 b3 ((Xs.ev k3).trans rm1 r2 b4)
end
section
variable {X : Cx} {A : Ga} {W : WX} {a b e : Expr} {ma mb : Ex} {pos cpos apos : Pos} {x : Str} {p : Pos}
theorem me_dct0 : ME X A W (.Dict [] [] pos) eDct0 := peW pe_dnewK fun _ _ _ h => eDct0_ok h
theorem me_dg (hu : X.A.units + 1 < cLine) (ha : ME X A W a ma) (hb : ME X A W b mb) (hs : NoSl b := by exact fun _ _ => rfl) : ME X A W (.Subscript a b pos) (eOp2 fDG ma mb) := peW (pe_dget hu ha hb hs) fun _ _ _ h => tOp_snd snd_dg ne_dg h
theorem pc_dinM (hu : X.A.units + 1 < cLine) (ha : ME X A W a ma) (hb : ME X A W b mb) : PC X .In a b (tEv (gx X A) W (eOp2 (fDIn false) ma mb)) := by
  have h := pc_din hu ha hb
  exact ⟨fun pins s σ H Q I q => h.run pins s σ H Q I (tOp_snd snd_din ne_din q)⟩
theorem pc_dnotinM (hu : X.A.units + 1 < cLine) (ha : ME X A W a ma) (hb : ME X A W b mb) : PC X .NotIn a b (tEv (gx X A) W (eOp2 (fDIn true) ma mb)) := by
  have h := pc_dnotin hu ha hb
  exact ⟨fun pins s σ H Q I q => h.run pins s σ H Q I (tOp_snd snd_din ne_din q)⟩
theorem me_din (hu : X.A.units + 1 < cLine) (ha : ME X A W a ma) (hb : ME X A W b mb) (hm : behindInMarks .In b = false := by rfl) : ME X A W (.Compare a [.In] [b] pos) (eOp2 (fDIn false) ma mb) := pe_cmp (pc_dinM hu ha hb) hm
theorem me_dnotin (hu : X.A.units + 1 < cLine) (ha : ME X A W a ma) (hb : ME X A W b mb) (hm : behindInMarks .NotIn b = false := by rfl) : ME X A W (.Compare a [.NotIn] [b] pos) (eOp2 (fDIn true) ma mb) := pe_cmp (pc_dnotinM hu ha hb) hm
theorem mt_din (hu : X.A.units + 1 < cLine) (ha : ME X A W a ma) (hb : ME X A W b mb) (hm : behindInMarks .In b = false := by rfl) : MT X A W (.Compare a [.In] [b] pos) (tq (eOp2 (fDIn false) ma mb)) := ptW (pt_cmp (pc_dinM hu ha hb) hm) fun _ _ _ h => tq_ok h
theorem mt_dnotin (hu : X.A.units + 1 < cLine) (ha : ME X A W a ma) (hb : ME X A W b mb) (hm : behindInMarks .NotIn b = false := by rfl) : MT X A W (.Compare a [.NotIn] [b] pos) (tq (eOp2 (fDIn true) ma mb)) := ptW (pt_cmp (pc_dnotinM hu ha hb) hm) fun _ _ _ h => tq_ok h
theorem ms_dp (i : Nat) {tpos : Pos} (hu : X.A.units + 1 < cLine) (h : ME X A W e ma) (k : ME X A W a mb) (hN : X.N[i]? = some x := by rfl) (hv : Vis X.env.scope x := by first | exact Or.inl rfl | exact Or.inr (Or.inl rfl) | exact Or.inr (Or.inr rfl)) (hd : (x == ("__debug__" : Str)) = false := by decide)
    (hcd : (x == ("__classdict__" : Str)) = false := by decide) (hs : swapsWith e (some (.Subscript (.Name x p) a tpos)) pos.line X.env = pure false := by rfl) :
    MS X A W (.Assign [.Subscript (.Name x p) a tpos] e pos) (sDP i mb ma) := psW (ps_dput hu (pe_var hN hv hd hcd) k h hs) fun _ _ _ h => sDP_ok h
end
end Gm

set_option Elab.async false
set_option linter.all false
set_option maxRecDepth 100000
set_option autoImplicit false
set_option maxHeartbeats 1000000
namespace Gm
open PySem PySem.Spec PyProof.Rows L2
/-! ### sum, all, sorted, list(d), dict(pairs) -/
def intsD : List D → Option (List Int)
  | [] => some []
  | .int i :: r => (intsD r).map (i :: ·)
  | _ => none
def blsD : List D → Option (List Bool)
  | [] => some []
  | .bl b :: r => (blsD r).map (b :: ·)
  | _ => none
def insI (x : Int) : List Int → List Int
  | [] => [x]
  | y :: r => if y < x then y :: insI x r else x :: y :: r
def sortI (ns : List Int) : List Int := ns.foldr insI []
def keyD : Key → D
  | .inl i => .int i
  | .inr x => .str x
def pairD : D → Option (Key × D)
  | .tup [a, b] => (kD a).map fun k => (k, b)
  | _ => none
def mergeD (a : List (Key × D)) : List (Key × D) → List (Key × D)
  | [] => a
  | (k, d) :: r => mergeD (putD a k d) r
def lsD (s : Store) (d : D) : Option (List D) := match dr s d with
  | some (.lst xs) => some xs
  | _ => none
def fSum : Store → D → R D := fun s a => match (lsD s a).bind intsD with
  | some ns => .ok (.int ns.sum) s
  | none => .no
def fAll : Store → D → R D := fun s a => match (lsD s a).bind blsD with
  | some bs => .ok (.bl (bs.all id)) s
  | none => .no
def fSorted : Store → D → R D := fun s a => match (lsD s a).bind intsD with
  | some ns => .ok (.own (.lst ((sortI ns).map D.int))) s
  | none => .no
def fListD : Store → D → R D := fun s a => match drM s a with
  | some (.dK kv) => .ok (.own (.lst (kv.map fun p => keyD p.1))) s
  | _ => .no
def fDictP : Store → D → R D := fun s a => match (lsD s a).bind fun xs => xs.mapM pairD with
  | some kv => .ok (.own (.dK (mergeD [] kv))) s
  | none => .no
section
variable {g : Gc} {tb : List Addr} {w w' : Wd} {env : Env} {σ : Sl} {W : WX} {H : Hp}
theorem insI_perm (x : Int) : ∀ l, (insI x l).Perm (x :: l)
  | [] => .refl _
  | y :: r => by
    unfold insI
    split
    · exact ((insI_perm x r).cons y).trans (.swap x y r)
    · exact .refl _
theorem sortI_perm : ∀ ns, (sortI ns).Perm ns
  | [] => .refl _
  | x :: r => (insI_perm x _).trans ((sortI_perm r).cons x)
theorem insI_rises (x : Int) : ∀ l : List Int, l.Pairwise (· ≤ ·) → (insI x l).Pairwise (· ≤ ·)
  | [], _ => List.pairwise_singleton _ _
  | y :: r, h => by
    have h1 := (List.pairwise_cons.mp h).1
    have h2 := (List.pairwise_cons.mp h).2
    unfold insI
    split
    · rename_i c
      refine List.pairwise_cons.mpr ⟨fun z hz => ?_, insI_rises x r h2⟩
      rcases List.mem_cons.mp ((insI_perm x r).mem_iff.mp hz) with e | e
      · rw [e]; omega
      · exact h1 z e
    · rename_i c
      refine List.pairwise_cons.mpr ⟨fun z hz => ?_, h⟩
      rcases List.mem_cons.mp hz with e | e
      · rw [e]; omega
      · have := h1 z e; omega
theorem sortI_rises : ∀ ns, (sortI ns).Pairwise (· ≤ ·)
  | [] => .nil
  | x :: r => insI_rises x _ (sortI_rises r)
theorem eq_sortI {ns ns' : List Int} (hp : ns'.Perm ns) (hs : ns'.Pairwise (· ≤ ·)) : ns' = sortI ns :=
  List.Perm.eq_of_pairwise (fun _ _ _ _ a b => Int.le_antisymm a b) hs (sortI_rises ns) (hp.trans (sortI_perm ns).symm)
theorem intsD_ok : ∀ {xs : List D} {ns : List Int} {ys : List V}, intsD xs = some ns → RvL g w xs ys → ys = ns.map V.int
  | [], ns, ys, e, h => by cases e; unfold RvL at h; exact h
  | d :: r, ns, ys, e, h => by
    cases d with
    | int i =>
      unfold intsD at e
      obtain ⟨m, e1, rfl⟩ := Option.map_eq_some_iff.mp e
      unfold RvL at h
      obtain ⟨y, t, rfl, h1, h2⟩ := h
      rw [intsD_ok e1 h2, po_int h1.po]; rfl
    | _ => cases e
theorem blsD_ok : ∀ {xs : List D} {ns : List Bool} {ys : List V}, blsD xs = some ns → RvL g w xs ys → ys = ns.map V.bl
  | [], ns, ys, e, h => by cases e; unfold RvL at h; exact h
  | d :: r, ns, ys, e, h => by
    cases d with
    | bl i =>
      unfold blsD at e
      obtain ⟨m, e1, rfl⟩ := Option.map_eq_some_iff.mp e
      unfold RvL at h
      obtain ⟨y, t, rfl, h1, h2⟩ := h
      have h1 : y = .bl i := by unfold Rv at h1; exact h1
      rw [blsD_ok e1 h2, h1]; rfl
    | _ => cases e
theorem RvL.keys : ∀ {kv : List (Key × D)} {ys : List (Key × V)}, RvK g w kv ys → RvL g w (kv.map fun p => keyD p.1) (ys.map fun p => kV p.1)
  | [], ys, h => by unfold RvK at h; subst h; show RvL g w [] []; unfold RvL; rfl
  | (k, d) :: r, ys, h => by
    unfold RvK at h
    obtain ⟨y, t, rfl, h1, h2⟩ := h
    show RvL g w (keyD k :: r.map fun p => keyD p.1) (kV k :: t.map fun p => kV p.1)
    unfold RvL
    refine ⟨_, _, rfl, ?_, RvL.keys h2⟩
    cases k with
    | inl i => exact rv_int
    | inr i => exact rv_str
theorem lsD_ok {a : D} {x : V} {xs : List D} (r : Rst g w) (h : Po g w a x) (e : lsD w.s a = some xs) : ∃ p ys, x = .ref p ∧ SqL g.K w.H p ys ∧ RvL g w xs ys := by
  unfold lsD at e
  split at e
  · rename_i zs ed
    cases e
    exact dr_lst r h ed
  · cases e
theorem snd_sum : Snd1 g fSum fun x H Q => rSum g.K [x] H Q := by
  intro w a x Q r pa h
  unfold fSum at h
  split at h
  · rename_i ns e
    obtain ⟨xs, e1, e2⟩ := Option.bind_eq_some_iff.mp e
    obtain ⟨p, ys, rfl, k2, k3⟩ := lsD_ok r pa e1
    exact ⟨p, ns, rfl, intsD_ok e2 k3 ▸ k2, h.pure r rv_int⟩
  · exact h.elim
theorem snd_all : Snd1 g fAll fun x H Q => rAll g.K [x] H Q := by
  intro w a x Q r pa h
  unfold fAll at h
  split at h
  · rename_i ns e
    obtain ⟨xs, e1, e2⟩ := Option.bind_eq_some_iff.mp e
    obtain ⟨p, ys, rfl, k2, k3⟩ := lsD_ok r pa e1
    exact ⟨p, ns, rfl, blsD_ok e2 k3 ▸ k2, h.pure r rv_bl⟩
  · exact h.elim
theorem snd_sorted : Snd1 g fSorted fun x H Q => rSortedI g.K [x] H Q := by
  intro w a x Q r pa h
  unfold fSorted at h
  split at h
  · rename_i ns e
    obtain ⟨xs, e1, e2⟩ := Option.bind_eq_some_iff.mp e
    obtain ⟨p, ys, rfl, k2, k3⟩ := lsD_ok r pa e1
    refine ⟨p, ns, rfl, intsD_ok e2 k3 ▸ k2, fun ns' l hp hs hl => ?_⟩
    rw [eq_sortI hp hs]
    exact h { w with H := upd w.H l (.lst ((sortI ns).map V.int)) } _ rfl rfl (new_ext hl) (Px.newL r hl RvL.ints)
  · exact h.elim
theorem snd_listD : Snd1 g fListD fun x H Q => ∃ (a : Addr) (kvs : List (Key × V)), [x] = [.ref a] ∧ Rd H a (.dK kvs) ∧ ∀ p, H p = none → Q (.ref p) (upd H p (.lst (kvs.map fun kv => kV kv.1))) := by
  intro w a x Q r pa h
  unfold fListD at h
  split at h
  · rename_i kv e
    obtain ⟨p, ys, rfl, e2, e3⟩ := drM_dK r pa e
    exact ⟨p, ys, rfl, .inl e2, fun l hl => h { w with H := upd w.H l (.lst (ys.map fun p => kV p.1)) } _ rfl rfl (new_ext hl) (Px.newL r hl (RvL.keys e3))⟩
  · exact h.elim
theorem mergeD_ok : ∀ {more : List (Key × D)} {rs : List (Key × V)} {kv : List (Key × D)} {ys : List (Key × V)}, RvK g w more rs → RvK g w kv ys → RvK g w (mergeD kv more) (mergeK ys rs)
  | [], rs, kv, ys, h, k => by unfold RvK at h; subst h; exact k
  | (j, d) :: r, rs, kv, ys, h, k => by
    unfold RvK at h
    obtain ⟨y, t, rfl, h1, h2⟩ := h
    show RvK g w (mergeD (putD kv j d) r) (mergeK (putK ys j y) t)
    exact mergeD_ok h2 (RvK.put h1 k)
theorem pairs_ok : ∀ {xs : List D} {kv : List (Key × D)} {ys : List V}, xs.mapM pairD = some kv → RvL g w xs ys → ∃ (ps : List Addr) (kvs : List (Key × V)), ys = ps.map V.ref ∧ Paired (fun p kv => SqT g.K w.H p [kV kv.1, kv.2]) ps kvs ∧ RvK g w kv kvs
  | [], kv, ys, e, h => by
    simp at e; subst e
    unfold RvL at h; subst h
    exact ⟨[], [], rfl, .nil, by unfold RvK; rfl⟩
  | d :: r, kv, ys, e, h => by
    rw [List.mapM_cons] at e
    cases q : pairD d with
    | none => rw [q] at e; cases e
    | some kd =>
      rw [q] at e
      cases q2 : r.mapM pairD with
      | none => rw [q2] at e; cases e
      | some kv' =>
        rw [q2] at e
        cases e
        unfold RvL at h
        obtain ⟨y, t, rfl, h1, h2⟩ := h
        obtain ⟨ps, kvs, rfl, a2, a3⟩ := pairs_ok q2 h2
        unfold pairD at q
        split at q
        · rename_i a b
          obtain ⟨k, ek, rfl⟩ := Option.map_eq_some_iff.mp q
          unfold Rv at h1
          obtain ⟨p, zs, rfl, b2, b3⟩ := h1
          unfold RvL at b3
          obtain ⟨u, t2, rfl, c1, c2⟩ := b3
          unfold RvL at c2
          obtain ⟨v, t3, rfl, d1, d2⟩ := c2
          unfold RvL at d2
          subst d2
          have := kD_ok c1.po ek
          subst this
          exact ⟨p :: ps, (k, v) :: kvs, rfl, .cons b2 a2, by unfold RvK; exact ⟨v, kvs, rfl, d1, a3⟩⟩
        · cases q
theorem snd_dictP : Snd1 g fDictP fun x H Q => ∃ (a : Addr) (ps : List Addr) (kvs : List (Key × V)), [x] = [.ref a] ∧ SqL g.K H a (ps.map V.ref) ∧ Paired (fun p kv => SqT g.K H p [kV kv.1, kv.2]) ps kvs ∧
    ∀ p, H p = none → Q (.ref p) (upd H p (.dK (mergeK [] kvs))) := by
  intro w a x Q r pa h
  unfold fDictP at h
  split at h
  · rename_i kv e
    obtain ⟨xs, e1, e2⟩ := Option.bind_eq_some_iff.mp e
    obtain ⟨p, ys, rfl, k2, k3⟩ := lsD_ok r pa e1
    obtain ⟨ps, kvs, rfl, a2, a3⟩ := pairs_ok e2 k3
    exact ⟨p, ps, kvs, rfl, k2, a2, fun l hl => h { w with H := upd w.H l (.dK (mergeK [] kvs)) } _ rfl rfl (new_ext hl) (Px.newD r hl (mergeD_ok a3 (by unfold RvK; rfl)))⟩
  · exact h.elim
theorem ne_sum : ∀ s x k s', fSum s x ≠ .exc k s' := by intro s x k s'; unfold fSum; split <;> exact fun z => nomatch z
theorem ne_all : ∀ s x k s', fAll s x ≠ .exc k s' := by intro s x k s'; unfold fAll; split <;> exact fun z => nomatch z
theorem ne_sorted : ∀ s x k s', fSorted s x ≠ .exc k s' := by intro s x k s'; unfold fSorted; split <;> exact fun z => nomatch z
theorem ne_listD : ∀ s x k s', fListD s x ≠ .exc k s' := by intro s x k s'; unfold fListD; split <;> exact fun z => nomatch z
theorem ne_dictP : ∀ s x k s', fDictP s x ≠ .exc k s' := by intro s x k s'; unfold fDictP; split <;> exact fun z => nomatch z
end
section
variable {X : Cx} {A : Ga} {W : WX} {a : Expr} {ma : Ex} {pos p : Pos}
theorem me_sum (hc : X.calm = true) (hg : Gl X "sum") (hm : X.mg "sum" = none) (h : ME X A W a ma) (hs : starEach [a] X.env = (false, eval a X.env) :: starEach [] X.env := by rfl) (hpl : (backTo pos (starEach [] X.env)).any (·.1) = false := by rfl) : ME X A W (.Call (.Name "sum" p) [a] [] pos) (eOp1 fSum ma) :=
  me_call1 (cr_sum hc) snd_sum ne_sum hg hm (by decide +kernel) h (by decide) (by decide) hs hpl
theorem me_all (hc : X.calm = true) (hg : Gl X "all") (hm : X.mg "all" = none) (h : ME X A W a ma) (hs : starEach [a] X.env = (false, eval a X.env) :: starEach [] X.env := by rfl) (hpl : (backTo pos (starEach [] X.env)).any (·.1) = false := by rfl) : ME X A W (.Call (.Name "all" p) [a] [] pos) (eOp1 fAll ma) :=
  me_call1 (cr_all hc) snd_all ne_all hg hm (by decide +kernel) h (by decide) (by decide) hs hpl
theorem me_sorted (hg : Gl X "sorted") (hm : X.mg "sorted" = none) (h : ME X A W a ma) (hs : starEach [a] X.env = (false, eval a X.env) :: starEach [] X.env := by rfl) (hpl : (backTo pos (starEach [] X.env)).any (·.1) = false := by rfl) : ME X A W (.Call (.Name "sorted" p) [a] [] pos) (eOp1 fSorted ma) :=
  me_call1 cr_sortedI snd_sorted ne_sorted hg hm (by decide +kernel) h (by decide) (by decide) hs hpl
theorem me_listD (hc : X.calm = true) (hg : Gl X "list") (hm : X.mg "list" = none) (h : ME X A W a ma) (hs : starEach [a] X.env = (false, eval a X.env) :: starEach [] X.env := by rfl) (hpl : (backTo pos (starEach [] X.env)).any (·.1) = false := by rfl) : ME X A W (.Call (.Name "list" p) [a] [] pos) (eOp1 fListD ma) :=
  me_callT1 (call_listD hc) snd_listD ne_listD hg hm (by decide +kernel) h (by decide) (by decide) hs hpl
theorem me_dictP (hc : X.calm = true) (hg : Gl X "dict") (hm : X.mg "dict" = none) (h : ME X A W a ma) (hs : starEach [a] X.env = (false, eval a X.env) :: starEach [] X.env := by rfl) (hpl : (backTo pos (starEach [] X.env)).any (·.1) = false := by rfl) : ME X A W (.Call (.Name "dict" p) [a] [] pos) (eOp1 fDictP ma) :=
  me_callT1 (call_dictP hc) snd_dictP ne_dictP hg hm (by decide +kernel) h (by decide) (by decide) hs hpl
end
end Gm

set_option Elab.async false
set_option linter.all false
set_option maxRecDepth 100000
set_option autoImplicit false
set_option maxHeartbeats 1000000
namespace Gm
open PySem PySem.Spec PyProof.Rows L2
/-! ### x.reverse(), x a name -/
def sRev (i : Nat) : Sx := fun env s => match mutL i (fun xs => some xs.reverse) env s with
  | some (env', s2) => .nx env' s2
  | none => .no
section
variable {g : Gc} {tb : List Addr} {w w' : Wd} {env : Env} {σ : Sl} {W : WX} {Dn : Ends} {H : Hp}
theorem RvL.rev : ∀ {xs : List D} {ys : List V}, RvL g w xs ys → RvL g w xs.reverse ys.reverse
  | [], ys, h => by unfold RvL at h; subst h; unfold RvL; rfl
  | d :: r, ys, h => by
    unfold RvL at h
    obtain ⟨y, t, rfl, h1, h2⟩ := h
    rw [List.reverse_cons, List.reverse_cons]
    exact (RvL.rev h2).app (RvL.one h1)
theorem sRev_ok {i : Nat} (h : tSt g W (sRev i) Dn σ H) : tDrop (tBM0 g.K "list" rReverse (tVar i)) Dn σ H := by
  obtain ⟨w, env, tb, rfl, r, h⟩ := h
  unfold sRev at h
  cases em : mutL i (fun xs => some xs.reverse) env w.s with
  | none => simp only [em] at h; exact h.elim
  | some z =>
    obtain ⟨env', s2⟩ := z
    simp only [em] at h
    obtain ⟨p, xs, ys, vs, k1, k2, k3, k4, k5⟩ := mutL_ok r em
    cases k4
    refine ⟨.ref p, k1, .inl ⟨rfl, vs, SqL.of k2⟩, p, vs, rfl, rfl, k2, ?_⟩
    obtain ⟨w2, a1, a2, a3, a4⟩ := k5 vs.reverse (RvL.rev k3)
    rw [← a2]
    exact h w2 σ a1 a3 a4
end
section
variable {X : Cx} {A : Ga} {W : WX} {pos p apos : Pos} {x : Str}
theorem ms_rev (i : Nat) {cpos : Pos} (hN : X.N[i]? = some x := by rfl) (hv : Vis X.env.scope x := by first | exact Or.inl rfl | exact Or.inr (Or.inl rfl) | exact Or.inr (Or.inr rfl)) (hd : (x == ("__debug__" : Str)) = false := by decide)
    (hcd : (x == ("__classdict__" : Str)) = false := by decide)
    (hbase : attributeBase (.Name x p) "reverse" X.env (eval (.Name x p) X.env) = eval (.Name x p) X.env := by rfl)
    (hline : (apos.endLine == cpos.line) = true := by rfl)
    (hs2 : swapsWith (.Call (.Attribute (.Name x p) "reverse" apos) [] [] cpos) none pos.line X.env = pure false := by rfl) :
    MS X A W (.Expr (.Call (.Attribute (.Name x p) "reverse" apos) [] [] cpos) pos) (sRev i) :=
  psW (ps_expr (pe_bm0 PySem.F.plainAttrs_list PySem.F.slot_list_reverse PySem.F.type_list_reverse mt_reverse (pe_var hN hv hd hcd) hbase hline) hs2) fun _ _ _ h => sRev_ok h
end
end Gm

set_option Elab.async false
set_option linter.all false
set_option maxRecDepth 100000
set_option autoImplicit false
set_option maxHeartbeats 4000000
namespace Gm
open PySem PySem.Spec PyProof.Rows L2
/-! ### set(xs), xs a list of whole numbers -/
/-- a set as it is made, ahead of its members -/
abbrev bareSet (w : World) : Obj := { cls := .type "set", dict := none, data := .set #[] 0 (.fresh 0 0 (!w.params.followText "set-order")) }
section
variable {P : Program} {w : World} {A : Around} {E : Value → Shared → Prop} {s : Shared}
/-- set(x): by what its __init__ does with the bare set -/
theorem set_by (x : Value) {R : Shared → Prop} {Q : Value → Shared → Prop}
    (hi : ∀ A' : Around, A'.handled = A.handled → codeAny (model P w) A' (.call (.builtin "set.__init__") ⟨[.ref s.heap.objs.size, x], []⟩) (wants (fun r s2 => r = .none ∧ R s2) E) { s with heap := s.heap.push (bareSet w) })
    (h : ∀ s2, R s2 → Q (.ref s.heap.objs.size) s2) : wpAny (model P w) A (call (.type "set") [x]) Q E s := by
  obtain ⟨c, tl, hmro⟩ := F.called_set.mro
  have hmade := F.called_set.made
  have hsub := F.called_set.sub
  have h1 := F.called_set.notType
  have h2 := F.called_set.canCreate
  have hct := F.typeCall_set_1 x
  refine wpAny_call (codeAny_of_tree ?_)
  show wpAny _ _ (callAny (.type "set") _) _ _ _
  refine wpAny_pure ⟨Code.quiet_builtin _ (by decide +kernel), codeAny_builtin F.entry_type_call ?_⟩
  rw [Around.under_plain (weight_type_call_type "set" [x] []) rfl]
  repeat (any_goals (first | assumption | wp_step))
  refine codeAny_mono (code_set_led1 x (E := E) (Q₁ := fun obj s1 => obj = .ref s.heap.objs.size ∧ s1 = { s with heap := s.heap.push (bareSet w) }) ⟨rfl, rfl⟩) fun r s1 hr => ?_
  cases r with
  | error e => exact hr
  | ok fl =>
    cases fl with
    | ret obj =>
      obtain ⟨rfl, rfl⟩ := hr
      have hS : (s.heap.push (bareSet w)).get? s.heap.objs.size = some (bareSet w) := Heap.get?_push_size _ rfl
      have hT : Shared.TypeIs { s with heap := s.heap.push (bareSet w) } (.ref s.heap.objs.size) "set" := ⟨_, hS, rfl⟩
      have hli := F.called_set.init.lookup
      have hbi := F.called_set.init.bind (.ref s.heap.objs.size)
      repeat (any_goals (first | assumption | wp_step))
      refine codeAny_mono (hi _ rfl) fun r2 s2 hr2 => ?_
      cases r2 with
      | error e => exact hr2
      | ok fl2 =>
        cases fl2 with
        | ret r =>
          obtain ⟨rfl, q⟩ := hr2
          repeat (any_goals (first | assumption | wp_step))
          exact h _ q
        | _ => exact hr2.elim
    | _ => exact hr.elim
/-- .. the init of a list of whole numbers -/
theorem init_ints {l : Addr} {items : Array Value} (ns : List Int) (hA : A.handled = none) (hl : s.heap.IsList l items) (hit : IntsAre items.toList ns) (hb : ns.length + 1 < scanBound) :
    codeAny (model P w) A (.call (.builtin "set.__init__") ⟨[.ref s.heap.objs.size, .ref l], []⟩) (wants (fun r s2 => r = .none ∧ ∃ h' tk c, s2 = { s with heap := h', toks := tk } ∧ SetR w h' s.heap.objs.size (fun j => decide (j ∈ ns)) c ∧ c ≤ ns.length ∧
      ∀ b o, s.heap.get? b = some o → h'.get? b = some o) E) { s with heap := s.heap.push (bareSet w) } := by
  have hlen : items.size = ns.length := by
    have q := IntsAre.length hit
    rwa [Array.length_toList] at q
  generalize h1e : s.heap.push (bareSet w) = h1
  have keep : ∀ b o, s.heap.get? b = some o → h1.get? b = some o := fun b o e => by rw [← h1e]; exact Heap.get?_push_of_some _ e
  have hS : h1.get? s.heap.objs.size = some (bareSet w) := by rw [← h1e]; exact Heap.get?_push_size _ rfl
  have hz : h1.objs.size = s.heap.objs.size + 1 := by rw [← h1e]; exact Heap.size_push ..
  have hT : Shared.TypeIs { s with heap := h1 } (.ref s.heap.objs.size) "set" := ⟨_, hS, rfl⟩
  have hl1 : h1.IsList l items := hl.at fun o e => keep l o e
  refine codeAny_call_builtin F.called_set.init.plain F.entry_set_init (check_set_init_1 hT ?_)
  obtain ⟨o, ho, hc, n, hd⟩ := hl1
  have hl2 : h1.IsList l items := ⟨o, ho, hc, n, hd⟩
  obtain ⟨oc, od, oa, os⟩ := o
  simp only at hc hd
  subst hc; subst hd
  have hsls := F.sub_list_set
  have hslf := F.sub_list_frozenset
  have hne : (Value.type "list" == Value.type "dict") = false := by decide
  unfold Builtin.«set.__init__» noKeywords Builtin.Frozenset.updateFrom
  generalize hPI : pyIter = PI
  wp_walk
  subst hPI
  refine wpAny_pyIter_list hl2 ?_
  refine wpAny_bind (wpAny_runValue ?_)
  have lt : l < s.heap.objs.size := by
    obtain ⟨o2, ho2, _⟩ := hl
    exact Heap.lt_size ho2
  have hA3 : A.in1.in1.handled = none := by simp [hA]
  have neI : l ≠ h1.objs.size := by rw [hz]; exact Nat.ne_of_lt (Nat.lt_succ_of_lt lt)
  have off : s.heap.objs.size ∉ [h1.objs.size, l] := by
    simp only [List.mem_cons, List.not_mem_nil, or_false, not_or]
    exact ⟨by rw [hz]; exact Nat.ne_of_lt (Nat.lt_succ_self _), Nat.ne_of_gt lt⟩
  have val : ∀ (i : Nat) (v : Value), items[i]? = some v → ∃ k t, ns[i]? = some k ∧ v = .int k t := fun i v hv => by
    have hi : i < ns.length := by rw [← hlen]; exact (Array.getElem?_eq_some_iff.mp hv).1
    obtain ⟨t, e⟩ := IntsAre.int_at hit i v (by rw [Array.getElem?_toList]; exact hv)
    refine ⟨ns[i], t, List.getElem?_eq_getElem hi, ?_⟩
    rw [e, List.getD_eq_getElem?_getD, List.getElem?_eq_getElem hi]; rfl
  refine set_update_ints ((Walks.list (by simp [hA]) _ l neI items).toS) s.heap.objs.size off ns hlen hb val (items.size - 0) 0 _ (by omega) (Nat.zero_le _) ⟨⟨_, Heap.get?_push_size _ rfl, rfl, rfl⟩, hl2.push _⟩ ⟨0, Nat.le_refl 0, setR_new_at (Heap.get?_push_of_some _ hS)⟩ ?_
  intro s2 c hm hc2 hS2
  obtain ⟨h2, g2, d2, t2, o2⟩ := s2
  have eg : g2 = s.gens := hm.gens
  have ed : d2 = s.drawn := hm.drawn
  have eo : o2 = s.os := hm.os
  subst eg; subst ed; subst eo
  show wpAny _ _ _ _ _ _
  refine wpAny_pure ?_
  show wpAny _ _ (ret Value.none) _ _ _
  refine wpAny_pure ⟨rfl, h2, t2, c, rfl, hS2, by omega, fun b o e => ?_⟩
  have b0 : b < s.heap.objs.size := Heap.lt_size e
  exact hm.heap b o (by simp only [List.mem_cons, List.not_mem_nil, or_false, not_or]; exact ⟨Nat.ne_of_lt b0, by rw [hz]; exact Nat.ne_of_lt (Nat.lt_succ_of_lt b0)⟩) (Heap.get?_push_of_some _ (keep b o e))
/-- set(xs): its members are those of xs -/
def rSetI (K : PySem.W.Frag) (w : World) : List V → Hp → VK → Prop := fun xs H Q => ∃ (l : Addr) (ns : List Int), xs = [V.ref l] ∧ SqL K H l (ns.map V.int) ∧ ns.length + 1 < scanBound ∧
  ∀ a c, H a = none → c ≤ ns.length → Q (.ref a) (upd H a (SetO w a (fun j => decide (j ∈ ns)) c))
theorem cr_setI {X : Cx} (hc : X.calm = true) : CallR X (.type "set") (rSetI X.K X.w) := by
  intro pins s σ H xs us Q I r h
  obtain ⟨l, ns, rfl, hl, hb, q⟩ := h
  rw [Vals.ref1 r]
  obtain ⟨its, rv, pl, _⟩ := I.list hl
  have hd : X.A.handled = none := I.ok.hd hc
  refine set_by (.ref l) (fun A' hA' => init_ints ns (by rw [hA']; exact hd) pl.isList (by simpa using ints_of_vals rv) hb) fun s2 ⟨h', tk, c, e, R, hc2, hk⟩ => ?_
  subst e
  exact ⟨.ref s.heap.objs.size, upd H s.heap.objs.size (SetO X.w s.heap.objs.size (fun j => decide (j ∈ ns)) c), I.laid (t' := tk) hk (Nat.le_refl _) (setO_new R), rfl, q _ _ (I.hok.fresh (Nat.le_refl _)) hc2⟩
end
end Gm
namespace Gm
def dedI : List Int → List Int
  | [] => []
  | [x] => [x]
  | x :: y :: r => if x = y then dedI (y :: r) else x :: dedI (y :: r)
theorem dedI_mem (k : Int) : ∀ l : List Int, k ∈ dedI l ↔ k ∈ l
  | [] => Iff.rfl
  | [x] => Iff.rfl
  | x :: y :: r => by
    have ih := dedI_mem k (y :: r)
    unfold dedI
    split
    · rename_i e
      subst e
      rw [ih]
      simp
    · rw [List.mem_cons, ih, List.mem_cons (a := k) (b := x)]
theorem dedI_rises : ∀ l : List Int, l.Pairwise (· ≤ ·) → (dedI l).Pairwise (· < ·)
  | [], _ => .nil
  | [x], _ => List.pairwise_singleton _ _
  | x :: y :: r, h => by
    have h1 := List.pairwise_cons.mp h
    have ih := dedI_rises (y :: r) h1.2
    unfold dedI
    split
    · exact ih
    · rename_i ne
      refine List.pairwise_cons.mpr ⟨fun z hz => ?_, ih⟩
      have hz2 := (dedI_mem z _).mp hz
      have a := h1.1 y List.mem_cons_self
      have b : y ≤ z := by
        rcases List.mem_cons.mp hz2 with e | e
        · rw [e]; omega
        · exact (List.pairwise_cons.mp h1.2).1 z e
      omega
theorem eq_dedI {ns ms : List Int} (h : ms.Pairwise (· < ·)) (k : ∀ x : Int, x ∈ ms ↔ x ∈ ns) : ms = dedI (sortI ns) := by
  have r := dedI_rises _ (sortI_rises ns)
  have nd : ∀ l : List Int, l.Pairwise (· < ·) → l.Nodup := fun l h => h.imp fun a => by omega
  have p : ms.Perm (dedI (sortI ns)) := (List.perm_ext_iff_of_nodup (nd _ h) (nd _ r)).mpr fun x => by
    rw [k, dedI_mem, (sortI_perm ns).mem_iff]
  exact List.Perm.eq_of_pairwise (fun a b _ _ h1 h2 => by omega) h r p
end Gm
namespace Gm
open PySem PySem.Spec PyProof.Rows L2
/-! ### sorted(set(xs)) of a list of whole numbers -/
theorem u1 {n : Nat} (h : n + 64 < cLine) : n + 1 < cLine := by omega
def fSortSet : Store → D → R D := fun s a => match (lsD s a).bind intsD with
  | some ns => if ns.length < 64 then .ok (.own (.lst ((dedI (sortI ns)).map D.int))) s else .no
  | none => .no
section
variable {g : Gc}
theorem snd_sortSet {w0 : World} : Snd1 g fSortSet (fun x H Q => rSetI g.K w0 [x] H fun y H2 => rSortedSet w0 [y] H2 Q) := by
  intro w a x Q r pa h
  unfold fSortSet at h
  split at h
  · rename_i ns e
    split at h
    · rename_i h64
      obtain ⟨xs, e1, e2⟩ := Option.bind_eq_some_iff.mp e
      obtain ⟨p, ys, rfl, k2, k3⟩ := lsD_ok r pa e1
      refine ⟨p, ns, rfl, intsD_ok e2 k3 ▸ k2, by unfold scanBound; omega, fun b c hb hc => ⟨b, _, c, rfl, upd_same, by omega, fun ms l hp hk _ hl => ?_⟩⟩
      rw [eq_dedI (ns := ns) hp fun x => (hk x).trans (by simp)]
      have r1 : Rst g { w with H := upd w.H b (SetO w0 b (fun j => decide (j ∈ ns)) c), T := w.T } := r.new hb fun q hq => .inl hq
      have x1 : Ext [] w { w with H := upd w.H b (SetO w0 b (fun j => decide (j ∈ ns)) c), T := w.T } := new_ext hb
      exact h { w with H := upd (upd w.H b (SetO w0 b (fun j => decide (j ∈ ns)) c)) l (.lst ((dedI (sortI ns)).map V.int)) } _ rfl rfl (x1.trans (new_ext hl)) ((Px.newL r1 hl RvL.ints).back r r1 x1)
    · exact h.elim
  · exact h.elim
theorem ne_sortSet : ∀ s x k s', fSortSet s x ≠ .exc k s' := by
  intro s x k s'
  unfold fSortSet
  repeat' split
  all_goals exact fun z => nomatch z
end
section
variable {X : Cx} {A : Ga} {W : WX} {a : Expr} {ma : Ex} {pos pos2 p p2 : Pos}
theorem me_sortSet (hc : X.calm = true) (hg : Gl X "sorted") (hm : X.mg "sorted" = none) (hg2 : Gl X "set") (hm2 : X.mg "set" = none) (h : ME X A W a ma) (hs : starEach [a] X.env = (false, eval a X.env) :: starEach [] X.env := by rfl) (hpl : (backTo pos2 (starEach [] X.env)).any (·.1) = false := by rfl)
    (hs2 : starEach [Expr.Call (.Name "set" p2) [a] [] pos2] X.env = (false, eval (.Call (.Name "set" p2) [a] [] pos2) X.env) :: starEach [] X.env := by rfl) (hpl2 : (backTo pos (starEach [] X.env)).any (·.1) = false := by rfl) :
    ME X A W (.Call (.Name "sorted" p) [.Call (.Name "set" p2) [a] [] pos2] [] pos) (eOp1 fSortSet ma) :=
  peW (pe_callB (cr_sortedSet hc) hg hm (by decide +kernel) (pa_cons (pe_callTy (cr_setI hc) hg2 hm2 (by decide +kernel) (pa_cons h pa_nil hs) (by decide) (by decide) hs hpl) pa_nil hs2) (by decide) (by decide) hs2 hpl2) fun _ _ _ h => tUn_snd snd_sortSet ne_sortSet h
end
end Gm

set_option Elab.async false
set_option linter.all false
set_option maxRecDepth 100000
set_option autoImplicit false
set_option maxHeartbeats 1000000
namespace Gm
open PySem PySem.Spec PyProof.Rows L2
/-! ### lists of the store, reached by any expression -/
def fLiR (h : Store → D → Option (List D → Option (List D))) : Store → D → D → R D := fun s a b => match a with
  | .ref n => (match s[n]? with
    | some (.lst xs) => (match h s b with
      | some f => (match f xs with
        | some ys => .ok .non (s.set n (.lst ys))
        | none => .no)
      | none => .no)
    | _ => .no)
  | _ => .no
/-- o[j] = e, o any expression -/
def sSubE (o j e : Ex) : Sx := fun env s => match e env s with
  | .ok d s1 => (match snk (fz d) with
    | some d => (match o env s1 with
      | .ok (.ref n) s2 => (match j env s2 with
        | .ok (.int k) s3 => (match s3[n]? with
          | some (.lst xs) => (match fSetI k d xs with
            | some ys => .nx env (s3.set n (.lst ys))
            | none => .no)
          | _ => .no)
        | .ok _ _ => .no
        | .exc c s' => .exc c env s'
        | .no => .no)
      | .ok _ _ => .no
      | .exc c s' => .exc c env s'
      | .no => .no)
    | none => .no)
  | .exc c s' => .exc c env s'
  | .no => .no
/-- a method of a list with two arguments -/
def eMeth2 (f : Store → D → D → D → R D) (a b c : Ex) : Ex := fun env s => match a env s with
  | .ok x s1 => if isLD s1 (fz x) = true then (match b env s1 with
    | .ok y s2 => (match snk (fz y) with
      | some y => (match c env s2 with
        | .ok z s3 => (match snk (fz z) with
          | some z => f s3 (fz x) y z
          | none => .no)
        | .exc c s2 => .exc c s2
        | .no => .no)
      | none => .no)
    | .exc c s2 => .exc c s2
    | .no => .no) else .no
  | .exc c s1 => .exc c s1
  | .no => .no
def fIns : Store → D → D → D → R D := fun s a b d => match a, b with
  | .ref n, .int i => (match s[n]? with
    | some (.lst xs) => if xs.length < 16777216 ∧ 0 ≤ i ∧ i < 9223372036854775808 then .ok .non (s.set n (.lst (xs.take i.toNat ++ [d] ++ xs.drop i.toNat))) else .no
    | _ => .no)
  | _, _ => .no
/-- int(b) -/
def fInt : Store → D → R D := fun s a => match a with
  | .int i => .ok (.int i) s
  | .bl b => .ok (.int (if b then 1 else 0)) s
  | _ => .no
/-- slices of tuples -/
def fSlT (s : Store) (a : D) (lo hi : Option Int) : R D := match a with
  | .tup xs => .ok (.tup (cutD xs lo hi)) s
  | _ => .no
def eSlT (a : Ex) (lo hi : Ox) : Ex := fun env s => match a env s with
  | .ok x s1 => (match lo env s1 with
    | .ok l s2 => (match hi env s2 with
      | .ok h s3 => fSlT s3 (fz x) l h
      | .exc c s' => .exc c s'
      | .no => .no)
    | .exc c s' => .exc c s'
    | .no => .no)
  | .exc c s' => .exc c s'
  | .no => .no
/-- a new list is given to the store, nothing done -/
def eAd (e : Ex) : Ex := fun env s => match e env s with
  | .ok (.own o) s' => .ok (.ref s'.length) (s' ++ [o])
  | r => r
section
variable {g : Gc} {tb : List Addr} {w w' : Wd} {env : Env} {σ : Sl} {W : WX} {Dn : Ends} {H : Hp} {Q : VK}
theorem snk_rv {d d' : D} {v : V} (po : Po g w d v) (es : snk d = some d') : Rv g w d' v := by
  cases d with
  | own o => cases es
  | bor o => cases es
  | exn => cases es
  | _ => cases es; exact po
theorem snd_liR {h : Store → D → Option (List D → Option (List D))} {rl : V → List V → Hp → VK → Prop}
    (hr : ∀ (w : Wd) (d : D) (v : V) (hh : List D → Option (List D)) (p : Addr) (xs ys : List D) (vs : List V) (Q : VK), Rst g w → Po g w d v → h w.s d = some hh → w.H p = some (.lst vs) → RvL g w xs vs → hh xs = some ys →
      (∀ us, RvL g w ys us → Q .non (L2.upd w.H p (.lst us))) → rl (.ref p) [v] w.H Q) : Snd2 g (fLiR h) (fun x y H Q => rl x [y] H Q) := by
  intro w a b x y Q r pa pb hq
  unfold fLiR at hq
  split at hq
  · rename_i n
    split at hq
    · rename_i xs en
      split at hq
      · rename_i f ef
        split at hq
        · rename_i ys ey
          obtain ⟨p, rfl, hm⟩ := po_ref pa
          obtain ⟨vs, e1, e2⟩ := r.ce n p _ hm en
          refine hr w b y f p xs ys vs Q r pb ef e1 e2 ey fun us hu => ?_
          have ex := ws_ext (o' := .lst ys) (u := .lst us) hm en lst_nd
          have rs := ws_rst (o' := .lst ys) (u := .lst us) r hm en lst_nd fun c => ⟨us, upd_same, RvL.mono c _ _ hu⟩
          exact hq (w.ws n (.lst ys) p (.lst us)) .non rfl rfl ex (.of rs rv_non)
        · exact hq.elim
      · exact hq.elim
    · exact hq.elim
  · exact hq.elim
theorem ne_liR {h : Store → D → Option (List D → Option (List D))} : ∀ s x y c s', fLiR h s x y ≠ .exc c s' := by
  intro s x y c s'
  unfold fLiR
  repeat' split
  all_goals exact fun z => nomatch z
theorem sSubE_ok {o j e : Ex} (h : tSt g W (sSubE o j e) Dn σ H) : tAsg (tEv g W e) (gSub (tEv g W o) (tEv g W j) rSetL) Dn σ H := by
  obtain ⟨w, env, tb, rfl, r, h⟩ := h
  refine ev_in (m := sSubE o j e env w.s) r h (fun c s q => by simp only [sSubE, q]) (fun q => by simp only [sSubE, q]) fun d s1 w1 v q h1 h2 h3 h4 => ?_
  obtain ⟨r1, o1⟩ := h4.fz
  have rm1 := r.ev r1 h3 h2
  cases es : snk (fz d) with
  | none => simp only [sSubE, q, es] at h; exact h.elim
  | some d' =>
    have rd := snk_ok o1 es
    have p1 := h.next r r1 (Xs.ev h3)
    refine ev_in (m := sSubE o j e env w.s) rm1 p1 (fun c s k => by rw [h1] at k; simp only [sSubE, q, es, k]) (fun k => by rw [h1] at k; simp only [sSubE, q, es, k]) fun x s2 w2 u k k1 k2 k3 k4 => ?_
    rw [h1] at k
    have r2 := k4.rst
    have rm2 := rm1.ev r2 k3 k2
    have rd2 := Rv.mono (Cy.of r1 k3 k2) _ _ rd
    have p2 := p1.next rm1 r2 (Xs.ev k3)
    cases x with
    | ref n =>
      have ru : Rv g w2 (.ref n) u := k4.2
      refine ev_in (m := sSubE o j e env w.s) rm2 p2 (fun c s l => by rw [k1] at l; simp only [sSubE, q, es, k, l]) (fun l => by rw [k1] at l; simp only [sSubE, q, es, k, l]) fun y s3 w3 z l l1 l2 l3 l4 => ?_
      rw [k1] at l
      have r3 := l4.rst
      have rm3 := rm2.ev r3 l3 l2
      have rd3 := Rv.mono (Cy.of r2 l3 l2) _ _ rd2
      have ru3 := Rv.mono (Cy.of r2 l3 l2) _ _ ru
      simp only [sSubE, q, es, k, l] at p2
      cases y with
      | int i =>
        have rz : Rv g w3 (.int i) z := l4.2
        unfold Rv at rz
        subst rz
        unfold Rv at ru3
        obtain ⟨p, rfl, hm⟩ := ru3
        rw [← l1] at p2
        cases en : w3.s[n]? with
        | none => simp only [en] at p2; exact p2.elim
        | some ob =>
          cases ob with
          | lst xs =>
            cases ef : fSetI i d' xs with
            | none => simp only [en, ef] at p2; exact p2.elim
            | some ys =>
              simp only [en, ef] at p2
              obtain ⟨vs, e1, e2⟩ := r3.ce n p _ hm en
              unfold fSetI at ef
              cases ej : ixN xs.length i with
              | none => rw [ej] at ef; cases ef
              | some jj =>
                rw [ej] at ef
                cases ef
                refine ⟨p, vs, i, jj, rfl, rfl, e1, by rw [e2.length]; exact ej, ?_⟩
                have hu : RvL g w3 (xs.set jj d') (vs.set jj v) := RvL.set rd3 jj e2
                have ex := ws_ext (o' := .lst (xs.set jj d')) (u := .lst (vs.set jj v)) hm en lst_nd
                have rs := ws_rst (o' := .lst (xs.set jj d')) (u := .lst (vs.set jj v)) r3 hm en lst_nd fun c => ⟨_, upd_same, RvL.mono c _ _ hu⟩
                exact p2 (w3.ws n (.lst (xs.set jj d')) p (.lst (vs.set jj v))) σ rfl (rm3.ev rs ex rfl) ((Xs.ev l3).trans rm2 r3 (Xs.ev ex))
          | dK kv => simp only [en] at p2; exact p2.elim
          | ins a b => simp only [en] at p2; exact p2.elim
          | dead => simp only [en] at p2; exact p2.elim
      | _ => simp only at p2; exact p2.elim
    | _ => simp only [sSubE, q, es, k] at p2; exact p2.elim
def Snd3 (g : Gc) (f : Store → D → D → D → R D) (r : V → List V → Hp → VK → Prop) : Prop := ∀ (w : Wd) (a b c : D) (x y z : V) (Q : VK), Rst g w → Po g w a x → Rv g w b y → Rv g w c z → PostV g w Q (f w.s a b c) → r x [y, z] w.H Q
theorem eMeth2_ok {f : Store → D → D → D → R D} {rl : V → List V → Hp → VK → Prop} {a b c : Ex} (hf : Snd3 g f rl) (hne : ∀ s x y z c s', f s x y z ≠ .exc c s') (h : tEv g W (eMeth2 f a b c) σ H Q) : tBM g.K "list" rl (tEv g W a) (tCons (tEv g W b) (tCons (tEv g W c) tNil)) σ H Q := by
  obtain ⟨w, env, rfl, re, h⟩ := h
  refine ⟨w, env, rfl, re, ?_⟩
  refine Post.step (m' := eMeth2 f a b c env w.s) h (fun c s e => by simp only [eMeth2, e]) (fun e => by simp only [eMeth2, e]) fun x s1 w1 v ea hs1 ht1 e1 p1 => ?_
  obtain ⟨r1, o1⟩ := p1.fz
  cases il : isLD s1 (fz x) with
  | false => simp only [eMeth2, ea, il] at h; exact h.elim
  | true =>
    refine ⟨isLD_ok r1 o1 (by rw [hs1]; exact il), w1, env, rfl, re.next r1 e1 ht1, ?_⟩
    refine Post.step (m' := eMeth2 f a b c env w.s) (h.next e1 ht1 fun _ _ w2 _ q => q.back re.st r1 e1) (fun c s e => by rw [hs1] at e; simp only [eMeth2, ea, il, e, if_true]) (fun e => by rw [hs1] at e; simp only [eMeth2, ea, il, e, if_true]) fun y s2 w2 u eb hs2 ht2 e2 p2 => ?_
    obtain ⟨r2, o2⟩ := p2.fz
    rw [hs1] at eb
    cases ey : snk (fz y) with
    | none => simp only [eMeth2, ea, il, eb, ey, if_true] at h; exact h.elim
    | some y' =>
      have ry := snk_rv o2 ey
      have e12 := e1.trans e2
      have t12 : w2.T = w.T := ht2.trans ht1
      refine ⟨w2, env, rfl, re.next r2 e12 t12, ?_⟩
      refine Post.step (m' := eMeth2 f a b c env w.s) (h.next e12 t12 fun _ _ w3 _ q => q.back re.st r2 e12) (fun c s e => by rw [hs2] at e; simp only [eMeth2, ea, il, eb, ey, e, if_true]) (fun e => by rw [hs2] at e; simp only [eMeth2, ea, il, eb, ey, e, if_true]) fun z s3 w3 t ec hs3 ht3 e3 p3 => ?_
      obtain ⟨r3, o3⟩ := p3.fz
      rw [hs2] at ec
      cases ez : snk (fz z) with
      | none => simp only [eMeth2, ea, il, eb, ey, ec, ez, if_true] at h; exact h.elim
      | some z' =>
        have rz := snk_rv o3 ez
        have em : eMeth2 f a b c env w.s = f w3.s (fz x) y' z' := by simp only [eMeth2, ea, il, eb, ey, ec, ez, hs3, if_true]
        rw [em] at h
        have o1' := (o1.mono (Cy.of r1 e2 ht2)).mono (Cy.of r2 e3 ht3)
        have ry' := Rv.mono (Cy.of r2 e3 ht3) _ _ ry
        exact hf w3 (fz x) y' z' v u t Q r3 o1' ry' rz (PostV.next re.st r3 (e12.trans e3) (ht3.trans t12) h fun c s => hne _ _ _ _ _ _)
theorem snd_ins : Snd3 g fIns (fun x vs H Q => ∃ (l : Addr) (xs : List V) (i : Int) (y : V), x = .ref l ∧ vs = [.int i, y] ∧ H l = some (.lst xs) ∧ xs.length < sizeLine ∧ 0 ≤ i ∧ i < 2 ^ 63 ∧ Q .non (upd H l (.lst (xs.take i.toNat ++ [y] ++ xs.drop i.toNat)))) := by
  intro w a b c x y z Q r pa pb pc h
  unfold fIns at h
  split at h
  · rename_i n i
    split at h
    · rename_i xs en
      split at h
      · rename_i hl
        obtain ⟨p, rfl, hm⟩ := po_ref pa
        obtain ⟨vs, e1, e2⟩ := r.ce n p _ hm en
        unfold Rv at pb
        subst pb
        refine ⟨p, vs, i, z, rfl, rfl, e1, by rw [e2.length, sizeLine_eq]; exact hl.1, hl.2.1, by have := hl.2.2; omega, ?_⟩
        have hu : RvL g w (xs.take i.toNat ++ [c] ++ xs.drop i.toNat) (vs.take i.toNat ++ [z] ++ vs.drop i.toNat) := ((e2.take _).app (RvL.one pc)).app (e2.drop _)
        have ex := ws_ext (o' := .lst (xs.take i.toNat ++ [c] ++ xs.drop i.toNat)) (u := .lst (vs.take i.toNat ++ [z] ++ vs.drop i.toNat)) hm en lst_nd
        have rs := ws_rst (o' := .lst (xs.take i.toNat ++ [c] ++ xs.drop i.toNat)) (u := .lst (vs.take i.toNat ++ [z] ++ vs.drop i.toNat)) r hm en lst_nd fun c => ⟨_, upd_same, RvL.mono c _ _ hu⟩
        exact h (w.ws n (.lst (xs.take i.toNat ++ [c] ++ xs.drop i.toNat)) p (.lst (vs.take i.toNat ++ [z] ++ vs.drop i.toNat))) .non rfl rfl ex (.of rs rv_non)
      · exact h.elim
    · exact h.elim
  · exact h.elim
theorem ne_ins : ∀ s x y z c s', fIns s x y z ≠ .exc c s' := by
  intro s x y z c s'
  unfold fIns
  repeat' split
  all_goals exact fun z => nomatch z
theorem snd_int : Snd1 g fInt (fun x H Q => (∃ i, [x] = [V.int i] ∧ Q (.int i) H) ∨ ∃ k, [x] = [V.bl k] ∧ Q (.int (if k then 1 else 0)) H) := by
  intro w a x Q r pa h
  unfold fInt at h
  split at h
  · rename_i i
    exact .inl ⟨i, by rw [po_int pa], h.pure r rv_int⟩
  · rename_i b
    have pa : Rv g w (.bl b) x := pa
    unfold Rv at pa
    subst pa
    exact .inr ⟨b, rfl, h.pure r rv_int⟩
  · exact h.elim
theorem ne_int : ∀ s x c s', fInt s x ≠ .exc c s' := by
  intro s x c s'
  unfold fInt
  repeat' split
  all_goals exact fun z => nomatch z
theorem eSlT_ok {a : Ex} {lo hi : Ox} (h : tEv g W (eSlT a lo hi) σ H Q) : tSl (rSlA g.K) (tEv g W a) (tOe g W lo) (tOe g W hi) σ H Q := by
  obtain ⟨w, env, rfl, re, h⟩ := h
  refine ⟨w, env, rfl, re, ?_⟩
  refine Post.step (m' := eSlT a lo hi env w.s) h (fun c s e => by simp only [eSlT, e]) (fun e => by simp only [eSlT, e]) fun x s1 w1 v ea hs1 ht1 e1 p1 => ?_
  obtain ⟨r1, o1⟩ := p1.fz
  refine ⟨w1, env, rfl, re.next r1 e1 ht1, ?_⟩
  refine Post.step (m' := eSlT a lo hi env w.s) (h.next e1 ht1 fun _ _ _ _ q => q.back re.st r1 e1) (fun c s e => by rw [hs1] at e; simp only [eSlT, ea, e]) (fun e => by rw [hs1] at e; simp only [eSlT, ea, e]) fun l s2 w2 l' eb hs2 ht2 e2 p2 => ?_
  obtain ⟨r2, rfl⟩ := p2
  rw [hs1] at eb
  refine ⟨w2, env, rfl, (re.next r1 e1 ht1).next r2 e2 ht2, ?_⟩
  have h2 := (h.next e1 ht1 fun _ _ _ _ q => q.back re.st r1 e1)
  refine Post.step (m' := eSlT a lo hi env w.s) (h2.next e2 ht2 fun _ _ _ _ q => q.back r1 r2 e2) (fun c s e => by rw [hs2] at e; simp only [eSlT, ea, eb, e]) (fun e => by rw [hs2] at e; simp only [eSlT, ea, eb, e]) fun u s3 w3 u' ec hs3 ht3 e3 p3 => ?_
  obtain ⟨r3, rfl⟩ := p3
  rw [hs2] at ec
  have o3 := (o1.mono (Cy.of r1 e2 ht2)).mono (Cy.of r2 e3 ht3)
  have e13 := (e1.trans e2).trans e3
  simp only [eSlT, ea, eb, ec, ← hs3, fSlT] at h
  split at h
  · rename_i xs ed
    have o4 : Rv g w3 (.tup xs) v := by rw [ed] at o3; exact o3
    have o5 := o4
    unfold Rv at o4
    obtain ⟨p, ys, rfl, k2, k3⟩ := o4
    refine ⟨p, ys, rfl, k2, fun hw => ?_, fun hw q hq => ?_⟩
    · have hc : cutD xs l u = xs := by
        unfold cutD
        rw [k3.length] at hw
        rw [hw.1, hw.2]
        simp
      rw [hc] at h
      exact h w3 _ rfl (ht3.trans (ht2.trans ht1)) e13 (.of r3 o5)
    · exact h { w3 with H := upd w3.H q (.tup (cutV ys l u)) } _ rfl (ht3.trans (ht2.trans ht1)) (e13.trans (new_ext hq)) ((Px.newT r3 hq (k3.cut l u)).back re.st r3 e13)
  · exact h.elim
theorem Rst.ad {p : Addr} {o : O} (r : Rst g { w with T := p :: w.T }) (ro : Ro g { w with T := p :: w.T } p o) (nT : p ∉ w.T) (nd : o ≠ .dead) : Rst g { w with m := w.m ++ [p], s := w.s ++ [o] } ∧ (w.H p = none ∨ True) := by
  refine ⟨?_, .inr trivial⟩
  have len : w.m.length = w.s.length := r.len
  have nm : p ∉ w.m := (r.tt p List.mem_cons_self).1
  have trk : ∃ u, w.H p = some u := ro.trk
  obtain ⟨w', hw⟩ : ∃ w' : Wd, w' = { w with m := w.m ++ [p], s := w.s ++ [o] } := ⟨_, rfl⟩
  have wm : w'.m = w.m ++ [p] := by rw [hw]
  have wss : w'.s = w.s ++ [o] := by rw [hw]
  have wH : w'.H = w.H := by rw [hw]
  have wT : w'.T = w.T := by rw [hw]
  have getm : ∀ k q, w'.m[k]? = some q → (w.m[k]? = some q) ∨ (k = w.m.length ∧ q = p) := fun k q h => by
    rw [wm] at h
    rcases Nat.lt_or_ge k w.m.length with l | l
    · rw [List.getElem?_append_left l] at h; exact .inl h
    · rw [List.getElem?_append_right l] at h
      have := (List.getElem?_eq_some_iff.mp h).1
      have e : k - w.m.length = 0 := by simp at this; omega
      rw [e] at h
      simp at h
      exact .inr ⟨by omega, h.symm⟩
  have ext : Ext [p] { w with T := p :: w.T } w' := by
    refine ⟨⟨[p], wm⟩, fun q x e _ _ => by rw [wH]; exact e, fun q l => ?_, fun q l => ?_⟩
    · obtain ⟨k, x, h1, h2, h3⟩ := l
      rcases getm k q h1 with z | ⟨_, z⟩
      · refine .inl ⟨k, x, z, ?_, h3⟩
        rw [wss, List.getElem?_append_left (by rw [← len]; exact (List.getElem?_eq_some_iff.mp z).1)] at h2
        exact h2
      · subst z; exact .inr (.inr List.mem_cons_self)
    · rw [wm] at l
      rcases List.mem_append.mp l with z | z
      · exact .inl z
      · rw [List.mem_singleton.mp z]; exact .inr (.inr List.mem_cons_self)
  have mu0 : Mut (w.H p) := by
    cases o with
    | lst xs => obtain ⟨ys, e, _⟩ := ro; have e : w.H p = _ := e; rw [e]; trivial
    | dK xs => obtain ⟨ys, e, _⟩ := ro; have e : w.H p = _ := e; rw [e]; trivial
    | ins a xs => obtain ⟨_, ys, e, _⟩ := ro; have e : w.H p = _ := e; rw [e]; trivial
    | dead => exact absurd rfl nd
  have c : Cy g [p] { w with T := p :: w.T } w' := ⟨r, ext, fun q h => by rw [List.mem_singleton.mp h]; exact mu0, fun q h => by rw [List.mem_singleton.mp h]; exact List.mem_cons_self, fun q h => .inl (by rw [wT] at h; exact List.mem_cons_of_mem _ h)⟩
  rw [← hw]
  refine ⟨by rw [wm, wss, List.length_append, List.length_append, len]; rfl, ?_, fun q hq => ?_, fun k q x h1 h2 => ?_⟩
  · rw [wm, List.nodup_append]
    refine ⟨r.nd, by simp, fun x hx y hy => ?_⟩
    rw [List.mem_singleton.mp hy]
    exact fun e => nm (by rw [← e]; exact hx)
  · rw [wT] at hq
    obtain ⟨n1, n2⟩ := r.tt q (List.mem_cons_of_mem _ hq)
    refine ⟨fun h => ?_, by rw [wH]; exact n2⟩
    rw [wm] at h
    rcases List.mem_append.mp h with z | z
    · exact n1 z
    · rw [List.mem_singleton.mp z] at hq; exact nT hq
  · rcases getm k q h1 with z | ⟨z1, z⟩
    · have h2' : w.s[k]? = some x := by
        rw [wss, List.getElem?_append_left (by rw [← len]; exact (List.getElem?_eq_some_iff.mp z).1)] at h2
        exact h2
      exact (r.ce k q x z h2').same c (by rw [wH])
    · have h2' : x = o := by
        rw [wss, List.getElem?_append_right (by omega), z1, len] at h2
        simpa using h2.symm
      rw [h2', z]
      exact ro.same c (by rw [wH])
theorem eAd_ok {e : Ex} (h : tEv g W (eAd e) σ H Q) : tEv g W e σ H Q := by
  obtain ⟨w, env, rfl, re, h⟩ := h
  refine ⟨w, env, rfl, re, ?_⟩
  cases q : e env w.s with
  | no => simp only [eAd, q] at h; exact h
  | exc c s => simp only [eAd, q] at h; exact h
  | ok d s' =>
    cases d with
    | own o =>
      simp only [eAd, q] at h
      intro w' v h1 h2 h3 h4
      obtain ⟨p, rfl, k2, k3, k4, k5, k6⟩ := h4
      have nd : o ≠ .dead := fun z => by subst z; exact k4
      have ra := (Rst.ad k5 k6 k3 nd).1
      have hm : (w'.m ++ [p])[w'.s.length]? = some p := by
        have : w'.m.length = w'.s.length := k5.len
        rw [← this, List.getElem?_append_right (Nat.le_refl _)]; simp
      refine h { w' with m := w'.m ++ [p], s := w'.s ++ [o] } (.ref p) (by rw [← h1]) h2 ?_ (.of ra ?_)
      · refine ⟨?_, h3.keep, fun q l => ?_, fun q l => ?_⟩
        · obtain ⟨t, e⟩ := h3.pre
          exact ⟨t ++ [p], by show w'.m ++ [p] = _; rw [e, List.append_assoc]⟩
        · obtain ⟨k, x, a1, a2, a3⟩ := l
          have a1 : (w'.m ++ [p])[k]? = some q := a1
          have a2 : (w'.s ++ [o])[k]? = some x := a2
          have len : w'.m.length = w'.s.length := k5.len
          rcases Nat.lt_or_ge k w'.m.length with l | l
          · rw [List.getElem?_append_left l] at a1
            rw [List.getElem?_append_left (by omega)] at a2
            exact h3.new q ⟨k, x, a1, a2, a3⟩
          · rw [List.getElem?_append_right l] at a1
            have := List.mem_of_getElem? a1
            rw [List.mem_singleton.mp this]
            exact .inr (.inl k2)
        · have l : q ∈ w'.m ++ [p] := l
          rcases List.mem_append.mp l with z | z
          · exact h3.nm q z
          · rw [List.mem_singleton.mp z]; exact .inr (.inl k2)
      · unfold Rv
        exact ⟨p, rfl, by rw [← h1]; exact hm⟩
    | _ => simp only [eAd, q] at h; exact h
end
section
variable {X : Cx} {A : Ga} {W : WX} {a b c e o : Expr} {es : List Expr} {ma mb mc : Ex} {mt mu : Tx} {st : Stmt} {ss : List Stmt} {m : Sx} {mr : Ax} {pos p apos cpos : Pos} {x : Str}
theorem me_ad (h : ME X A W a ma) : ME X A W a (eAd ma) := peW h fun _ _ _ h => eAd_ok h
theorem me_appE (h : ME X A W o ma) (k : ME X A W e mb) (hbase : attributeBase o "append" X.env (eval o X.env) = eval o X.env := by rfl)
    (hfew : ((backTo cpos (starEach [e] X.env)).all (fun x => !x.1) && (backToKw cpos (keywordEach [] X.env)).all (fun x => x.1.isSome)
      && decide ([e].length + ([] : List Keyword).length + (if ([] : List Keyword).isEmpty then 0 else 1) < 30)) = true := by rfl)
    (hline : (apos.endLine == cpos.line) = true := by rfl) (hs : starEach [e] X.env = (false, eval e X.env) :: starEach [] X.env := by rfl) (hplain : (backTo cpos (starEach [] X.env)).any (·.1) = false := by rfl) :
    ME X A W (.Call (.Attribute o "append" apos) [e] [] cpos) (eMeth (fLiR gApp) ma mb) :=
  peW (pe_bm PySem.F.plainAttrs_list PySem.F.slot_list_append PySem.F.type_list_append mt_append h (pa_cons k pa_nil hs) hbase hfew hline hs hplain) fun _ _ _ h => eMeth_ok (snd_liR rd_app) ne_liR h
theorem me_extE (h : ME X A W o ma) (k : ME X A W e mb) (hbase : attributeBase o "extend" X.env (eval o X.env) = eval o X.env := by rfl)
    (hfew : ((backTo cpos (starEach [e] X.env)).all (fun x => !x.1) && (backToKw cpos (keywordEach [] X.env)).all (fun x => x.1.isSome)
      && decide ([e].length + ([] : List Keyword).length + (if ([] : List Keyword).isEmpty then 0 else 1) < 30)) = true := by rfl)
    (hline : (apos.endLine == cpos.line) = true := by rfl) (hs : starEach [e] X.env = (false, eval e X.env) :: starEach [] X.env := by rfl) (hplain : (backTo cpos (starEach [] X.env)).any (·.1) = false := by rfl) :
    ME X A W (.Call (.Attribute o "extend" apos) [e] [] cpos) (eMeth (fLiR gExt) ma mb) :=
  peW (pe_bm PySem.F.plainAttrs_list PySem.F.slot_list_extend PySem.F.type_list_extend mt_extend h (pa_cons k pa_nil hs) hbase hfew hline hs hplain) fun _ _ _ h => eMeth_ok (snd_liR rd_ext) ne_liR h
theorem me_ins (h : ME X A W o ma) (k : ME X A W a mb) (l : ME X A W e mc) (hbase : attributeBase o "insert" X.env (eval o X.env) = eval o X.env := by rfl)
    (hfew : ((backTo cpos (starEach [a, e] X.env)).all (fun x => !x.1) && (backToKw cpos (keywordEach [] X.env)).all (fun x => x.1.isSome)
      && decide ([a, e].length + ([] : List Keyword).length + (if ([] : List Keyword).isEmpty then 0 else 1) < 30)) = true := by rfl)
    (hline : (apos.endLine == cpos.line) = true := by rfl) (hs : starEach [a, e] X.env = (false, eval a X.env) :: starEach [e] X.env := by rfl) (hs2 : starEach [e] X.env = (false, eval e X.env) :: starEach [] X.env := by rfl) (hplain : (backTo cpos (starEach [e] X.env)).any (·.1) = false := by rfl) :
    ME X A W (.Call (.Attribute o "insert" apos) [a, e] [] cpos) (eMeth2 fIns ma mb mc) :=
  peW (pe_bm PySem.F.plainAttrs_list PySem.F.slot_list_insert PySem.F.type_list_insert mt_insert h (pa_cons k (pa_cons l pa_nil hs2) hs) hbase hfew hline hs hplain) fun _ _ _ h => eMeth2_ok snd_ins ne_ins h
theorem me_int1 (hg : Gl X "int") (hm : X.mg "int" = none) (h : ME X A W a ma) (hs : starEach [a] X.env = (false, eval a X.env) :: starEach [] X.env := by rfl) (hpl : (backTo pos (starEach [] X.env)).any (·.1) = false := by rfl) : ME X A W (.Call (.Name "int" p) [a] [] pos) (eOp1 fInt ma) :=
  me_callT1 call_int1 snd_int ne_int hg hm (by decide +kernel) h (by decide) (by decide) hs hpl
theorem me_slT {lo hi : Option Expr} {ml mh : Ox} {p2 : Pos} (h : ME X A W a ma) (hl : MO X A W lo ml) (hh : MO X A W hi mh) : ME X A W (.Subscript a (.Slice lo hi none p2) pos) (eSlT ma ml mh) := peW (pe_slice sl_tupA h hl hh) fun _ _ _ h => eSlT_ok h
theorem ms_subE {tpos : Pos} (h : ME X A W e ma) (ho : ME X A W o mc) (k : ME X A W a mb)
    (hs : swapsWithSole [.Subscript o a tpos] e pos.line X.env = pure false := by rfl) (hw : swappedStores [.Subscript o a tpos] e X.env = pure none := by rfl)
    (h1 : (assignEach [.Subscript o a tpos] X.env).map (·.2) = [assign (.Subscript o a tpos) X.env] := by rfl) (ha : ∀ v, assign (.Subscript o a tpos) X.env v = (do
      let ov ← holding [v] (eval o X.env)
      let iv ← holding [v, ov] (eval a X.env)
      standAt tpos
      holding [v, ov, iv] (setItem ov iv v)
      release [v, ov, iv] []) := by intro _; rfl) :
    MS X A W (.Assign [.Subscript o a tpos] e pos) (sSubE mc mb ma) := psW (ps_asg h (pg_sub ho k set_list ha) hs hw h1) fun _ _ _ h => sSubE_ok h
end
end Gm

set_option Elab.async false
set_option linter.all false
set_option maxRecDepth 100000
set_option autoImplicit false
set_option maxHeartbeats 1000000
namespace Gm
open PySem PySem.Spec PyProof.Rows L2
/-! ### methods, new instances, a class's def: what is raised is wished for at the slots -/
section
variable {X : Cx} {CX : CXT} {k : Nat} {f C : Addr} {fd : FuncData} {ps : List Str} {sp : Sp} {E : L2.St → XK} {x m : Str} {p np pos apos : Pos} {e o : Expr} {es : List Expr} {ta : TE} {t : TA}
def tMethE (C : Addr) (m : Str) (sp : Sp) (E : L2.St → XK) (ta : TE) (t : TA) : TE := fun σ H Q => ta σ H fun x H1 => ∃ a dx fs, x = .ref a ∧ H1 a = some (.ins C dx fs) ∧ fs.lookup m = none ∧ t σ H1 fun vs H2 => sp (x :: vs) H2 Q (E σ)
theorem pe_methE {pl : Sem Bool} (he : PE X o ta) (c : Cls X.K C) (hm : Meth X.K C m f) (F : FnOk X.prog X.w X.K X.mg X.base CX k f fd ps sp) (hr : Room k X.A) (hb : Binds X.K fd ps []) (hx : ∀ σ, PassesAt CX X σ (E σ)) (ha : PA X (e :: es) t)
    (hst : starEach (e :: es) X.env = (false, eval e X.env) :: starEach es X.env := by rfl) (hpl : (backTo pos (starEach es X.env)).any (·.1) = false := by rfl)
    (ht : eval (.Call (.Attribute o m apos) (e :: es) [] pos) X.env = (do
      let ov ← eval o X.env
      standAt apos.atName
      let (f, first) ← holding [ov] (getMethod ov m pl)
      callWith pos f first (backTo pos (starEach (e :: es) X.env)) (backToKw pos (keywordEach [] X.env))) := by rfl) :
    PE X (.Call (.Attribute o m apos) (e :: es) [] pos) (tMethE C m sp E ta t) := by
  refine ⟨fun pins s σ H Q I h => ?_⟩
  refine PySem.W.methodCall_KW (pl := pl) (thn (he.run pins s σ H _ I h) fun u s1 ⟨x, H1, I1, rx, a, dx, fs, ex, ea, l, q⟩ => ?_) ht
  subst ex
  obtain rfl : u = Value.ref a := rx
  refine getmeth_ok I1 ea c hm l ?_
  refine PySem.W.callWith_K (first := [.ref a]) (h₀ := X.base) I.ok.mod.kin hm.kp (thn (ha.run pos pins s1 σ H1 _ I1 q) fun us s2 ⟨vs, H2, I2, r, q2⟩ => ⟨I2.kIn, ?_⟩) hst hpl
  exact run_fnS (us := .ref a :: us) (vs := .ref a :: vs) F hr hb (hx σ) I2 (.cons rfl r) q2
theorem pe_methE0 {pl : Sem Bool} (he : PE X o ta) (c : Cls X.K C) (hm : Meth X.K C m f) (F : FnOk X.prog X.w X.K X.mg X.base CX k f fd ps sp) (hr : Room k X.A) (hb : Binds X.K fd ps []) (hx : ∀ σ, PassesAt CX X σ (E σ))
    (ht : eval (.Call (.Attribute o m apos) [] [] pos) X.env = (do
      let ov ← eval o X.env
      standAt apos.atName
      let (f, first) ← holding [ov] (getMethod ov m pl)
      callWith pos f first (backTo pos (starEach [] X.env)) (backToKw pos (keywordEach [] X.env))) := by rfl) :
    PE X (.Call (.Attribute o m apos) [] [] pos) (tMethE C m sp E ta tNil) := by
  refine ⟨fun pins s σ H Q I h => ?_⟩
  refine PySem.W.methodCall_KW (pl := pl) (thn (he.run pins s σ H _ I h) fun u s1 ⟨x, H1, I1, rx, a, dx, fs, ex, ea, l, q⟩ => ?_) ht
  subst ex
  obtain rfl : u = Value.ref a := rx
  refine getmeth_ok I1 ea c hm l ?_
  exact PySem.W.callWith_K0 (first := [.ref a]) I1.kIn hm.kp (run_fnS (us := [.ref a]) (vs := [.ref a]) F hr hb (hx σ) I1 (.cons rfl .nil) q)
def tMakeE (C : Addr) (sp : Sp) (E : L2.St → XK) (t : TA) : TE := fun σ H Q => t σ H fun vs H1 => ∀ x dx, H1 x = none → H1 dx = none → dx ≠ x →
  sp (.ref x :: vs) (upd (upd H1 dx (.own x)) x (.ins C dx [])) (fun v H2 => v = .non ∧ Q (.ref x) H2) (E σ)
theorem run_makeE {pins : List (Addr × Obj)} {σ : L2.St} {H : Hp} {s : Shared} {Q : VK} {us : List Value} {vs : List V} (M : Mk X.K C f) (F : FnOk X.prog X.w X.K X.mg X.base CX k f fd ps sp) (hr : Room (k + 1) X.A) (hb : Binds X.K fd ps [])
    (hx : PassesAt CX X σ (E σ)) (I : Inv X pins σ H s) (r : Vals vs us)
    (h : ∀ x dx, H x = none → H dx = none → dx ≠ x → sp (.ref x :: vs) (upd (upd H dx (.own x)) x (.ins C dx [])) (fun v H2 => v = .non ∧ Q (.ref x) H2) (E σ)) :
    wpAny (model X.prog X.w) X.A (call (.ref C) us) (EP X pins σ Q) X.xe s := by
  have hq := h (s.heap.objs.size + 1) s.heap.objs.size (I.hok.fresh (Nat.le_succ _)) (I.hok.fresh (Nat.le_refl _)) (Nat.ne_of_lt (Nat.lt_succ_self _))
  have I2 := Inv.made (C := C) I
  have r2 : Vals (V.ref (s.heap.objs.size + 1) :: vs) (Value.ref (s.heap.objs.size + 1) :: us) := .cons rfl r
  have hl : (Value.ref (s.heap.objs.size + 1) :: us).length = ps.length := by
    have e := r2.length
    rw [F.len _ _ _ _ hq] at e
    exact e.symm
  have b := hb _ (Value.ref (s.heap.objs.size + 1) :: us) I2.kIn (by rw [List.append_nil]; exact hl)
  rw [List.append_nil] at b
  refine wpAny_call (make_map (f := f) I.kIn M.makes M.init (beq_iff_eq.mp M.fn) (codeAny_mono (F.run _ X.stack _ _ ⟨Value.ref (s.heap.objs.size + 1) :: us, []⟩ (Value.ref (s.heap.objs.size + 1) :: us) _ _ (E σ) (hr.make C us [])
    (I2.env0.make C us []) b r2 hq) fun r s' hq' => ?_))
  cases r with
  | error e => exact hx pins _ _ e s' I2 hq'
  | ok fl =>
    cases fl with
    | ret u =>
      obtain ⟨v, H', I3, rv, ev, q3⟩ := I2.after hq'
      subst ev
      exact ⟨rv, ⟨V.ref (s.heap.objs.size + 1), H', I3, rfl, q3⟩⟩
    | next => exact False.elim hq'
    | brk => exact False.elim hq'
    | cont => exact False.elim hq'
theorem pe_makeE (M : Mk X.K C f) (F : FnOk X.prog X.w X.K X.mg X.base CX k f fd ps sp) (hr : Room (k + 1) X.A) (hg : Gl X x) (hm : X.mg x = some (.ref C)) (hb : Binds X.K fd ps []) (hx : ∀ σ, PassesAt CX X σ (E σ))
    (ha : PA X (e :: es) t) (hdb : (x == ("__debug__" : Str)) = false := by decide) (he : starEach (e :: es) X.env = (false, eval e X.env) :: starEach es X.env := by rfl) (hpl : (backTo pos (starEach es X.env)).any (·.1) = false := by rfl) :
    PE X (.Call (.Name x p) (e :: es) [] pos) (tMakeE C sp E t) := by
  refine ⟨fun pins s σ H Q I h => ?_⟩
  refine wpAny_Call_Name_kw (ld_glob I hg hm ?_ hdb)
  refine PySem.W.callWith_K (h₀ := X.base) I.ok.mod.kin M.kp (thn (ha.run pos pins s σ H _ I h) fun us s1 ⟨vs, H1, I1, r, q⟩ => ⟨I1.kIn, ?_⟩) he hpl
  exact run_makeE M F hr hb (hx σ) I1 r q
/-- C.m(..): a def of the class, read off it -/
structure CFn (K : PySem.W.Frag) (C : Addr) (m : Str) (f : Addr) : Prop where
  rd : PySem.W.readsIn K C (.type "type") = true
  ga : PySem.W.specialIn K (.ref C) "__getattribute__" = some (some (.builtin "type.__getattribute__"))
  at_ : PySem.W.findCls K (.ref C) (.type "type") m = some (.val (.ref f))
  kp : PySem.W.keepIn K (.ref f) = true
theorem pe_clsE {pl : Sem Bool} (c : CFn X.K C m f) (F : FnOk X.prog X.w X.K X.mg X.base CX k f fd ps sp) (hr : Room k X.A) (hg : Gl X x) (hm : X.mg x = some (.ref C)) (hb : Binds X.K fd ps []) (hx : ∀ σ, PassesAt CX X σ (E σ)) (ha : PA X (e :: es) t)
    (hdb : (x == ("__debug__" : Str)) = false := by decide) (hst : starEach (e :: es) X.env = (false, eval e X.env) :: starEach es X.env := by rfl) (hpl : (backTo pos (starEach es X.env)).any (·.1) = false := by rfl)
    (ht : eval (.Call (.Attribute (.Name x np) m apos) (e :: es) [] pos) X.env = (do
      let ov ← eval (.Name x np) X.env
      standAt apos.atName
      let (f, first) ← holding [ov] (getMethod ov m pl)
      callWith pos f first (backTo pos (starEach (e :: es) X.env)) (backToKw pos (keywordEach [] X.env))) := by rfl) :
    PE X (.Call (.Attribute (.Name x np) m apos) (e :: es) [] pos) (tCallS sp E t) := by
  have he : PE X (.Name x np) (tC (.ref C)) := pe_glob (v := .ref C) hg hm rfl hdb
  refine ⟨fun pins s σ H Q I h => ?_⟩
  refine PySem.W.methodCall_KW (pl := pl) (thn (he.run pins s σ H (fun v H1 => v = .ref C ∧ t σ H1 fun vs H2 => sp vs H2 Q (E σ)) I ⟨rfl, h⟩) fun u s1 ⟨x, H1, I1, rx, ex, q⟩ => ?_) ht
  subst ex
  obtain rfl : u = Value.ref C := rx
  refine PySem.W.method_cls I1.kIn c.ga (PySem.W.cls_value I1.kIn c.rd c.at_ rfl ?_)
  have I1' := I1.tok (s1.toks + 1)
  refine PySem.W.callWith_K (first := []) (h₀ := X.base) I.ok.mod.kin c.kp (thn (ha.run pos pins _ σ H1 _ I1' q) fun us s2 ⟨vs, H2, I2, r, q2⟩ => ⟨I2.kIn, ?_⟩) hst hpl
  exact run_fnS F hr hb (hx σ) I2 r q2
end
/-! ### fields -/
def putFd (f : Str) (v : D) : List (Str × D) → List (Str × D)
  | [] => [(f, v)]
  | (g, x) :: r => if g = f then (g, v) :: r else (g, x) :: putFd f v r
def fFld (cs : List Nat) (f : Str) : Store → D → R D := fun s a => match a with
  | .ref n => (match s[n]? with
    | some (.ins c fs) => if cs.contains c = true then (match fs.lookup f with
      | some d => .ok d s
      | none => .no) else .no
    | _ => .no)
  | _ => .no
def sFldX (cs : List Nat) (f : Str) (o e : Ex) : Sx := fun env s => match e env s with
  | .ok d s1 => (match snk (fz d) with
    | some d => (match o env s1 with
      | .ok (.ref n) s2 => (match s2[n]? with
        | some (.ins c fs) => if cs.contains c = true ∧ fs.length < 1000 then .nx env (s2.set n (.ins c (putFd f d fs))) else .no
        | _ => .no)
      | .ok _ _ => .no
      | .exc c s' => .exc c env s'
      | .no => .no)
    | none => .no)
  | .exc c s' => .exc c env s'
  | .no => .no
/-- o.m(..), o of the class c -/
def eMethC (c : Nat) (m : Str) (F : Fx) (o : Ex) (a : Ax) : Ex := fun env s => match o env s with
  | .ok (.ref n) s1 => (match s1[n]? with
    | some (.ins c' fs) => if c' = c ∧ fs.lookup m = none then (match a env s1 with
      | .ok ds s2 => F (.ref n :: ds) s2
      | .exc k s2 => .exc k s2
      | .no => .no) else .no
    | _ => .no)
  | .ok _ _ => .no
  | .exc k s1 => .exc k s1
  | .no => .no
/-- C(..) -/
def eMake (c : Nat) (F : Fx) (a : Ax) : Ex := fun env s => match a env s with
  | .ok ds s1 => (match F (.ref s1.length :: ds) (s1 ++ [.ins c []]) with
    | .ok .non s2 => .ok (.ref s1.length) s2
    | .ok _ _ => .no
    | .exc k s2 => .exc k s2
    | .no => .no)
  | .exc k s1 => .exc k s1
  | .no => .no
section
variable {g : Gc} {tb : List Addr} {w w' : Wd} {env : Env} {σ : Sl} {W : WX} {Dn : Ends} {H : Hp} {Q : VK}
theorem RvF.length : ∀ {fs : List (Str × D)} {ys : List (Str × V)}, RvF g w fs ys → ys.length = fs.length
  | [], ys, h => by unfold RvF at h; subst h; rfl
  | (k, d) :: r, ys, h => by
    unfold RvF at h
    obtain ⟨y, t, e, _, b⟩ := h
    subst e
    simp [RvF.length b]
theorem RvF.lookup : ∀ {fs : List (Str × D)} {ys : List (Str × V)} {f : Str}, RvF g w fs ys → (∀ d, fs.lookup f = some d → ∃ v, ys.lookup f = some v ∧ Rv g w d v) ∧ (fs.lookup f = none → ys.lookup f = none)
  | [], ys, f, h => by unfold RvF at h; subst h; exact ⟨fun d e => (by cases e), fun _ => rfl⟩
  | (k, d) :: r, ys, f, h => by
    unfold RvF at h
    obtain ⟨y, t, e, h1, h2⟩ := h
    subst e
    obtain ⟨i1, i2⟩ := RvF.lookup (f := f) h2
    rw [List.lookup_cons, List.lookup_cons]
    cases q : (f == k) with
    | true => exact ⟨fun d' e => ⟨y, rfl, by cases e; exact h1⟩, fun e => (by cases e)⟩
    | false => exact ⟨i1, i2⟩
theorem RvF.put {f : Str} {d : D} {v : V} (h0 : Rv g w d v) : ∀ {fs : List (Str × D)} {ys : List (Str × V)}, RvF g w fs ys → RvF g w (putFd f d fs) (putF f v ys)
  | [], ys, h => by
    unfold RvF at h; subst h
    show RvF g w [(f, d)] [(f, v)]
    unfold RvF
    exact ⟨v, [], rfl, h0, by unfold RvF; rfl⟩
  | (k, x) :: r, ys, h => by
    unfold RvF at h
    obtain ⟨y, t, e, h1, h2⟩ := h
    subst e
    unfold putFd putF
    by_cases q : k = f
    · rw [if_pos q, if_pos q]
      unfold RvF
      exact ⟨v, t, rfl, h0, h2⟩
    · rw [if_neg q, if_neg q]
      unfold RvF
      exact ⟨y, _, rfl, h1, RvF.put h0 h2⟩
theorem ins_nd {c : Nat} {fs : List (Str × D)} : O.ins c fs ≠ O.dead := fun z => nomatch z
theorem snd_fld {cs : List Nat} {f : Str} (hc : ∀ c ∈ cs, Cls g.K (g.A c)) (hn : ∀ c ∈ cs, NoAttr g.K (g.A c) f) : Snd1 g (fFld cs f) (fun x H Q => ∃ a C dx fs v, x = .ref a ∧ H a = some (.ins C dx fs) ∧ Cls g.K C ∧ NoAttr g.K C f ∧ fs.lookup f = some v ∧ Q v H) := by
  intro w a x Q r pa h
  unfold fFld at h
  split at h
  · rename_i n
    split at h
    · rename_i c fs en
      split at h
      · rename_i hcs
        have hcs : c ∈ cs := by simpa using hcs
        split at h
        · rename_i d el
          obtain ⟨p, rfl, hm⟩ := po_ref pa
          obtain ⟨dx, ys, e1, e2⟩ := r.ce n p _ hm en
          obtain ⟨v, k1, k2⟩ := (RvF.lookup e2).1 d el
          exact ⟨p, _, dx, ys, v, rfl, e1, hc c hcs, hn c hcs, k1, h.pure r k2⟩
        · exact h.elim
      · exact h.elim
    · exact h.elim
  · exact h.elim
theorem ne_fld {cs : List Nat} {f : Str} : ∀ s x c s', fFld cs f s x ≠ .exc c s' := by
  intro s x c s'
  unfold fFld
  repeat' split
  all_goals exact fun z => nomatch z
theorem sFldX_ok {cs : List Nat} {f : Str} {o e : Ex} (hc : ∀ c ∈ cs, Cls g.K (g.A c)) (hn : ∀ c ∈ cs, NoAttr g.K (g.A c) f) (h : tSt g W (sFldX cs f o e) Dn σ H) : sFld g.K (tEv g W o) (tEv g W e) f Dn σ H := by
  obtain ⟨w, env, tb, rfl, r, h⟩ := h
  refine ev_in (m := sFldX cs f o e env w.s) r h (fun c s q => by simp only [sFldX, q]) (fun q => by simp only [sFldX, q]) fun d s1 w1 v q h1 h2 h3 h4 => ?_
  obtain ⟨r1, o1⟩ := h4.fz
  have rm1 := r.ev r1 h3 h2
  cases es : snk (fz d) with
  | none => simp only [sFldX, q, es] at h; exact h.elim
  | some d' =>
    have rd := snk_ok o1 es
    have p1 := h.next r r1 (Xs.ev h3)
    refine ev_in (m := sFldX cs f o e env w.s) rm1 p1 (fun c s k => by rw [h1] at k; simp only [sFldX, q, es, k]) (fun k => by rw [h1] at k; simp only [sFldX, q, es, k]) fun x s2 w2 u k k1 k2 k3 k4 => ?_
    rw [h1] at k
    have r2 := k4.rst
    have rm2 := rm1.ev r2 k3 k2
    have rd2 := Rv.mono (Cy.of r1 k3 k2) _ _ rd
    simp only [sFldX, q, es, k] at p1
    cases x with
    | ref n =>
      have ru : Rv g w2 (.ref n) u := k4.2
      unfold Rv at ru
      obtain ⟨p, rfl, hm⟩ := ru
      rw [← k1] at p1
      cases en : w2.s[n]? with
      | none => simp only [en] at p1; exact p1.elim
      | some ob =>
        cases ob with
        | ins c fs =>
          simp only [en] at p1
          split at p1
          · rename_i hcs
            have hcs1 : c ∈ cs := by simpa using hcs.1
            obtain ⟨dx, ys, e1, e2⟩ := r2.ce n p _ hm en
            refine ⟨p, _, dx, ys, rfl, e1, hc c hcs1, hn c hcs1, by rw [e2.length]; exact hcs.2, ?_⟩
            have hu : RvF g w2 (putFd f d' fs) (putF f v ys) := e2.put rd2
            have ex := ws_ext (o' := .ins c (putFd f d' fs)) (u := .ins (g.A c) dx (putF f v ys)) hm en ins_nd
            have rs := ws_rst (o' := .ins c (putFd f d' fs)) (u := .ins (g.A c) dx (putF f v ys)) r2 hm en ins_nd fun cy => ⟨dx, _, upd_same, RvF.mono cy _ _ hu⟩
            exact p1 (w2.ws n (.ins c (putFd f d' fs)) p (.ins (g.A c) dx (putF f v ys))) σ rfl (rm2.ev rs ex rfl) ((Xs.ev k3).trans rm1 r2 (Xs.ev ex))
          · exact p1.elim
        | lst xs => simp only [en] at p1; exact p1.elim
        | dK kv => simp only [en] at p1; exact p1.elim
        | dead => simp only [en] at p1; exact p1.elim
    | _ => simp only at p1; exact p1.elim
theorem eMethC_ok {c n : Nat} {m : Str} {F : Fx} {o : Ex} {a : Ax} (hF : Ar n F) (h : tEv g W (eMethC c m F o a) σ H Q) : tMethE (g.A c) m (spOf g n F) (WE W) (tEv g W o) (tAe g W a) σ H Q := by
  obtain ⟨w, env, rfl, re, h⟩ := h
  refine ⟨w, env, rfl, re, ?_⟩
  refine Post.step (m' := eMethC c m F o a env w.s) h (fun c s e => by simp only [eMethC, e]) (fun e => by simp only [eMethC, e]) fun x s1 w1 v ea hs1 ht1 e1 p1 => ?_
  cases x with
  | ref k =>
    have r1 := p1.rst
    have rv : Rv g w1 (.ref k) v := p1.2
    have rv0 := rv
    unfold Rv at rv
    obtain ⟨p, rfl, hm⟩ := rv
    cases en : s1[k]? with
    | none => simp only [eMethC, ea, en] at h; exact h.elim
    | some ob =>
      cases ob with
      | ins c' fs =>
        by_cases hcc : c' = c ∧ fs.lookup m = none
        · obtain ⟨dx, ys, k1, k2⟩ := r1.ce k p _ hm (by rw [hs1]; exact en)
          refine ⟨p, dx, ys, rfl, by rw [k1, hcc.1], (RvF.lookup k2).2 hcc.2, w1, env, rfl, re.next r1 e1 ht1, ?_⟩
          refine Post.step (m' := eMethC c m F o a env w.s) (h.next e1 ht1 fun _ _ w2 _ q => q.back re.st r1 e1) (fun c s e => by rw [hs1] at e; simp only [eMethC, ea, en, hcc, e, and_self, if_true]) (fun e => by rw [hs1] at e; simp only [eMethC, ea, en, hcc, e, and_self, if_true]) fun ds s2 w2 vs eb hs2 ht2 e2 p2 => ?_
          obtain ⟨r2, q2⟩ := p2
          rw [hs1] at eb
          have em : eMethC c m F o a env w.s = F (.ref k :: ds) w2.s := by simp only [eMethC, ea, en, hcc, eb, hs2, and_self, if_true]
          rw [em] at h
          have rvs : RvL g w2 (.ref k :: ds) (V.ref p :: vs) := by
            unfold RvL
            exact ⟨_, _, rfl, Rv.mono (Cy.of r1 e2 ht2) _ _ rv0, q2⟩
          have hn : (D.ref k :: ds).length = n := by
            by_cases z : (D.ref k :: ds).length = n
            · exact z
            · rw [hF _ w2.s z] at h; exact h.elim
          refine ⟨by rw [rvs.length]; exact hn, w2, _, rfl, r2, rvs, ?_⟩
          cases q : F (.ref k :: ds) w2.s with
          | ok d s' =>
            rw [q] at h
            exact fun w3 v3 h1 h2 h3 h4 => h w3 v3 h1 (h2.trans (ht2.trans ht1)) ((e1.trans e2).trans h3) (h4.back re.st r2 (e1.trans e2))
          | exc c s' =>
            rw [q] at h
            exact fun w3 h1 h2 h3 h4 => h w3 h1 (h2.trans (ht2.trans ht1)) ((e1.trans e2).trans h3) h4
          | no => rw [q] at h; exact h
        · simp only [eMethC, ea, en, hcc, if_false] at h; exact h.elim
      | lst xs => simp only [eMethC, ea, en] at h; exact h.elim
      | dK kv => simp only [eMethC, ea, en] at h; exact h.elim
      | dead => simp only [eMethC, ea, en] at h; exact h.elim
  | _ => simp only [eMethC, ea] at h; exact h.elim
/-- a new instance -/
theorem new_ins {x dx : Addr} {c : Nat} (r : Rst g w) (hx : w.H x = none) (hd : w.H dx = none) (ne : dx ≠ x) :
    Rst g { w with m := w.m ++ [x], s := w.s ++ [.ins c []], H := upd (upd w.H dx (.own x)) x (.ins (g.A c) dx []) } ∧ Ext [] w { w with m := w.m ++ [x], s := w.s ++ [.ins c []], H := upd (upd w.H dx (.own x)) x (.ins (g.A c) dx []) } := by
  have len : w.m.length = w.s.length := r.len
  obtain ⟨w', hw⟩ : ∃ w' : Wd, w' = { w with m := w.m ++ [x], s := w.s ++ [.ins c []], H := upd (upd w.H dx (.own x)) x (.ins (g.A c) dx []) } := ⟨_, rfl⟩
  rw [← hw]
  have wm : w'.m = w.m ++ [x] := by rw [hw]
  have wss : w'.s = w.s ++ [.ins c []] := by rw [hw]
  have wH : w'.H = upd (upd w.H dx (.own x)) x (.ins (g.A c) dx []) := by rw [hw]
  have wT : w'.T = w.T := by rw [hw]
  have old : ∀ q u, w.H q = some u → w'.H q = some u := fun q u e => by
    rw [wH, upd_ne (ne_of_none e hx), upd_ne (ne_of_none e hd)]; exact e
  have getm : ∀ k q, w'.m[k]? = some q → (w.m[k]? = some q) ∨ (k = w.m.length ∧ q = x) := fun k q h => by
    rw [wm] at h
    rcases Nat.lt_or_ge k w.m.length with l | l
    · rw [List.getElem?_append_left l] at h; exact .inl h
    · rw [List.getElem?_append_right l] at h
      have := (List.getElem?_eq_some_iff.mp h).1
      have e : k - w.m.length = 0 := by simp at this; omega
      rw [e] at h
      simp at h
      exact .inr ⟨by omega, h.symm⟩
  have ext : Ext [] w w' := by
    refine ⟨⟨[x], wm⟩, fun q u e _ _ => old q u e, fun q l => ?_, fun q l => ?_⟩
    · obtain ⟨k, u, h1, h2, h3⟩ := l
      rcases getm k q h1 with z | ⟨_, z⟩
      · refine .inl ⟨k, u, z, ?_, h3⟩
        rw [wss, List.getElem?_append_left (by rw [← len]; exact (List.getElem?_eq_some_iff.mp z).1)] at h2
        exact h2
      · subst z; exact .inr (.inl hx)
    · rw [wm] at l
      rcases List.mem_append.mp l with z | z
      · exact .inl z
      · rw [List.mem_singleton.mp z]; exact .inr (.inl hx)
  have cy : Cy g [] w w' := Cy.of r ext wT
  refine ⟨⟨by rw [wm, wss, List.length_append, List.length_append, len]; rfl, ?_, fun q hq => ?_, fun k q u h1 h2 => ?_⟩, ext⟩
  · rw [wm, List.nodup_append]
    refine ⟨r.nd, by simp, fun a ha b hb => ?_⟩
    rw [List.mem_singleton.mp hb]
    exact fun e => r.fresh hx (by rw [← e]; exact ha)
  · rw [wT] at hq
    obtain ⟨n1, u, n2⟩ := r.tt q hq
    refine ⟨fun h => ?_, u, old q u n2⟩
    rw [wm] at h
    rcases List.mem_append.mp h with z | z
    · exact n1 z
    · rw [List.mem_singleton.mp z] at n2; rw [hx] at n2; cases n2
  · rcases getm k q h1 with z | ⟨z1, z⟩
    · have h2' : w.s[k]? = some u := by
        rw [wss, List.getElem?_append_left (by rw [← len]; exact (List.getElem?_eq_some_iff.mp z).1)] at h2
        exact h2
      have c0 := r.ce k q u z h2'
      cases u with
      | lst xs => obtain ⟨ys, e, z⟩ := c0; exact ⟨ys, old _ _ e, RvL.mono cy _ _ z⟩
      | dK xs => obtain ⟨ys, e, z⟩ := c0; exact ⟨ys, old _ _ e, RvK.mono cy _ _ z⟩
      | ins a xs => obtain ⟨dx, ys, e, z⟩ := c0; exact ⟨dx, ys, old _ _ e, RvF.mono cy _ _ z⟩
      | dead => obtain ⟨o, e⟩ := c0; exact ⟨o, old _ _ e⟩
    · have h2' : u = .ins c [] := by
        rw [wss, List.getElem?_append_right (by omega), z1, len] at h2
        simpa using h2.symm
      rw [h2', z]
      exact ⟨dx, [], by rw [wH, upd_same], by unfold RvF; rfl⟩
theorem eMake_ok {c n : Nat} {F : Fx} {a : Ax} (hF : Ar n F) (h : tEv g W (eMake c F a) σ H Q) : tMakeE (g.A c) (spOf g n F) (WE W) (tAe g W a) σ H Q := by
  obtain ⟨w, env, rfl, re, h⟩ := h
  refine ⟨w, env, rfl, re, ?_⟩
  refine Post.step (m' := eMake c F a env w.s) h (fun c s e => by simp only [eMake, e]) (fun e => by simp only [eMake, e]) fun ds s1 w1 vs ea hs1 ht1 e1 p1 => ?_
  obtain ⟨r1, q1⟩ := p1
  intro x dx hx hd ne
  obtain ⟨r2, e2⟩ := new_ins (c := c) r1 hx hd ne
  generalize hw2 : ({ w1 with m := w1.m ++ [x], s := w1.s ++ [.ins c []], H := upd (upd w1.H dx (.own x)) x (.ins (g.A c) dx []) } : Wd) = w2 at r2 e2
  have hs2 : w2.s = s1 ++ [.ins c []] := by rw [← hw2, ← hs1]
  have hH2 : w2.H = upd (upd w1.H dx (.own x)) x (.ins (g.A c) dx []) := by rw [← hw2]
  have ht2 : w2.T = w1.T := by rw [← hw2]
  have hm2 : w2.m[s1.length]? = some x := by
    have : w1.m.length = s1.length := by rw [← hs1]; exact r1.len
    rw [← hw2]
    show (w1.m ++ [x])[s1.length]? = some x
    rw [← this, List.getElem?_append_right (Nat.le_refl _)]; simp
  have rvs : RvL g w2 (.ref s1.length :: ds) (V.ref x :: vs) := by
    unfold RvL
    exact ⟨_, _, rfl, by unfold Rv; exact ⟨x, rfl, hm2⟩, RvL.mono (Cy.of r1 e2 ht2) _ _ q1⟩
  have hn : (D.ref s1.length :: ds).length = n := by
    by_cases z : (D.ref s1.length :: ds).length = n
    · exact z
    · simp only [eMake, ea] at h; rw [hF _ _ z] at h; exact h.elim
  rw [← hH2]
  refine ⟨by rw [rvs.length]; exact hn, w2, _, rfl, r2, rvs, ?_⟩
  have t12 : w2.T = w.T := ht2.trans ht1
  have e12 : Ext [] w w2 := e1.trans e2
  cases q : F (.ref s1.length :: ds) w2.s with
  | ok d s' =>
    rw [hs2] at q
    simp only [eMake, ea, q] at h
    cases d with
    | non =>
      intro w3 v3 h1 h2 h3 h4
      have rv : Rv g w3 .non v3 := h4.2
      unfold Rv at rv
      refine ⟨rv, h w3 (.ref x) h1 (h2.trans t12) (e12.trans h3) (.of h4.rst ?_)⟩
      unfold Rv
      exact ⟨x, rfl, h3.get hm2⟩
    | _ => exact h.elim
  | exc k s' =>
    rw [hs2] at q
    simp only [eMake, ea, q] at h
    exact fun w3 h1 h2 h3 h4 => h w3 h1 (h2.trans t12) (e12.trans h3) h4
  | no => rw [hs2] at q; simp only [eMake, ea, q] at h; exact h
end
section
variable {X : Cx} {A : Ga} {W : WX} {a b c e o : Expr} {es : List Expr} {ma mb mc : Ex} {mr : Ax} {pos p np apos : Pos} {k n : Nat} {f : Addr} {fd : FuncData} {ps : List Str} {F : Fx} {x m fl : Str} {cs : List Nat} {cl : Nat}
theorem me_fld (hc : ∀ c ∈ cs, Cls X.K (A.cl c)) (hn : ∀ c ∈ cs, NoAttr X.K (A.cl c) fl) (h : ME X A W o ma) (hb : attributeBase o fl X.env (eval o X.env) = eval o X.env := by rfl) : ME X A W (.Attribute o fl pos) (eOp1 (fFld cs fl) ma) :=
  peW (pe_fld h hb) fun _ _ _ h => tUn_snd (snd_fld hc hn) ne_fld h
theorem ms_fld {tpos : Pos} (hc : ∀ c ∈ cs, Cls X.K (A.cl c)) (hn : ∀ c ∈ cs, NoAttr X.K (A.cl c) fl) (h : ME X A W o ma) (k : ME X A W e mb) (hs : swapsWith e (some (.Attribute o fl tpos)) pos.line X.env = pure false := by rfl) :
    MS X A W (.Assign [.Attribute o fl tpos] e pos) (sFldX cs fl ma mb) := psW (ps_fld h k hs) fun _ _ _ h => sFldX_ok hc hn h
theorem me_meth (c : Cls X.K (A.cl cl)) (hm : Meth X.K (A.cl cl) m f) (G : FnOk X.prog X.w X.K X.mg X.base (L2.CX X.prog X.w) k f fd ps (spOf (gx X A) n F)) (hF : Ar n F) (hr : Room k X.A) (tk : Takes X W) (hb : Binds X.K fd ps []) (h : ME X A W o ma) (ha : MA X A W (e :: es) mr) {pl : Sem Bool}
    (hst : starEach (e :: es) X.env = (false, eval e X.env) :: starEach es X.env := by rfl) (hpl : (backTo pos (starEach es X.env)).any (·.1) = false := by rfl)
    (ht : eval (.Call (.Attribute o m apos) (e :: es) [] pos) X.env = (do
      let ov ← eval o X.env
      standAt apos.atName
      let (f, first) ← holding [ov] (getMethod ov m pl)
      callWith pos f first (backTo pos (starEach (e :: es) X.env)) (backToKw pos (keywordEach [] X.env))) := by rfl) :
    ME X A W (.Call (.Attribute o m apos) (e :: es) [] pos) (eMethC cl m F ma mr) := peW (pe_methE (pl := pl) h c hm G hr hb (fun σ => passAt tk σ) ha hst hpl ht) fun _ _ _ h => eMethC_ok hF h
theorem me_meth0 (c : Cls X.K (A.cl cl)) (hm : Meth X.K (A.cl cl) m f) (G : FnOk X.prog X.w X.K X.mg X.base (L2.CX X.prog X.w) k f fd ps (spOf (gx X A) n F)) (hF : Ar n F) (hr : Room k X.A) (tk : Takes X W) (hb : Binds X.K fd ps []) (h : ME X A W o ma) {pl : Sem Bool}
    (ht : eval (.Call (.Attribute o m apos) [] [] pos) X.env = (do
      let ov ← eval o X.env
      standAt apos.atName
      let (f, first) ← holding [ov] (getMethod ov m pl)
      callWith pos f first (backTo pos (starEach [] X.env)) (backToKw pos (keywordEach [] X.env))) := by rfl) :
    ME X A W (.Call (.Attribute o m apos) [] [] pos) (eMethC cl m F ma aNil) := peW (pe_methE0 (pl := pl) h c hm G hr hb (fun σ => passAt tk σ) ht) fun σ H Q h => by
  obtain ⟨w, env, e1, e2, e3⟩ := eMethC_ok hF h
  refine ⟨w, env, e1, e2, ?_⟩
  cases q : ma env w.s with
  | ok d s' =>
    rw [q] at e3
    intro w' v h1 h2 h3 h4
    obtain ⟨a, dx, fs, k1, k2, k3, k4⟩ := e3 w' v h1 h2 h3 h4
    exact ⟨a, dx, fs, k1, k2, k3, aNil_ok k4⟩
  | exc c s' => rw [q] at e3; exact e3
  | no => rw [q] at e3; exact e3
theorem me_make (M : Mk X.K (A.cl cl) f) (G : FnOk X.prog X.w X.K X.mg X.base (L2.CX X.prog X.w) k f fd ps (spOf (gx X A) n F)) (hF : Ar n F) (hr : Room (k + 1) X.A) (tk : Takes X W) (hg : Gl X x) (hm : X.mg x = some (.ref (A.cl cl))) (hb : Binds X.K fd ps [])
    (ha : MA X A W (e :: es) mr) (hdb : (x == ("__debug__" : Str)) = false := by decide) (he : starEach (e :: es) X.env = (false, eval e X.env) :: starEach es X.env := by rfl) (hpl : (backTo pos (starEach es X.env)).any (·.1) = false := by rfl) :
    ME X A W (.Call (.Name x p) (e :: es) [] pos) (eMake cl F mr) := peW (pe_makeE M G hr hg hm hb (fun σ => passAt tk σ) ha hdb he hpl) fun _ _ _ h => eMake_ok hF h
theorem me_clsE {C : Addr} (c : CFn X.K C m f) (G : FnOk X.prog X.w X.K X.mg X.base (L2.CX X.prog X.w) k f fd ps (spOf (gx X A) n F)) (hF : Ar n F) (hr : Room k X.A) (tk : Takes X W) (hg : Gl X x) (hm : X.mg x = some (.ref C)) (hb : Binds X.K fd ps []) (ha : MA X A W (e :: es) mr) {pl : Sem Bool}
    (hdb : (x == ("__debug__" : Str)) = false := by decide) (hst : starEach (e :: es) X.env = (false, eval e X.env) :: starEach es X.env := by rfl) (hpl : (backTo pos (starEach es X.env)).any (·.1) = false := by rfl)
    (ht : eval (.Call (.Attribute (.Name x np) m apos) (e :: es) [] pos) X.env = (do
      let ov ← eval (.Name x np) X.env
      standAt apos.atName
      let (f, first) ← holding [ov] (getMethod ov m pl)
      callWith pos f first (backTo pos (starEach (e :: es) X.env)) (backToKw pos (keywordEach [] X.env))) := by rfl) :
    ME X A W (.Call (.Attribute (.Name x np) m apos) (e :: es) [] pos) (eCall F mr) := peW (pe_clsE (pl := pl) c G hr hg hm hb (fun σ => passAt tk σ) ha hdb hst hpl ht) fun _ _ _ h => call_ok hF h
end
end Gm

set_option Elab.async false
set_option linter.all false
set_option maxRecDepth 100000
set_option autoImplicit false
set_option maxHeartbeats 1000000
namespace Gm
open PySem PySem.Spec PyProof.Rows L2
/-! ### a, b = x, y -/
def sPar (is : List Nat) (a : Ax) : Sx := fun env s => match a env s with
  | .ok ds s' => (match setsE is ds env with
    | some env' => .nx env' s'
    | none => .no)
  | .exc c s' => .exc c env s'
  | .no => .no
def fAbs : Store → D → R D := fun s a => match a with
  | .int i => .ok (.int (if i < 0 then -i else i)) s
  | _ => .no
/-- isinstance(o, C), o of an own class -/
def fIsiC (l : List (Nat × Bool)) : Store → D → R D := fun s a => match a with
  | .ref n => (match s[n]? with
    | some (.ins c _) => (match l.lookup c with
      | some b => .ok (.bl b) s
      | none => .no)
    | _ => .no)
  | _ => .no
/-- o[j] = e, o a dict of the store -/
def sDPE (o j e : Ex) : Sx := fun env s => match e env s with
  | .ok d s1 => (match snk (fz d) with
    | some d => (match o env s1 with
      | .ok (.ref n) s2 => (match j env s2 with
        | .ok x s3 => (match kD x, s3[n]? with
          | some k, some (.dK xs) => if xs.length < 16777216 then .nx env (s3.set n (.dK (putD xs k d))) else .no
          | _, _ => .no)
        | .exc c s' => .exc c env s'
        | .no => .no)
      | .ok _ _ => .no
      | .exc c s' => .exc c env s'
      | .no => .no)
    | none => .no)
  | .exc c s' => .exc c env s'
  | .no => .no
def dropD (kv : List (Key × D)) (k : Key) : List (Key × D) := kv.filter fun p => decide (p.1 ≠ k)
/-- d.pop(k), d a dict of the store -/
def eDPop (o j : Ex) : Ex := fun env s => match o env s with
  | .ok (.ref n) s1 => (match s1[n]? with
    | some (.dK _) => (match j env s1 with
      | .ok x s2 => (match kD (fz x), s2[n]? with
        | some k, some (.dK xs) => (match valD xs k with
          | some d => .ok d (s2.set n (.dK (dropD xs k)))
          | none => .no)
        | _, _ => .no)
      | .exc c s' => .exc c s'
      | .no => .no)
    | _ => .no)
  | .ok _ _ => .no
  | .exc c s' => .exc c s'
  | .no => .no
section
variable {g : Gc} {tb : List Addr} {w w' : Wd} {env : Env} {σ : Sl} {W : WX} {Dn : Ends} {H : Hp} {Q : VK}
theorem ev_inA {e : Ax} {Q : List V → Hp → Prop} {m : SR} (r : Rm g tb w env σ) (h : PostS g tb W w env σ Dn m) (he : ∀ c s, e env w.s = .exc c s → m = .exc c env s) (hn : e env w.s = .no → m = .no)
    (hk : ∀ (d : List D) (s' : Store) (w' : Wd) (v : List V), e env w.s = .ok d s' → w'.s = s' → w'.T = w.T → Ext [] w w' → Rst g w' → RvL g w' d v → Q v w'.H) : tAe g W e σ w.H Q := by
  refine ⟨w, env, rfl, r.re, ?_⟩
  cases q : e env w.s with
  | ok d s' => exact fun w' v h1 h2 h3 h4 => hk d s' w' v q h1 h2 h3 h4.1 h4.2
  | exc c s' =>
    rw [he c s' q] at h
    exact fun w' h1 h2 h3 h4 => h w' σ h1 (r.ev h4 h3 h2) (Xs.ev h3)
  | no => rw [hn q] at h; exact h
theorem sPar_ok {i j : Nat} {a : Ax} (h : tSt g W (sPar [i, j] a) Dn σ H) : tPar i j (tAe g W a) Dn σ H := by
  obtain ⟨w, env, tb, rfl, r, h⟩ := h
  refine ev_inA (m := sPar [i, j] a env w.s) r h (fun c s q => by simp only [sPar, q]) (fun q => by simp only [sPar, q]) fun ds s' w' vs q h1 h2 h3 h4 h5 => ?_
  cases k : setsE [i, j] ds env with
  | none => simp only [sPar, q, k] at h; exact h.elim
  | some env' =>
    simp only [sPar, q, k] at h
    have r' := r.ev h4 h3 h2
    obtain ⟨l, w2, e1, e2, r2, x2⟩ := sets_ok [i, j] ds vs w' env env' σ r' h5 k
    match vs, l with
    | [v, u], _ =>
      refine ⟨v, u, rfl, ?_⟩
      rw [← e2]
      exact h w2 _ (e1.trans h1) r2 ((Xs.ev h3).trans r r'.re.st x2)
theorem snd_abs : Snd1 g fAbs (fun x H Q => ∃ i, [x] = [V.int i] ∧ Q (.int (if i < 0 then -i else i)) H) := by
  intro w a x Q r pa h
  unfold fAbs at h
  split at h
  · rename_i i
    exact ⟨i, by rw [po_int pa], h.pure r rv_int⟩
  · exact h.elim
theorem ne_abs : ∀ s x c s', fAbs s x ≠ .exc c s' := by
  intro s x c s'
  unfold fAbs
  repeat' split
  all_goals exact fun z => nomatch z
/-- what isinstance asks of an own class -/
structure IsiC (K : PySem.W.Frag) (C : Addr) : Prop where
  cl : Cls K C
  ha : PySem.W.findIn K (.ref C) "__class__" = some (some (.builtin "object.__class__"))
  hn : PySem.W.specialIn K (.builtin "object.__class__") "__get__" = some (some (.builtin "getset_descriptor.__get__"))
  htk : PySem.W.takesIn K (.builtin "object.__class__") = some true
  hm : PySem.W.mroIn K C (.type "object") = some true
theorem snd_isiC {l : List (Nat × Bool)} {C : Addr} (hc : ∀ c b, l.lookup c = some b → IsiC g.K (g.A c) ∧ PySem.W.kitOne g.K (.ref (g.A c)) (.ref C) = some b) : Snd1 g (fIsiC l) (fun x H Q => rIsi g.K [x, .ref C] H Q) := by
  intro w a x Q r pa h
  unfold fIsiC at h
  split at h
  · rename_i n
    split at h
    · rename_i c fs en
      split at h
      · rename_i b el
        obtain ⟨p, rfl, hm⟩ := po_ref pa
        obtain ⟨dx, ys, e1, e2⟩ := r.ce n p _ hm en
        obtain ⟨k1, k2⟩ := hc c b el
        exact ⟨_, _, _, _, b, rfl, .own C, .base (.ins e1 k1.cl k1.ha k1.hn k1.htk k1.hm), k2, h.pure r rv_bl⟩
      · exact h.elim
    · exact h.elim
  · exact h.elim
theorem ne_isiC {l : List (Nat × Bool)} : ∀ s x c s', fIsiC l s x ≠ .exc c s' := by
  intro s x c s'
  unfold fIsiC
  repeat' split
  all_goals exact fun z => nomatch z
theorem kD_px {x : D} {u : V} {k : Key} {H0 : Hp} (h : Px g H0 w x u) (e : kD x = some k) : u = kV k := by
  cases x with
  | int n =>
    have ru : Rv g w (.int n) u := h.2
    exact kD_ok ru.po e
  | str n =>
    have ru : Rv g w (.str n) u := h.2
    exact kD_ok ru.po e
  | _ => cases e
theorem sDPE_ok {o j e : Ex} (h : tSt g W (sDPE o j e) Dn σ H) : sDPut (tEv g W o) (tEv g W j) (tEv g W e) Dn σ H := by
  obtain ⟨w, env, tb, rfl, r, h⟩ := h
  refine ev_in (m := sDPE o j e env w.s) r h (fun c s q => by simp only [sDPE, q]) (fun q => by simp only [sDPE, q]) fun d s1 w1 v q h1 h2 h3 h4 => ?_
  obtain ⟨r1, o1⟩ := h4.fz
  have rm1 := r.ev r1 h3 h2
  cases es : snk (fz d) with
  | none => simp only [sDPE, q, es] at h; exact h.elim
  | some d' =>
    have rd := snk_ok o1 es
    have p1 := h.next r r1 (Xs.ev h3)
    refine ev_in (m := sDPE o j e env w.s) rm1 p1 (fun c s k => by rw [h1] at k; simp only [sDPE, q, es, k]) (fun k => by rw [h1] at k; simp only [sDPE, q, es, k]) fun x s2 w2 u k k1 k2 k3 k4 => ?_
    rw [h1] at k
    have r2 := k4.rst
    have rm2 := rm1.ev r2 k3 k2
    have rd2 := Rv.mono (Cy.of r1 k3 k2) _ _ rd
    have p2 := p1.next rm1 r2 (Xs.ev k3)
    cases x with
    | ref n =>
      have ru : Rv g w2 (.ref n) u := k4.2
      refine ev_in (m := sDPE o j e env w.s) rm2 p2 (fun c s l => by rw [k1] at l; simp only [sDPE, q, es, k, l]) (fun l => by rw [k1] at l; simp only [sDPE, q, es, k, l]) fun y s3 w3 z l l1 l2 l3 l4 => ?_
      rw [k1] at l
      have r3 := l4.rst
      have rm3 := rm2.ev r3 l3 l2
      have rd3 := Rv.mono (Cy.of r2 l3 l2) _ _ rd2
      have ru3 := Rv.mono (Cy.of r2 l3 l2) _ _ ru
      simp only [sDPE, q, es, k, l] at p2
      unfold Rv at ru3
      obtain ⟨p, rfl, hm⟩ := ru3
      rw [← l1] at p2
      cases ek : kD y with
      | none => simp only [ek] at p2; exact p2.elim
      | some kk =>
        cases en : w3.s[n]? with
        | none => simp only [ek, en] at p2; exact p2.elim
        | some ob =>
          cases ob with
          | dK xs =>
            simp only [ek, en] at p2
            split at p2
            · rename_i hl
              obtain ⟨vs, e1, e2⟩ := r3.ce n p _ hm en
              rw [kD_px l4 ek]
              refine ⟨p, _, rfl, DPut.k e1 (by rw [RvK.len e2, sizeLine_eq]; exact hl), ?_⟩
              have hu : RvK g w3 (putD xs kk d') (putK vs kk v) := RvK.put rd3 e2
              have ex := ws_ext (o' := .dK (putD xs kk d')) (u := .dK (putK vs kk v)) hm en dK_nd
              have rs := ws_rst (o' := .dK (putD xs kk d')) (u := .dK (putK vs kk v)) r3 hm en dK_nd fun c => ⟨_, upd_same, RvK.mono c _ _ hu⟩
              exact p2 (w3.ws n (.dK (putD xs kk d')) p (.dK (putK vs kk v))) σ rfl (rm3.ev rs ex rfl) ((Xs.ev l3).trans rm2 r3 (Xs.ev ex))
            · exact p2.elim
          | lst xs => simp only [ek, en] at p2; exact p2.elim
          | ins a b => simp only [ek, en] at p2; exact p2.elim
          | dead => simp only [ek, en] at p2; exact p2.elim
    | _ => simp only [sDPE, q, es, k] at p2; exact p2.elim
theorem RvK.drop {k : Key} : ∀ {kv : List (Key × D)} {ys : List (Key × V)}, RvK g w kv ys → RvK g w (dropD kv k) (dropK ys k)
  | [], ys, h => by unfold RvK at h; subst h; simp [dropD, dropK, RvK]
  | (j, d) :: r, ys, h => by
    unfold RvK at h
    obtain ⟨y, t, e, h1, h2⟩ := h
    subst e
    have ih := RvK.drop (k := k) h2
    unfold dropD dropK at *
    rw [List.filter_cons, List.filter_cons]
    by_cases q : j = k
    · have e1 : decide (j ≠ k) = false := decide_eq_false (fun z => z q)
      rw [if_neg (by rw [e1]; exact Bool.false_ne_true), if_neg (by rw [e1]; exact Bool.false_ne_true)]
      exact ih
    · have e1 : decide (j ≠ k) = true := decide_eq_true q
      rw [if_pos e1, if_pos e1]
      unfold RvK
      exact ⟨y, _, rfl, h1, ih⟩
theorem eDPop_ok {o j : Ex} (h : tEv g W (eDPop o j) σ H Q) : tDPop1 (tEv g W o) (tEv g W j) σ H Q := by
  obtain ⟨w, env, rfl, re, h⟩ := h
  refine ⟨w, env, rfl, re, ?_⟩
  refine Post.step (m' := eDPop o j env w.s) h (fun c s e => by simp only [eDPop, e]) (fun e => by simp only [eDPop, e]) fun x s1 w1 v ea hs1 ht1 e1 p1 => ?_
  cases x with
  | ref n =>
    have r1 := p1.rst
    have rv : Rv g w1 (.ref n) v := p1.2
    unfold Rv at rv
    obtain ⟨p, rfl, hm⟩ := rv
    cases en : s1[n]? with
    | none => simp only [eDPop, ea, en] at h; exact h.elim
    | some ob =>
      cases ob with
      | dK xs =>
        obtain ⟨vs, k1, k2⟩ := r1.ce n p _ hm (by rw [hs1]; exact en)
        refine ⟨p, rfl, .inl ⟨vs, .inl k1⟩, w1, env, rfl, re.next r1 e1 ht1, ?_⟩
        refine Post.step (m' := eDPop o j env w.s) (h.next e1 ht1 fun _ _ w2 _ q => q.back re.st r1 e1) (fun c s e => by rw [hs1] at e; simp only [eDPop, ea, en, e]) (fun e => by rw [hs1] at e; simp only [eDPop, ea, en, e]) fun y s2 w2 u eb hs2 ht2 e2 p2 => ?_
        obtain ⟨r2, o2⟩ := p2.fz
        rw [hs1] at eb
        simp only [eDPop, ea, en, eb] at h
        have hm2 := e2.get hm
        rw [← hs2] at h
        cases ek : kD (fz y) with
        | none => simp only [ek] at h; exact h.elim
        | some k =>
          cases en2 : w2.s[n]? with
          | none => simp only [ek, en2] at h; exact h.elim
          | some ob2 =>
            cases ob2 with
            | dK xs2 =>
              simp only [ek, en2] at h
              obtain ⟨vs2, k3, k4⟩ := r2.ce n p _ hm2 en2
              cases ev : valD xs2 k with
              | none => simp only [ev] at h; exact h.elim
              | some d =>
                simp only [ev] at h
                rcases k4.val k with ⟨q, _⟩ | ⟨d', v', q1, q2, q3⟩
                · rw [ev] at q; cases q
                · rw [ev] at q1; cases q1
                  refine ⟨vs2, k, v', k3, kD_ok o2 ek, q2, ?_⟩
                  have ex := ws_ext (o' := .dK (dropD xs2 k)) (u := .dK (dropK vs2 k)) hm2 en2 dK_nd
                  have rs := ws_rst (o' := .dK (dropD xs2 k)) (u := .dK (dropK vs2 k)) r2 hm2 en2 dK_nd fun c => ⟨_, upd_same, RvK.mono c _ _ k4.drop⟩
                  have e12 := e1.trans e2
                  exact h (w2.ws n (.dK (dropD xs2 k)) p (.dK (dropK vs2 k))) v' rfl (ht2.trans ht1) (e12.trans ex) ((Px.of rs (Rv.mono (Cy.of r2 ex rfl) _ _ q3)).back re.st r2 e12)
            | lst xs => simp only [ek, en2] at h; exact h.elim
            | ins a b => simp only [ek, en2] at h; exact h.elim
            | dead => simp only [ek, en2] at h; exact h.elim
      | lst xs => simp only [eDPop, ea, en] at h; exact h.elim
      | ins a b => simp only [eDPop, ea, en] at h; exact h.elim
      | dead => simp only [eDPop, ea, en] at h; exact h.elim
  | _ => simp only [eDPop, ea] at h; exact h.elim
end
section
variable {X : Cx} {A : Ga} {W : WX} {a b c e o : Expr} {es : List Expr} {ma mb mc : Ex} {mr : Ax} {pos p np apos cpos tpos : Pos} {x y : Str}
theorem ms_par {i j : Nat} {px py pt : Pos} {kt k2 pt2} (hc : X.calm = true) (hN : X.N.Nodup) (ha : MA X A W [a, b] mr) (hi : X.N[i]? = some x := by rfl) (hj : X.N[j]? = some y := by rfl) (hij : i ≠ j := by decide)
    (hx : X.env.scope.names.lookup x = some .local := by rfl) (hy : X.env.scope.names.lookup y = some .local := by rfl)
    (hw : swappedStores [.Tuple [.Name x px, .Name y py] kt pt] (.Tuple [a, b] k2 pt2) X.env = pure (some [x, y]) := by rfl)
    (hs : swapsWithSole [.Tuple [.Name x px, .Name y py] kt pt] (.Tuple [a, b] k2 pt2) pos.line X.env = pure false := by rfl) :
    MS X A W (.Assign [.Tuple [.Name x px, .Name y py] kt pt] (.Tuple [a, b] k2 pt2) pos) (sPar [i, j] mr) := psW (ps_par hc hN hi hj hij hx hy ha hw hs) fun _ _ _ h => sPar_ok h
theorem me_abs (hg : Gl X "abs") (hm : X.mg "abs" = none) (h : ME X A W a ma) (hs : starEach [a] X.env = (false, eval a X.env) :: starEach [] X.env := by rfl) (hpl : (backTo pos (starEach [] X.env)).any (·.1) = false := by rfl) : ME X A W (.Call (.Name "abs" p) [a] [] pos) (eOp1 fAbs ma) :=
  me_call1 call_abs snd_abs ne_abs hg hm (by decide +kernel) h (by decide) (by decide) hs hpl
theorem me_isiC {l : List (Nat × Bool)} {C : Addr} {p2 : Pos} (hc : ∀ c b, l.lookup c = some b → IsiC X.K (A.cl c) ∧ PySem.W.kitOne X.K (.ref (A.cl c)) (.ref C) = some b) (hg : Gl X "isinstance") (hm : X.mg "isinstance" = none) (hg2 : Gl X y) (hm2 : X.mg y = some (.ref C)) (h : ME X A W a ma) (hdb2 : (y == ("__debug__" : Str)) = false := by decide)
    (hs : starEach [a, .Name y p2] X.env = (false, eval a X.env) :: starEach [.Name y p2] X.env := by rfl) (hs2 : starEach [.Name y p2] X.env = (false, eval (.Name y p2) X.env) :: starEach [] X.env := by rfl) (hpl : (backTo pos (starEach [.Name y p2] X.env)).any (·.1) = false := by rfl) :
    ME X A W (.Call (.Name "isinstance" p) [a, .Name y p2] [] pos) (eOp1 (fIsiC l) ma) :=
  peW (pe_callB call_isi hg hm (by decide +kernel) (pa_cons h (pa_cons (pe_glob (v := .ref C) hg2 hm2 rfl hdb2) pa_nil hs2) hs) (by decide) (by decide) hs hpl) fun _ _ _ h => tUn_snd (snd_isiC hc) ne_isiC h
theorem ms_dpE (hu : X.A.units + 1 < cLine) (h : ME X A W e ma) (ho : ME X A W o mc) (k : ME X A W a mb) (hs : swapsWith e (some (.Subscript o a tpos)) pos.line X.env = pure false := by rfl) :
    MS X A W (.Assign [.Subscript o a tpos] e pos) (sDPE mc mb ma) := psW (ps_dput hu ho k h hs) fun _ _ _ h => sDPE_ok h
theorem me_dpop (ho : ME X A W o mc) (k : ME X A W a mb) (m : M1 X o "pop" apos a cpos := by exact ⟨by rfl, by rfl, by rfl, by rfl⟩) : ME X A W (.Call (.Attribute o "pop" apos) [a] [] cpos) (eDPop mc mb) := peW (pe_dpop1 ho k m) fun _ _ _ h => eDPop_ok h
end
end Gm

set_option Elab.async false
set_option linter.all false
set_option maxRecDepth 100000
set_option autoImplicit false
set_option maxHeartbeats 1000000
namespace Gm
open PySem PySem.Spec PyProof.Rows L2
/-! ### sorted of a list of pairs of ints -/
section
variable {X : Cx}
def rSortedZ (K : PySem.W.Frag) : List V → Hp → VK → Prop := fun vs H Q => ∃ (a : Addr) (zs : List (V × (Int × Int))), vs = [V.ref a] ∧ SqL K H a (zs.map (·.1)) ∧ (∀ z ∈ zs, ∃ t, z.1 = V.ref t ∧ SqT K H t [.int z.2.1, .int z.2.2]) ∧
  ∀ (ws : List (V × (Int × Int))) (p : Addr), ws.Perm zs → ws.Pairwise (fun x y => SrtO.lexB y.2 x.2 = false) → H p = none → Q (.ref p) (upd H p (.lst (ws.map (·.1))))
theorem cr_sortedZ : CallR X (.builtin "sorted") (rSortedZ X.K) := by
  intro pins s σ H vs us Q I r h
  obtain ⟨a, zs, rfl, hs, hx, q⟩ := h
  obtain ⟨its, rv, hl, hz⟩ := I.list hs
  obtain ⟨u, rfl, ru⟩ := vals1 r
  obtain rfl : u = Value.ref a := ru
  obtain ⟨e1, e2⟩ := refs_back rv fun x m => by
    obtain ⟨z, hz, rfl⟩ := List.mem_map.mp m
    obtain ⟨t, e, _⟩ := hx z hz
    exact ⟨t, e⟩
  obtain ⟨k, hk⟩ : ∃ k : V → Int × Int, ∀ z ∈ zs, k z.1 = z.2 := by
    classical
    refine ⟨fun v => ((zs.find? fun z => decide (z.1 = v)).map (·.2)).getD (0, 0), fun z hz => ?_⟩
    show ((zs.find? fun y => decide (y.1 = z.1)).map (·.2)).getD (0, 0) = z.2
    cases q : zs.find? fun y => decide (y.1 = z.1) with
    | none => exact absurd (List.find?_eq_none.mp q z hz) (by simp)
    | some y =>
      have hy := List.mem_of_find?_eq_some q
      have e : y.1 = z.1 := by
        have := List.find?_some (p := fun y : V × (Int × Int) => decide (y.1 = z.1)) q
        exact of_decide_eq_true this
      obtain ⟨t, h1, h2⟩ := hx y hy
      obtain ⟨t', h3, h4⟩ := hx z hz
      rw [h1, h3] at e
      cases e
      have e5 := I.tuple_inj h2 h4
      simp only [List.cons.injEq, V.int.injEq, and_true] at e5
      show y.2 = z.2
      exact Prod.ext e5.1 e5.2
  refine SrtO.sorted_pairsO (k := fun u => k (backV u)) hl.isList (by rw [← rv.length]; exact hz) (fun v hv => ?_) fun h' d out h1 h2 kp hd hn => ?_
  · obtain ⟨t, rfl⟩ := e2 v hv
    have hm : V.ref t ∈ zs.map (·.1) := by rw [e1]; exact List.mem_map.mpr ⟨_, hv, rfl⟩
    obtain ⟨z, hz, ez⟩ := List.mem_map.mp hm
    obtain ⟨t', e, ht⟩ := hx _ hz
    rw [ez] at e
    cases e
    obtain ⟨its2, r2, ⟨o, ho, hc, n, hd⟩, _⟩ := I.tuple ht
    obtain ⟨u1, u2, rfl, ri, rj⟩ := vals2 r2
    obtain ⟨t1, rfl⟩ := ri
    obtain ⟨t2, rfl⟩ := rj
    have ek : k (backV (Value.ref t)) = z.2 := by rw [← hk z hz, ez]; rfl
    rw [ek]
    exact ⟨t, o, t1, t2, n, rfl, ho, hc, hd⟩
  · have h3 : ∀ u ∈ out, ∃ a, u = Value.ref a := fun u hu => e2 u (h2.perm.mem_iff.mp hu)
    obtain ⟨n, hn⟩ := hn
    have ez : zs = (zs.map (·.1)).map fun v => (v, k v) := by
      rw [List.map_map]
      conv => lhs; rw [← List.map_id zs]
      exact List.map_congr_left fun z hz => by show z = (z.1, k z.1); rw [hk z hz]
    have hb : (out.map backV).Perm (zs.map (·.1)) := by rw [e1]; exact h2.perm.map _
    have hp : ((out.map backV).map fun v => (v, k v)).Perm zs := by
      conv => rhs; rw [ez]
      exact hb.map _
    have e4 : ((out.map backV).map fun v => (v, k v)).map (·.1) = out.map backV := by rw [List.map_map]; exact List.map_id _
    have hq := q ((out.map backV).map fun v => (v, k v)) d hp (by
      rw [List.pairwise_map, List.pairwise_map]
      exact h1) (I.hok.fresh hd)
    rw [e4] at hq
    refine ⟨.ref d, upd H d (.lst (out.map backV)), I.laid (t' := s.toks) kp hd ⟨?_, out, n, vals_back h3, hn⟩, rfl, hq⟩
    rw [hb.length_eq]
    have := rv.length
    omega
end
/-! ### the mirror's sorting of pairs -/
def lexL (a b : Int × Int) : Bool := decide (a.1 < b.1 ∨ (a.1 = b.1 ∧ a.2 ≤ b.2))
def insP (x : Int × Int) : List (Int × Int) → List (Int × Int)
  | [] => [x]
  | y :: r => if lexL x y = true then x :: y :: r else y :: insP x r
def sortP : List (Int × Int) → List (Int × Int)
  | [] => []
  | x :: r => insP x (sortP r)
theorem insP_perm (x : Int × Int) : ∀ l, (insP x l).Perm (x :: l)
  | [] => .refl _
  | y :: r => by
    unfold insP
    split
    · exact .refl _
    · exact ((insP_perm x r).cons y).trans (.swap x y r)
theorem sortP_perm : ∀ ns, (sortP ns).Perm ns
  | [] => .refl _
  | x :: r => (insP_perm x _).trans ((sortP_perm r).cons x)
theorem lexL_iff {a b : Int × Int} : lexL a b = true ↔ a.1 < b.1 ∨ (a.1 = b.1 ∧ a.2 ≤ b.2) := by unfold lexL; rw [decide_eq_true_eq]
theorem insP_rises (x : Int × Int) : ∀ l : List (Int × Int), l.Pairwise (fun a b => lexL a b = true) → (insP x l).Pairwise (fun a b => lexL a b = true)
  | [], _ => by unfold insP; simp
  | y :: r, h => by
    have h1 := List.pairwise_cons.mp h
    unfold insP
    by_cases q : lexL x y = true
    · rw [if_pos q]
      refine List.pairwise_cons.mpr ⟨fun z hz => ?_, h⟩
      rcases List.mem_cons.mp hz with e | e
      · rw [e]; exact q
      · have := h1.1 z e
        rw [lexL_iff] at this q ⊢; omega
    · rw [if_neg q]
      refine List.pairwise_cons.mpr ⟨fun z hz => ?_, insP_rises x r h1.2⟩
      rcases List.mem_cons.mp ((insP_perm x r).mem_iff.mp hz) with e | e
      · rw [e]; rw [lexL_iff] at q ⊢; omega
      · exact h1.1 z e
theorem sortP_rises : ∀ ns, (sortP ns).Pairwise (fun a b => lexL a b = true)
  | [] => .nil
  | x :: r => insP_rises x _ (sortP_rises r)
theorem eq_sortP {ns ns' : List (Int × Int)} (hp : ns'.Perm ns) (hs : ns'.Pairwise (fun a b => lexL a b = true)) : ns' = sortP ns :=
  List.Perm.eq_of_pairwise (fun a b _ _ h1 h2 => by
    rw [lexL_iff] at h1 h2
    exact Prod.ext (by omega) (by omega)) hs (sortP_rises ns) (hp.trans (sortP_perm ns).symm)
def pr2 : D → Option (Int × Int)
  | .tup [.int i, .int j] => some (i, j)
  | _ => none
def prsD : List D → Option (List (Int × Int))
  | [] => some []
  | d :: r => match pr2 d, prsD r with
    | some p, some l => some (p :: l)
    | _, _ => none
def e2 (p : Int × Int) : D := .tup [.int p.1, .int p.2]
def fSortP : Store → D → R D := fun s a => match (lsD s a).bind prsD with
  | some ps => .ok (.own (.lst ((sortP ps).map e2))) s
  | none => .no
theorem pr2_ok {d : D} {p : Int × Int} (h : pr2 d = some p) : d = e2 p := by
  unfold pr2 at h
  split at h
  · cases h; rfl
  · cases h
theorem prsD_map : ∀ {ps : List (Int × Int)}, prsD (ps.map e2) = some ps
  | [] => rfl
  | p :: r => by
    show prsD (e2 p :: r.map e2) = _
    unfold prsD
    rw [prsD_map]; rfl
section
variable {g : Gc} {w w' : Wd}
theorem prsD_ok : ∀ {xs : List D} {ps : List (Int × Int)} {ys : List V}, prsD xs = some ps → RvL g w xs ys → ∃ zs : List (V × (Int × Int)), zs.map (·.1) = ys ∧ zs.map (·.2) = ps ∧ ∀ z ∈ zs, Rv g w (e2 z.2) z.1
  | [], ps, ys, e, h => by cases e; unfold RvL at h; exact ⟨[], by rw [h]; rfl, rfl, by simp⟩
  | d :: r, ps, ys, e, h => by
    unfold prsD at e
    split at e
    · rename_i p l h1 h2
      cases e
      unfold RvL at h
      obtain ⟨y, t, rfl, h3, h4⟩ := h
      obtain ⟨zs, k1, k2, k3⟩ := prsD_ok h2 h4
      rw [pr2_ok h1] at h3
      refine ⟨(y, p) :: zs, by simp [k1], by simp [k2], fun z hz => ?_⟩
      rcases List.mem_cons.mp hz with z1 | z1
      · rw [z1]; exact h3
      · exact k3 z z1
    · cases e
theorem e2_sqT {p : Int × Int} {v : V} (h : Rv g w (e2 p) v) : ∃ t, v = .ref t ∧ SqT g.K w.H t [.int p.1, .int p.2] := by
  unfold e2 Rv at h
  obtain ⟨t, ys, rfl, h1, h2⟩ := h
  unfold RvL at h2
  obtain ⟨y1, t1, rfl, h3, h4⟩ := h2
  unfold RvL at h4
  obtain ⟨y2, t2, rfl, h5, h6⟩ := h4
  unfold RvL at h6
  subst h6
  unfold Rv at h3 h5
  subst h3; subst h5
  exact ⟨t, rfl, h1⟩
theorem rvL_zs : ∀ {zs : List (V × (Int × Int))}, (∀ z ∈ zs, Rv g w (e2 z.2) z.1) → RvL g w ((zs.map (·.2)).map e2) (zs.map (·.1))
  | [], _ => by show RvL g w [] []; unfold RvL; rfl
  | z :: r, h => by
    show RvL g w (e2 z.2 :: (r.map (·.2)).map e2) (z.1 :: r.map (·.1))
    unfold RvL
    exact ⟨_, _, rfl, h z (List.mem_cons_self ..), rvL_zs fun y hy => h y (List.mem_cons_of_mem _ hy)⟩
theorem snd_sortP : Snd1 g fSortP fun x H Q => rSortedZ g.K [x] H Q := by
  intro w a x Q r pa h
  unfold fSortP at h
  split at h
  · rename_i ps e
    obtain ⟨xs, e1, e2'⟩ := Option.bind_eq_some_iff.mp e
    obtain ⟨p, ys, rfl, k2, k3⟩ := lsD_ok r pa e1
    obtain ⟨zs, z1, z2, z3⟩ := prsD_ok e2' k3
    refine ⟨p, zs, rfl, by rw [z1]; exact k2, fun z hz => e2_sqT (z3 z hz), fun ws l hp hs hl => ?_⟩
    have z4 : ∀ z ∈ ws, Rv g w (e2 z.2) z.1 := fun z hz => z3 z (hp.mem_iff.mp hz)
    have es : ws.map (·.2) = sortP ps := by
      refine eq_sortP (by rw [← z2]; exact hp.map _) ?_
      rw [List.pairwise_map]
      refine hs.imp fun {x y} hxy => ?_
      have := SrtO.lexB_no.mp hxy
      rw [lexL_iff]; omega
    have rl := rvL_zs z4
    rw [es] at rl
    exact h { w with H := upd w.H l (.lst (ws.map (·.1))) } _ rfl rfl (new_ext hl) (Px.newL r hl rl)
  · exact h.elim
theorem ne_sortP : ∀ s x k s', fSortP s x ≠ .exc k s' := by intro s x k s'; unfold fSortP; split <;> exact fun z => nomatch z
end
section
variable {X : Cx} {A : Ga} {W : WX} {a : Expr} {ma : Ex} {pos p : Pos}
theorem me_sortP (hg : Gl X "sorted") (hm : X.mg "sorted" = none) (h : ME X A W a ma) (hs : starEach [a] X.env = (false, eval a X.env) :: starEach [] X.env := by rfl) (hpl : (backTo pos (starEach [] X.env)).any (·.1) = false := by rfl) : ME X A W (.Call (.Name "sorted" p) [a] [] pos) (eOp1 fSortP ma) :=
  me_call1 cr_sortedZ snd_sortP ne_sortP hg hm (by decide +kernel) h (by decide) (by decide) hs hpl
end
end Gm

set_option Elab.async false
set_option linter.all false
set_option maxRecDepth 100000
set_option autoImplicit false
set_option maxHeartbeats 1000000
namespace Gm
open PySem PySem.Spec PyProof.Rows L2
/-! ### what is looked at for isinstance of an own class, and for a def read off a class -/
def isiB (K : PySem.W.Frag) (C : Addr) : Bool := He.eqO (PySem.W.findIn K (.ref C) "__class__") (some (some (.builtin "object.__class__"))) && (He.eqO (PySem.W.specialIn K (.builtin "object.__class__") "__get__") (some (some (.builtin "getset_descriptor.__get__"))) &&
  (decide (PySem.W.takesIn K (.builtin "object.__class__") = some true) && decide (PySem.W.mroIn K C (.type "object") = some true)))
theorem isiB_ok {K : PySem.W.Frag} {C : Addr} (h : isiB K C = true) (c : Cls K C) : IsiC K C := by
  obtain ⟨h1, h⟩ := He.ba h
  obtain ⟨h2, h⟩ := He.ba h
  obtain ⟨h3, h4⟩ := He.ba h
  exact ⟨c, He.eqO_ok h1, He.eqO_ok h2, of_decide_eq_true h3, of_decide_eq_true h4⟩
end Gm

set_option Elab.async false
set_option linter.all false
set_option maxRecDepth 100000
set_option autoImplicit false
set_option maxHeartbeats 1000000
namespace Gm
open PySem PySem.Spec PyProof.Rows L2
/-! ### try with several clauses, none with a name -/
def trM : List (List Bool × Sx) → Nat → Env → Store → SR
  | [], k, env, s => .exc k env s
  | (ct, m) :: r, k, env, s => match ct[k]? with
    | some true => if noX env = true then (match m env s with
      | .nx e2 s2 => if noX e2 = true then .nx e2 s2 else .no
      | .rt d s2 => .rt d s2
      | _ => .no) else .no
    | some false => trM r k env s
    | none => .no
def sTryM (cs : List (List Bool × Sx)) (body : Sx) : Sx := fun env s => match body env s with
  | .exc k env' s' => trM cs k env' s'
  | r => r
section
variable {env : Env} {σ : Sl} {H : Hp} {Dn : Ends}
/-- what a clause's suite wishes -/
def tsM (K : PySem.W.Frag) (A : Nat → Addr) (ct : List Bool) (m : Sx) (a : Addr) (cls : Value) (d : Option Addr) : TS := fun D2 σ H => ∃ k, ct[k]? = some true ∧ cls = .ref (A k) ∧ d = none ∧ tSt ⟨K, A, some a⟩ W0 m D2 σ H
def lsM (K : PySem.W.Frag) (A : Nat → Addr) (cs : List (Value × List Bool × Sx)) : List (Value × (Addr → Value → Option Addr → TS)) := cs.map fun z => (z.1, tsM K A z.2.1 z.2.2)
theorem sTryM_ok {g0 : Gc} (hg0 : g0.x = none) {cs : List (Value × List Bool × Sx)} {body : Sx} {Wout : WX} (hct : ∀ z ∈ cs, ∀ k b, z.2.1[k]? = some b → PySem.W.exmOne g0.K (.ref (g0.A k)) z.1 = some b) (h : tSt g0 Wout (sTryM (cs.map (·.2)) body) Dn σ H) :
    tSt g0 (wMany g0.K Wout Dn (lsM g0.K g0.A cs)) body Dn σ H := by
  obtain ⟨w, env, tb, rfl, r, h⟩ := h
  refine ⟨w, env, tb, rfl, r, ?_⟩
  cases q : body env w.s with
  | nx e s => simp only [sTryM, q] at h; exact h
  | rt d s => simp only [sTryM, q] at h; exact h
  | bk e s => simp only [sTryM, q] at h; exact h
  | ct e s => simp only [sTryM, q] at h; exact h
  | no => simp only [sTryM, q] at h; exact h
  | exc k env' s' =>
    intro w1 σ1 h1 r1 x1
    simp only [sTryM, q] at h
    induction cs with
    | nil =>
      simp only [List.map_nil, trM] at h
      exact h w1 σ1 h1 r1 x1
    | cons z r0 ih =>
      obtain ⟨c, ct, m⟩ := z
      simp only [List.map_cons, trM] at h
      cases ek : ct[k]? with
      | none => simp only [ek] at h; exact h.elim
      | some b =>
        refine ⟨b, hct _ (List.mem_cons_self ..) k b ek, fun hb => ?_, fun hb => ?_⟩
        · subst hb
          simp only [ek] at h
          split at h
          · rename_i hn
            intro a ha
            refine ⟨k, ek, rfl, rfl, ?_⟩
            have r2 : Rm (g0.at (some a)) tb w1 env' σ1 := r1.ground hn
            refine ⟨w1, env', tb, rfl, r2, ?_⟩
            have es : ({ K := g0.K, A := g0.A, x := none } : Gc) = g0 := by cases g0; cases hg0; rfl
            rw [h1]
            show PostS _ tb W0 w1 env' σ1 Dn (m env' s')
            cases qs : m env' s' with
            | nx e2' s2 =>
              simp only [qs] at h
              split at h
              · rename_i hn2
                intro w4 σ4 h4 r4 x4
                have r6 : Rm g0 tb w4 e2' σ4 := es ▸ (r4.ground (x := none) hn2)
                exact h w4 _ h4 r6 (x1.trans r r1.re.st x4)
              · exact h.elim
            | rt d s2 =>
              simp only [qs] at h
              intro w4 v h4 t4 x4 p4
              refine h w4 v h4 t4 (x1.e.transS x4 x1.ow) ?_
              have p5 : Pt g0 (owns env' σ1) w1.H w4 d v := by
                have z := p4.ground (x := none)
                exact es ▸ z
              exact p5.imp fun p z => by
                rcases z with z | z
                · exact backS r r1.re.st x1.e z
                · rcases x1.ow p z with q | q
                  · exact .inr q
                  · exact .inl q
            | bk e s => simp only [qs] at h; exact h.elim
            | ct e s => simp only [qs] at h; exact h.elim
            | exc k2 e s => simp only [qs] at h; exact h.elim
            | no => simp only [qs] at h; exact h.elim
          · exact h.elim
        · subst hb
          simp only [ek] at h
          exact ih (fun z hz => hct z (List.mem_cons_of_mem _ hz)) h
end
section
variable {X : Cx} {A : Nat → Addr} {W : WX}
theorem hm_nil : HdsOk X [] (lsM X.K A []) := .nil
theorem hm_cons {x : Str} {c : Value} {ct : List Bool} {b0 : Stmt} {suite : List Stmt} {ms : Sx} {np pos' : Pos} {hds : List ExceptHandler} {cs : List (Value × List Bool × Sx)} (hc : Names X x c)
    (hsu : ∀ (a : Addr) (oe : Obj) (pn : List (Addr × Obj)), (∃ vs, oe.data = .fields vs) → MSs (X.suite a ((a, oe) :: pn)) ⟨A, some a⟩ W0 (b0 :: suite) ms) (r : HdsOk X hds (lsM X.K A cs)) :
    HdsOk X (.ExceptHandler (some (.Name x np)) none (b0 :: suite) pos' :: hds) (lsM X.K A ((c, ct, ms) :: cs)) :=
  .cons hc (fun a oe cls d pn hz hfd => ⟨fun pins s σ H D I h => by
    obtain ⟨k, hk, rfl, rfl, h⟩ := h
    exact (hsu a oe pn hfd).run pins s σ H D I h⟩) r
theorem ms_tryM {body : List Stmt} {h0 : ExceptHandler} {hds : List ExceptHandler} {mb : Sx} {pos : Pos} (cs : List (Value × List Bool × Sx)) (hs : X.stack = X.env :: X.outer) (hf : X.env.frame = some X.env.locals) (tk : Takes X W)
    (hct : ∀ z ∈ cs, ∀ k b, z.2.1[k]? = some b → PySem.W.exmOne X.K (.ref (A k)) z.1 = some b)
    (hb : ∀ (W' : WX) (pn : List (Addr × Obj)) (xe : Value → Shared → Prop), Takes (X.tr pn xe) W' → PassesOwn (model X.prog X.w) X.A X.env xe → MSs (X.tr pn xe) ⟨A, none⟩ W' body mb)
    (hh : HdsOk X (h0 :: hds) (lsM X.K A cs)) : MS X ⟨A, none⟩ W (.Try body (h0 :: hds) [] [] pos) (sTryM (cs.map (·.2)) mb) :=
  psW (ps_try_many (tb := fun W' => tSt (gx X ⟨A, none⟩) W' mb) hs hf tk hb hh) fun _ _ _ h => sTryM_ok (g0 := gx X ⟨A, none⟩) rfl hct h
theorem hct_nil {K : PySem.W.Frag} : ∀ z ∈ ([] : List (Value × List Bool × Sx)), ∀ k b, z.2.1[k]? = some b → PySem.W.exmOne K (.ref (A k)) z.1 = some b := fun z h => by cases h
theorem hct_cons {K : PySem.W.Frag} {c : Value} {ct : List Bool} {m : Sx} {cs : List (Value × List Bool × Sx)} (h : ∀ k b, ct[k]? = some b → PySem.W.exmOne K (.ref (A k)) c = some b) (r : ∀ z ∈ cs, ∀ k b, z.2.1[k]? = some b → PySem.W.exmOne K (.ref (A k)) z.1 = some b) :
    ∀ z ∈ (c, ct, m) :: cs, ∀ k b, z.2.1[k]? = some b → PySem.W.exmOne K (.ref (A k)) z.1 = some b := fun z hz => by
  rcases List.mem_cons.mp hz with rfl | q
  · exact h
  · exact r z q
end
end Gm

set_option Elab.async false
set_option linter.all false
set_option maxRecDepth 100000
set_option autoImplicit false
set_option maxHeartbeats 1000000
namespace Gm
open PySem PySem.Spec PyProof.Rows L2
/-! ### a table of the module: texts to whole numbers -/
abbrev Tbl := List (Str × Int)
/-- z in table, of the texts that were looked at -/
def fTIn (neg : Bool) (t : List (Str × Option Int)) : Store → D → R D := fun s a => match a with
  | .str z => (match t.lookup z with
    | some r => .ok (.bl (if neg then !r.isSome else r.isSome)) s
    | none => .no)
  | _ => .no
def fTGet (t : List (Str × Option Int)) : Store → D → R D := fun s a => match a with
  | .str z => (match t.lookup z with
    | some (some i) => .ok (.int i) s
    | _ => .no)
  | _ => .no
/-- what is known of a table -/
structure TabK (K : PySem.W.Frag) (w : World) (a : Addr) (t : List (Str × Option Int)) : Prop where
  kd : ∃ es n, KDict K w a es n
  look : ∀ z r, t.lookup z = some r → ∃ u, PySem.W.nsIn K a z = some u ∧ (r = none → u = none) ∧ (∀ i, r = some i → ∃ tk, u = some (.int i tk))
def tabB (K : PySem.W.Frag) (a : Addr) (t : List (Str × Option Int)) : Bool := t.all fun q => match PySem.W.nsIn K a q.1, q.2 with
  | some none, none => true
  | some (some (.int i _)), some j => decide (i = j)
  | _, _ => false
theorem tabB_ok {K : PySem.W.Frag} {a : Addr} {t : List (Str × Option Int)} (h : tabB K a t = true) : ∀ z r, t.lookup z = some r → ∃ u, PySem.W.nsIn K a z = some u ∧ (r = none → u = none) ∧ (∀ i, r = some i → ∃ tk, u = some (.int i tk)) := by
  intro z r hz
  have hm : (z, r) ∈ t := by
    induction t with
    | nil => cases hz
    | cons q l ih =>
      obtain ⟨k, v⟩ := q
      rw [List.lookup_cons] at hz
      by_cases e : (z == k) = true
      · rw [e] at hz
        simp only [Option.some.injEq] at hz
        have : z = k := by simpa using e
        rw [this, ← hz]; exact List.mem_cons_self ..
      · have e' : (z == k) = false := by simpa using e
        rw [e'] at hz
        refine List.mem_cons_of_mem _ (ih ?_ hz)
        unfold tabB at h ⊢
        simp only [List.all_cons, Bool.and_eq_true] at h
        exact h.2
  have h2 := List.all_eq_true.mp h _ hm
  simp only at h2
  cases e : PySem.W.nsIn K a z with
  | none => rw [e] at h2; cases r <;> cases h2
  | some u =>
    rw [e] at h2
    refine ⟨u, rfl, fun hr => ?_, fun i hr => ?_⟩
    · subst hr
      cases u with
      | none => rfl
      | some v => cases v <;> cases h2
    · subst hr
      cases u with
      | none => cases h2
      | some v => cases v with
        | int j tk => exact ⟨tk, by rw [of_decide_eq_true h2]⟩
        | _ => cases h2
theorem snd_tIn {g : Gc} {wl : World} {d : Addr} {t : List (Str × Option Int)} (T : TabK g.K wl d t) : Snd1 g (fTIn false t) fun x H Q => ∃ (z : Str) (r : Option Value), x = .str z ∧ (V.ref d) = .ref d ∧ PySem.W.nsIn g.K d z = some r ∧ Q (.bl r.isSome) H := by
  intro w a x Q r pa h
  unfold fTIn at h
  split at h
  · rename_i z
    split at h
    · rename_i o ho
      obtain ⟨u, h1, h2, h3⟩ := T.look z o ho
      have hu : u.isSome = o.isSome := by
        cases o with
        | none => rw [h2 rfl]; rfl
        | some i => obtain ⟨tk, e⟩ := h3 i rfl; rw [e]; rfl
      refine ⟨z, u, po_str pa, rfl, h1, ?_⟩
      rw [hu]
      exact h.pure r rv_bl
    · exact h.elim
  · exact h.elim
theorem snd_tNin {g : Gc} {wl : World} {d : Addr} {t : List (Str × Option Int)} (T : TabK g.K wl d t) : Snd1 g (fTIn true t) fun x H Q => ∃ (z : Str) (r : Option Value), x = .str z ∧ (V.ref d) = .ref d ∧ PySem.W.nsIn g.K d z = some r ∧ Q (.bl (!r.isSome)) H := by
  intro w a x Q r pa h
  unfold fTIn at h
  split at h
  · rename_i z
    split at h
    · rename_i o ho
      obtain ⟨u, h1, h2, h3⟩ := T.look z o ho
      have hu : u.isSome = o.isSome := by
        cases o with
        | none => rw [h2 rfl]; rfl
        | some i => obtain ⟨tk, e⟩ := h3 i rfl; rw [e]; rfl
      refine ⟨z, u, po_str pa, rfl, h1, ?_⟩
      rw [hu]
      exact h.pure r rv_bl
    · exact h.elim
  · exact h.elim
theorem ne_tIn {b : Bool} {t : List (Str × Option Int)} : ∀ s x k s', fTIn b t s x ≠ .exc k s' := by
  intro s x k s'
  unfold fTIn
  split
  · split <;> exact fun z => nomatch z
  · exact fun z => nomatch z
theorem ne_tGet {t : List (Str × Option Int)} : ∀ s x k s', fTGet t s x ≠ .exc k s' := by
  intro s x k s'
  unfold fTGet
  split
  · split <;> exact fun z => nomatch z
  · exact fun z => nomatch z
theorem snd_tGet {g : Gc} {wl : World} {d : Addr} {t : List (Str × Option Int)} (T : TabK g.K wl d t) : Snd1 g (fTGet t) fun y H Q => rIxD g.K wl (.ref d) y H Q := by
  intro w a x Q r pa h
  unfold fTGet at h
  split at h
  · rename_i z
    split at h
    · rename_i i ho
      obtain ⟨u, h1, h2, h3⟩ := T.look z _ ho
      obtain ⟨tk, e⟩ := h3 i rfl
      obtain ⟨es, n, kd⟩ := T.kd
      subst e
      exact ⟨d, z, .int i, rfl, po_str pa, ⟨es, n, _, kd.at_, kd.lit, h1, ⟨tk, rfl⟩⟩, h.pure r rv_int⟩
    · exact h.elim
  · exact h.elim
section
variable {X : Cx} {A : Ga} {W : WX} {a b c : Expr} {ma mb : Ex} {m : Sx} {pos : Pos} {ss : List Stmt} {tx : Expr}
theorem me_tin {x : Str} {d : Addr} {t : List (Str × Option Int)} {p : Pos} (T : TabK X.K X.w d t) (hg : Gl X x) (hm : X.mg x = some (.ref d)) (ha : ME X A W a ma) (hd : (x == ("__debug__" : Str)) = false := by decide) (hb : behindInMarks .In (.Name x p) = false := by rfl) :
    ME X A W (.Compare a [.In] [.Name x p] pos) (eOp1 (fTIn false t) ma) := by
  obtain ⟨es, n, D⟩ := T.kd
  exact peW (pe_cmpR (op_in_kd D) ha (pe_glob (v := .ref d) hg hm rfl hd) hb) fun _ _ _ h => tUn_snd (snd_tIn T) ne_tIn h
theorem me_tnin {x : Str} {d : Addr} {t : List (Str × Option Int)} {p : Pos} (T : TabK X.K X.w d t) (hg : Gl X x) (hm : X.mg x = some (.ref d)) (ha : ME X A W a ma) (hd : (x == ("__debug__" : Str)) = false := by decide) (hb : behindInMarks .NotIn (.Name x p) = false := by rfl) :
    ME X A W (.Compare a [.NotIn] [.Name x p] pos) (eOp1 (fTIn true t) ma) := by
  obtain ⟨es, n, D⟩ := T.kd
  exact peW (pe_cmpR (op_notIn_kd D) ha (pe_glob (v := .ref d) hg hm rfl hd) hb) fun _ _ _ h => tUn_snd (snd_tNin T) ne_tIn h
theorem mt_tin {x : Str} {d : Addr} {t : List (Str × Option Int)} {p : Pos} (T : TabK X.K X.w d t) (hg : Gl X x) (hm : X.mg x = some (.ref d)) (ha : ME X A W a ma) (hd : (x == ("__debug__" : Str)) = false := by decide) (hb : behindInMarks .In (.Name x p) = false := by rfl) :
    MT X A W (.Compare a [.In] [.Name x p] pos) (tq (eOp1 (fTIn false t) ma)) := by
  obtain ⟨es, n, D⟩ := T.kd
  exact ptW (pt_cmpR (op_in_kd D) ha (pe_glob (v := .ref d) hg hm rfl hd) hb) fun _ _ _ h => tUn_snd (snd_tIn T) ne_tIn (tq_ok h)
theorem mt_tnin {x : Str} {d : Addr} {t : List (Str × Option Int)} {p : Pos} (T : TabK X.K X.w d t) (hg : Gl X x) (hm : X.mg x = some (.ref d)) (ha : ME X A W a ma) (hd : (x == ("__debug__" : Str)) = false := by decide) (hb : behindInMarks .NotIn (.Name x p) = false := by rfl) :
    MT X A W (.Compare a [.NotIn] [.Name x p] pos) (tq (eOp1 (fTIn true t) ma)) := by
  obtain ⟨es, n, D⟩ := T.kd
  exact ptW (pt_cmpR (op_notIn_kd D) ha (pe_glob (v := .ref d) hg hm rfl hd) hb) fun _ _ _ h => tUn_snd (snd_tNin T) ne_tIn (tq_ok h)
theorem me_tget {x : Str} {d : Addr} {t : List (Str × Option Int)} {p : Pos} (T : TabK X.K X.w d t) (hg : Gl X x) (hm : X.mg x = some (.ref d)) (hb : ME X A W b mb) (hd : (x == ("__debug__" : Str)) = false := by decide) (hs : PlainIx b := by first | exact plain_ix rfl | (intro _ _; rfl)) :
    ME X A W (.Subscript (.Name x p) b pos) (eOp1 (fTGet t) mb) :=
  peW (pe_ix ix_kdict (pe_glob (v := .ref d) hg hm rfl hd) hb hs) fun _ _ _ h => tUn_snd (snd_tGet T) ne_tGet h
/-! ### a tuple of the module: texts, whole numbers -/
theorem me_gtup {x : Str} {d : Addr} {xs : List D} (hm : X.mg x = some (.ref d)) (hg : Gl X x) (hr : ∀ w, Rv (gx X A) w (.tup xs) (.ref d)) (hd : (x == ("__debug__" : Str)) = false := by decide) : ME X A W (.Name x pos) (eC (.tup xs)) :=
  peW (pe_glob (v := .ref d) hg hm rfl hd) fun _ _ _ h => tC_snd hr h
def dvK : D → He.Dv
  | .int i => .int i
  | .str x => .str x
  | _ => .non
def tupK (K : PySem.W.Frag) (x : Str) (xs : List D) : Bool := xs.all (fun d => match d with
  | .int _ => true
  | .str _ => true
  | _ => false) && He.tupB K x (xs.map dvK)
theorem tupK_ok {K : PySem.W.Frag} {x : Str} {xs : List D} {g : Gc} (hg : g.K = K) (h : tupK K x xs = true) (w : Wd) : Rv g w (.tup xs) (.ref (He.ga K x)) := by
  unfold tupK at h
  simp only [Bool.and_eq_true] at h
  obtain ⟨h1, h2⟩ := h
  unfold Rv
  refine ⟨He.ga K x, (xs.map dvK).map (He.Dv.v K), rfl, ?_, ?_⟩
  · rw [hg]; exact He.tupB_ok h2 w.H
  · clear h2
    induction xs with
    | nil => unfold RvL; rfl
    | cons d r ih =>
      simp only [List.all_cons, Bool.and_eq_true] at h1
      show RvL g w (d :: r) ((dvK d).v K :: (r.map dvK).map (He.Dv.v K))
      unfold RvL
      refine ⟨_, _, rfl, ?_, ih h1.2⟩
      cases d <;> first | exact rv_int | exact rv_str | (exact absurd h1.1 (by simp))
/-! ### list(range(n)) -/
def fRngL : Store → D → R D := fun s a => match a with
  | .int j => if rOk j = true ∧ j ≤ 16777216 then .ok (.own (.lst ((List.range j.toNat).map fun i : Nat => D.int (i : Int)))) s else .no
  | _ => .no
theorem RvL.rng {g : Gc} {w : Wd} : ∀ l : List Nat, RvL g w (l.map fun i : Nat => D.int (i : Int)) (l.map fun i : Nat => V.int (0 + (i : Int)))
  | [] => by unfold RvL; rfl
  | i :: l => by
    show RvL g w (D.int (i : Int) :: _) _
    unfold RvL
    exact ⟨_, _, rfl, by show Rv g w (D.int (i : Int)) (V.int (0 + (i : Int))); rw [Int.zero_add]; exact rv_int, RvL.rng l⟩
theorem me_listRg {p p2 pos2 : Pos} (hc : X.calm = true) (hg : Gl X "list") (hm : X.mg "list" = none) (hg2 : Gl X "range") (hm2 : X.mg "range" = none) (ha : ME X A W a ma) (na : starEach [.Call (.Name "range" p2) [a] [] pos2] X.env = (false, eval (.Call (.Name "range" p2) [a] [] pos2) X.env) :: starEach [] X.env := by rfl)
    (na2 : starEach [a] X.env = (false, eval a X.env) :: starEach [] X.env := by rfl) : ME X A W (.Call (.Name "list" p) [.Call (.Name "range" p2) [a] [] pos2] [] pos) (eOp1 fRngL ma) := by
  refine peW (pe_listRg hc hg hm (prg_1 hg2 hm2 ha na2) na) fun σ H Q h => ?_
  refine tUn_snd (r := fun x H1 Q => ∃ n, x = V.int n ∧ RgOk 0 n ∧ ∀ q, H1 q = none → Q (.ref q) (upd H1 q (.lst (rgV 0 n)))) (f := fRngL) ?_ ?_ h
  · intro w d x Q r pa h
    unfold fRngL at h
    split at h
    · rename_i j
      split at h
      · rename_i hj
        have h1 := hj.1
        unfold rOk at h1
        simp only [Bool.and_eq_true, decide_eq_true_eq] at h1
        refine ⟨j, po_int pa, ⟨by omega, by omega, by omega, by omega, by omega⟩, fun q hq => ?_⟩
        refine h { w with H := upd w.H q (.lst (rgV 0 j)) } _ rfl rfl (new_ext hq) (Px.newL r hq ?_)
        unfold rgV
        rw [Int.sub_zero]
        exact RvL.rng _
      · exact h.elim
    · exact h.elim
  · intro s x k s'
    unfold fRngL
    split
    · split <;> exact fun z => nomatch z
    · exact fun z => nomatch z
end
/-! ### for x, y in zip(a, b) -/
def zipAt (s : Store) (da db : D) (i : Nat) : Option (Option (D × D)) := match dr s da, dr s db with
  | some (.lst xs), some (.lst ys) => (match xs[i]?, ys[i]? with
    | some x, some y => some (some (x, y))
    | _, _ => some none)
  | _, _ => none
def forZX (body : Sx) (js : List Nat) (da db : D) : Nat → Nat → Env → Store → SR
  | 0, _, _, _ => .no
  | f + 1, i, env, s => match zipAt s da db i with
    | none => .no
    | some none => .nx env s
    | some (some (x, y)) => match tgE (.tp js) (.tup [x, y]) env with
      | none => .no
      | some env1 => match body env1 s with
        | .nx e s' => forZX body js da db f (i + 1) e s'
        | .ct e s' => forZX body js da db f (i + 1) e s'
        | .bk e s' => .nx e s'
        | r => r
def sForZ (js : List Nat) (a : Ax) (body : Sx) : Sx := fun env s => match a env s with
  | .ok [da, db] s' => (match dr s' da, dr s' db with
    | some (.lst xs), some (.lst _) => forZX body js da db (xs.length + 1) 0 env s'
    | _, _ => .no)
  | .ok _ _ => .no
  | .exc c s' => .exc c env s'
  | .no => .no
section
variable {g : Gc} {tb : List Addr} {w w' w1 w2 w3 : Wd} {env env' env1 env2 : Env} {σ σ' σ1 σ2 : Sl} {W : WX} {Dn : Ends} {H : Hp}
theorem sForZ_ok {js : List Nat} {a : Ax} {body : Sx} (h : tSt g W (sForZ js a body) Dn σ H) : tFor (RZ.iZipA g.K (tAe g W a)) (tgT g.K (.tp js)) (tSt g W body) Dn σ H := by
  obtain ⟨w, env, tb, rfl, r, h⟩ := h
  refine ⟨w, env, rfl, r.re, ?_⟩
  cases q : a env w.s with
  | no => simp only [sForZ, q] at h; exact h
  | exc c s' =>
    simp only [sForZ, q] at h
    exact fun w' h1 h2 h3 h4 => h w' σ h1 (r.ev h4 h3 h2) (Xs.ev h3)
  | ok ds s1 =>
    simp only [sForZ, q] at h
    intro w1 vs h1 h2 h3 h4
    match ds, h, h4 with
    | [], h, h4 => exact h.elim
    | [_], h, h4 => exact h.elim
    | _ :: _ :: _ :: _, h, h4 => exact h.elim
    | [da, db], h, h4 =>
      simp only at h
      obtain ⟨h4r, h4v⟩ := h4
      have r1 := r.ev h4r h3 h2
      cases ea : dr s1 da with
      | none => simp only [ea] at h; exact h.elim
      | some oa =>
        cases oa with
        | lst xs =>
          cases eb : dr s1 db with
          | none => simp only [ea, eb] at h; exact h.elim
          | some ob =>
            cases ob with
            | lst ys =>
              simp only [ea, eb] at h
              unfold RvL at h4v
              obtain ⟨va, vr, rfl, ra, h5⟩ := h4v
              unfold RvL at h5
              obtain ⟨vb, vr2, rfl, rb, h6⟩ := h5
              unfold RvL at h6
              subst h6
              have dra : dr w1.s da = some (.lst xs) := by rw [h1]; exact ea
              have drb : dr w1.s db = some (.lst ys) := by rw [h1]; exact eb
              obtain ⟨pa, us, rfl, ha2, ha3⟩ := dr_lst h4r ra.po dra
              obtain ⟨pb, us2, rfl, hb2, hb3⟩ := dr_lst h4r rb.po drb
              refine ⟨pa, pb, us, us2, rfl, .inl ⟨ha2, hb2, ?_⟩⟩
              refine ⟨fun i m σ H => ∃ (w2 : Wd) (env2 : Env), w2.H = H ∧ Rm g tb w2 env2 σ ∧ (Rv g w2 da (.ref pa) ∧ Rv g w2 db (.ref pb)) ∧ PostS g tb W w2 env2 σ Dn (forZX body js da db m i env2 w2.s), ⟨xs.length + 1, w1, env, rfl, r1, ⟨ra, rb⟩, ?_⟩, ?_⟩
              · rw [h1]; exact h.next r r1.re.st (Xs.ev h3)
              · rintro i m σ H ⟨w2, env2, rfl, r2, ⟨j1, j2⟩, p2⟩
                cases m with
                | zero => exact p2.elim
                | succ m =>
                  cases ei : zipAt w2.s da db i with
                  | none => simp only [forZX, ei] at p2; exact p2.elim
                  | some o =>
                    unfold zipAt at ei
                    cases fa : dr w2.s da with
                    | none => rw [fa] at ei; cases ei
                    | some oa2 =>
                      cases oa2 with
                      | lst xs2 =>
                        cases fb : dr w2.s db with
                        | none => rw [fa, fb] at ei; cases ei
                        | some ob2 =>
                          cases ob2 with
                          | lst ys2 =>
                            rw [fa, fb] at ei
                            simp only at ei
                            obtain ⟨pa', vs, e1, k2, k3⟩ := dr_lst r2.re.st j1.po fa
                            cases e1
                            obtain ⟨pb', vs2, e1, l2, l3⟩ := dr_lst r2.re.st j2.po fb
                            cases e1
                            have ei2 : zipAt w2.s da db i = (match xs2[i]?, ys2[i]? with
                              | some x, some y => some (some (x, y))
                              | _, _ => some none) := by unfold zipAt; rw [fa, fb]
                            cases qx : xs2[i]? with
                            | none =>
                              rw [qx] at ei2
                              simp only [forZX, ei2] at p2
                              exact .inl ⟨⟨vs, vs2, k2, l2, .inl (by rw [k3.length]; exact List.getElem?_eq_none_iff.mp qx)⟩, p2 w2 σ rfl r2 Xs.refl⟩
                            | some dx =>
                              cases qy : ys2[i]? with
                              | none =>
                                rw [qx, qy] at ei2
                                simp only [forZX, ei2] at p2
                                exact .inl ⟨⟨vs, vs2, k2, l2, .inr (by rw [l3.length]; exact List.getElem?_eq_none_iff.mp qy)⟩, p2 w2 σ rfl r2 Xs.refl⟩
                              | some dy =>
                                rw [qx, qy] at ei2
                                simp only at ei2
                                obtain ⟨vx, x1, x2⟩ := k3.get qx
                                obtain ⟨vy, y1, y2⟩ := l3.get qy
                                refine .inr ⟨⟨vs, vs2, vx, vy, k2, l2, x1, y1⟩, fun σ' H' => ∃ (w3 : Wd) (env3 : Env), w3.H = H' ∧ Rm g tb w3 env3 σ' ∧ (Rv g w3 da (.ref pa) ∧ Rv g w3 db (.ref pb)) ∧ PostS g tb W w3 env3 σ' Dn (forZX body js da db m (i + 1) env3 w3.s), fun σ' H' z => ⟨m, Nat.lt_succ_self m, z⟩, fun x H' y => ?_⟩
                                obtain ⟨T, ux, uy, rfl, hT, rfl, f1, f2⟩ := y
                                have g1 := f1 vs k2
                                have g2 := f2 vs2 l2
                                rw [x1] at g1; cases g1
                                rw [y1] at g2; cases g2
                                have cyT : Cy g [] w2 { w2 with H := upd w2.H T (.tup [vx, vy]) } := new_cy r2.re.st hT (T := w2.T) (fun q h => .inl h)
                                have rT : Rst g { w2 with H := upd w2.H T (.tup [vx, vy]) } := r2.re.st.new hT (T := w2.T) (fun q h => .inl h)
                                have exT : Ext [] w2 { w2 with H := upd w2.H T (.tup [vx, vy]) } := new_ext (T := w2.T) hT
                                have r2' := r2.ev rT exT rfl
                                have rvT : Rv g { w2 with H := upd w2.H T (.tup [vx, vy]) } (.tup [dx, dy]) (.ref T) := by
                                  unfold Rv
                                  refine ⟨T, [vx, vy], rfl, .inl (.inl upd_same), ?_⟩
                                  unfold RvL
                                  refine ⟨vx, _, rfl, Rv.mono cyT _ _ x2, ?_⟩
                                  unfold RvL
                                  refine ⟨vy, _, rfl, Rv.mono cyT _ _ y2, ?_⟩
                                  unfold RvL; rfl
                                have p2' := p2.next r2 rT (Xs.ev exT)
                                cases et : tgE (.tp js) (.tup [dx, dy]) env2 with
                                | none => simp only [forZX, ei2, et] at p2; exact p2.elim
                                | some env3 =>
                                  refine tg_ok r2' rvT et fun w3 σ3 e1 e2 r3 x3 => ⟨w3, env3, tb, rfl, r3, ?_⟩
                                  have c3 := r2'.cy r3 x3
                                  have j3 : Rv g w3 da (.ref pa) ∧ Rv g w3 db (.ref pb) := ⟨Rv.mono c3 _ _ (Rv.mono cyT _ _ j1), Rv.mono c3 _ _ (Rv.mono cyT _ _ j2)⟩
                                  have p3 := p2'.next r2' r3.re.st x3
                                  have e1' : w3.s = w2.s := e1
                                  cases eb : body env3 w3.s with
                                  | nx e s' =>
                                    rw [e1'] at eb
                                    simp only [forZX, ei2, et, eb] at p3
                                    exact fun w4 σ4 k1 r4 x4 => ⟨w4, e, rfl, r4, ⟨Rv.mono (r3.cy r4 x4) _ _ j3.1, Rv.mono (r3.cy r4 x4) _ _ j3.2⟩, by rw [k1]; exact p3.next r3 r4.re.st x4⟩
                                  | ct e s' =>
                                    rw [e1'] at eb
                                    simp only [forZX, ei2, et, eb] at p3
                                    exact fun w4 σ4 k1 r4 x4 => ⟨w4, e, rfl, r4, ⟨Rv.mono (r3.cy r4 x4) _ _ j3.1, Rv.mono (r3.cy r4 x4) _ _ j3.2⟩, by rw [k1]; exact p3.next r3 r4.re.st x4⟩
                                  | bk e s' =>
                                    rw [e1'] at eb
                                    simp only [forZX, ei2, et, eb] at p3
                                    exact p3
                                  | rt d s' =>
                                    rw [e1'] at eb
                                    simp only [forZX, ei2, et, eb] at p3
                                    exact p3
                                  | exc c e s' =>
                                    rw [e1'] at eb
                                    simp only [forZX, ei2, et, eb] at p3
                                    exact p3
                                  | no =>
                                    rw [e1'] at eb
                                    simp only [forZX, ei2, et, eb] at p3
                                    exact p3
                          | _ => rw [fa, fb] at ei; cases ei
                      | _ => rw [fa] at ei; cases ei
            | _ => simp only [ea, eb] at h; exact h.elim
        | _ => simp only [ea] at h; exact h.elim
end
section
variable {X : Cx} {A : Ga} {W : WX} {a b : Expr} {ma : Ax} {m : Sx} {pos : Pos} {ss : List Stmt}
theorem ms_forZ {elts : List Expr} {kk : Nat} {tpos p pos2 : Pos} {js : List Nat} (hp : PassesOwn (model X.prog X.w) X.A X.env X.xe) (hc : X.calm = true) (hgz : Gl X "zip") (hmz : X.mg "zip" = none) (ha : MA X A W [a, b] ma) (hg : MG X (.Tuple elts kk tpos) (.tp js)) (hb : MSs X A W ss m)
    (hs1 : starEach [a, b] X.env = (false, eval a X.env) :: starEach [b] X.env := by rfl) (hpl : (backTo pos2 (starEach [b] X.env)).any (·.1) = false := by rfl) (hs : ∀ x, foldedSetIterable (.Call (.Name "zip" p) [a, b] [] pos2) X.env x = pure x := by intro _; rfl) :
    MS X A W (.For (.Tuple elts kk tpos) (.Call (.Name "zip" p) [a, b] [] pos2) ss [] pos) (sForZ js ma m) :=
  psW (ps_for hp hc (RZ.pi_zipA hgz hmz ha hs1 hpl) hg hb hs) fun _ _ _ h => sForZ_ok h
end
/-! ### what is looked at: tables too -/
abbrev AlX : Type := He.AlD × Bool × List (Option (List (Option (Str × Int))))
def obsX (n : Nat) (fa : List He.Fa) (fn : List He.DefD) (ex : Exs) (ts : List He.Tab) (g : Addr → Option Obj) : AlX :=
  (He.obsD fa fn (He.frG g (He.asD g n)), exK ex (He.frG g (He.asD g n)), ts.map fun t => He.dicW (He.frG g (He.asD g n)) (t.1 (He.frG g (He.asD g n))))
def hookX (n : Nat) (fa : List He.Fa) (fn : List He.DefD) (ex : Exs) (ts : List He.Tab) : PySem.W.Hook where
  α := AlX
  obs := fun s => obsX n fa fn ex ts s.heap.get?
  val := fun w => (He.valD fn, true, ts.map fun t => some (He.keysIn w.params t.2))
  says := fun w h => ∃ K : PySem.W.Frag, K.In h ∧ He.SaysD fa fn K ∧ exK ex K = true ∧ ∀ t ∈ ts, ∃ es n, KDict K w (t.1 K) es n
  of := fun w s e => ⟨_, He.frG_in, congrArg (fun z : AlX => z.1) e, congrArg (fun z : AlX => z.2.1) e, fun t ht => by
    have e2 := congrArg (fun z : AlX => z.2.2) e
    obtain ⟨i, hi, rfl⟩ := List.getElem_of_mem ht
    have e3 := congrArg (fun z => z[i]?) e2
    simp only [obsX, List.getElem?_map, List.getElem?_eq_getElem hi, Option.map_some, Option.some.injEq] at e3
    exact He.dicW_ok e3⟩
  keeps := fun _ _ _ ⟨K, hK, c⟩ k => ⟨K, PySem.W.Frag.In.keeps hK k, c⟩
theorem obsX_eq {n : Nat} {fa : List He.Fa} {fn : List He.DefD} {ex : Exs} {ts : List He.Tab} {g : Addr → Option Obj} {s : Shared} (h : ∀ a, g a = s.heap.get? a) : obsX n fa fn ex ts g = (hookX n fa fn ex ts).obs s := by
  have e : g = s.heap.get? := funext h
  rw [e] <;> rfl
end Gm

set_option Elab.async false
set_option linter.all false
set_option maxRecDepth 100000
set_option autoImplicit false
set_option maxHeartbeats 1000000
namespace Gm
open PySem PySem.Spec PyProof.Rows L2
/-! ### a caught error handed to a def -/
/-- what a def promises where the error p stands -/
structure FnP (P : Program) (w : World) (K : PySem.W.Frag) (mg : Str → Option Value) (base : Heap) (CX : CXT) (k : Nat) (f : Addr) (fd : FuncData) (ps : List Str) (sp : Sp) (p : Addr × Obj) : Prop where
  len : ∀ vs H Q E, sp vs H Q E → vs.length = ps.length
  run : ∀ (A : Around) (outer : List PySem.Env) (s : Shared) (H : Hp) (args : Args) (us : List Value) (vs : List V) (Q : VK) (E : XK), L2H.RoomH k A → L2H.PinOk outer H s p → Env0 P w K mg base A outer s H → BindsTo s fd args (ps.zip us) → Vals vs us → sp vs H Q E →
    codeAny (model P w) A (.call (.ref f) args) (CR CX outer P w H s Q E) s
abbrev cxP (P : Program) (w : World) (K : PySem.W.Frag) (mg : Str → Option Value) (base : Heap) (N : List Str) (qual : Str) (scope : Scope) (f : Addr) (cd : Value) (A : Around) (outer : List PySem.Env) (s : Shared) (H : Hp) (E : XK) (p : Addr × Obj) : Cx := L2H.cxH (L2.CX P w) P w K mg base N qual scope f cd A outer s H E p
theorem fn_ofP {CX : CXT} {P : Program} {w : World} {K : PySem.W.Frag} {mg : Str → Option Value} {base : Heap} {k : Nat} {f : Addr} {name qual : Str} {params : Arguments} {body : List Stmt} {scope : Scope} {fd : FuncData} {N ps : List Str} {sp : Sp} {p : Addr × Obj} (F : FunD K name qual params body scope [] [] f fd) (S : FnScope N ps scope)
    (len : ∀ vs H Q E, sp vs H Q E → vs.length = ps.length)
    (hbody : ∀ (cdv : Value) (A : Around) (outer : List PySem.Env) (s : Shared) (H : Hp) (vs : List V) (Q : VK) (E : XK), L2H.RoomH k (A.deeper (envOfC qual scope s.heap.objs.size f cdv)) → sp vs H Q E →
      ∃ t, PSs (L2H.cxH CX P w K mg base N qual scope f cdv A outer s H E p) body t ∧ t { nx := fun _ H' => Q .non H', rt := Q } (L2.start N vs) H) :
    FnP P w K mg base CX (k + 1) f fd ps sp p := by
  obtain ⟨oc, od, dV, kV, doc, pm, an, cdv, ct, osl, rfl, lk, hcd, _, _⟩ := F.ex
  refine ⟨len, fun A outer s H args us vs Q E hr hpin e0 hb r hsp => ?_⟩
  have hl := len _ _ _ _ hsp
  have KX : K.In s.heap := e0.mod.kin.keeps fun b o e => (e0.bs b o e).1
  have lim : s.heap.NoLimit := e0.mod.nolimit.keeps fun b o e => (e0.bs b o e).1
  have hkind : ∀ y ∈ ps.zip us, scope.names.lookup y.1 = some .local ∨ (scope.names.lookup y.1 = some .cell ∧ ((cellsFrom (s.heap.objs.size + 1) scope.names []).lookup y.1).isSome = true) := fun ⟨n, v⟩ hy => by
    rcases S.par n (List.of_mem_zip hy).1 with q | q
    · exact .inl q
    · exact .inr ⟨q, PySem.W.cellsFrom_some _ _ _ (.inl q)⟩
  refine codeAny_call_function hr.depth (KX _ _ lk) rfl S.co S.gen rfl (PySem.W.codeRec_of KX hcd) (hb _ _ _ _ ?_)
  refine wpAny_newFunctionEnv_cells S.kind hkind fun env he s1 x => ?_
  subst he
  refine ⟨lim.keeps x.toInCall.keep, codeAny_func ?_⟩
  obtain ⟨t, ht, hq⟩ := hbody cdv A outer s H vs Q E (hr.deeper _) hsp
  have I : Inv (L2H.cxH CX P w K mg base N qual scope f cdv A outer s H E p) [] (L2.start N vs) H s1 := L2H.inv_startH S hpin e0 hl r x
  refine wpAny_mono (ht.run [] s1 (L2.start N vs) H _ I hq) (fun fl s' hs => ?_) fun e s' hs => hs
  have fin : ∀ {σ' : L2.St} {H' : Hp} {v : V} {u : Value}, Inv (L2H.cxH CX P w K mg base N qual scope f cdv A outer s H E p) [] σ' H' s' → RelV v u → Q v H' → CE outer P w H s Q u s' :=
    fun {σ' H' v u} J rv q => ⟨v, H', J.os, J.bare, J.base, J.hok, rv, q⟩
  cases fl with
  | ret u =>
    obtain ⟨v, σ', H', J, rv, q⟩ := hs
    exact fin J rv q
  | next =>
    obtain ⟨σ', H', J, q⟩ := hs
    exact fin (v := V.non) (u := Value.none) J rfl q
  | brk =>
    obtain ⟨_, _, _, q⟩ := hs
    exact False.elim q
  | cont =>
    obtain ⟨_, _, _, q⟩ := hs
    exact False.elim q
/-- the promise of a def of one parameter, the error -/
def spX (g : Gc) (F : Fx) : Sp := fun vs H Q E => ∃ a, g.x = some a ∧ vs = [.ref a] ∧ ∃ w : Wd, w.H = H ∧ Rst g w ∧ PostF g w Q E (F [.exn] w.s)
theorem startX_owns {k : Nat} {σ : Sl} : owns ((some D.exn :: List.replicate k none : Env)) σ = [] := by
  cases e : owns ((some D.exn :: List.replicate k none : Env)) σ with
  | nil => rfl
  | cons p r =>
    have hp : p ∈ owns ((some D.exn :: List.replicate k none : Env)) σ := by rw [e]; exact List.mem_cons_self
    obtain ⟨i, o, a, b⟩ := mem_owns.mp hp
    exfalso
    cases i with
    | zero => simp at a
    | succ i =>
      have := List.mem_of_getElem? (show (List.replicate k (none : Option D))[i]? = some (some (.own o)) from a)
      rw [List.mem_replicate] at this
      exact nomatch this.2
theorem body_okX {g : Gc} {N : List Str} {n : Str} {m : Sx} {vs : List V} {H : Hp} {Q : VK} {E : XK} (hl : 1 ≤ N.length) (h : spX g (fnX 1 N.length m) vs H Q E) :
    tSt g (fun cls d _ H => E cls d H) m { nx := fun _ H' => Q .non H', rt := Q } (L2.start N vs) H := by
  obtain ⟨a, hx, rfl, w, rfl, r, h⟩ := h
  refine ⟨w, some .exn :: List.replicate (N.length - 1) none, w.T, rfl, ?_, ?_⟩
  · refine ⟨⟨r, ?_, fun i d e => ?_⟩, fun p => by rw [startX_owns]; simp, fun i j p q _ => ?_, fun p hp => ?_⟩
    · unfold L2.start
      simp
    · cases i with
      | zero =>
        simp only [List.getElem?_cons_zero, Option.some.injEq] at e
        subst e
        refine ⟨.ref a, ?_, a, hx, rfl⟩
        unfold L2.start; simp
      | succ i =>
        have := List.mem_of_getElem? (show (List.replicate (N.length - 1) (none : Option D))[i]? = some (some d) from e)
        rw [List.mem_replicate] at this
        exact nomatch this.2
    · have := mem_owns.mpr ⟨i, q⟩
      rw [startX_owns] at this; cases this
    · rw [startX_owns] at hp; cases hp
  · have ow : owns (some .exn :: List.replicate (N.length - 1) none) (L2.start N [V.ref a]) = [] := startX_owns
    unfold fnX at h
    rw [if_pos (show [D.exn].length = 1 from rfl)] at h
    have ee : ([D.exn].map some ++ List.replicate (N.length - 1) none : Env) = some .exn :: List.replicate (N.length - 1) none := rfl
    rw [ee] at h
    have tT : ∀ (w' : Wd) (env' : Env) (σ' : Sl), Rm g w.T w' env' σ' → ∀ p ∈ w.T, p ∈ w'.T := fun w' env' σ' r' p hp => (r'.T p).mpr (.inr hp)
    cases q : m (some .exn :: List.replicate (N.length - 1) none) w.s with
    | nx e s =>
      rw [q] at h
      intro w' σ' h1 r' x'
      have e' := x'.e
      rw [ow] at e'
      exact h (w'.wT w.T) .non h1 rfl ⟨e'.pre, e'.keep, e'.new, e'.nm⟩ (.of (r'.re.st.inT (tT w' e σ' r')) rv_non)
    | rt d s =>
      rw [q] at h
      intro w' v h1 h2 e' p'
      rw [ow] at e' p'
      refine h w' v h1 h2 e' ?_
      cases d with
      | own o =>
        obtain ⟨p, a, b, c⟩ := p'
        rcases b with b | b
        · exact ⟨p, a, b, c⟩
        · cases b
      | bor o => exact (show False by obtain ⟨_, z⟩ := p'; unfold Rv at z; exact z).elim
      | exn => exact (show False by obtain ⟨_, z⟩ := p'; unfold Rv at z; exact z).elim
      | _ => exact p'
    | exc c e s =>
      rw [q] at h
      intro w' σ' h1 r' x'
      have e' := x'.e
      rw [ow] at e'
      exact h (w'.wT w.T) h1 rfl ⟨e'.pre, e'.keep, e'.new, e'.nm⟩ (r'.re.st.inT (tT w' e σ' r'))
    | bk e s => rw [q] at h; exact h.elim
    | ct e s => rw [q] at h; exact h.elim
    | no => rw [q] at h; exact h.elim
theorem fnP_ok {P : Program} {wl : World} {K : PySem.W.Frag} {mg : Str → Option Value} {base : Heap} {A : Nat → Addr} {x qual n : Str} {params : Arguments} {body : List Stmt} {scope : Scope} {f : Addr} {fd : FuncData} {N : List Str} {k : Nat} {m : Sx} {a : Addr} {oe : Obj}
    (F : FunD K x qual params body scope [] [] f fd) (S : FnScope N [n] scope) (hl : 1 ≤ N.length)
    (hb : ∀ (cdv : Value) (Ar : Around) (outer : List PySem.Env) (s : Shared) (H : Hp) (E : XK), MSs (cxP P wl K mg base N qual scope f cdv Ar outer s H E (a, oe)) ⟨A, some a⟩ (wOf E) body m) :
    FnP P wl K mg base (L2.CX P wl) (k + 1) f fd [n] (spX ⟨K, A, some a⟩ (fnX 1 N.length m)) (a, oe) := by
  refine fn_ofP F S (fun vs H Q E h => ?_) fun cdv Ar outer s H vs Q E hr h => ?_
  · obtain ⟨_, _, rfl, _⟩ := h; rfl
  · exact ⟨_, hb cdv Ar outer s H E, body_okX (n := n) hl h⟩
theorem cx_falseO {P : Program} {w : World} {outer : List PySem.Env} {H : Hp} {s : Shared} {e : Value} {s' : Shared} (h : L2.CX P w outer H s (fun _ _ _ => False) e s') : False := by
  obtain ⟨_, _, _, _, _, _, _, _, _, _, _, _, z⟩ := h
  exact z
/-- f(e), e the caught error -/
def eCallX (F : Fx) (i : Nat) : Ex := fun env s => match env[i]? with
  | some (some .exn) => F [.exn] s
  | _ => .no
section
variable {X : Cx} {A : Nat → Addr} {pos p p2 np : Pos}
theorem me_callX {a : Addr} {oe : Obj} {pn : List (Addr × Obj)} {k i : Nat} {f : Addr} {fd : FuncData} {ps : List Str} {F : Fx} {x n : Str} (G : FnP X.prog X.w X.K X.mg X.base (L2.CX X.prog X.w) k f fd ps (spX ⟨X.K, A, some a⟩ F) (a, oe)) (hr : Room k X.A) (hg : Gl X x) (hm : X.mg x = some (.ref f)) (hk : PySem.W.keepIn X.K (.ref f) = true) (hb : Binds X.K fd ps [])
    (hN : X.N[i]? = some n) (hv : Vis X.env.scope n) (hd : (n == ("__debug__" : Str)) = false) (hcd : (n == ("__classdict__" : Str)) = false) (hdb : (x == ("__debug__" : Str)) = false) (he : starEach [.Name n np] X.env = (false, eval (.Name n np) X.env) :: starEach [] X.env) (hpl : (backTo pos (starEach [] X.env)).any (·.1) = false) :
    ME (X.suite a ((a, oe) :: pn)) ⟨A, some a⟩ W0 (.Call (.Name x p) [.Name n np] [] pos) (eCallX F i) := by
  refine ⟨fun pins s σ H Q I h => ?_⟩
  obtain ⟨w, env, rfl, re, h⟩ := h
  cases ei : env[i]? with
  | none => simp only [eCallX, ei] at h; exact h.elim
  | some o =>
    cases o with
    | none => simp only [eCallX, ei] at h; exact h.elim
    | some d =>
      cases d with
      | exn =>
        simp only [eCallX, ei] at h
        obtain ⟨v, k1, a', k2, rfl⟩ := re.sl i _ ei
        cases k2
        have ha : PA (X.suite a ((a, oe) :: pn)) [.Name n np] (tCons (tVar i) tNil) := pa_cons (pe_var (X := X.suite a ((a, oe) :: pn)) hN hv hd hcd) pa_nil he
        refine wpAny_Call_Name_kw (ld_glob I hg hm ?_ hdb)
        refine PySem.W.callWith_K (h₀ := X.base) I.ok.mod.kin hk (thn (ha.run pos pins s σ w.H (fun vs H1 => vs = [V.ref a] ∧ H1 = w.H) I ⟨.ref a, k1, rfl, rfl⟩) fun us s1 ⟨vs, H1, I1, r, q⟩ => ⟨I1.kIn, ?_⟩) he hpl
        obtain ⟨rfl, rfl⟩ := q
        have hsp : spX ⟨X.K, A, some a⟩ F [.ref a] w.H Q (fun _ _ _ => False) := by
          refine ⟨a, rfl, rfl, w, rfl, re.st, ?_⟩
          cases q : F [.exn] w.s with
          | ok d s' => rw [q] at h; exact h
          | exc c s' => rw [q] at h; exact h
          | no => rw [q] at h; exact h
        have hl : us.length = ps.length := by rw [← r.length]; exact G.len _ _ _ _ hsp
        have b := hb s1 us I1.kIn (by rw [List.append_nil]; exact hl)
        rw [List.append_nil] at b
        have P1 := I1.pin (a, oe) (List.mem_append_left _ (List.mem_cons_self ..))
        have hpin : L2H.PinOk X.stack w.H s1 (a, oe) := ⟨P1.1, P1.2.1, fun hm => (List.mem_cons.mp (I1.stkSub a hm)).elim P1.2.2.1 P1.2.2.2.1, P1.2.2.2.2⟩
        refine wpAny_call (codeAny_mono (G.run (X.A.mark (some (.ref a))) X.stack s1 w.H ⟨us, []⟩ us [.ref a] Q (fun _ _ _ => False) ⟨hr.dp, hr.un⟩ hpin I1.env0 b r hsp) fun r s' hq => ?_)
        cases r with
        | error e => exact (cx_falseO hq).elim
        | ok fl =>
          cases fl with
          | ret u => exact I1.after hq
          | next => exact False.elim hq
          | brk => exact False.elim hq
          | cont => exact False.elim hq
      | _ => simp only [eCallX, ei] at h; exact h.elim
/-- isinstance(e, c) where the error stands beside -/
theorem call_isP {a D : Addr} {oe : Obj} (hp : (a, oe) ∈ X.pn) (C : ExcC X.K D) (hz : Zc (.ref D) none oe) (hf : ∃ vs, oe.data = .fields vs) : CallR X (.builtin "isinstance") (rIsE X.K D a) := by
  intro pins s σ H xs us Q I r h
  obtain ⟨c, cv, b, rfl, hcv, e, q⟩ := h
  cases r with
  | cons rx rr =>
    cases rr with
    | cons rt rr =>
      cases rr
      cases rx
      have ec := hcv _ rt
      subst ec
      obtain ⟨hget, _⟩ := I.pin (a, oe) (List.mem_append.mpr (.inl hp))
      obtain ⟨vs, hv⟩ := hf
      have J : PySem.W.InstAt s.heap a oe D none := by
        obtain ⟨oc, od, oda, osl⟩ := oe
        obtain ⟨h1, h2⟩ := hz
        dsimp only at h1 h2 hv
        subst h1 h2 hv
        exact ⟨hget, rfl, rfl, trivial⟩
      exact PySem.W.kia_one (PySem.W.handS_kitx_exc C.hg C.hk C.hs C.hd C.ha C.hn C.ht C.hm) I.kIn J e (fun z => nomatch z) fun tk => ⟨.bl b, H, I.kept (t' := tk) fun _ _ z => z, rfl, q⟩
theorem isP_snd {a D : Addr} {g : Gc} {l : List Bool} {k i : Nat} {cv : V} {cu : Value} {W : WX} (hgx : g.x = some a) (hu : ∀ u, RelV cv u → u = cu) (hl : ∀ b, l[k]? = some b → PySem.W.kitOne g.K (.ref D) cu = some b) {σ : Sl} {H : Hp} {Q : VK} (h : tEv g W (eIsX l k i) σ H Q) :
    tCB (rIsE g.K D a) (tCons (tVar i) (tCons (tC cv) tNil)) σ H Q := by
  obtain ⟨w, env, rfl, re, h⟩ := h
  cases ei : env[i]? with
  | none => simp only [eIsX, ei] at h; exact h.elim
  | some o =>
    cases el : l[k]? with
    | none => simp only [eIsX, ei, el] at h; exact h.elim
    | some b =>
      cases o with
      | none => simp only [eIsX, ei, el] at h; exact h.elim
      | some d =>
        cases d with
        | exn =>
          simp only [eIsX, ei, el] at h
          obtain ⟨v, k1, a', k2, rfl⟩ := re.sl i _ ei
          rw [hgx] at k2
          cases k2
          exact ⟨_, k1, cv, cu, b, rfl, hu, hl b el, h w (.bl b) rfl rfl Ext.refl (.of re.st rv_bl)⟩
        | _ => simp only [eIsX, ei, el] at h; exact h.elim
theorem me_isXp {a : Addr} {oe : Obj} {l : List Bool} {k i : Nat} {n x : Str} {C : Addr} {W : WX} (hp : (a, oe) ∈ X.pn) (hE : ExcC X.K (A k)) (hz : Zc (.ref (A k)) none oe) (hfd : ∃ vs, oe.data = .fields vs) (hl : ∀ b, l[k]? = some b → PySem.W.kitOne X.K (.ref (A k)) (.ref C) = some b)
    (hN : X.N[i]? = some n) (hv : Vis X.env.scope n) (hg : Gl X "isinstance") (hm : X.mg "isinstance" = none) (hgx : Gl X x) (hmx : X.mg x = some (.ref C)) (hd : (n == ("__debug__" : Str)) = false) (hcd : (n == ("__classdict__" : Str)) = false) (hdx : (x == ("__debug__" : Str)) = false)
    (hs : starEach [.Name n p, .Name x p2] X.env = (false, eval (.Name n p) X.env) :: starEach [.Name x p2] X.env) (hs2 : starEach [.Name x p2] X.env = (false, eval (.Name x p2) X.env) :: starEach [] X.env) (hpl : (backTo pos (starEach [.Name x p2] X.env)).any (·.1) = false) :
    ME X ⟨A, some a⟩ W (.Call (.Name "isinstance" np) [.Name n p, .Name x p2] [] pos) (eIsX l k i) :=
  peW (pe_callB (call_isP hp hE hz hfd) hg hm (by decide +kernel) (pa_cons (pe_var hN hv hd hcd) (pa_cons (pe_glob (v := .ref C) hgx hmx rfl hdx) pa_nil hs2) hs) (by decide) (by decide) hs hpl) fun σ H Q h => isP_snd (g := gx X ⟨A, some a⟩) (cv := .ref C) (cu := .ref C) rfl (fun u r => r) hl h
theorem me_isTp {a : Addr} {oe : Obj} {l : List Bool} {k i : Nat} {n x : Str} {T : String} {W : WX} (hp : (a, oe) ∈ X.pn) (hE : ExcC X.K (A k)) (hz : Zc (.ref (A k)) none oe) (hfd : ∃ vs, oe.data = .fields vs) (hl : ∀ b, l[k]? = some b → PySem.W.kitOne X.K (.ref (A k)) (.type T) = some b)
    (hN : X.N[i]? = some n) (hv : Vis X.env.scope n) (hg : Gl X "isinstance") (hm : X.mg "isinstance" = none) (hg2 : Gl X x) (hm2 : X.mg x = none) (hv2 : bootBuiltins x = some (.type T)) (hn2 : x ≠ "__name__") (hd : (n == ("__debug__" : Str)) = false) (hcd : (n == ("__classdict__" : Str)) = false) (hdx : (x == ("__debug__" : Str)) = false)
    (hs : starEach [.Name n p, .Name x p2] X.env = (false, eval (.Name n p) X.env) :: starEach [.Name x p2] X.env) (hs2 : starEach [.Name x p2] X.env = (false, eval (.Name x p2) X.env) :: starEach [] X.env) (hpl : (backTo pos (starEach [.Name x p2] X.env)).any (·.1) = false) :
    ME X ⟨A, some a⟩ W (.Call (.Name "isinstance" np) [.Name n p, .Name x p2] [] pos) (eIsX l k i) :=
  peW (pe_callB (call_isP hp hE hz hfd) hg hm (by decide +kernel) (pa_cons (pe_var hN hv hd hcd) (pa_cons (pe_bltn (v := .ty T) hg2 hm2 hv2 rfl hn2 hdx) pa_nil hs2) hs) (by decide) (by decide) hs hpl) fun σ H Q h => isP_snd (g := gx X ⟨A, some a⟩) (cv := .ty T) (cu := .type T) rfl (fun u r => r) hl h
end
end Gm

set_option Elab.async false
set_option linter.all false
set_option maxRecDepth 100000
set_option autoImplicit false
/-! the mirror's runs, in plain words -/
namespace Gm
open PySem L2
def rtOk : D → Bool
  | .bor _ => false
  | .exn => false
  | _ => true
inductive R.W {t : Type} (Q : t → Store → Prop) (X : Nat → Store → Prop) : R t → Prop where
  | ok {a : t} {s : Store} (h : Q a s) : R.W Q X (.ok a s)
  | exc {c : Nat} {s : Store} (h : X c s) : R.W Q X (.exc c s)
inductive SR.W (N : Env → Store → Prop) (T : D → Store → Prop) (X : Nat → Env → Store → Prop) : SR → Prop where
  | nx {e : Env} {s : Store} (h : N e s) : SR.W N T X (.nx e s)
  | rt {d : D} {s : Store} (h : T d s) : SR.W N T X (.rt d s)
  | exc {c : Nat} {e : Env} {s : Store} (h : X c e s) : SR.W N T X (.exc c e s)
abbrev X0 : Nat → Store → Prop := fun _ _ => False
abbrev Y0 : Nat → Env → Store → Prop := fun _ _ _ => False
section
variable {t : Type} {env env' : Env} {s s' : Store} {N N' : Env → Store → Prop} {T T' : D → Store → Prop} {X X' : Nat → Env → Store → Prop} {a b : Sx}
theorem SR.W_nx {e : Env} {s : Store} : (SR.nx e s).W N T X ↔ N e s := ⟨fun h => by cases h; assumption, .nx⟩
theorem SR.W_rt {d : D} {s : Store} : (SR.rt d s).W N T X ↔ T d s := ⟨fun h => by cases h; assumption, .rt⟩
theorem SR.W_exc {c : Nat} {e : Env} {s : Store} : (SR.exc c e s).W N T X ↔ X c e s := ⟨fun h => by cases h; assumption, .exc⟩
theorem R.W_ok {Q : t → Store → Prop} {Z : Nat → Store → Prop} {d : t} {s : Store} : (R.ok d s).W Q Z ↔ Q d s := ⟨fun h => by cases h; assumption, .ok⟩
theorem R.W_exc {Q : t → Store → Prop} {Z : Nat → Store → Prop} {c : Nat} {s : Store} : (R.exc (t := t) c s).W Q Z ↔ Z c s := ⟨fun h => by cases h; assumption, .exc⟩
theorem SR.W.imp {m : SR} (h : m.W N T X) (h1 : ∀ e s, N e s → N' e s) (h2 : ∀ d s, T d s → T' d s) (h3 : ∀ c e s, X c e s → X' c e s) : m.W N' T' X' := by
  cases h with
  | nx h => exact .nx (h1 _ _ h)
  | rt h => exact .rt (h2 _ _ h)
  | exc h => exact .exc (h3 _ _ _ h)
theorem R.W.imp {Q Q' : t → Store → Prop} {Z Z' : Nat → Store → Prop} {m : R t} (h : m.W Q Z) (h1 : ∀ e s, Q e s → Q' e s) (h3 : ∀ c s, Z c s → Z' c s) : m.W Q' Z' := by
  cases h with
  | ok h => exact .ok (h1 _ _ h)
  | exc h => exact .exc (h3 _ _ h)
theorem R.W.eq {Q : t → Store → Prop} {m : R t} (h : m.W Q X0) : ∃ d s, m = .ok d s ∧ Q d s := by
  cases h with
  | ok h => exact ⟨_, _, rfl, h⟩
  | exc h => exact h.elim
theorem w_seq (h : (a env s).W (fun e s => (b e s).W N T X) T X) : (sSeq a b env s).W N T X := by
  unfold sSeq
  revert h
  generalize a env s = m
  intro h
  cases h with
  | nx h => exact h
  | rt h => exact .rt h
  | exc h => exact .exc h
theorem w_nil (h : N env s) : (sNil env s).W N T X := .nx h
theorem w_if {c : Tx} {k : Bool} (e : c env s = .ok k s') (h1 : k = true → (a env s').W N T X) (h2 : k = false → (b env s').W N T X) : (sIf c a b env s).W N T X := by
  cases k with
  | true => simp only [sIf, e]; exact h1 rfl
  | false => simp only [sIf, e]; exact h2 rfl
theorem w_ifT {c : Tx} (e : c env s = .ok true s') (h1 : (a env s').W N T X) : (sIf c a b env s).W N T X := by simp only [sIf, e]; exact h1
theorem w_ifF {c : Tx} (e : c env s = .ok false s') (h1 : (b env s').W N T X) : (sIf c a b env s).W N T X := by simp only [sIf, e]; exact h1
theorem w_setF {i : Nat} {e : Ex} {d d' : D} (h : e env s = .ok d s') (hd : snk (fz d) = some d') (k : N (env.set i (some d')) s') : (sSetF i e env s).W N T X := by simp only [sSetF, h, hd]; exact .nx k
theorem w_set {i : Nat} {e : Ex} {d : D} (h : e env s = .ok d s') (hd : rtOk d = true) (k : N (env.set i (some d)) s') : (sSet i e env s).W N T X := by
  have : putE i d env = some (env.set i (some d)) := by
    cases d with
    | bor o => cases hd
    | exn => cases hd
    | _ => rfl
  simp only [sSet, h, this]; exact .nx k
theorem w_setT {is : List Nat} {e : Ex} {d : D} (h : e env s = .ok d s') (hd : tgE (.tp is) d env = some env') (k : N env' s') : (sSetT is e env s).W N T X := by simp only [sSetT, h, hd]; exact .nx k
theorem w_ex {e : Ex} {d : D} (h : e env s = .ok d s') (k : N env s') : (sEx e env s).W N T X := by simp only [sEx, h]; exact .nx k
theorem w_exX {e : Ex} {c : Nat} (h : e env s = .exc c s') (k : X c env s') : (sEx e env s).W N T X := by simp only [sEx, h]; exact .exc k
theorem w_ret {e : Ex} {d : D} (h : e env s = .ok d s') (hd : rtOk d = true) (k : T d s') : (sRet e env s).W N T X := by
  cases d with
  | bor o => cases hd
  | exn => cases hd
  | _ => simp only [sRet, h]; exact .rt k
theorem w_retN (k : T .non s) : (sRetN env s).W N T X := .rt k
theorem w_retV {i : Nat} {d : D} (h : env[i]? = some (some d)) (hd : rtOk d = true) (k : T d s) : (sRetV i env s).W N T X := by
  cases d with
  | exn => cases hd
  | _ => simp only [sRetV, h]; exact .rt k
theorem w_raise {c : Nat} (k : X c env s) : (sRaise c env s).W N T X := .exc k
theorem w_pre {q : Env → Store → Env × Store} (k : (a (q env s).1 (q env s).2).W N T X) : (sPre q a env s).W N T X := k
theorem w_app {i : Nat} {e : Ex} {d d' : D} {xs : List D} (h : e env s = .ok d s') (hd : snk (fz d) = some d') (hi : env[i]? = some (some (.own (.lst xs)))) (hl : xs.length < 16777216) (k : N (env.set i (some (.own (.lst (xs ++ [d']))))) s') : (sMut i gApp e env s).W N T X := by
  simp only [sMut, isL, hi, h, if_true, gApp, hd, Option.map_some, mutL, fApp, if_pos hl]
  exact .nx k
theorem w_appR {i n : Nat} {e : Ex} {d d' : D} {xs ys : List D} (h : e env s = .ok d s') (hd : snk (fz d) = some d') (hi : env[i]? = some (some (.ref n))) (h0 : s[n]? = some (.lst ys)) (h1 : s'[n]? = some (.lst xs)) (hl : xs.length < 16777216) (k : N env (s'.set n (.lst (xs ++ [d'])))) : (sMut i gApp e env s).W N T X := by
  simp only [sMut, isL, hi, h0, h, if_true, gApp, hd, Option.map_some, mutL, h1, fApp, if_pos hl]
  exact .nx k
theorem w_ext {i : Nat} {e : Ex} {d : D} {xs zs : List D} (h : e env s = .ok d s') (hd : drM s' (fz d) = some (.lst zs)) (hi : env[i]? = some (some (.own (.lst xs)))) (hl : xs.length + zs.length ≤ 16777216) (k : N (env.set i (some (.own (.lst (xs ++ zs))))) s') : (sMut i gExt e env s).W N T X := by
  simp only [sMut, isL, hi, h, if_true, gExt, hd, Option.map_some, mutL, fExt, if_pos hl]
  exact .nx k
theorem w_sub {i j : Nat} {je e : Ex} {d d' : D} {xs : List D} {k : Int} {s1 : Store} (h : e env s = .ok d s1) (hd : snk (fz d) = some d') (hk : je env s1 = .ok (.int k) s') (hi : env[i]? = some (some (.own (.lst xs)))) (hj : ixN xs.length k = some j) (z : N (env.set i (some (.own (.lst (xs.set j d'))))) s') : (sSub i je e env s).W N T X := by
  simp only [sSub, h, hd, isL, hi, if_true, hk, mutL, fSetI, hj, Option.map_some]
  exact .nx z
theorem w_fn {n K : Nat} {body : Sx} {args : List D} {Q : D → Store → Prop} {Z : Nat → Store → Prop} (hl : args.length = n) (he : args.map some ++ List.replicate (K - n) none = env) (h : (body env s).W (fun _ s' => Q .non s') Q (fun c _ s' => Z c s')) : (fnX n K body args s).W Q Z := by
  unfold fnX
  rw [if_pos hl, he]
  revert h
  generalize body env s = m
  intro h
  cases h with
  | nx h => exact .ok h
  | rt h => exact .ok h
  | exc h => exact .exc h
theorem w_tryAs {i : Nat} {ct : List Bool} {body : Sx} {suite : Nat → Sx} (h : (body env s).W N T (fun k e s' => ct[k]? = some true ∧ noX e = true ∧ (suite k (e.set i (some .exn)) s').W (fun e2 s2 => noX (e2.set i none) = true ∧ N (e2.set i none) s2) T Y0)) : (sTryAs i ct body suite env s).W N T X := by
  unfold sTryAs
  revert h
  generalize body env s = m
  intro h
  cases h with
  | nx h => exact .nx h
  | rt h => exact .rt h
  | @exc k e s' h =>
    obtain ⟨h1, h2, h3⟩ := h
    simp only [h1, h2, if_true]
    revert h3
    generalize suite k (e.set i (some D.exn)) s' = m2
    intro h3
    cases h3 with
    | nx h3 => simp only [h3.1, if_true]; exact .nx h3.2
    | rt h3 => exact .rt h3
    | exc h3 => exact h3.elim
theorem w_ad {i : Nat} {m : Sx} (h : (m env s).W (fun e s' => N (gAd i e s').1 (gAd i e s').2) T X) : (sAd i m env s).W N T X := by
  unfold sAd
  revert h
  generalize m env s = r
  intro h
  cases h with
  | nx h => exact .nx h
  | rt h => exact .rt h
  | exc h => exact .exc h
theorem R.W.exq {Z : Nat → Store → Prop} {m : R t} (h : m.W (fun _ _ => False) Z) : ∃ c s, m = .exc c s ∧ Z c s := by
  cases h with
  | ok h => exact h.elim
  | exc h => exact ⟨_, _, rfl, h⟩
/-- a loop over items that stay -/
theorem w_loop {body : Sx} {tg : Tg} {it : Itr} {xs : List D} (I : Nat → Env → Store → Prop) (hi : ∀ i e s, i ≤ xs.length → I i e s → it.at s i = some xs[i]?)
    (hs : ∀ i x e s, xs[i]? = some x → I i e s → ∃ e1, tgE tg x e = some e1 ∧ (body e1 s).W (I (i + 1)) T X) (hn : ∀ e s, I xs.length e s → N e s) :
    ∀ (f i : Nat) (env : Env) (s : Store), i ≤ xs.length → xs.length < f + i → I i env s → (forX body tg it f i env s).W N T X
  | 0, i, env, s, h1, h2, h3 => by omega
  | f + 1, i, env, s, h1, h2, h3 => by
    have ha := hi i env s h1 h3
    cases q : xs[i]? with
    | none =>
      rw [q] at ha
      simp only [forX, ha]
      have : i = xs.length := by
        have := List.getElem?_eq_none_iff.mp q
        omega
      subst this
      exact .nx (hn _ _ h3)
    | some x =>
      rw [q] at ha
      obtain ⟨e1, k1, k2⟩ := hs i x env s q h3
      have hlt : i < xs.length := (List.getElem?_eq_some_iff.mp q).1
      simp only [forX, ha, k1]
      revert k2
      generalize body e1 s = m
      intro k2
      cases k2 with
      | nx k2 => exact w_loop I hi hs hn f (i + 1) _ _ (by omega) (by omega) k2
      | rt k2 => exact .rt k2
      | exc k2 => exact .exc k2
theorem w_for {body : Sx} {tg : Tg} {ix : Ix} {xs : List D} {it : Itr} (hx : ix env s = .ok it s') (hf : it.fuel s' = xs.length + 1) (I : Nat → Env → Store → Prop) (h0 : I 0 env s') (hi : ∀ i e s, i ≤ xs.length → I i e s → it.at s i = some xs[i]?)
    (hs : ∀ i x e s, xs[i]? = some x → I i e s → ∃ e1, tgE tg x e = some e1 ∧ (body e1 s).W (I (i + 1)) T X) (hn : ∀ e s, I xs.length e s → N e s) : (sFor tg ix body env s).W N T X := by
  simp only [sFor, hx, hf]
  exact w_loop I hi hs hn _ 0 env s' (Nat.zero_le _) (by omega) h0
/-- .. over a list that stands by itself -/
theorem w_forL {body : Sx} {tg : Tg} {e : Ex} {xs : List D} (hx : iSeq e env s = .ok (.seq (.lst xs)) s') (I : Nat → Env → Store → Prop) (h0 : I 0 env s')
    (hs : ∀ i x e s, xs[i]? = some x → I i e s → ∃ e1, tgE tg x e = some e1 ∧ (body e1 s).W (I (i + 1)) T X) (hn : ∀ e s, I xs.length e s → N e s) : (sFor tg (iSeq e) body env s).W N T X :=
  w_for hx (by rfl) I h0 (fun i e s _ _ => by rfl) hs hn
theorem w_forT {body : Sx} {tg : Tg} {e : Ex} {xs : List D} (hx : iSeq e env s = .ok (.seq (.tup xs)) s') (I : Nat → Env → Store → Prop) (h0 : I 0 env s')
    (hs : ∀ i x e s, xs[i]? = some x → I i e s → ∃ e1, tgE tg x e = some e1 ∧ (body e1 s).W (I (i + 1)) T X) (hn : ∀ e s, I xs.length e s → N e s) : (sFor tg (iSeq e) body env s).W N T X :=
  w_for hx (by rfl) I h0 (fun i e s _ _ => by rfl) hs hn
/-- .. over a range -/
theorem w_forR {body : Sx} {j : Nat} {ix : Ix} {lo : Int} {n : Nat} (hx : ix env s = .ok (.rng lo n) s') (I : Nat → Env → Store → Prop) (h0 : I 0 env s')
    (hs : ∀ (i : Nat) e s, i < n → I i e s → (body (e.set j (some (.int (lo + (i : Nat))))) s).W (I (i + 1)) T X) (hn : ∀ e s, I n e s → N e s) : (sFor (.nm j) ix body env s).W N T X := by
  have hl : ((List.range n).map fun k => D.int (lo + (k : Nat))).length = n := by simp
  have hg : ∀ i : Nat, ((List.range n).map fun k => D.int (lo + (k : Nat)))[i]? = if i < n then some (.int (lo + (i : Nat))) else none := fun i => by
    by_cases h : i < n
    · simp [h]
    · simp [h]
  refine w_for (xs := (List.range n).map fun k => D.int (lo + (k : Nat))) hx (by simp [Itr.fuel]) I h0 (fun i e s _ _ => by rw [hg i]; rfl) (fun i x e s hx hI => ?_) (fun e s h => hn e s (hl ▸ h))
  rw [hg i] at hx
  split at hx
  · rename_i h
    cases hx
    exact ⟨_, rfl, hs i e s h hI⟩
  · cases hx
theorem xRng1_of {e : Ex} {j : Int} {n : Nat} (h : e env s = .ok (.int j) s') (hj : j.toNat = n) (hb : -4611686018427387904 ≤ j ∧ j < 4611686018427387904) : xRng1 e env s = .ok (.rng 0 n) s' := by
  have : rOk j = true := by unfold rOk; simp [hb]
  simp only [xRng1, h, this, if_true, hj]
theorem xRng2_of {a b : Ex} {i j : Int} {n : Nat} {s1 : Store} (h : a env s = .ok (.int i) s1) (k : b env s1 = .ok (.int j) s') (hj : (j - i).toNat = n) (hb : -4611686018427387904 ≤ i ∧ i < 4611686018427387904 ∧ -4611686018427387904 ≤ j ∧ j < 4611686018427387904) : xRng2 a b env s = .ok (.rng i n) s' := by
  have h1 : rOk i = true := by unfold rOk; simp [hb]
  have h2 : rOk j = true := by unfold rOk; simp [hb]
  simp only [xRng2, h, k, h1, h2, and_self, if_true, hj]
theorem iSeq_of {e : Ex} {d d' : D} {xs : List D} (h : e env s = .ok d s') (hd : snk (fz d) = some d') (hs : seqD s' d' = some xs) : iSeq e env s = .ok (.seq d') s' := by
  simp only [iSeq, h, hd, hs]
/-- a while, by what holds and a number that falls -/
theorem w_whileX {c : Tx} {body : Sx} (I : Nat → Env → Store → Prop) (hs : ∀ m e s, I m e s → ∃ k s1, c e s = .ok k s1 ∧ (k = false → N e s1) ∧ (k = true → (body e s1).W (fun e s => ∃ m', m' < m ∧ I m' e s) T X)) :
    ∀ (f m : Nat) (env : Env) (s : Store), m < f → I m env s → (whileX c body f env s).W N T X
  | 0, m, env, s, h, _ => by omega
  | f + 1, m, env, s, h, hI => by
    obtain ⟨k, s1, e, h1, h2⟩ := hs m env s hI
    cases k with
    | false => simp only [whileX, e]; exact .nx (h1 rfl)
    | true =>
      have k2 := h2 rfl
      simp only [whileX, e]
      revert k2
      generalize body env s1 = m2
      intro k2
      cases k2 with
      | nx k2 =>
        obtain ⟨m', hm, hI'⟩ := k2
        exact w_whileX I hs f m' _ _ (by omega) hI'
      | rt k2 => exact .rt k2
      | exc k2 => exact .exc k2
theorem w_while {c : Tx} {body : Sx} {f : Nat} (I : Nat → Env → Store → Prop) (m : Nat) (hm : m < f) (h0 : I m env s) (hs : ∀ m e s, I m e s → ∃ k s1, c e s = .ok k s1 ∧ (k = false → N e s1) ∧ (k = true → (body e s1).W (fun e s => ∃ m', m' < m ∧ I m' e s) T X)) :
    (sWhile f c body env s).W N T X := w_whileX I hs f m env s hm h0
end
/-! comprehensions whose parts change nothing -/
theorem lcX_eq {tg : Tg} {tt : Tx} {el : Ex} {vs : List Nat} {it : Itr} {xs : List D} {env : Env} {s : Store} (p : D → Bool) (f : D → D) (hi : ∀ i, it.at s i = some xs[i]?) (hx : ∀ x ∈ xs, ∃ e1, tgE tg x (wipeE env vs) = some e1 ∧ tt e1 s = .ok (p x) s ∧ (p x = true → ∃ d, el e1 s = .ok d s ∧ snk (fz d) = some (f x))) :
    ∀ (n i : Nat) (acc : List D), i ≤ xs.length → xs.length < n + i → acc.length + (xs.length - i) ≤ 16777216 → lcX tg tt el vs it n i acc env s = .ok (.own (.lst (acc ++ ((xs.drop i).filter p).map f))) s
  | 0, i, acc, h1, h2, _ => by omega
  | n + 1, i, acc, h1, h2, h3 => by
    have ha := hi i
    cases q : xs[i]? with
    | none =>
      rw [q] at ha
      have : xs.length ≤ i := List.getElem?_eq_none_iff.mp q
      simp only [lcX, ha]
      rw [List.drop_eq_nil_of_le this]
      simp
    | some x =>
      rw [q] at ha
      obtain ⟨hlt, ex⟩ := List.getElem?_eq_some_iff.mp q
      obtain ⟨e1, k1, k2, k3⟩ := hx x (List.mem_of_getElem? q)
      have hd : xs.drop i = x :: xs.drop (i + 1) := by rw [List.drop_eq_getElem_cons hlt, ex]
      cases hp : p x with
      | false =>
        rw [hp] at k2
        simp only [lcX, ha, k1, k2]
        rw [lcX_eq p f hi hx n (i + 1) acc (by omega) (by omega) (by omega), hd, List.filter_cons_of_neg (by rw [hp]; exact Bool.false_ne_true)]
      | true =>
        rw [hp] at k2
        obtain ⟨d, k4, k5⟩ := k3 hp
        simp only [lcX, ha, k1, k2, k4, k5]
        rw [if_pos (by omega), lcX_eq p f hi hx n (i + 1) (acc ++ [f x]) (by omega) (by omega) (by rw [List.length_append]; simp; omega), hd, List.filter_cons_of_pos hp]
        simp
theorem eLc_eq {tg : Tg} {tt : Tx} {el : Ex} {vs : List Nat} {ix : Ix} {it : Itr} {xs : List D} {env : Env} {s s1 : Store} (p : D → Bool) (f : D → D) (hx0 : ix env s = .ok it s1) (hf : it.fuel s1 = xs.length + 1) (hi : ∀ i, it.at s1 i = some xs[i]?) (hl : xs.length ≤ 16777216)
    (hx : ∀ x ∈ xs, ∃ e1, tgE tg x (wipeE env vs) = some e1 ∧ tt e1 s1 = .ok (p x) s1 ∧ (p x = true → ∃ d, el e1 s1 = .ok d s1 ∧ snk (fz d) = some (f x))) : eLc tg ix tt el vs env s = .ok (.own (.lst ((xs.filter p).map f))) s1 := by
  simp only [eLc, hx0, hf]
  rw [lcX_eq p f hi hx _ 0 [] (Nat.zero_le _) (by omega) (by simp; omega)]
  simp
theorem eLc_L {tg : Tg} {tt : Tx} {el : Ex} {vs : List Nat} {e : Ex} {xs : List D} {env : Env} {s s1 : Store} (p : D → Bool) (f : D → D) (hx0 : iSeq e env s = .ok (.seq (.lst xs)) s1) (hl : xs.length ≤ 16777216)
    (hx : ∀ x ∈ xs, ∃ e1, tgE tg x (wipeE env vs) = some e1 ∧ tt e1 s1 = .ok (p x) s1 ∧ (p x = true → ∃ d, el e1 s1 = .ok d s1 ∧ snk (fz d) = some (f x))) : eLc tg (iSeq e) tt el vs env s = .ok (.own (.lst ((xs.filter p).map f))) s1 :=
  eLc_eq p f hx0 (by rfl) (fun i => by rfl) hl hx
/-! the steps -/
section
variable {s : Store} {i j : Int}
@[simp] theorem fAdd_i : fAdd s (.int i) (.int j) = .ok (.int (i + j)) s := rfl
@[simp] theorem fSub_i : fSub s (.int i) (.int j) = .ok (.int (i - j)) s := rfl
@[simp] theorem fLt_i : fLt s (.int i) (.int j) = .ok (.bl (decide (i < j))) s := rfl
@[simp] theorem fLe_i : fLe s (.int i) (.int j) = .ok (.bl (decide (i ≤ j))) s := rfl
@[simp] theorem fGt_i : fGt s (.int i) (.int j) = .ok (.bl (decide (j < i))) s := rfl
@[simp] theorem fGe_i : fGe s (.int i) (.int j) = .ok (.bl (decide (j ≤ i))) s := rfl
@[simp] theorem fNeg_i : fNeg s (.int i) = .ok (.int (-i)) s := rfl
@[simp] theorem fMax_i : fMax s (.int i) (.int j) = .ok (.int (if j > i then j else i)) s := rfl
@[simp] theorem fMin_i : fMin s (.int i) (.int j) = .ok (.int (if j < i then j else i)) s := rfl
theorem fDiv_i (h : 0 < j) (h2 : j < 1073741824) : fDiv s (.int i) (.int j) = .ok (.int (i / j)) s := by
  show (if (decide (0 < j) && decide (j < 1073741824)) = true then _ else _) = _
  rw [if_pos (by simp [h, h2])]
theorem fMod_i (h : 0 < j) : fMod s (.int i) (.int j) = .ok (.int (i % j)) s := by
  show (if decide (0 < j) = true then _ else _) = _
  rw [if_pos (by simp [h])]
@[simp] theorem fEq_i : fEq s (.int i) (.int j) = .ok (.bl (i == j)) s := rfl
@[simp] theorem fNe_i : fNe s (.int i) (.int j) = .ok (.bl (!(i == j))) s := rfl
@[simp] theorem fEq_b {a b : Bool} : fEq s (.bl a) (.bl b) = .ok (.bl (a == b)) s := rfl
@[simp] theorem fIsN_i : fIsN s (.int i) .non = .ok (.bl false) s := rfl
@[simp] theorem fIsN_n : fIsN s .non .non = .ok (.bl true) s := rfl
@[simp] theorem fNotN_i : fNotN s (.int i) .non = .ok (.bl true) s := rfl
@[simp] theorem fNotN_n : fNotN s .non .non = .ok (.bl false) s := rfl
@[simp] theorem fIsN_t {xs : List D} : fIsN s (.tup xs) .non = .ok (.bl false) s := rfl
@[simp] theorem fNotN_t {xs : List D} : fNotN s (.tup xs) .non = .ok (.bl true) s := rfl
@[simp] theorem fNotB_b {a b : Bool} : fNotB s (.bl a) (.bl b) = .ok (.bl (!decide (a = b))) s := rfl
@[simp] theorem fIsB_b {a b : Bool} : fIsB s (.bl a) (.bl b) = .ok (.bl (decide (a = b))) s := rfl
@[simp] theorem fLen_l {xs : List D} : fLen s (.lst xs) = .ok (.int xs.length) s := rfl
@[simp] theorem fLen_t {xs : List D} : fLen s (.tup xs) = .ok (.int xs.length) s := rfl
@[simp] theorem fLen_b {xs : List D} : fLen s (.bor (.lst xs)) = .ok (.int xs.length) s := rfl
@[simp] theorem fLen_s {ns : List Int} : fLen s (.scr ns) = .ok (.int ns.length) s := by simp [fLen, dr]
theorem fIx_l {xs : List D} {d : D} (h : atI xs i = some d) : fIx s (.lst xs) (.int i) = .ok d s := by simp only [fIx, dr, h]
theorem fIx_b {xs : List D} {d : D} (h : atI xs i = some d) : fIx s (.bor (.lst xs)) (.int i) = .ok d s := by simp only [fIx, dr, h]
theorem fIx_t {xs : List D} {d : D} (h : atI xs i = some d) : fIx s (.tup xs) (.int i) = .ok d s := by simp only [fIx, h]
theorem fIx_r {xs : List D} {d : D} {n : Nat} (h0 : s[n]? = some (.lst xs)) (h : atI xs i = some d) : fIx s (.ref n) (.int i) = .ok d s := by simp only [fIx, dr, h0, h]
@[simp] theorem fIx_p0 {a b : D} : fIx s (.tup [a, b]) (.int 0) = .ok a s := rfl
@[simp] theorem fIx_p1 {a b : D} : fIx s (.tup [a, b]) (.int 1) = .ok b s := rfl
end
theorem atI_of {t : Type} {xs : List t} {i : Int} {d : t} (h0 : 0 ≤ i) (h : xs[i.toNat]? = some d) : atI xs i = some d := by
  have := atI_nat h
  rw [show ((i.toNat : Nat) : Int) = i by omega] at this
  exact this
theorem eqv_self : ∀ (d : PyData), d.canLay0 = true → PyData.eqv d d = true := fun d h => SeqAt.eqv_refl d h
end Gm

set_option Elab.async false
set_option linter.all false
set_option maxRecDepth 100000
set_option autoImplicit false
/-! the mirror's runs as equivalences, for simp -/
namespace Gm
open PySem L2
def vr : D → D
  | .own o => .bor o
  | d => d
def vrO (o : Option (Option D)) (s : Store) : R D := match o with
  | some (some d) => .ok (vr d) s
  | _ => .no
theorem eVar_eq {i : Nat} {env : Env} {s : Store} : eVar i env s = vrO env[i]? s := by
  unfold eVar vrO
  cases env[i]? with
  | none => rfl
  | some o => cases o with
    | none => rfl
    | some d => cases d <;> rfl
def asB (P : Bool → Prop) : D → Prop
  | .bl b => P b
  | _ => False
def asI (P : Int → Prop) : D → Prop
  | .int b => P b
  | _ => False
def asK (P : D → Prop) (d : D) : Prop := match snk (fz d) with
  | some x => P x
  | none => False
def asR (P : D → Prop) (d : D) : Prop := rtOk d = true ∧ P d
def Kt (b : Sx) (N : Env → Store → Prop) (T : D → Store → Prop) (X : Nat → Env → Store → Prop) (e : Env) (s : Store) : Prop := (b e s).W N T X
section
variable {t : Type} {env : Env} {s : Store} {Q : t → Store → Prop} {X : Nat → Store → Prop} {N : Env → Store → Prop} {T : D → Store → Prop} {Y : Nat → Env → Store → Prop}
theorem R.W_no : (R.no (t := t)).W Q X ↔ False := ⟨fun h => (by cases h), False.elim⟩
theorem SR.W_no : SR.no.W N T Y ↔ False := ⟨fun h => (by cases h), False.elim⟩
theorem SR.W_bk {e : Env} : (SR.bk e s).W N T Y ↔ False := ⟨fun h => (by cases h), False.elim⟩
theorem SR.W_ct {e : Env} : (SR.ct e s).W N T Y ↔ False := ⟨fun h => (by cases h), False.elim⟩
theorem R.W_ite {c : Prop} [Decidable c] {a b : R t} : (if c then a else b).W Q X ↔ (c → a.W Q X) ∧ (¬ c → b.W Q X) := by
  by_cases h : c <;> simp [h]
theorem vrO_s {d : D} : vrO (some (some d)) s = .ok (vr d) s := rfl
variable {Q : D → Store → Prop}
theorem we_op2 {f : Store → D → D → R D} {a b : Ex} : (eOp2 f a b env s).W Q X ↔ (a env s).W (fun x s1 => (b env s1).W (fun y s2 => (f s2 (fz x) (fz y)).W Q X) X) X := by
  unfold eOp2
  cases a env s with
  | ok x s1 => rw [R.W_ok]; dsimp only; cases b env s1 <;> simp only [R.W_ok, R.W_exc, R.W_no]
  | exc c s1 => simp only [R.W_exc]
  | no => simp only [R.W_no]
theorem we_op1 {f : Store → D → R D} {a : Ex} : (eOp1 f a env s).W Q X ↔ (a env s).W (fun x s1 => (f s1 (fz x)).W Q X) X := by
  unfold eOp1
  cases a env s <;> simp only [R.W_ok, R.W_exc, R.W_no]
theorem we_C {d : D} : (eC d env s).W Q X ↔ Q d s := R.W_ok
theorem we_dct0 : (eDct0 env s).W Q X ↔ Q (.own (.dK [])) s := R.W_ok
theorem we_tY {Q : Bool → Store → Prop} : (tY env s).W Q X ↔ Q true s := R.W_ok
theorem we_tq {a : Ex} {Q : Bool → Store → Prop} : (tq a env s).W Q X ↔ (a env s).W (fun d s1 => asB (fun b => Q b s1) d) X := by
  unfold tq
  cases a env s with
  | ok x s1 => cases x <;> simp only [R.W_ok, R.W_no, asB]
  | exc c s1 => simp only [R.W_exc]
  | no => simp only [R.W_no]
theorem we_notX {a : Tx} {Q : Bool → Store → Prop} : (tNotX a env s).W Q X ↔ (a env s).W (fun b s1 => Q (!b) s1) X := by
  unfold tNotX
  cases a env s <;> simp only [R.W_ok, R.W_exc, R.W_no]
def aT (k : Bool) (A B : Prop) : Prop := (k = true → A) ∧ (k = false → B)
theorem aT_t {A B : Prop} : aT true A B ↔ A := by simp [aT]
theorem aT_f {A B : Prop} : aT false A B ↔ B := by simp [aT]
theorem aT_d {A B p : Prop} [Decidable p] : aT (decide p) A B ↔ (p → A) ∧ (¬ p → B) := by simp [aT]
theorem aT_n {A B : Prop} {k : Bool} : aT (!k) A B ↔ aT k B A := by cases k <;> simp [aT]
theorem aT_and {A B : Prop} {k l : Bool} : aT (k && l) A B ↔ aT k (aT l A B) B := by cases k <;> simp [aT]
theorem aT_or {A B : Prop} {k l : Bool} : aT (k || l) A B ↔ aT k A (aT l A B) := by cases k <;> simp [aT]
theorem we_andX {a b : Tx} {Q : Bool → Store → Prop} : (tAndX a b env s).W Q X ↔ (a env s).W (fun k s1 => aT k ((b env s1).W Q X) (Q false s1)) X := by
  unfold tAndX
  cases a env s with
  | ok x s1 => cases x <;> simp only [R.W_ok, aT_t, aT_f]
  | exc c s1 => simp only [R.W_exc]
  | no => simp only [R.W_no]
theorem we_orX {a b : Tx} {Q : Bool → Store → Prop} : (tOrX a b env s).W Q X ↔ (a env s).W (fun k s1 => aT k (Q true s1) ((b env s1).W Q X)) X := by
  unfold tOrX
  cases a env s with
  | ok x s1 => cases x <;> simp only [R.W_ok, aT_t, aT_f]
  | exc c s1 => simp only [R.W_exc]
  | no => simp only [R.W_no]
theorem we_and {a b : Ex} : (eAnd a b env s).W Q X ↔ (tq a env s).W (fun k s1 => aT k ((b env s1).W Q X) (Q (.bl false) s1)) X := by
  unfold eAnd
  cases tq a env s with
  | ok x s1 => cases x <;> simp only [R.W_ok, aT_t, aT_f]
  | exc c s1 => simp only [R.W_exc]
  | no => simp only [R.W_no]
theorem we_or {a b : Ex} : (eOr a b env s).W Q X ↔ (tq a env s).W (fun k s1 => aT k (Q (.bl true) s1) ((b env s1).W Q X)) X := by
  unfold eOr
  cases tq a env s with
  | ok x s1 => cases x <;> simp only [R.W_ok, aT_t, aT_f]
  | exc c s1 => simp only [R.W_exc]
  | no => simp only [R.W_no]
theorem we_not {a : Ex} : (eNot a env s).W Q X ↔ (tq a env s).W (fun k s1 => Q (.bl (!k)) s1) X := by
  unfold eNot
  cases tq a env s <;> simp only [R.W_ok, R.W_exc, R.W_no]
theorem we_if {c : Tx} {a b : Ex} : (eIf c a b env s).W Q X ↔ (c env s).W (fun k s1 => aT k ((a env s1).W Q X) ((b env s1).W Q X)) X := by
  unfold eIf
  cases c env s with
  | ok x s1 => cases x <;> simp only [R.W_ok, aT_t, aT_f]
  | exc c s1 => simp only [R.W_exc]
  | no => simp only [R.W_no]
theorem we_aNil {Q : List D → Store → Prop} : (aNil env s).W Q X ↔ Q [] s := R.W_ok
theorem we_aCons {a : Ex} {r : Ax} {Q : List D → Store → Prop} : (aCons a r env s).W Q X ↔ (a env s).W (fun x s1 => asK (fun d => (r env s1).W (fun ds s2 => Q (d :: ds) s2) X) x) X := by
  unfold aCons asK
  cases a env s with
  | ok x s1 =>
    simp only [R.W_ok]
    cases snk (fz x) with
    | none => simp only [R.W_no]
    | some d => dsimp only; cases r env s1 <;> simp only [R.W_ok, R.W_exc, R.W_no]
  | exc c s1 => simp only [R.W_exc]
  | no => simp only [R.W_no]
theorem we_tup {a : Ax} : (eTup a env s).W Q X ↔ (a env s).W (fun ds s1 => ds.length ≤ 16777216 ∧ Q (.tup ds) s1) X := by
  unfold eTup
  cases a env s with
  | ok x s1 =>
    simp only [R.W_ok]
    by_cases h : x.length ≤ 16777216 <;> simp [h, R.W_ok, R.W_no]
  | exc c s1 => simp only [R.W_exc]
  | no => simp only [R.W_no]
theorem we_lst {a : Ax} : (eLst a env s).W Q X ↔ (a env s).W (fun ds s1 => ds.length ≤ 16777216 ∧ Q (.own (.lst ds)) s1) X := by
  unfold eLst
  cases a env s with
  | ok x s1 =>
    simp only [R.W_ok]
    by_cases h : x.length ≤ 16777216 <;> simp [h, R.W_ok, R.W_no]
  | exc c s1 => simp only [R.W_exc]
  | no => simp only [R.W_no]
theorem we_call {F : Fx} {a : Ax} : (eCall F a env s).W Q X ↔ (a env s).W (fun ds s1 => (F ds s1).W Q X) X := by
  unfold eCall
  cases a env s <;> simp only [R.W_ok, R.W_exc, R.W_no]
theorem we_oNo {Q : Option Int → Store → Prop} : (oNo env s).W Q X ↔ Q none s := R.W_ok
theorem we_oSo {a : Ex} {Q : Option Int → Store → Prop} : (oSo a env s).W Q X ↔ (a env s).W (fun d s1 => asI (fun i => Q (some i) s1) d) X := by
  unfold oSo
  cases a env s with
  | ok x s1 => cases x <;> simp only [R.W_ok, R.W_no, asI]
  | exc c s1 => simp only [R.W_exc]
  | no => simp only [R.W_no]
theorem we_sl {a : Ex} {l h : Ox} : (eSl a l h env s).W Q X ↔ (a env s).W (fun x s1 => (l env s1).W (fun i s2 => (h env s2).W (fun j s3 => (fSl s3 (fz x) i j).W Q X) X) X) X := by
  unfold eSl
  cases a env s with
  | ok x s1 =>
    simp only [R.W_ok]
    cases l env s1 with
    | ok y s2 => simp only [R.W_ok]; cases h env s2 <;> simp only [R.W_ok, R.W_exc, R.W_no]
    | exc c s1 => simp only [R.W_exc]
    | no => simp only [R.W_no]
  | exc c s1 => simp only [R.W_exc]
  | no => simp only [R.W_no]
theorem we_meth {f : Store → D → D → R D} {a b : Ex} : (eMeth f a b env s).W Q X ↔ (a env s).W (fun x s1 => isLD s1 (fz x) = true ∧ (b env s1).W (fun y s2 => (f s2 (fz x) (fz y)).W Q X) X) X := by
  unfold eMeth
  cases a env s with
  | ok x s1 =>
    simp only [R.W_ok]
    by_cases h : isLD s1 (fz x) = true
    · simp only [h, if_true, true_and]; cases b env s1 <;> simp only [R.W_ok, R.W_exc, R.W_no]
    · simp [h, R.W_no]
  | exc c s1 => simp only [R.W_exc]
  | no => simp only [R.W_no]
theorem we_chain {f f' : Store → D → D → R D} {a b c : Ex} {X : Nat → Store → Prop} (hf : ∀ s x y k s', f s x y ≠ .exc k s') : (eChain f f' a b c env s).W Q X ↔ (a env s).W (fun x s1 => (b env s1).W (fun y s2 => (f s2 (fz x) (fz y)).W (fun d s3 => asB (fun k => aT k ((c env s3).W (fun z s4 => (f' s4 (fz y) (fz z)).W Q X) X) (Q (.bl false) s3)) d) X) X) X := by
  unfold eChain
  cases a env s with
  | ok x s1 =>
    simp only [R.W_ok]
    cases b env s1 with
    | ok y s2 =>
      simp only [R.W_ok]
      cases e : f s2 (fz x) (fz y) with
      | ok d s3 =>
        simp only [R.W_ok]
        cases d with
        | bl k =>
          cases k with
          | true => simp only [asB, aT_t]; cases c env s3 <;> simp only [R.W_ok, R.W_exc, R.W_no]
          | false => simp only [asB, aT_f, R.W_ok]
        | _ => simp only [asB, R.W_no]
      | exc c s1 => exact absurd e (hf _ _ _ _ _)
      | no => simp only [R.W_no]
    | exc c s1 => simp only [R.W_exc]
    | no => simp only [R.W_no]
  | exc c s1 => simp only [R.W_exc]
  | no => simp only [R.W_no]
theorem we_lele {a b c : Ex} : (eChain fLe fLe a b c env s).W Q X ↔ (a env s).W (fun x s1 => (b env s1).W (fun y s2 => (fLe s2 (fz x) (fz y)).W (fun d s3 => asB (fun k => aT k ((c env s3).W (fun z s4 => (fLe s4 (fz y) (fz z)).W Q X) X) (Q (.bl false) s3)) d) X) X) X := we_chain ne_I
theorem we_lelt {a b c : Ex} : (eChain fLe fLt a b c env s).W Q X ↔ (a env s).W (fun x s1 => (b env s1).W (fun y s2 => (fLe s2 (fz x) (fz y)).W (fun d s3 => asB (fun k => aT k ((c env s3).W (fun z s4 => (fLt s4 (fz y) (fz z)).W Q X) X) (Q (.bl false) s3)) d) X) X) X := we_chain ne_I
theorem wi_seq {a : Ex} {Q : Itr → Store → Prop} : (iSeq a env s).W Q X ↔ (a env s).W (fun x s1 => asK (fun d => ∃ xs, seqD s1 d = some xs ∧ Q (.seq d) s1) x) X := by
  unfold iSeq asK
  cases a env s with
  | ok x s1 =>
    simp only [R.W_ok]
    cases snk (fz x) with
    | none => simp only [R.W_no]
    | some d => dsimp only; cases seqD s1 d <;> simp [R.W_ok, R.W_no]
  | exc c s1 => simp only [R.W_exc]
  | no => simp only [R.W_no]
theorem wi_rng1 {a : Ex} {Q : Itr → Store → Prop} : (xRng1 a env s).W Q X ↔ (a env s).W (fun x s1 => asI (fun j => rOk j = true ∧ Q (.rng 0 j.toNat) s1) x) X := by
  unfold xRng1
  cases a env s with
  | ok x s1 =>
    cases x with
    | int j => simp only [R.W_ok, asI]; by_cases h : rOk j = true <;> simp [h, R.W_ok, R.W_no]
    | _ => simp only [R.W_ok, R.W_no, asI]
  | exc c s1 => simp only [R.W_exc]
  | no => simp only [R.W_no]
theorem wi_rng2 {a b : Ex} {Q : Itr → Store → Prop} : (xRng2 a b env s).W Q X ↔ (a env s).W (fun x s1 => asI (fun i => (b env s1).W (fun y s2 => asI (fun j => (rOk i = true ∧ rOk j = true) ∧ Q (.rng i (j - i).toNat) s2) y) X) x) X := by
  unfold xRng2
  cases a env s with
  | ok x s1 =>
    cases x with
    | int i =>
      simp only [R.W_ok, asI]
      cases b env s1 with
      | ok y s2 =>
        cases y with
        | int j => simp only [R.W_ok, asI]; by_cases h : rOk i = true ∧ rOk j = true <;> simp [h, R.W_ok, R.W_no]
        | _ => simp only [R.W_ok, R.W_no, asI]
      | exc c s1 => simp only [R.W_exc]
      | no => simp only [R.W_no]
    | _ => simp only [R.W_ok, R.W_no, asI]
  | exc c s1 => simp only [R.W_exc]
  | no => simp only [R.W_no]
/-! statements -/
theorem ws_seq {a b : Sx} : (sSeq a b env s).W N T Y ↔ (a env s).W (Kt b N T Y) T Y := by
  unfold sSeq
  cases a env s <;> simp only [SR.W_nx, SR.W_rt, SR.W_exc, SR.W_no, SR.W_bk, SR.W_ct, Kt]
theorem Kt_eq {b : Sx} : Kt b N T Y env s ↔ (b env s).W N T Y := Iff.rfl
theorem ws_nil : (sNil env s).W N T Y ↔ N env s := SR.W_nx
theorem ws_ex {e : Ex} : (sEx e env s).W N T Y ↔ (e env s).W (fun _ s1 => N env s1) (fun c s1 => Y c env s1) := by
  unfold sEx
  cases e env s <;> simp only [SR.W_nx, SR.W_exc, SR.W_no, R.W_ok, R.W_exc, R.W_no]
theorem ws_set {i : Nat} {e : Ex} : (sSet i e env s).W N T Y ↔ (e env s).W (fun d s1 => asR (fun d => N (env.set i (some d)) s1) d) (fun c s1 => Y c env s1) := by
  unfold sSet
  cases e env s with
  | ok d s1 => cases d <;> simp [putE, asR, rtOk, SR.W_nx, SR.W_no, R.W_ok]
  | exc c s1 => simp only [SR.W_exc, R.W_exc]
  | no => simp only [SR.W_no, R.W_no]
theorem ws_setF {i : Nat} {e : Ex} : (sSetF i e env s).W N T Y ↔ (e env s).W (fun d s1 => asK (fun d => N (env.set i (some d)) s1) d) (fun c s1 => Y c env s1) := by
  unfold sSetF asK
  cases e env s with
  | ok d s1 => simp only [R.W_ok]; cases snk (fz d) <;> simp only [SR.W_nx, SR.W_no]
  | exc c s1 => simp only [SR.W_exc, R.W_exc]
  | no => simp only [SR.W_no, R.W_no]
def asE (o : Option Env) (P : Env → Prop) : Prop := match o with
  | some e => P e
  | none => False
theorem asE_s {e : Env} {P : Env → Prop} : asE (some e) P ↔ P e := Iff.rfl
theorem ws_setT {is : List Nat} {e : Ex} : (sSetT is e env s).W N T Y ↔ (e env s).W (fun d s1 => asE (tgE (.tp is) d env) fun e => N e s1) (fun c s1 => Y c env s1) := by
  unfold sSetT asE
  cases e env s with
  | ok d s1 => simp only [R.W_ok]; cases tgE (.tp is) d env <;> simp only [SR.W_nx, SR.W_no]
  | exc c s1 => simp only [SR.W_exc, R.W_exc]
  | no => simp only [SR.W_no, R.W_no]
theorem ws_if {c : Tx} {a b : Sx} : (sIf c a b env s).W N T Y ↔ (c env s).W (fun k s1 => aT k ((a env s1).W N T Y) ((b env s1).W N T Y)) (fun c s1 => Y c env s1) := by
  unfold sIf
  cases c env s with
  | ok x s1 => cases x <;> simp only [R.W_ok, aT_t, aT_f]
  | exc c s1 => simp only [R.W_exc, SR.W_exc]
  | no => simp only [R.W_no, SR.W_no]
theorem ws_ret {e : Ex} : (sRet e env s).W N T Y ↔ (e env s).W (fun d s1 => asR (fun d => T d s1) d) (fun c s1 => Y c env s1) := by
  unfold sRet
  cases e env s with
  | ok d s1 => cases d <;> simp [asR, rtOk, SR.W_rt, SR.W_no, R.W_ok]
  | exc c s1 => simp only [SR.W_exc, R.W_exc]
  | no => simp only [SR.W_no, R.W_no]
theorem ws_retN : (sRetN env s).W N T Y ↔ T .non s := SR.W_rt
def rvO (o : Option (Option D)) (P : D → Prop) : Prop := match o with
  | some (some d) => d ≠ .exn ∧ P d
  | _ => False
theorem ws_retV {i : Nat} : (sRetV i env s).W N T Y ↔ rvO env[i]? fun d => T d s := by
  unfold sRetV rvO
  cases env[i]? with
  | none => simp only [SR.W_no]
  | some o => cases o with
    | none => simp only [SR.W_no]
    | some d => cases d <;> simp [SR.W_no, SR.W_rt]
theorem ws_raise {c : Nat} : (sRaise c env s).W N T Y ↔ Y c env s := SR.W_exc
theorem ws_pre {q : Env → Store → Gm.Env × Store} {a : Sx} : (sPre q a env s).W N T Y ↔ (a (q env s).1 (q env s).2).W N T Y := Iff.rfl
def adK (i : Nat) (N : Env → Store → Prop) (e : Env) (s : Store) : Prop := N (gAd i e s).1 (gAd i e s).2
theorem ws_ad {i : Nat} {m : Sx} : (sAd i m env s).W N T Y ↔ (m env s).W (adK i N) T Y := by
  unfold sAd adK
  cases m env s <;> simp only [SR.W_nx, SR.W_rt, SR.W_exc, SR.W_no, SR.W_bk, SR.W_ct]
/-- a name's list: in the frame or in the store -/
def lens (i : Nat) (env : Env) (s : Store) : Option (List D × (List D → Env × Store)) := match env[i]? with
  | some (some (.own (.lst xs))) => some (xs, fun ys => (env.set i (some (.own (.lst ys))), s))
  | some (some (.ref n)) => (match s[n]? with
    | some (.lst xs) => some (xs, fun ys => (env, s.set n (.lst ys)))
    | _ => none)
  | _ => none
def muO (o : Option (Option D)) (i : Nat) (f : List D → Option (List D)) (N : Env → Store → Prop) (env : Env) (s : Store) : Prop := match o with
  | some (some (.own (.lst xs))) => (match f xs with
    | some ys => N (env.set i (some (.own (.lst ys)))) s
    | none => False)
  | some (some (.ref n)) => (match s[n]? with
    | some (.lst xs) => (match f xs with
      | some ys => N env (s.set n (.lst ys))
      | none => False)
    | _ => False)
  | _ => False
def isLO (o : Option (Option D)) (s : Store) : Prop := match o with
  | some (some (.own (.lst _))) => True
  | some (some (.ref n)) => (match s[n]? with
    | some (.lst _) => True
    | _ => False)
  | _ => False
theorem isLO_eq {i : Nat} : isL i env s = true ↔ isLO env[i]? s := by
  unfold isL isLO
  split <;> (try split) <;> simp_all
theorem muO_eq {i : Nat} {f : List D → Option (List D)} : muO env[i]? i f N env s ↔ ∃ p, mutL i f env s = some p ∧ N p.1 p.2 := by
  unfold muO mutL
  cases env[i]? with
  | none => simp
  | some o => cases o with
    | none => simp
    | some d => cases d with
      | own o => cases o with
        | lst xs => dsimp only; cases f xs <;> simp
        | _ => simp
      | ref n =>
        dsimp only
        cases s[n]? with
        | none => simp
        | some o => cases o with
          | lst xs => dsimp only; cases f xs <;> simp
          | _ => simp
      | _ => simp
theorem muO_own {i : Nat} {f : List D → Option (List D)} {xs : List D} : muO (some (some (.own (.lst xs)))) i f N env s ↔ ∃ ys, f xs = some ys ∧ N (env.set i (some (.own (.lst ys)))) s := by
  unfold muO; dsimp only; cases f xs <;> simp
theorem muO_app {i : Nat} {d : D} {xs : List D} : muO (some (some (.own (.lst xs)))) i (fApp d) N env s ↔ xs.length < 16777216 ∧ N (env.set i (some (.own (.lst (xs ++ [d]))))) s := by
  rw [muO_own]; unfold fApp; by_cases h : xs.length < 16777216 <;> simp [h]
theorem muO_ext {i : Nat} {zs xs : List D} : muO (some (some (.own (.lst xs)))) i (fExt zs) N env s ↔ xs.length + zs.length ≤ 16777216 ∧ N (env.set i (some (.own (.lst (xs ++ zs))))) s := by
  rw [muO_own]; unfold fExt; by_cases h : xs.length + zs.length ≤ 16777216 <;> simp [h]
theorem muO_seti {i : Nat} {k : Int} {d : D} {xs : List D} : muO (some (some (.own (.lst xs)))) i (fSetI k d) N env s ↔ ∃ j, ixN xs.length k = some j ∧ N (env.set i (some (.own (.lst (xs.set j d))))) s := by
  rw [muO_own]; unfold fSetI; cases ixN xs.length k <;> simp
theorem muO_rev {i : Nat} {xs : List D} : muO (some (some (.own (.lst xs)))) i (fun xs => some xs.reverse) N env s ↔ N (env.set i (some (.own (.lst xs.reverse)))) s := Iff.rfl
def rfO (o : Option O) (n : Nat) (f : List D → Option (List D)) (N : Env → Store → Prop) (env : Env) (s : Store) : Prop := match o with
  | some (.lst xs) => (match f xs with
    | some ys => N env (s.set n (.lst ys))
    | none => False)
  | _ => False
theorem muO_ref {i n : Nat} {f : List D → Option (List D)} : muO (some (some (.ref n))) i f N env s ↔ rfO s[n]? n f N env s := Iff.rfl
theorem rfO_app {n : Nat} {d : D} {xs : List D} : rfO (some (.lst xs)) n (fApp d) N env s ↔ xs.length < 16777216 ∧ N env (s.set n (.lst (xs ++ [d]))) := by
  unfold rfO fApp; by_cases h : xs.length < 16777216 <;> simp [h]
theorem rfO_ext {n : Nat} {zs xs : List D} : rfO (some (.lst xs)) n (fExt zs) N env s ↔ xs.length + zs.length ≤ 16777216 ∧ N env (s.set n (.lst (xs ++ zs))) := by
  unfold rfO fExt; by_cases h : xs.length + zs.length ≤ 16777216 <;> simp [h]
theorem rfO_seti {n : Nat} {k : Int} {d : D} {xs : List D} : rfO (some (.lst xs)) n (fSetI k d) N env s ↔ ∃ j, ixN xs.length k = some j ∧ N env (s.set n (.lst (xs.set j d))) := by
  dsimp only [rfO, fSetI]; cases ixN xs.length k <;> simp
theorem rfO_rev {n : Nat} {xs : List D} : rfO (some (.lst xs)) n (fun xs => some xs.reverse) N env s ↔ N env (s.set n (.lst xs.reverse)) := Iff.rfl
theorem isLO_own {xs : List D} : isLO (some (some (.own (.lst xs)))) s ↔ True := Iff.rfl
def isLr (o : Option O) : Prop := match o with
  | some (.lst _) => True
  | _ => False
theorem isLO_ref {n : Nat} : isLO (some (some (.ref n))) s ↔ isLr s[n]? := Iff.rfl
theorem isLr_s {xs : List D} : isLr (some (.lst xs)) ↔ True := Iff.rfl
theorem ws_app {i : Nat} {e : Ex} : (sMut i gApp e env s).W N T Y ↔ isLO env[i]? s ∧ (e env s).W (fun x s1 => asK (fun d => muO env[i]? i (fApp d) N env s1) x) (fun c s1 => Y c env s1) := by
  unfold sMut
  rw [← isLO_eq]
  by_cases h : isL i env s = true
  · simp only [h, if_true, true_and]
    cases e env s with
    | ok d s1 =>
      simp only [R.W_ok, asK, gApp]
      cases snk (fz d) with
      | none => simp only [Option.map_none, SR.W_no]
      | some d' =>
        simp only [Option.map_some, muO_eq]
        cases mutL i (fApp d') env s1 with
        | none => simp [SR.W_no]
        | some p => simp [SR.W_nx]
    | exc c s1 => simp only [SR.W_exc, R.W_exc]
    | no => simp only [SR.W_no, R.W_no]
  · simp [h, SR.W_no]
def asL (o : Option O) (P : List D → Prop) : Prop := match o with
  | some (.lst xs) => P xs
  | _ => False
theorem asL_s {xs : List D} {P : List D → Prop} : asL (some (.lst xs)) P ↔ P xs := Iff.rfl
theorem wq_ext {i : Nat} {e : Ex} : (sMut i gExt e env s).W N T Y ↔ isLO env[i]? s ∧ (e env s).W (fun x s1 => asL (drM s1 (fz x)) fun zs => muO env[i]? i (fExt zs) N env s1) (fun c s1 => Y c env s1) := by
  unfold sMut
  rw [← isLO_eq]
  by_cases h : isL i env s = true
  · simp only [h, if_true, true_and]
    cases e env s with
    | ok d s1 =>
      simp only [R.W_ok, gExt, asL]
      split
      · rename_i h1 _ h2
        split at h2
        · rename_i zs e1
          cases h2
          try rw [e1]
          simp only [muO_eq]
          cases mutL i (fExt zs) env s1 with
          | none => simp [SR.W_no]
          | some p => simp [SR.W_nx]
        · cases h2
      · rename_i h2
        split at h2
        · cases h2
        · rename_i n1
          simp only [SR.W_no]
          try exact ⟨False.elim, fun z => by
            split at z
            · exact n1 _ ‹_›
            · exact z⟩
    | exc c s1 => simp only [SR.W_exc, R.W_exc]
    | no => simp only [SR.W_no, R.W_no]
  · simp [h, SR.W_no]
theorem ws_sub {i : Nat} {j e : Ex} : (sSub i j e env s).W N T Y ↔ (e env s).W (fun x s1 => asK (fun d => isLO env[i]? s1 ∧ (j env s1).W (fun y s2 => asI (fun k => muO env[i]? i (fSetI k d) N env s2) y) (fun c s1 => Y c env s1)) x) (fun c s1 => Y c env s1) := by
  unfold sSub
  cases e env s with
  | ok d s1 =>
    simp only [R.W_ok, asK]
    cases snk (fz d) with
    | none => simp only [SR.W_no]
    | some d' =>
      dsimp only
      rw [← isLO_eq]
      by_cases h : isL i env s1 = true
      · simp only [h, if_true, true_and]
        cases j env s1 with
        | ok y s2 =>
          cases y with
          | int k =>
            simp only [R.W_ok, asI, muO_eq]
            cases mutL i (fSetI k d') env s2 with
            | none => simp [SR.W_no]
            | some p => simp [SR.W_nx]
          | _ => simp only [R.W_ok, asI, SR.W_no]
        | exc c s1 => simp only [SR.W_exc, R.W_exc]
        | no => simp only [SR.W_no, R.W_no]
      · simp [h, SR.W_no]
  | exc c s1 => simp only [SR.W_exc, R.W_exc]
  | no => simp only [SR.W_no, R.W_no]
theorem ws_rev {i : Nat} : (sRev i env s).W N T Y ↔ muO env[i]? i (fun xs => some xs.reverse) N env s := by
  unfold sRev
  rw [muO_eq]
  cases mutL i (fun xs => some xs.reverse) env s with
  | none => simp [SR.W_no]
  | some p => simp [SR.W_nx]
/-! dicts -/
def duO (o : Option (Option D)) (i : Nat) (f : List (Key × D) → List (Key × D)) (N : Env → Store → Prop) (env : Env) (s : Store) : Prop := match o with
  | some (some (.own (.dK xs))) => xs.length < 16777216 ∧ N (env.set i (some (.own (.dK (f xs))))) s
  | some (some (.ref n)) => (match s[n]? with
    | some (.dK xs) => xs.length < 16777216 ∧ N env (s.set n (.dK (f xs)))
    | _ => False)
  | _ => False
def isDO (o : Option (Option D)) (s : Store) : Prop := match o with
  | some (some (.own (.dK _))) => True
  | some (some (.ref n)) => (match s[n]? with
    | some (.dK _) => True
    | _ => False)
  | _ => False
theorem isDO_eq {i : Nat} : isDc i env s = true ↔ isDO env[i]? s := by
  unfold isDc isDO
  split <;> (try split) <;> simp_all
theorem duO_eq {i : Nat} {f : List (Key × D) → List (Key × D)} : duO env[i]? i f N env s ↔ ∃ p, mutD i f env s = some p ∧ N p.1 p.2 := by
  unfold duO mutD
  cases env[i]? with
  | none => simp
  | some o => cases o with
    | none => simp
    | some d => cases d with
      | own o => cases o with
        | dK xs => dsimp only; by_cases h : xs.length < 16777216 <;> simp [h]
        | _ => simp
      | ref n =>
        dsimp only
        cases s[n]? with
        | none => simp
        | some o => cases o with
          | dK xs => dsimp only; by_cases h : xs.length < 16777216 <;> simp [h]
          | _ => simp
      | _ => simp
def asKy (P : Key → Prop) (d : D) : Prop := match kD d with
  | some k => P k
  | none => False
theorem asKy_i {P : Key → Prop} {i : Int} : asKy P (.int i) ↔ P (.inl i) := Iff.rfl
theorem asKy_s {P : Key → Prop} {x : Str} : asKy P (.str x) ↔ P (.inr x) := Iff.rfl
theorem ws_dp {i : Nat} {j e : Ex} : (sDP i j e env s).W N T Y ↔ (e env s).W (fun x s1 => asK (fun d => isDO env[i]? s1 ∧ (j env s1).W (fun y s2 => asKy (fun k => duO env[i]? i (fun kv => putD kv k d) N env s2) y) (fun c s1 => Y c env s1)) x) (fun c s1 => Y c env s1) := by
  unfold sDP
  cases e env s with
  | ok d s1 =>
    simp only [R.W_ok, asK]
    cases snk (fz d) with
    | none => simp only [SR.W_no]
    | some d' =>
      dsimp only
      rw [← isDO_eq]
      by_cases h : isDc i env s1 = true
      · simp only [h, if_true, true_and]
        cases j env s1 with
        | ok y s2 =>
          simp only [R.W_ok, asKy]
          cases kD y with
          | none => simp only [SR.W_no]
          | some k =>
            simp only [duO_eq]
            cases mutD i (fun kv => putD kv k d') env s2 with
            | none => simp [SR.W_no]
            | some p => simp [SR.W_nx]
        | exc c s1 => simp only [SR.W_exc, R.W_exc]
        | no => simp only [SR.W_no, R.W_no]
      · simp [h, SR.W_no]
  | exc c s1 => simp only [SR.W_exc, R.W_exc]
  | no => simp only [SR.W_no, R.W_no]
theorem duO_own {i : Nat} {f : List (Key × D) → List (Key × D)} {xs : List (Key × D)} : duO (some (some (.own (.dK xs)))) i f N env s ↔ xs.length < 16777216 ∧ N (env.set i (some (.own (.dK (f xs))))) s := Iff.rfl
theorem isDO_own {xs : List (Key × D)} : isDO (some (some (.own (.dK xs)))) s ↔ True := Iff.rfl
def rdO (o : Option O) (n : Nat) (f : List (Key × D) → List (Key × D)) (N : Env → Store → Prop) (env : Env) (s : Store) : Prop := match o with
  | some (.dK xs) => xs.length < 16777216 ∧ N env (s.set n (.dK (f xs)))
  | _ => False
theorem duO_ref {i n : Nat} {f : List (Key × D) → List (Key × D)} : duO (some (some (.ref n))) i f N env s ↔ rdO s[n]? n f N env s := Iff.rfl
theorem rdO_s {n : Nat} {f : List (Key × D) → List (Key × D)} {xs : List (Key × D)} : rdO (some (.dK xs)) n f N env s ↔ xs.length < 16777216 ∧ N env (s.set n (.dK (f xs))) := Iff.rfl
def isDr (o : Option O) : Prop := match o with
  | some (.dK _) => True
  | _ => False
theorem isDO_ref {n : Nat} : isDO (some (some (.ref n))) s ↔ isDr s[n]? := Iff.rfl
theorem isDr_s {xs : List (Key × D)} : isDr (some (.dK xs)) ↔ True := Iff.rfl
end
/-! simple facts of values -/
theorem vr_i {i : Int} : vr (.int i) = .int i := rfl
theorem vr_b {i : Bool} : vr (.bl i) = .bl i := rfl
theorem vr_n : vr .non = .non := rfl
theorem vr_s {x : Str} : vr (.str x) = .str x := rfl
theorem vr_t {x : List D} : vr (.tup x) = .tup x := rfl
theorem vr_l {x : List D} : vr (.lst x) = .lst x := rfl
theorem vr_c {x : List Int} : vr (.scr x) = .scr x := rfl
theorem vr_d {x : List (Key × D)} : vr (.dct x) = .dct x := rfl
theorem vr_r {n : Nat} : vr (.ref n) = .ref n := rfl
theorem vr_o {o : O} : vr (.own o) = .bor o := rfl
theorem fz_i {i : Int} : fz (.int i) = .int i := rfl
theorem fz_b {i : Bool} : fz (.bl i) = .bl i := rfl
theorem fz_n : fz .non = .non := rfl
theorem fz_s {x : Str} : fz (.str x) = .str x := rfl
theorem fz_t {x : List D} : fz (.tup x) = .tup x := rfl
theorem fz_l {x : List D} : fz (.lst x) = .lst x := rfl
theorem fz_c {x : List Int} : fz (.scr x) = .scr x := rfl
theorem fz_d {x : List (Key × D)} : fz (.dct x) = .dct x := rfl
theorem fz_r {n : Nat} : fz (.ref n) = .ref n := rfl
theorem fz_bo {o : O} : fz (.bor o) = .bor o := rfl
theorem fz_ol {x : List D} : fz (.own (.lst x)) = .lst x := rfl
theorem fz_od {x : List (Key × D)} : fz (.own (.dK x)) = .dct x := rfl
section
variable {P : D → Prop} {n : Nat}
theorem asK_i {i : Int} : asK P (.int i) ↔ P (.int i) := Iff.rfl
theorem asK_b {i : Bool} : asK P (.bl i) ↔ P (.bl i) := Iff.rfl
theorem asK_n : asK P .non ↔ P .non := Iff.rfl
theorem asK_s {x : Str} : asK P (.str x) ↔ P (.str x) := Iff.rfl
theorem asK_t {x : List D} : asK P (.tup x) ↔ P (.tup x) := Iff.rfl
theorem asK_l {x : List D} : asK P (.lst x) ↔ P (.lst x) := Iff.rfl
theorem asK_c {x : List Int} : asK P (.scr x) ↔ P (.scr x) := Iff.rfl
theorem asK_d {x : List (Key × D)} : asK P (.dct x) ↔ P (.dct x) := Iff.rfl
theorem asK_r : asK P (.ref n) ↔ P (.ref n) := Iff.rfl
theorem asK_ol {x : List D} : asK P (.own (.lst x)) ↔ P (.lst x) := Iff.rfl
theorem asK_od {x : List (Key × D)} : asK P (.own (.dK x)) ↔ P (.dct x) := Iff.rfl
theorem asR_i {i : Int} : asR P (.int i) ↔ P (.int i) := by simp [asR, rtOk]
theorem asR_b {i : Bool} : asR P (.bl i) ↔ P (.bl i) := by simp [asR, rtOk]
theorem asR_n : asR P .non ↔ P .non := by simp [asR, rtOk]
theorem asR_s {x : Str} : asR P (.str x) ↔ P (.str x) := by simp [asR, rtOk]
theorem asR_t {x : List D} : asR P (.tup x) ↔ P (.tup x) := by simp [asR, rtOk]
theorem asR_l {x : List D} : asR P (.lst x) ↔ P (.lst x) := by simp [asR, rtOk]
theorem asR_c {x : List Int} : asR P (.scr x) ↔ P (.scr x) := by simp [asR, rtOk]
theorem asR_d {x : List (Key × D)} : asR P (.dct x) ↔ P (.dct x) := by simp [asR, rtOk]
theorem asR_r : asR P (.ref n) ↔ P (.ref n) := by simp [asR, rtOk]
theorem asR_o {o : O} : asR P (.own o) ↔ P (.own o) := by simp [asR, rtOk]
theorem asB_b {P : Bool → Prop} {b : Bool} : asB P (.bl b) ↔ P b := Iff.rfl
theorem asI_i {P : Int → Prop} {b : Int} : asI P (.int b) ↔ P b := Iff.rfl
theorem rvO_i {i : Int} : rvO (some (some (.int i))) P ↔ P (.int i) := by simp [rvO]
theorem rvO_b {i : Bool} : rvO (some (some (.bl i))) P ↔ P (.bl i) := by simp [rvO]
theorem rvO_n : rvO (some (some .non)) P ↔ P .non := by simp [rvO]
theorem rvO_s {x : Str} : rvO (some (some (.str x))) P ↔ P (.str x) := by simp [rvO]
theorem rvO_t {x : List D} : rvO (some (some (.tup x))) P ↔ P (.tup x) := by simp [rvO]
theorem rvO_l {x : List D} : rvO (some (some (.lst x))) P ↔ P (.lst x) := by simp [rvO]
theorem rvO_c {x : List Int} : rvO (some (some (.scr x))) P ↔ P (.scr x) := by simp [rvO]
theorem rvO_d {x : List (Key × D)} : rvO (some (some (.dct x))) P ↔ P (.dct x) := by simp [rvO]
theorem rvO_r : rvO (some (some (.ref n))) P ↔ P (.ref n) := by simp [rvO]
theorem rvO_o {o : O} : rvO (some (some (.own o))) P ↔ P (.own o) := by simp [rvO]
end
section
variable {s : Store} {i j : Int} {Q : D → Store → Prop} {X : Nat → Store → Prop}
theorem wf_mod : (fMod s (.int i) (.int j)).W Q X ↔ 0 < j ∧ Q (.int (i % j)) s := by
  show (if decide (0 < j) = true then _ else _ : R D).W Q X ↔ _
  by_cases h : 0 < j <;> simp [h, R.W_ok, R.W_no]
theorem wf_div : (fDiv s (.int i) (.int j)).W Q X ↔ (0 < j ∧ j < 1073741824) ∧ Q (.int (i / j)) s := by
  show (if (decide (0 < j) && decide (j < 1073741824)) = true then _ else _ : R D).W Q X ↔ _
  by_cases h : 0 < j ∧ j < 1073741824 <;> simp [h, R.W_ok, R.W_no]
theorem wf_mul : (fMul s (.int i) (.int j)).W Q X ↔ cMul i j = true ∧ Q (.int (i * j)) s := by
  show (if cMul i j = true then _ else _ : R D).W Q X ↔ _
  by_cases h : cMul i j = true <;> simp [h, R.W_ok, R.W_no]
theorem wf_pow : (fPow s (.int i) (.int j)).W Q X ↔ (0 ≤ j ∧ j ≤ 1000000 ∧ i.natAbs < 18446744073709551616) ∧ Q (.int (i ^ j.toNat)) s := by
  show (if (decide (0 ≤ j) && decide (j ≤ 1000000) && decide (i.natAbs < 18446744073709551616)) = true then _ else _ : R D).W Q X ↔ _
  by_cases h : 0 ≤ j ∧ j ≤ 1000000 ∧ i.natAbs < 18446744073709551616
  · simp [h, R.W_ok]
  · simp [h, R.W_no, and_assoc]
def asAt (o : Option D) (P : D → Prop) : Prop := match o with
  | some d => P d
  | none => False
theorem asAt_s {d : D} {P : D → Prop} : asAt (some d) P ↔ P d := Iff.rfl
theorem wf_ixL {xs : List D} : (fIx s (.lst xs) (.int i)).W Q X ↔ asAt (atI xs i) fun d => Q d s := by
  simp only [fIx, dr, asAt]; cases atI xs i <;> simp [R.W_ok, R.W_no]
theorem wf_ixB {xs : List D} : (fIx s (.bor (.lst xs)) (.int i)).W Q X ↔ asAt (atI xs i) fun d => Q d s := by
  simp only [fIx, dr, asAt]; cases atI xs i <;> simp [R.W_ok, R.W_no]
theorem wf_ixT {xs : List D} : (fIx s (.tup xs) (.int i)).W Q X ↔ asAt (atI xs i) fun d => Q d s := by
  simp only [fIx, asAt]; cases atI xs i <;> simp [R.W_ok, R.W_no]
def asL1 (o : Option O) (P : List D → Prop) : Prop := asL o P
theorem wf_ixR {n : Nat} : (fIx s (.ref n) (.int i)).W Q X ↔ asL s[n]? fun xs => asAt (atI xs i) fun d => Q d s := by
  simp only [fIx, dr, asAt, asL]
  cases s[n]? with
  | none => simp [R.W_no]
  | some o => cases o with
    | lst xs => simp only []; cases atI xs i <;> simp [R.W_ok, R.W_no]
    | _ => simp [R.W_no]
theorem atI_0 {t : Type} {a : t} {xs : List t} : atI (a :: xs) 0 = some a := atI_nat (j := 0) rfl
theorem atI_1 {t : Type} {a b : t} {xs : List t} : atI (a :: b :: xs) 1 = some b := by
  have := atI_nat (xs := a :: b :: xs) (j := 1) (v := b) rfl
  exact this
theorem atI_2 {t : Type} {a b c : t} {xs : List t} : atI (a :: b :: c :: xs) 2 = some c := by
  have := atI_nat (xs := a :: b :: c :: xs) (j := 2) (v := c) rfl
  exact this
theorem atI_map {t u : Type} {f : t → u} {xs : List t} : atI (xs.map f) i = (atI xs i).map f := by
  unfold atI; rw [List.length_map]; cases ixN xs.length i <;> simp
theorem wf_lenR {n : Nat} : (fLen s (.ref n)).W Q X ↔ asL s[n]? fun xs => Q (.int xs.length) s := by
  simp only [fLen, dr, asL]
  cases s[n]? with
  | none => simp [R.W_no]
  | some o => cases o <;> simp [R.W_ok, R.W_no]
theorem wf_lenS {x : Str} : (fLen s (.str x)).W Q X ↔ x.length ≤ 16777216 ∧ Q (.int x.length) s := by
  simp only [fLen]; by_cases h : x.length ≤ 16777216 <;> simp [h, R.W_ok, R.W_no]
theorem wf_addS {x y : Str} : (fAdd s (.str x) (.str y)).W Q X ↔ x.length + y.length ≤ 16777216 ∧ Q (.str (x ++ y)) s := by
  simp only [fAdd]; by_cases h : x.length + y.length ≤ 16777216 <;> simp [h, R.W_ok, R.W_no]
theorem wf_addL {xs ys : List D} : (fAdd s (.lst xs) (.lst ys)).W Q X ↔ xs.length + ys.length ≤ 16777216 ∧ Q (.own (.lst (xs ++ ys))) s := by
  simp only [fAdd, fCat, drM, dr]; by_cases h : xs.length + ys.length ≤ 16777216 <;> simp [h, R.W_ok, R.W_no]
theorem wf_addBL {xs ys : List D} : (fAdd s (.bor (.lst xs)) (.lst ys)).W Q X ↔ xs.length + ys.length ≤ 16777216 ∧ Q (.own (.lst (xs ++ ys))) s := by
  simp only [fAdd, fCat, drM, dr]; by_cases h : xs.length + ys.length ≤ 16777216 <;> simp [h, R.W_ok, R.W_no]
theorem wf_addLB {xs ys : List D} : (fAdd s (.lst xs) (.bor (.lst ys))).W Q X ↔ xs.length + ys.length ≤ 16777216 ∧ Q (.own (.lst (xs ++ ys))) s := by
  simp only [fAdd, fCat, drM, dr]; by_cases h : xs.length + ys.length ≤ 16777216 <;> simp [h, R.W_ok, R.W_no]
theorem wf_addRL {n : Nat} {ys : List D} : (fAdd s (.ref n) (.lst ys)).W Q X ↔ asL s[n]? fun xs => xs.length + ys.length ≤ 16777216 ∧ Q (.own (.lst (xs ++ ys))) s := by
  simp only [fAdd, fCat, drM, dr, asL]
  cases s[n]? with
  | none => simp [R.W_no]
  | some o => cases o with
    | lst xs => simp only []; by_cases h : xs.length + ys.length ≤ 16777216 <;> simp [h, R.W_ok, R.W_no]
    | _ => simp [R.W_no]
theorem wf_repL {xs : List D} {k : Int} : (fMul s (.lst xs) (.int k)).W Q X ↔ (k < 9223372036854775808 ∧ -9223372036854775808 ≤ k ∧ xs.length * k.toNat ≤ 16777216) ∧ Q (.own (.lst (List.replicate k.toNat xs).flatten)) s := by
  simp only [fMul, fRep, drM, dr]; by_cases h : k < 9223372036854775808 ∧ -9223372036854775808 ≤ k ∧ xs.length * k.toNat ≤ 16777216 <;> simp [h, R.W_ok, R.W_no]
theorem wf_slL {xs : List D} {lo hi : Option Int} : (fSl s (.lst xs) lo hi).W Q X ↔ Q (.own (.lst (cutD xs lo hi))) s := by
  simp only [fSl, dr, R.W_ok]
theorem wf_slB {xs : List D} {lo hi : Option Int} : (fSl s (.bor (.lst xs)) lo hi).W Q X ↔ Q (.own (.lst (cutD xs lo hi))) s := by
  simp only [fSl, dr, R.W_ok]
theorem wf_slR {n : Nat} {lo hi : Option Int} : (fSl s (.ref n) lo hi).W Q X ↔ asL s[n]? fun xs => Q (.own (.lst (cutD xs lo hi))) s := by
  simp only [fSl, dr, asL]
  cases s[n]? with
  | none => simp [R.W_no]
  | some o => cases o <;> simp [R.W_ok, R.W_no]
theorem wf_listL {xs : List D} : (fListOf s (.lst xs)).W Q X ↔ Q (.own (.lst xs)) s := by simp only [fListOf, seqD, dr, R.W_ok]
theorem wf_listB {xs : List D} : (fListOf s (.bor (.lst xs))).W Q X ↔ Q (.own (.lst xs)) s := by simp only [fListOf, seqD, dr, R.W_ok]
theorem wf_listR {n : Nat} : (fListOf s (.ref n)).W Q X ↔ asL s[n]? fun xs => Q (.own (.lst xs)) s := by
  simp only [fListOf, seqD, dr, asL]
  cases s[n]? with
  | none => simp [R.W_no]
  | some o => cases o <;> simp [R.W_ok, R.W_no]
theorem wf_pop {n : Nat} : (fPop s (.ref n)).W Q X ↔ asL s[n]? fun xs => asAt xs[xs.length - 1]? fun d => Q d (s.set n (.lst xs.dropLast)) := by
  simp only [fPop, asL, asAt]
  cases s[n]? with
  | none => simp [R.W_no]
  | some o => cases o with
    | lst xs => simp only []; cases xs[xs.length - 1]? <;> simp [R.W_ok, R.W_no]
    | _ => simp [R.W_no]
theorem wf_dgD {kv : List (Key × D)} {k : Int} : (fDG s (.dct kv) (.int k)).W Q X ↔ asAt (valD kv (.inl k)) fun d => Q d s := by
  simp only [fDG, drM, dr, kD, asAt]; cases valD kv (.inl k) <;> simp [R.W_ok, R.W_no]
theorem wf_dgB {kv : List (Key × D)} {k : Int} : (fDG s (.bor (.dK kv)) (.int k)).W Q X ↔ asAt (valD kv (.inl k)) fun d => Q d s := by
  simp only [fDG, drM, dr, kD, asAt]; cases valD kv (.inl k) <;> simp [R.W_ok, R.W_no]
theorem wf_dinD {kv : List (Key × D)} {k : Int} {b : Bool} : (fDIn b s (.int k) (.dct kv)).W Q X ↔ Q (.bl (if b then !(valD kv (.inl k)).isSome else (valD kv (.inl k)).isSome)) s := by
  simp only [fDIn, drM, dr, kD, R.W_ok]
theorem wf_dinB {kv : List (Key × D)} {k : Int} {b : Bool} : (fDIn b s (.int k) (.bor (.dK kv))).W Q X ↔ Q (.bl (if b then !(valD kv (.inl k)).isSome else (valD kv (.inl k)).isSome)) s := by
  simp only [fDIn, drM, dr, kD, R.W_ok]
theorem wf_sumI {ns : List Int} : (fSum s (.lst (ns.map D.int))).W Q X ↔ Q (.int ns.sum) s := by
  have : ∀ ns : List Int, intsD (ns.map D.int) = some ns := fun ns => by
    induction ns with
    | nil => rfl
    | cons a r ih => simp [intsD, ih]
  simp only [fSum, lsD, dr, Option.bind_some, this, R.W_ok]
theorem intsD_map : ∀ ns : List Int, intsD (ns.map D.int) = some ns := fun ns => by
  induction ns with
  | nil => rfl
  | cons a r ih => simp [intsD, ih]
theorem blsD_map : ∀ ns : List Bool, blsD (ns.map D.bl) = some ns := fun ns => by
  induction ns with
  | nil => rfl
  | cons a r ih => simp [blsD, ih]
theorem wf_allB {ns : List Bool} : (fAll s (.lst (ns.map D.bl))).W Q X ↔ Q (.bl (ns.all id)) s := by
  simp only [fAll, lsD, dr, Option.bind_some, blsD_map, R.W_ok]
theorem wf_sorted {ns : List Int} : (fSorted s (.lst (ns.map D.int))).W Q X ↔ Q (.own (.lst ((sortI ns).map D.int))) s := by
  simp only [fSorted, lsD, dr, Option.bind_some, intsD_map, R.W_ok]
theorem wf_sortSet {ns : List Int} : (fSortSet s (.lst (ns.map D.int))).W Q X ↔ ns.length < 64 ∧ Q (.own (.lst ((dedI (sortI ns)).map D.int))) s := by
  simp only [fSortSet, lsD, dr, Option.bind_some, intsD_map]
  by_cases h : ns.length < 64 <;> simp [h, R.W_ok, R.W_no]
theorem wf_listD {kv : List (Key × D)} : (fListD s (.dct kv)).W Q X ↔ Q (.own (.lst (kv.map fun p => keyD p.1))) s := by simp only [fListD, drM, dr, R.W_ok]
theorem wf_listDB {kv : List (Key × D)} : (fListD s (.bor (.dK kv))).W Q X ↔ Q (.own (.lst (kv.map fun p => keyD p.1))) s := by simp only [fListD, drM, dr, R.W_ok]
theorem seqD_l' {xs : List D} : seqD s (.lst xs) = some xs := rfl
theorem seqD_t' {xs : List D} : seqD s (.tup xs) = some xs := rfl
theorem seqD_c' {ns : List Int} : seqD s (.scr ns) = some (ns.map D.int) := rfl
theorem fLen_eq {xs : List D} : fLen s (.lst xs) = .ok (.int xs.length) s := rfl
theorem drM_l {xs : List D} : drM s (.lst xs) = some (.lst xs) := rfl
theorem drM_b {o : O} : drM s (.bor o) = some o := rfl
theorem isLD_r {n : Nat} : isLD s (.ref n) = true ↔ isLr s[n]? := by
  simp only [isLD, isLr, dr]
  cases s[n]? with
  | none => simp
  | some o => cases o <;> simp
end
theorem noI (P : Prop) : (∃ xs : List D, some xs = some xs ∧ P) ↔ P := by simp
end Gm

set_option Elab.async false
set_option linter.all false
set_option maxRecDepth 100000
set_option autoImplicit false
/-! loops and comprehensions over typed lists; typed values -/
namespace Gm
open PySem L2
/-- plain values -/
def plainD : D → Bool
  | .own _ => false
  | .bor _ => false
  | .exn => false
  | _ => true
theorem plain_vr : ∀ {d : D}, plainD d = true → vr d = d := by intro d h; cases d <;> first | rfl | cases h
theorem plain_fz : ∀ {d : D}, plainD d = true → fz d = d := by intro d h; cases d <;> first | rfl | cases h
theorem plain_snk : ∀ {d : D}, plainD d = true → snk d = some d := by intro d h; cases d <;> first | rfl | cases h
class En (α : Type) where
  e : α → D
  pl : ∀ a, plainD (e a) = true
section
variable {α : Type} [En α] {a : α} {P : D → Prop}
theorem vr_e : vr (En.e a) = En.e a := plain_vr (En.pl a)
theorem fz_e : fz (En.e a) = En.e a := plain_fz (En.pl a)
theorem snk_e : snk (En.e a) = some (En.e a) := plain_snk (En.pl a)
theorem asK_e : asK P (En.e a) ↔ P (En.e a) := by unfold asK; rw [fz_e, snk_e]
theorem asR_e : asR P (En.e a) ↔ P (En.e a) := by
  have h := En.pl a
  unfold asR
  revert h
  cases En.e a <;> simp [plainD, rtOk]
theorem rvO_e : rvO (some (some (En.e a))) P ↔ P (En.e a) := by
  have h := En.pl a
  unfold rvO
  revert h
  cases En.e a <;> simp [plainD]
end
instance : En Int := ⟨D.int, fun _ => rfl⟩
instance : En Bool := ⟨D.bl, fun _ => rfl⟩
instance {α : Type} [En α] : En (Option α) := ⟨fun o => match o with | none => .non | some a => En.e a, fun o => by cases o; rfl; exact En.pl _⟩
instance {α : Type} [En α] : En (List α) := ⟨fun l => .lst (l.map En.e), fun _ => rfl⟩
instance {α β : Type} [En α] [En β] : En (α × β) := ⟨fun p => .tup [En.e p.1, En.e p.2], fun _ => rfl⟩
section
variable {α β : Type} [En α] [En β]
theorem e_int {i : Int} : (En.e i : D) = .int i := rfl
theorem e_bool {i : Bool} : (En.e i : D) = .bl i := rfl
theorem e_list {l : List α} : (En.e l : D) = .lst (l.map En.e) := rfl
theorem e_pair {a : α} {b : β} : (En.e (a, b) : D) = .tup [En.e a, En.e b] := rfl
theorem e_prod {p : α × β} : (En.e p : D) = .tup [En.e p.1, En.e p.2] := rfl
theorem e_none : (En.e (none : Option α) : D) = .non := rfl
theorem e_some {a : α} : (En.e (some a) : D) = En.e a := rfl
end
/-! == on data -/
mutual
def pyD : D → PyData
  | .non => .none
  | .bl b => .bool b
  | .int i => .int i
  | .str x => .str x
  | .tup xs => .tuple (pyL xs)
  | .lst xs => .list (pyL xs)
  | .scr ns => .list (ns.map PyData.int)
  | .dct _ => .none
  | .ref _ => .none
  | .own _ => .none
  | .bor _ => .none
  | .exn => .none
def pyL : List D → List PyData
  | [] => []
  | d :: r => pyD d :: pyL r
end
mutual
def dOk : Nat → D → Bool
  | 0, _ => false
  | _ + 1, .non => true
  | _ + 1, .bl _ => true
  | _ + 1, .int _ => true
  | _ + 1, .str x => PyData.strOk x
  | n + 1, .tup xs => dOkL n xs
  | n + 1, .lst xs => dOkL n xs
  | _ + 1, _ => false
def dOkL : Nat → List D → Bool
  | _, [] => true
  | n, d :: r => dOk n d && dOkL n r
end
mutual
theorem toPy_of (s : Store) : ∀ (n : Nat) (d : D), dOk n d = true → toPy s n d = some (pyD d) ∧ (pyD d).canLay0 = true
  | 0, d, h => by unfold dOk at h; cases h
  | n + 1, .non, h => by simp [toPy, pyD, PyData.canLay0]
  | n + 1, .bl _, h => by simp [toPy, pyD, PyData.canLay0]
  | n + 1, .int _, h => by simp [toPy, pyD, PyData.canLay0]
  | n + 1, .str x, h => by unfold dOk at h; simp [toPy, pyD, PyData.canLay0, h]
  | n + 1, .tup xs, h => by
    unfold dOk at h
    obtain ⟨a, b⟩ := toPyL_of s n xs h
    simp [toPy, pyD, a, PyData.canLay0, b]
  | n + 1, .lst xs, h => by
    unfold dOk at h
    obtain ⟨a, b⟩ := toPyL_of s n xs h
    simp [toPy, dr, pyD, a, PyData.canLay0, b]
  | n + 1, .scr _, h => by unfold dOk at h; cases h
  | n + 1, .dct _, h => by unfold dOk at h; cases h
  | n + 1, .ref _, h => by unfold dOk at h; cases h
  | n + 1, .own _, h => by unfold dOk at h; cases h
  | n + 1, .bor _, h => by unfold dOk at h; cases h
  | n + 1, .exn, h => by unfold dOk at h; cases h
theorem toPyL_of (s : Store) : ∀ (n : Nat) (xs : List D), dOkL n xs = true → xs.mapM (toPy s n) = some (pyL xs) ∧ PyData.canLayAll0 (pyL xs) = true
  | n, [], h => by simp [pyL, PyData.canLayAll0]
  | n, d :: r, h => by
    unfold dOkL at h
    simp only [Bool.and_eq_true] at h
    obtain ⟨a, b⟩ := toPy_of s n d h.1
    obtain ⟨a2, b2⟩ := toPyL_of s n r h.2
    simp [List.mapM_cons, a, a2, pyL, PyData.canLayAll0, b, b2]
end
theorem fEq_of {s : Store} {a b : D} (ha : dOk 9 a = true) (hb : dOk 9 b = true) : fEq s a b = .ok (.bl (PyData.eqv (pyD a) (pyD b))) s := by
  obtain ⟨h1, h2⟩ := toPy_of s 9 a ha
  obtain ⟨h3, h4⟩ := toPy_of s 9 b hb
  simp [fEq, h1, h3, h2, h4]
theorem fNe_of {s : Store} {a b : D} (ha : dOk 9 a = true) (hb : dOk 9 b = true) : fNe s a b = .ok (.bl (!PyData.eqv (pyD a) (pyD b))) s := by
  obtain ⟨h1, h2⟩ := toPy_of s 9 a ha
  obtain ⟨h3, h4⟩ := toPy_of s 9 b hb
  simp [fNe, h1, h3, h2, h4]
mutual
theorem dOk_mono : ∀ (n m : Nat) (d : D), n ≤ m → dOk n d = true → dOk m d = true
  | 0, _, d, _, h => by unfold dOk at h; cases h
  | n + 1, 0, d, l, h => by omega
  | n + 1, m + 1, .non, l, h => by unfold dOk; rfl
  | n + 1, m + 1, .bl _, l, h => by unfold dOk; rfl
  | n + 1, m + 1, .int _, l, h => by unfold dOk; rfl
  | n + 1, m + 1, .str _, l, h => by unfold dOk at *; exact h
  | n + 1, m + 1, .tup xs, l, h => by unfold dOk at *; exact dOkL_mono n m xs (by omega) h
  | n + 1, m + 1, .lst xs, l, h => by unfold dOk at *; exact dOkL_mono n m xs (by omega) h
  | n + 1, m + 1, .scr _, l, h => by unfold dOk at h; cases h
  | n + 1, m + 1, .dct _, l, h => by unfold dOk at h; cases h
  | n + 1, m + 1, .ref _, l, h => by unfold dOk at h; cases h
  | n + 1, m + 1, .own _, l, h => by unfold dOk at h; cases h
  | n + 1, m + 1, .bor _, l, h => by unfold dOk at h; cases h
  | n + 1, m + 1, .exn, l, h => by unfold dOk at h; cases h
theorem dOkL_mono : ∀ (n m : Nat) (d : List D), n ≤ m → dOkL n d = true → dOkL m d = true
  | n, m, [], l, h => by unfold dOkL; rfl
  | n, m, d :: r, l, h => by
    unfold dOkL at *
    simp only [Bool.and_eq_true] at *
    exact ⟨dOk_mono n m d l h.1, dOkL_mono n m r l h.2⟩
end
/-- data whose == is equality -/
class Eqn (α : Type) extends En α where
  dep : Nat
  ok : ∀ a : α, dOk dep (En.e a) = true
  inj : ∀ a b : α, PyData.eqv (pyD (En.e a)) (pyD (En.e b)) = true ↔ a = b
instance : Eqn Int := { dep := 1, ok := fun a => by show dOk 1 (.int a) = true; unfold dOk; rfl, inj := fun a b => by show PyData.eqv (pyD (.int a)) (pyD (.int b)) = true ↔ _; unfold pyD PyData.eqv; simp }
instance : Eqn Bool := { dep := 1, ok := fun a => by show dOk 1 (.bl a) = true; unfold dOk; rfl, inj := fun a b => by show PyData.eqv (pyD (.bl a)) (pyD (.bl b)) = true ↔ _; unfold pyD PyData.eqv; simp }
theorem dOkL_map {α : Type} [Eqn α] {n : Nat} (h : Eqn.dep α ≤ n) : ∀ l : List α, dOkL n (l.map En.e) = true
  | [] => by unfold dOkL; rfl
  | a :: r => by
    show dOkL n (En.e a :: r.map En.e) = true
    unfold dOkL
    rw [dOkL_map h r, dOk_mono _ n _ h (Eqn.ok a)]; rfl
theorem eqvAll_map {α : Type} [Eqn α] : ∀ l m : List α, PyData.eqvAll (pyL (l.map En.e)) (pyL (m.map En.e)) = true ↔ l = m
  | [], [] => by simp [pyL, PyData.eqvAll]
  | [], b :: m => by simp [pyL, PyData.eqvAll]
  | a :: l, [] => by simp [pyL, PyData.eqvAll]
  | a :: l, b :: m => by
    simp only [List.map_cons, pyL, PyData.eqvAll, Bool.and_eq_true, Eqn.inj, eqvAll_map l m, List.cons.injEq]
instance {α : Type} [Eqn α] : Eqn (List α) := { dep := Eqn.dep α + 1, ok := fun a => by show dOk _ (.lst _) = true; unfold dOk; exact dOkL_map (Nat.le_refl _) a, inj := fun a b => by show PyData.eqv (pyD (.lst _)) (pyD (.lst _)) = true ↔ _; unfold pyD PyData.eqv; exact eqvAll_map a b }
theorem ok_pair {α β : Type} [Eqn α] [Eqn β] (a : α × β) : dOk (max (Eqn.dep α) (Eqn.dep β) + 1) (En.e a) = true := by
  show dOk _ (.tup [En.e a.1, En.e a.2]) = true
  unfold dOk dOkL dOkL dOkL
  rw [dOk_mono _ _ _ (Nat.le_max_left _ _) (Eqn.ok a.1), dOk_mono _ _ _ (Nat.le_max_right _ _) (Eqn.ok a.2)]
  rfl
theorem inj_pair {α β : Type} [Eqn α] [Eqn β] (a b : α × β) : PyData.eqv (pyD (En.e a)) (pyD (En.e b)) = true ↔ a = b := by
  show PyData.eqv (pyD (.tup [En.e a.1, En.e a.2])) (pyD (.tup [En.e b.1, En.e b.2])) = true ↔ _
  simp only [pyD, pyL, PyData.eqv, PyData.eqvAll, Bool.and_true, Bool.and_eq_true, Eqn.inj]
  exact Prod.ext_iff.symm
instance {α β : Type} [Eqn α] [Eqn β] : Eqn (α × β) := { dep := max (Eqn.dep α) (Eqn.dep β) + 1, ok := ok_pair, inj := inj_pair }
section
variable {α β : Type} {s : Store} {Q : D → Store → Prop} {X : Nat → Store → Prop}
theorem eqn_dec [Eqn α] [DecidableEq α] {a b : α} : PyData.eqv (pyD (En.e a)) (pyD (En.e b)) = decide (a = b) := by
  rw [Bool.eq_iff_iff, Eqn.inj, decide_eq_true_eq]
theorem fEq_e [Eqn α] [DecidableEq α] {a b : α} (h : Eqn.dep α ≤ 9) : fEq s (En.e a) (En.e b) = .ok (.bl (decide (a = b))) s := by
  rw [fEq_of (dOk_mono _ _ _ h (Eqn.ok a)) (dOk_mono _ _ _ h (Eqn.ok b)), eqn_dec]
theorem fNe_e [Eqn α] [DecidableEq α] {a b : α} (h : Eqn.dep α ≤ 9) : fNe s (En.e a) (En.e b) = .ok (.bl (!decide (a = b))) s := by
  rw [fNe_of (dOk_mono _ _ _ h (Eqn.ok a)) (dOk_mono _ _ _ h (Eqn.ok b)), eqn_dec]
theorem fEq_l [Eqn α] [DecidableEq α] {a b : List α} (h : Eqn.dep α ≤ 8) : fEq s (.lst (a.map En.e)) (.lst (b.map En.e)) = .ok (.bl (decide (a = b))) s := fEq_e (α := List α) (Nat.succ_le_succ h)
theorem fNe_l [Eqn α] [DecidableEq α] {a b : List α} (h : Eqn.dep α ≤ 8) : fNe s (.lst (a.map En.e)) (.lst (b.map En.e)) = .ok (.bl (!decide (a = b))) s := fNe_e (α := List α) (Nat.succ_le_succ h)
theorem fEq_li {a b : List Int} : fEq s (.lst (a.map D.int)) (.lst (b.map D.int)) = .ok (.bl (decide (a = b))) s := fEq_l (α := Int) (by decide)
theorem fNe_li {a b : List Int} : fNe s (.lst (a.map D.int)) (.lst (b.map D.int)) = .ok (.bl (!decide (a = b))) s := fNe_l (α := Int) (by decide)
theorem fIn_i {k : Int} {l : List Int} {b : Bool} : fIn b s (.int k) (.lst (l.map D.int)) = .ok (.bl (if b then !decide (k ∈ l) else decide (k ∈ l))) s := by
  have h : ∀ l : List Int, (l.map D.int).mapM flD = some (l.map V.int) := fun l => by
    induction l with
    | nil => rfl
    | cons a r ih => simp [List.mapM_cons, flD, ih]
  have h2 : ∀ l : List Int, inV (V.int k) (l.map V.int) = decide (k ∈ l) := fun l => by
    induction l with
    | nil => rfl
    | cons a r ih =>
      simp only [inV, List.map_cons, List.any_cons] at ih ⊢
      rw [ih, Bool.eq_iff_iff]
      simp [eqV, List.mem_cons]
      rw [eq_comm]
  simp only [fIn, flD, seqD, dr, Option.bind_some, h, h2]
theorem fIn_n {l : List Int} {b : Bool} : fIn b s .non (.lst (l.map D.int)) = .ok (.bl b) s := by
  have h : ∀ l : List Int, (l.map D.int).mapM flD = some (l.map V.int) := fun l => by
    induction l with
    | nil => rfl
    | cons a r ih => simp [List.mapM_cons, flD, ih]
  have h2 : ∀ l : List Int, inV V.non (l.map V.int) = false := fun l => by
    induction l with
    | nil => rfl
    | cons a r ih => simp only [inV, List.map_cons, List.any_cons] at ih ⊢; rw [ih]; simp [eqV]
  simp only [fIn, flD, seqD, dr, Option.bind_some, h, h2]
  cases b <;> rfl
end
/-! comprehensions, by weakest premises -/
section
variable {α β : Type} {env : Env} {s s1 : Store} {Q : D → Store → Prop} {X : Nat → Store → Prop} {N : Env → Store → Prop} {T : D → Store → Prop} {Y : Nat → Env → Store → Prop}
theorem W_eq0 {t : Type} {m : R t} {a : t} {s s1 : Store} (h : m.W (fun d s' => s' = s1 ∧ d = a) X0) : m = .ok a s1 := by
  obtain ⟨d, s', e, h1, h2⟩ := h.eq
  rw [e, h1, h2]
theorem lcE_eq {l : List α} {enc : α → D} {tg : Tg} {tt : Tx} {el : Ex} {vs : List Nat} (p : α → Bool) (f : α → D) (hi : ∀ i, Itr.at s1 (.seq (.lst (l.map enc))) i = some (l.map enc)[i]?)
    (he : ∀ a ∈ l, ∃ e1, tgE tg (enc a) (wipeE env vs) = some e1 ∧ (tt e1 s1).W (fun b s' => s' = s1 ∧ b = p a) X0 ∧ (p a = true → (el e1 s1).W (fun d s' => s' = s1 ∧ snk (fz d) = some (f a)) X0)) :
    ∀ (n i : Nat) (acc : List D), i ≤ l.length → l.length < n + i → acc.length + (l.length - i) ≤ 16777216 → lcX tg tt el vs (.seq (.lst (l.map enc))) n i acc env s1 = .ok (.own (.lst (acc ++ ((l.drop i).filter p).map f))) s1
  | 0, i, acc, h1, h2, _ => by omega
  | n + 1, i, acc, h1, h2, h3 => by
    have ha := hi i
    cases q : l[i]? with
    | none =>
      rw [List.getElem?_map, q] at ha
      have : l.length ≤ i := List.getElem?_eq_none_iff.mp q
      simp only [lcX, ha, Option.map_none]
      rw [List.drop_eq_nil_of_le this]
      simp
    | some x =>
      rw [List.getElem?_map, q] at ha
      obtain ⟨hlt, ex⟩ := List.getElem?_eq_some_iff.mp q
      obtain ⟨e1, k1, k2, k3⟩ := he x (List.mem_of_getElem? q)
      have hd : l.drop i = x :: l.drop (i + 1) := by rw [List.drop_eq_getElem_cons hlt, ex]
      have k2' := W_eq0 (s := s1) k2
      cases hp : p x with
      | false =>
        rw [hp] at k2'
        simp only [lcX, ha, k1, k2', Option.map_some]
        rw [lcE_eq p f hi he n (i + 1) acc (by omega) (by omega) (by omega), hd, List.filter_cons_of_neg (by rw [hp]; exact Bool.false_ne_true)]
      | true =>
        rw [hp] at k2'
        obtain ⟨d, s', k4, hs', k5⟩ := (k3 hp).eq
        rw [hs'] at k4
        simp only [lcX, ha, k1, k2', k4, k5, Option.map_some]
        rw [if_pos (by omega), lcE_eq p f hi he n (i + 1) (acc ++ [f x]) (by omega) (by omega) (by rw [List.length_append]; simp; omega), hd, List.filter_cons_of_pos hp]
        simp
/-- [el for tg in e if tt], over a list of typed items; nothing is changed by the parts -/
theorem w_lc {l : List α} {enc : α → D} {tg : Tg} {ix : Ix} {tt : Tx} {el : Ex} {vs : List Nat} (p : α → Bool) (f : α → D) (hx : (ix env s).W (fun it s' => s' = s1 ∧ it = .seq (.lst (l.map enc))) X0) (hl : l.length ≤ 16777216)
    (he : ∀ a ∈ l, ∃ e1, tgE tg (enc a) (wipeE env vs) = some e1 ∧ (tt e1 s1).W (fun b s' => s' = s1 ∧ b = p a) X0 ∧ (p a = true → (el e1 s1).W (fun d s' => s' = s1 ∧ snk (fz d) = some (f a)) X0))
    (hQ : Q (.own (.lst ((l.filter p).map f))) s1) : (eLc tg ix tt el vs env s).W Q X := by
  have e := W_eq0 (s := s1) hx
  have e2 : eLc tg ix tt el vs env s = .ok (.own (.lst ((l.filter p).map f))) s1 := by
    simp only [eLc, e, Itr.fuel, seqD, dr, Option.getD_some, List.length_map]
    rw [lcE_eq p f (fun i => rfl) he _ 0 [] (Nat.zero_le _) (by omega) (by simp; omega)]
    simp
  rw [e2]; exact .ok hQ
/-- .. with no test -/
theorem w_lcY {l : List α} {enc : α → D} {tg : Tg} {ix : Ix} {el : Ex} {vs : List Nat} (f : α → D) (hx : (ix env s).W (fun it s' => s' = s1 ∧ it = .seq (.lst (l.map enc))) X0) (hl : l.length ≤ 16777216)
    (he : ∀ a ∈ l, ∃ e1, tgE tg (enc a) (wipeE env vs) = some e1 ∧ (el e1 s1).W (fun d s' => s' = s1 ∧ snk (fz d) = some (f a)) X0)
    (hQ : Q (.own (.lst (l.map f))) s1) : (eLc tg ix tY el vs env s).W Q X := by
  refine w_lc (fun _ => true) f hx hl (fun a ha => ?_) (by rw [List.filter_eq_self.mpr (fun _ _ => rfl)]; exact hQ)
  obtain ⟨e1, h1, h2⟩ := he a ha
  exact ⟨e1, h1, we_tY.mpr ⟨rfl, rfl⟩, fun _ => h2⟩
/-- .. over a range -/
theorem w_lcR {n j : Nat} {ix : Ix} {el : Ex} {vs : List Nat} (f : Nat → D) (hx : (ix env s).W (fun it s' => s' = s1 ∧ it = .rng 0 n) X0) (hl : n ≤ 16777216)
    (he : ∀ i, i < n → (el ((wipeE env vs).set j (some (.int (i : Nat)))) s1).W (fun d s' => s' = s1 ∧ snk (fz d) = some (f i)) X0)
    (hQ : Q (.own (.lst ((List.range n).map f))) s1) : (eLc (Tg.nm j) ix tY el vs env s).W Q X := by
  have e := W_eq0 (s := s1) hx
  have key : ∀ (m i : Nat) (acc : List D), i ≤ n → n < m + i → acc.length + (n - i) ≤ 16777216 → lcX (Tg.nm j) tY el vs (.rng 0 n) m i acc env s1 = .ok (.own (.lst (acc ++ ((List.range n).drop i).map f))) s1 := by
    intro m
    induction m with
    | zero => intro i acc h1 h2; omega
    | succ m ih =>
      intro i acc h1 h2 h3
      by_cases q : i < n
      · obtain ⟨d, s', k4, rfl, k5⟩ := (he i q).eq
        have hd : (List.range n).drop i = i :: (List.range n).drop (i + 1) := by rw [List.drop_eq_getElem_cons (by simpa using q)]; simp
        simp only [lcX, Itr.at, q, if_true, Int.zero_add, tgE, show snk (D.int (i : Nat)) = some (D.int (i : Nat)) from rfl, Option.map_some, tY, k4, k5]
        rw [if_pos (by omega), ih (i + 1) (acc ++ [f i]) (by omega) (by omega) (by rw [List.length_append]; simp; omega), hd]
        simp
      · have : i = n := by omega
        subst this
        simp only [lcX, Itr.at, q, if_false]
        rw [List.drop_eq_nil_of_le (by simp)]; simp
  have e2 : eLc (Tg.nm j) ix tY el vs env s = .ok (.own (.lst ((List.range n).map f))) s1 := by
    simp only [eLc, e, Itr.fuel]
    rw [key _ 0 [] (Nat.zero_le _) (by omega) (by simp; omega)]
    simp
  rw [e2]; exact .ok hQ
/-! loops -/
theorem w_forM {l : List α} {enc : α → D} {tg : Tg} {ix : Ix} {body : Sx} (I : List α → Env → Store → Prop) (hx : (ix env s).W (fun it s' => s' = s1 ∧ it = .seq (.lst (l.map enc))) X0) (h0 : I [] env s1)
    (hs : ∀ pre a post e s, l = pre ++ a :: post → I pre e s → ∃ e1, tgE tg (enc a) e = some e1 ∧ (body e1 s).W (I (pre ++ [a])) T Y) (hn : ∀ e s, I l e s → N e s) : (sFor tg ix body env s).W N T Y := by
  have e := W_eq0 (s := s1) hx
  refine w_forL' e (fun i e s => I (l.take i) e s) (by simpa using h0) (fun i x e s hx hI => ?_) (fun e s h => hn e s ?_)
  · rw [List.getElem?_map] at hx
    cases q : l[i]? with
    | none => rw [q] at hx; cases hx
    | some a =>
      rw [q] at hx
      simp only [Option.map_some, Option.some.injEq] at hx
      subst hx
      obtain ⟨hlt, ex⟩ := List.getElem?_eq_some_iff.mp q
      have h1 : l = l.take i ++ a :: l.drop (i + 1) := by
        rw [← ex, ← List.drop_eq_getElem_cons hlt, List.take_append_drop]
      obtain ⟨e1, k1, k2⟩ := hs _ a _ e s h1 hI
      refine ⟨e1, k1, ?_⟩
      have : l.take (i + 1) = l.take i ++ [a] := by rw [List.take_succ, q]; rfl
      rw [this]; exact k2
  · rw [List.length_map, List.take_length] at h; exact h
where w_forL' {body : Sx} {tg : Tg} {ix : Ix} {xs : List D} {s1 : Store} {N : Env → Store → Prop} (hx : ix env s = .ok (.seq (.lst xs)) s1) (I : Nat → Env → Store → Prop) (h0 : I 0 env s1)
    (hs : ∀ i x e s, xs[i]? = some x → I i e s → ∃ e1, tgE tg x e = some e1 ∧ (body e1 s).W (I (i + 1)) T Y) (hn : ∀ e s, I xs.length e s → N e s) : (sFor tg ix body env s).W N T Y :=
  w_for hx (by rfl) I h0 (fun i e s _ _ => by rfl) hs hn
theorem w_forN {n : Nat} {lo : Int} {j : Nat} {ix : Ix} {body : Sx} (I : Nat → Env → Store → Prop) (hx : (ix env s).W (fun it s' => s' = s1 ∧ it = .rng lo n) X0) (h0 : I 0 env s1)
    (hs : ∀ (i : Nat) e s, i < n → I i e s → (body (e.set j (some (.int (lo + (i : Nat))))) s).W (I (i + 1)) T Y) (hn : ∀ e s, I n e s → N e s) : (sFor (.nm j) ix body env s).W N T Y :=
  w_forR (W_eq0 (s := s1) hx) I h0 hs hn
theorem w_cut {m : SR} (M : Env → Store → Prop) (h : m.W M T Y) (k : ∀ e s, M e s → N e s) : m.W N T Y := h.imp k (fun _ _ h => h) (fun _ _ _ h => h)
theorem w_fnX {n K : Nat} {body : Sx} {args : List D} {c : Nat} {s s' : Store} (hl : args.length = n) (h : (body (args.map some ++ List.replicate (K - n) none) s).W (fun _ _ => False) (fun _ _ => False) (fun c' _ s2 => s2 = s' ∧ c' = c)) : fnX n K body args s = .exc c s' := by
  have k : (fnX n K body args s).W (fun _ _ => False) (fun c' s2 => s2 = s' ∧ c' = c) := w_fn hl rfl h
  obtain ⟨c', s2, e, h1, h2⟩ := k.exq
  rw [e, h1, h2]
theorem w_fnE {n K : Nat} {body : Sx} {args : List D} {d : D} {s s' : Store} (hl : args.length = n) (h : (body (args.map some ++ List.replicate (K - n) none) s).W (fun _ s2 => s2 = s' ∧ d = .non) (fun r s2 => s2 = s' ∧ r = d) Y0) : fnX n K body args s = .ok d s' := by
  refine W_eq0 (s := s) (w_fn hl rfl (h.imp (fun e s h => ⟨h.1, h.2.symm⟩) (fun _ _ h => h) (fun _ _ _ h => h)))
theorem w_fnW {n K : Nat} {body : Sx} {args : List D} {s : Store} (hl : args.length = n) (h : (body (args.map some ++ List.replicate (K - n) none) s).W (fun _ s2 => Q .non s2) Q (fun c _ s2 => X c s2)) : (fnX n K body args s).W Q X := w_fn hl rfl h
end
end Gm

set_option Elab.async false
set_option linter.all false
set_option maxRecDepth 100000
set_option autoImplicit false
namespace Gm
open PySem L2
/-! freezing and giving to the store -/
def fzO (o : Option (Option D)) (i : Nat) (env : Env) : Env := match o with
  | some (some (.own o)) => env.set i (some (fz (.own o)))
  | _ => env
theorem gFz_1 {i : Nat} {env : Env} {s : Store} : (gFz i env s).1 = fzO env[i]? i env := by
  unfold gFz fzO
  cases env[i]? with
  | none => rfl
  | some o => cases o with
    | none => rfl
    | some d => cases d <;> rfl
theorem gFz_2 {i : Nat} {env : Env} {s : Store} : (gFz i env s).2 = s := by
  unfold gFz
  cases env[i]? with
  | none => rfl
  | some o => cases o with
    | none => rfl
    | some d => cases d <;> rfl
section
variable {i : Nat} {env : Env} {s : Store} {N : Env → Store → Prop}
theorem fzO_o {o : O} : fzO (some (some (.own o))) i env = env.set i (some (fz (.own o))) := rfl
theorem fzO_l {x : List D} : fzO (some (some (.lst x))) i env = env := rfl
theorem fzO_d {x : List (Key × D)} : fzO (some (some (.dct x))) i env = env := rfl
theorem fzO_r {n : Nat} : fzO (some (some (.ref n))) i env = env := rfl
theorem fzO_i {n : Int} : fzO (some (some (.int n))) i env = env := rfl
theorem fzO_b {n : Bool} : fzO (some (some (.bl n))) i env = env := rfl
theorem fzO_t {n : List D} : fzO (some (some (.tup n))) i env = env := rfl
theorem fzO_n : fzO (some (some .non)) i env = env := rfl
theorem fzO_z : fzO (some none) i env = env := rfl
def adO (o : Option (Option D)) (i : Nat) (N : Env → Store → Prop) (env : Env) (s : Store) : Prop := match o with
  | some (some (.own o)) => N (env.set i (some (.ref s.length))) (s ++ [o])
  | _ => N env s
theorem adK_eq : adK i N env s ↔ adO env[i]? i N env s := by
  unfold adK gAd adO
  cases env[i]? with
  | none => rfl
  | some o => cases o with
    | none => rfl
    | some d => cases d <;> rfl
theorem adO_o {o : O} : adO (some (some (.own o))) i N env s ↔ N (env.set i (some (.ref s.length))) (s ++ [o]) := Iff.rfl
theorem adO_r {n : Nat} : adO (some (some (.ref n))) i N env s ↔ N env s := Iff.rfl
end
section
variable {s : Store} {i j : Int} {Q : D → Store → Prop} {X : Nat → Store → Prop}
theorem xEq_i : fEq s (.int i) (.int j) = .ok (.bl (decide (i = j))) s := by rw [fEq_i]; congr 2
theorem xNe_i : fNe s (.int i) (.int j) = .ok (.bl (!decide (i = j))) s := by rw [fNe_i]; congr 3
theorem xEq_b {a b : Bool} : fEq s (.bl a) (.bl b) = .ok (.bl (decide (a = b))) s := by cases a <;> cases b <;> rfl
theorem xNe_b {a b : Bool} : fNe s (.bl a) (.bl b) = .ok (.bl (!decide (a = b))) s := by cases a <;> cases b <;> rfl
theorem xEq_ni : fEq s .non (.int j) = .ok (.bl false) s := rfl
theorem xEq_in : fEq s (.int j) .non = .ok (.bl false) s := rfl
theorem xEq_nn : fEq s .non .non = .ok (.bl true) s := rfl
theorem xNe_ni : fNe s .non (.int j) = .ok (.bl true) s := rfl
theorem xNe_in : fNe s (.int j) .non = .ok (.bl true) s := rfl
theorem xNe_nn : fNe s .non .non = .ok (.bl false) s := rfl
theorem fNotN_r {n : Nat} : fNotN s (.ref n) .non = .ok (.bl true) s := rfl
theorem fNotN_l {n : List D} : fNotN s (.lst n) .non = .ok (.bl true) s := rfl
theorem fIsN_r {n : Nat} : fIsN s (.ref n) .non = .ok (.bl false) s := rfl
theorem fIsN_l {n : List D} : fIsN s (.lst n) .non = .ok (.bl false) s := rfl
theorem wf_eqS {x y : Str} (hx : PyData.strOk x = true) (hy : PyData.strOk y = true) : fEq s (.str x) (.str y) = .ok (.bl (x == y)) s := by
  rw [fEq_of (by unfold dOk; exact hx) (by unfold dOk; exact hy)]; rfl
theorem wf_neS {x y : Str} (hx : PyData.strOk x = true) (hy : PyData.strOk y = true) : fNe s (.str x) (.str y) = .ok (.bl (!(x == y))) s := by
  rw [fNe_of (by unfold dOk; exact hx) (by unfold dOk; exact hy)]; rfl
theorem fIsi_bb {b : Bool} : fIsi "bool" s (.bl b) = .ok (.bl true) s := rfl
theorem fIsi_ib {b : Bool} : fIsi "int" s (.bl b) = .ok (.bl true) s := rfl
theorem fIsi_bi : fIsi "bool" s (.int i) = .ok (.bl false) s := rfl
theorem fIsi_ii : fIsi "int" s (.int i) = .ok (.bl true) s := rfl
theorem fIsi_ll {x : List D} : fIsi "list" s (.lst x) = .ok (.bl true) s := rfl
theorem fIsi_bl {x : List D} : fIsi "list" s (.bor (.lst x)) = .ok (.bl true) s := rfl
theorem fIsi_tt {x : List D} : fIsi "tuple" s (.tup x) = .ok (.bl true) s := rfl
theorem rOk_eq : rOk i = true ↔ -4611686018427387904 ≤ i ∧ i < 4611686018427387904 := by unfold rOk; simp
theorem cMul_eq : cMul i j = true ↔ (-(18446744073709551616) < i ∧ i < 18446744073709551616) ∨ (-(18446744073709551616) < j ∧ j < 18446744073709551616) := by unfold cMul; simp
theorem tgE_nm {k : Nat} {d : D} {env : Env} (h : plainD d = true) : tgE (.nm k) d env = some (env.set k (some d)) := by simp [tgE, plain_snk h]
theorem tgE_nmE {α : Type} [En α] {a : α} {k : Nat} {env : Env} : tgE (.nm k) (En.e a) env = some (env.set k (some (En.e a))) := tgE_nm (En.pl a)
theorem tgE_p2 {k l : Nat} {a b : D} {env : Env} : tgE (.tp [k, l]) (.tup [a, b]) env = some ((env.set k (some a)).set l (some b)) := rfl
theorem tgE_p3 {k l m : Nat} {a b c : D} {env : Env} : tgE (.tp [k, l, m]) (.tup [a, b, c]) env = some (((env.set k (some a)).set l (some b)).set m (some c)) := rfl
end
theorem at_map {α : Type} {f : α → D} {l : List α} {i : Int} {P : D → Prop} : asAt (atI (l.map f) i) P ↔ ∃ a, atI l i = some a ∧ P (f a) := by
  rw [atI_map]
  cases atI l i <;> simp [asAt]
theorem atI_get {α : Type} {l : List α} {i : Int} (d : α) (h0 : 0 ≤ i) (h : i.toNat < l.length) : atI l i = some (l.getD i.toNat d) := by
  refine atI_of h0 ?_
  rw [List.getD_eq_getElem?_getD, List.getElem?_eq_getElem h]; rfl
theorem atI_neg1 {α : Type} {l : List α} (d : α) (h : 0 < l.length) : atI l (-1) = some (l.getLastD d) := by
  have e : ixN l.length (-1) = some (l.length - 1) := by
    unfold ixN
    simp
    omega
  unfold atI
  rw [e]
  show l[l.length - 1]? = _
  rw [← List.getLast?_eq_getElem?]
  cases l with
  | nil => simp at h
  | cons a r => simp [List.getLast?_cons, List.getLastD_eq_getLast?]
theorem exEq {α : Type} {a : α} {P : α → Prop} : (∃ x, some a = some x ∧ P x) ↔ P a := by simp
theorem exEq1 {α : Type} {a : α} : (∃ x, some a = some x) ↔ True := by simp
theorem wf_allBg {α : Type} {g : α → Bool} {l : List α} {s : Store} {Q : D → Store → Prop} {X : Nat → Store → Prop} : (fAll s (.lst (l.map fun a => D.bl (g a)))).W Q X ↔ Q (.bl (l.all g)) s := by
  have : l.map (fun a => D.bl (g a)) = (l.map g).map D.bl := by simp
  rw [this, wf_allB, List.all_map]
  rfl
theorem wf_sumIg {α : Type} {g : α → Int} {l : List α} {s : Store} {Q : D → Store → Prop} {X : Nat → Store → Prop} : (fSum s (.lst (l.map fun a => D.int (g a)))).W Q X ↔ Q (.int (l.map g).sum) s := by
  have : l.map (fun a => D.int (g a)) = (l.map g).map D.int := by simp
  rw [this, wf_sumI]
theorem exEq' {α : Type} {a : α} {P : α → Prop} : (∃ x, a = x ∧ P x) ↔ P a := by simp
end Gm

set_option Elab.async false
set_option linter.all false
set_option maxRecDepth 100000
set_option autoImplicit false
namespace Gm
open PySem L2
/-! dicts with whole numbers as keys, typed -/
section
variable {β : Type} [En β]
def dic (l : List (Int × β)) : List (Key × D) := l.map fun p => (.inl p.1, En.e p.2)
def look {β : Type} (l : List (Int × β)) (k : Int) : Option β := (l.find? fun p => decide (p.1 = k)).map (·.2)
def putA {β : Type} (l : List (Int × β)) (k : Int) (v : β) : List (Int × β) := if (l.any fun p => decide (p.1 = k)) = true then l.map (fun p => if p.1 = k then (p.1, v) else p) else l ++ [(k, v)]
theorem valD_dic {l : List (Int × β)} {k : Int} : valD (dic l) (.inl k) = (look l k).map En.e := by
  unfold valD dic look
  rw [List.find?_map]
  have : ((fun p : Key × D => decide (p.1 = Sum.inl k)) ∘ fun p : Int × β => ((Sum.inl p.1 : Key), (En.e p.2 : D))) = fun p : Int × β => decide (p.1 = k) := by
    funext p
    rw [Bool.eq_iff_iff]
    simp
  rw [this]
  cases l.find? fun p => decide (p.1 = k) <;> rfl
theorem putD_dic {l : List (Int × β)} {k : Int} {v : β} : putD (dic l) (.inl k) (En.e v) = dic (putA l k v) := by
  unfold putD dic putA
  rw [List.any_map]
  have : ((fun p : Key × D => decide (p.1 = Sum.inl k)) ∘ fun p : Int × β => ((Sum.inl p.1 : Key), (En.e p.2 : D))) = fun p : Int × β => decide (p.1 = k) := by
    funext p
    rw [Bool.eq_iff_iff]
    simp
  rw [this]
  split
  · rw [List.map_map, List.map_map]
    refine List.map_congr_left fun p _ => ?_
    simp only [Function.comp]
    by_cases h : p.1 = k
    · rw [if_pos h, if_pos (by rw [h])]
    · rw [if_neg h, if_neg (fun z => h (Sum.inl.inj z))]
  · rw [List.map_append]; rfl
theorem putD_dicB {l : List (Int × Bool)} {k : Int} {v : Bool} : putD (dic l) (.inl k) (.bl v) = dic (putA l k v) := putD_dic
theorem putD_dicI {l : List (Int × Int)} {k : Int} {v : Int} : putD (dic l) (.inl k) (.int v) = dic (putA l k v) := putD_dic
theorem putD_dicL {γ : Type} [En γ] {l : List (Int × List γ)} {k : Int} {v : List γ} : putD (dic l) (.inl k) (.lst (v.map En.e)) = dic (putA l k v) := putD_dic
theorem look_some {β : Type} {l : List (Int × β)} {k : Int} {v : β} (h : look l k = some v) : (k, v) ∈ l := by
  unfold look at h
  cases e : l.find? fun p => decide (p.1 = k) with
  | none => rw [e] at h; cases h
  | some p =>
    rw [e] at h
    simp only [Option.map_some, Option.some.injEq] at h
    have h1 := List.find?_some e
    have h2 := List.mem_of_find?_eq_some e
    simp only [decide_eq_true_eq] at h1
    rw [← h1, ← h]; exact h2
theorem look_isSome {β : Type} {l : List (Int × β)} {k : Int} : (look l k).isSome = true ↔ k ∈ l.map (·.1) := by
  unfold look
  rw [Option.isSome_map, List.find?_isSome]
  simp
theorem look_isSome' {β : Type} {l : List (Int × β)} {k : Int} : (look l k).isSome = decide (k ∈ l.map (·.1)) := by
  rw [Bool.eq_iff_iff, look_isSome, decide_eq_true_eq]
theorem look_mem {β : Type} {l : List (Int × β)} {k : Int} {v : β} (nd : (l.map (·.1)).Nodup) (h : (k, v) ∈ l) : look l k = some v := by
  induction l with
  | nil => cases h
  | cons a r ih =>
    unfold look
    rw [List.map_cons, List.nodup_cons] at nd
    rw [List.find?_cons]
    rcases List.mem_cons.mp h with e | e
    · rw [← e]; simp
    · have : a.1 ≠ k := fun z => nd.1 (by rw [z]; exact List.mem_map.mpr ⟨_, e, rfl⟩)
      rw [decide_eq_false this]
      exact ih nd.2 e
theorem putA_new {β : Type} {l : List (Int × β)} {k : Int} {v : β} (h : k ∉ l.map (·.1)) : putA l k v = l ++ [(k, v)] := by
  unfold putA
  rw [if_neg]
  intro z
  rw [List.any_eq_true] at z
  obtain ⟨p, h1, h2⟩ := z
  exact h (List.mem_map.mpr ⟨p, h1, of_decide_eq_true h2⟩)
theorem look_putA {β : Type} {l : List (Int × β)} {k j : Int} {v : β} : look (putA l k v) j = if j = k then some v else look l j := by
  unfold putA look
  by_cases h : (l.any fun p => decide (p.1 = k)) = true
  · rw [if_pos h, List.find?_map]
    have e : ((fun p : Int × β => decide (p.1 = j)) ∘ fun p : Int × β => if p.1 = k then (p.1, v) else p) = fun p : Int × β => decide (p.1 = j) := by
      funext p
      by_cases q : p.1 = k <;> simp [q]
    rw [e]
    by_cases q : j = k
    · subst q
      rw [if_pos rfl]
      rw [List.any_eq_true] at h
      cases f : l.find? fun p => decide (p.1 = j) with
      | none =>
        obtain ⟨x, h1, h2⟩ := h
        exact absurd h2 (by simpa using List.find?_eq_none.mp f x h1)
      | some p =>
        have := List.find?_some f
        simp only [decide_eq_true_eq] at this
        simp [this]
    · rw [if_neg q]
      cases f : l.find? fun p => decide (p.1 = j) with
      | none => rfl
      | some p =>
        have := List.find?_some f
        simp only [decide_eq_true_eq] at this
        simp [this, q]
  · rw [if_neg h, List.find?_append]
    by_cases q : j = k
    · subst q
      rw [if_pos rfl]
      have : l.find? (fun p => decide (p.1 = j)) = none := by
        rw [List.find?_eq_none]
        intro x hx z
        exact h (List.any_eq_true.mpr ⟨x, hx, z⟩)
      rw [this]
      simp
    · rw [if_neg q]
      have : ([(k, v)] : List (Int × β)).find? (fun p => decide (p.1 = j)) = none := by simp; exact fun z => q z.symm
      rw [this, Option.or_none]
theorem keys_putA {β : Type} {l : List (Int × β)} {k : Int} {v : β} : (putA l k v).map (·.1) = if k ∈ l.map (·.1) then l.map (·.1) else l.map (·.1) ++ [k] := by
  have e : ((l.any fun p => decide (p.1 = k)) = true) ↔ k ∈ l.map (·.1) := by
    rw [List.any_eq_true]
    simp
  unfold putA
  by_cases h : k ∈ l.map (·.1)
  · rw [if_pos (e.mpr h), if_pos h, List.map_map]
    refine List.map_congr_left fun p _ => ?_
    simp only [Function.comp]
    split <;> rfl
  · rw [if_neg (fun z => h (e.mp z)), if_neg h, List.map_append]; rfl
theorem mergeD_dic : ∀ (l a : List (Int × β)), ((a ++ l).map (·.1)).Nodup → mergeD (dic a) (dic l) = dic (a ++ l)
  | [], a, _ => by simp [dic, mergeD]
  | p :: r, a, h => by
    show mergeD (putD (dic a) (.inl p.1) (En.e p.2)) (dic r) = _
    have hk : p.1 ∉ a.map (·.1) := by
      rw [List.map_append, List.nodup_append] at h
      exact fun z => h.2.2 _ z _ (by simp) rfl
    rw [putD_dic, putA_new hk, mergeD_dic r _ (by simpa using h)]
    simp
theorem mapM_pair : ∀ l : List (Int × β), (l.map (En.e : Int × β → D)).mapM pairD = some (dic l)
  | [] => rfl
  | p :: r => by
    rw [List.map_cons, List.mapM_cons, mapM_pair r]
    rfl
theorem wf_dictP {l : List (Int × β)} {s : Store} {Q : D → Store → Prop} {X : Nat → Store → Prop} (h : (l.map (·.1)).Nodup) : (fDictP s (.lst (l.map En.e))).W Q X ↔ Q (.own (.dK (dic l))) s := by
  have e := mergeD_dic l [] (by simpa using h)
  simp only [fDictP, lsD, dr, Option.bind_some, mapM_pair, R.W_ok]
  rw [show mergeD [] (dic l) = dic l from by simpa [dic] using e]
theorem dic_len {l : List (Int × β)} : (dic l).length = l.length := by simp [dic]
theorem dic_keys {l : List (Int × β)} : (dic l).map (fun p => keyD p.1) = (l.map (·.1)).map D.int := by simp [dic, keyD]
theorem dic_nil : dic ([] : List (Int × β)) = [] := rfl
theorem asAt_m {t : Type} {o : Option t} {f : t → D} {P : D → Prop} : asAt (o.map f) P ↔ ∃ a, o = some a ∧ P (f a) := by cases o <;> simp [asAt]
theorem wg_dgD {l : List (Int × β)} {k : Int} {s : Store} {Q : D → Store → Prop} {X : Nat → Store → Prop} : (fDG s (.dct (dic l)) (.int k)).W Q X ↔ ∃ v, look l k = some v ∧ Q (En.e v) s := by rw [wf_dgD, valD_dic, asAt_m]
theorem wg_dgB {l : List (Int × β)} {k : Int} {s : Store} {Q : D → Store → Prop} {X : Nat → Store → Prop} : (fDG s (.bor (.dK (dic l))) (.int k)).W Q X ↔ ∃ v, look l k = some v ∧ Q (En.e v) s := by rw [wf_dgB, valD_dic, asAt_m]
theorem wg_dinD {l : List (Int × β)} {k : Int} {b : Bool} {s : Store} {Q : D → Store → Prop} {X : Nat → Store → Prop} : (fDIn b s (.int k) (.dct (dic l))).W Q X ↔ Q (.bl (if b then !decide (k ∈ l.map (·.1)) else decide (k ∈ l.map (·.1)))) s := by rw [wf_dinD, valD_dic, Option.isSome_map, look_isSome']
theorem wg_dinB {l : List (Int × β)} {k : Int} {b : Bool} {s : Store} {Q : D → Store → Prop} {X : Nat → Store → Prop} : (fDIn b s (.int k) (.bor (.dK (dic l)))).W Q X ↔ Q (.bl (if b then !decide (k ∈ l.map (·.1)) else decide (k ∈ l.map (·.1)))) s := by rw [wf_dinB, valD_dic, Option.isSome_map, look_isSome']
end
/-! a store that keeps what stood -/
def Keep (s s' : Store) : Prop := ∀ (m : Nat) (o : O), s[m]? = some o → s'[m]? = some o
theorem Keep.refl {s : Store} : Keep s s := fun _ _ h => h
theorem Keep.trans {s t u : Store} (a : Keep s t) (b : Keep t u) : Keep s u := fun m o h => b m o (a m o h)
theorem Keep.set {s t : Store} {n : Nat} {o : O} (a : Keep s t) (h : s.length ≤ n) : Keep s (t.set n o) := fun m u e => by
  have := (List.getElem?_eq_some_iff.mp e).1
  rw [List.getElem?_set_ne (by omega)]; exact a m u e
theorem Keep.app {s t : Store} {l : List O} (a : Keep s t) : Keep s (t ++ l) := fun m u e => by
  have h := a m u e
  rw [List.getElem?_append_left (List.getElem?_eq_some_iff.mp h).1]; exact h
theorem Keep.len {s t : Store} (a : Keep s t) : s.length ≤ t.length := by
  cases h : s.length with
  | zero => omega
  | succ n =>
    have : n < s.length := by omega
    have := a n _ (List.getElem?_eq_getElem this)
    have := (List.getElem?_eq_some_iff.mp this).1
    omega
/-! rising lists -/
theorem rises_eq {l m : List Int} (h1 : l.Pairwise (· < ·)) (h2 : m.Pairwise (· < ·)) (h : ∀ k, k ∈ l ↔ k ∈ m) : l = m := by
  have nd : ∀ l : List Int, l.Pairwise (· < ·) → l.Nodup := fun l h => h.imp fun a => by omega
  have p : l.Perm m := (List.perm_ext_iff_of_nodup (nd _ h1) (nd _ h2)).mpr h
  exact List.Perm.eq_of_pairwise (fun a b _ _ h1 h2 => by omega) h1 h2 p
theorem rises_nd {l : List Int} (h : l.Pairwise (· < ·)) : l.Nodup := h.imp fun a => by omega
theorem sortI_nd {l : List Int} (h : l.Nodup) : (sortI l).Pairwise (· < ·) := by
  have h1 := sortI_rises l
  have h2 : (sortI l).Nodup := (sortI_perm l).nodup_iff.mpr h
  rw [List.nodup_iff_pairwise_ne] at h2
  exact (List.pairwise_and_iff.mpr ⟨h1, h2⟩).imp fun ⟨a, b⟩ => by omega
theorem sortI_id {l : List Int} (h : l.Pairwise (· < ·)) : sortI l = l := rises_eq (sortI_nd (rises_nd h)) h fun k => (sortI_perm l).mem_iff
theorem dedI_id {l : List Int} (h : l.Pairwise (· < ·)) : dedI (sortI l) = l := (eq_dedI h fun _ => Iff.rfl).symm
theorem dedI_rise {l : List Int} : (dedI (sortI l)).Pairwise (· < ·) := dedI_rises _ (sortI_rises l)
end Gm

set_option Elab.async false
set_option linter.all false
set_option maxRecDepth 100000
set_option autoImplicit false
/-! lists and dicts of the store, classes: weakest premises -/
namespace Gm
open PySem L2
def adR (Q : D → Store → Prop) (d : D) (s : Store) : Prop := match d with
  | .own o => Q (.ref s.length) (s ++ [o])
  | d => Q d s
theorem adR_o {Q : D → Store → Prop} {o : O} {s : Store} : adR Q (.own o) s ↔ Q (.ref s.length) (s ++ [o]) := Iff.rfl
theorem adR_r {Q : D → Store → Prop} {n : Nat} {s : Store} : adR Q (.ref n) s ↔ Q (.ref n) s := Iff.rfl
theorem we_ad {e : Ex} {env : Env} {s : Store} {Q : D → Store → Prop} {X : Nat → Store → Prop} : (eAd e env s).W Q X ↔ (e env s).W (adR Q) X := by
  unfold eAd adR
  cases e env s with
  | ok d s1 => cases d <;> simp only [R.W_ok]
  | exc c s1 => simp only [R.W_exc]
  | no => simp only [R.W_no]
theorem ws_par {is : List Nat} {a : Ax} {env : Env} {s : Store} {N : Env → Store → Prop} {T : D → Store → Prop} {Y : Nat → Env → Store → Prop} : (sPar is a env s).W N T Y ↔ (a env s).W (fun ds s1 => asE (setsE is ds env) fun e => N e s1) (fun c s1 => Y c env s1) := by
  unfold sPar asE
  cases a env s with
  | ok d s1 => simp only [R.W_ok]; cases setsE is d env <;> simp only [SR.W_nx, SR.W_no]
  | exc c s1 => simp only [SR.W_exc, R.W_exc]
  | no => simp only [SR.W_no, R.W_no]
theorem setsE_2 {i j : Nat} {a b : D} {env : Env} : setsE [i, j] [a, b] env = some ((env.set i (some a)).set j (some b)) := rfl
def asRf (P : Nat → Prop) : D → Prop
  | .ref n => P n
  | _ => False
theorem asRf_r {P : Nat → Prop} {n : Nat} : asRf P (.ref n) ↔ P n := Iff.rfl
/-- a change of a list of the store, by its place -/
def liO (o : Option O) (f : List D → Option (List D)) (P : List D → Prop) : Prop := match o with
  | some (.lst xs) => (match f xs with
    | some ys => P ys
    | none => False)
  | _ => False
theorem liO_app {xs : List D} {d : D} {P : List D → Prop} : liO (some (.lst xs)) (fApp d) P ↔ xs.length < 16777216 ∧ P (xs ++ [d]) := by
  unfold liO fApp; by_cases h : xs.length < 16777216 <;> simp [h]
theorem liO_ext {xs zs : List D} {P : List D → Prop} : liO (some (.lst xs)) (fExt zs) P ↔ xs.length + zs.length ≤ 16777216 ∧ P (xs ++ zs) := by
  unfold liO fExt; by_cases h : xs.length + zs.length ≤ 16777216 <;> simp [h]
theorem liO_set {xs : List D} {k : Int} {d : D} {P : List D → Prop} : liO (some (.lst xs)) (fSetI k d) P ↔ ∃ j, ixN xs.length k = some j ∧ P (xs.set j d) := by
  unfold liO fSetI; dsimp only; cases ixN xs.length k <;> simp
theorem ws_subE {o j e : Ex} {env : Env} {s : Store} {N : Env → Store → Prop} {T : D → Store → Prop} {Y : Nat → Env → Store → Prop} : (sSubE o j e env s).W N T Y ↔ (e env s).W (fun x s1 => asK (fun d => (o env s1).W (fun y s2 => asRf (fun n => (j env s2).W (fun z s3 => asI (fun k => liO s3[n]? (fSetI k d) fun ys => N env (s3.set n (.lst ys))) z) (fun c s1 => Y c env s1)) y) (fun c s1 => Y c env s1)) x) (fun c s1 => Y c env s1) := by
  unfold sSubE
  cases e env s with
  | ok d s1 =>
    simp only [R.W_ok, asK]
    cases snk (fz d) with
    | none => simp only [SR.W_no]
    | some d' =>
      dsimp only
      cases o env s1 with
      | ok y s2 =>
        cases y with
        | ref n =>
          simp only [R.W_ok, asRf]
          cases j env s2 with
          | ok z s3 =>
            cases z with
            | int k =>
              simp only [R.W_ok, asI, liO]
              cases s3[n]? with
              | none => simp [SR.W_no]
              | some ob => cases ob with
                | lst xs => dsimp only; cases fSetI k d' xs <;> simp [SR.W_no, SR.W_nx]
                | _ => simp [SR.W_no]
            | _ => simp only [R.W_ok, asI, SR.W_no]
          | exc c s1 => simp only [SR.W_exc, R.W_exc]
          | no => simp only [SR.W_no, R.W_no]
        | _ => simp only [R.W_ok, asRf, SR.W_no]
      | exc c s1 => simp only [SR.W_exc, R.W_exc]
      | no => simp only [SR.W_no, R.W_no]
  | exc c s1 => simp only [SR.W_exc, R.W_exc]
  | no => simp only [SR.W_no, R.W_no]

section
variable {s : Store} {Q : D → Store → Prop} {X : Nat → Store → Prop} {N : Env → Store → Prop} {T : D → Store → Prop} {Y : Nat → Env → Store → Prop} {env : Env}
theorem snk_i {i : Int} : snk (.int i) = some (.int i) := rfl
theorem snk_b {i : Bool} : snk (.bl i) = some (.bl i) := rfl
theorem snk_n : snk .non = some .non := rfl
theorem snk_s {x : Str} : snk (.str x) = some (.str x) := rfl
theorem snk_t {x : List D} : snk (.tup x) = some (.tup x) := rfl
theorem snk_l {x : List D} : snk (.lst x) = some (.lst x) := rfl
theorem snk_d {x : List (Key × D)} : snk (.dct x) = some (.dct x) := rfl
theorem snk_r {n : Nat} : snk (.ref n) = some (.ref n) := rfl
theorem wf_liA {n : Nat} {b : D} : (fLiR gApp s (.ref n) b).W Q X ↔ asAt (snk b) fun d => liO s[n]? (fApp d) fun ys => Q .non (s.set n (.lst ys)) := by
  unfold fLiR gApp
  dsimp only
  cases s[n]? with
  | none => cases snk b <;> simp [R.W_no, asAt, liO]
  | some ob => cases ob with
    | lst xs =>
      cases snk b with
      | none => simp [R.W_no, asAt]
      | some d => simp only [Option.map_some, asAt, liO]; cases fApp d xs <;> simp [R.W_no, R.W_ok]
    | _ => cases snk b <;> simp [R.W_no, asAt, liO]
theorem wf_liE {n : Nat} {b : D} : (fLiR gExt s (.ref n) b).W Q X ↔ asL (drM s b) fun zs => liO s[n]? (fExt zs) fun ys => Q .non (s.set n (.lst ys)) := by
  unfold fLiR gExt
  dsimp only
  cases drM s b with
  | none => cases s[n]? with
    | none => simp [R.W_no, asL]
    | some ob => cases ob <;> simp [R.W_no, asL]
  | some oz => cases oz with
    | lst zs => cases s[n]? with
      | none => simp [R.W_no, asL, liO]
      | some ob => cases ob with
        | lst xs => simp only [asL, liO]; cases fExt zs xs <;> simp [R.W_no, R.W_ok]
        | _ => simp [R.W_no, asL, liO]
    | _ => cases s[n]? with
      | none => simp [R.W_no, asL]
      | some ob => cases ob <;> simp [R.W_no, asL]
theorem drM_r {n : Nat} : drM s (.ref n) = s[n]? := rfl
theorem we_meth2 {f : Store → D → D → D → R D} {a b c : Ex} : (eMeth2 f a b c env s).W Q X ↔ (a env s).W (fun x s1 => isLD s1 (fz x) = true ∧ (b env s1).W (fun y s2 => asK (fun y => (c env s2).W (fun z s3 => asK (fun z => (f s3 (fz x) y z).W Q X) z) X) y) X) X := by
  unfold eMeth2 asK
  cases a env s with
  | ok x s1 =>
    simp only [R.W_ok]
    by_cases h : isLD s1 (fz x) = true
    · simp only [h, if_true, true_and]
      cases b env s1 with
      | ok y s2 =>
        simp only [R.W_ok]
        cases snk (fz y) with
        | none => simp only [R.W_no]
        | some y' =>
          dsimp only
          cases c env s2 with
          | ok z s3 => simp only [R.W_ok]; cases snk (fz z) <;> simp only [R.W_no]
          | exc c s1 => simp only [R.W_exc]
          | no => simp only [R.W_no]
      | exc c s1 => simp only [R.W_exc]
      | no => simp only [R.W_no]
    · simp [h, R.W_no]
  | exc c s1 => simp only [R.W_exc]
  | no => simp only [R.W_no]
theorem wf_ins {n : Nat} {i : Int} {d : D} : (fIns s (.ref n) (.int i) d).W Q X ↔ asL s[n]? fun xs => (xs.length < 16777216 ∧ 0 ≤ i ∧ i < 9223372036854775808) ∧ Q .non (s.set n (.lst (xs.take i.toNat ++ [d] ++ xs.drop i.toNat))) := by
  unfold fIns asL
  dsimp only
  cases s[n]? with
  | none => simp [R.W_no]
  | some ob => cases ob with
    | lst xs => dsimp only; by_cases h : xs.length < 16777216 ∧ 0 ≤ i ∧ i < 9223372036854775808 <;> simp [h, R.W_no, R.W_ok]
    | _ => simp [R.W_no]
theorem wf_intB {b : Bool} : (fInt s (.bl b)).W Q X ↔ Q (.int (if b then 1 else 0)) s := R.W_ok
theorem wf_intI {i : Int} : (fInt s (.int i)).W Q X ↔ Q (.int i) s := R.W_ok
theorem wf_absI {i : Int} : (fAbs s (.int i)).W Q X ↔ Q (.int (if i < 0 then -i else i)) s := R.W_ok
/-! classes -/
def insO (o : Option O) (P : Nat → List (Str × D) → Prop) : Prop := match o with
  | some (.ins c fs) => P c fs
  | _ => False
theorem insO_s {c : Nat} {fs : List (Str × D)} {P : Nat → List (Str × D) → Prop} : insO (some (.ins c fs)) P ↔ P c fs := Iff.rfl
theorem wf_fld {cs : List Nat} {f : Str} {n : Nat} : (fFld cs f s (.ref n)).W Q X ↔ insO s[n]? fun c fs => cs.contains c = true ∧ asAt (fs.lookup f) fun d => Q d s := by
  unfold fFld insO
  dsimp only
  cases s[n]? with
  | none => simp [R.W_no]
  | some ob => cases ob with
    | ins c fs =>
      dsimp only
      by_cases h : cs.contains c = true
      · simp only [h, if_true, true_and, asAt]; cases fs.lookup f <;> simp [R.W_no, R.W_ok]
      · rw [if_neg h]; exact ⟨fun z => (R.W_no.mp z).elim, fun z => absurd z.1 h⟩
    | _ => simp [R.W_no]
theorem ws_fldX {cs : List Nat} {f : Str} {o e : Ex} : (sFldX cs f o e env s).W N T Y ↔ (e env s).W (fun x s1 => asK (fun d => (o env s1).W (fun y s2 => asRf (fun n => insO s2[n]? fun c fs => (cs.contains c = true ∧ fs.length < 1000) ∧ N env (s2.set n (.ins c (putFd f d fs)))) y) (fun c s1 => Y c env s1)) x) (fun c s1 => Y c env s1) := by
  unfold sFldX
  cases e env s with
  | ok d s1 =>
    simp only [R.W_ok, asK]
    cases snk (fz d) with
    | none => simp only [SR.W_no]
    | some d' =>
      dsimp only
      cases o env s1 with
      | ok y s2 =>
        cases y with
        | ref n =>
          simp only [R.W_ok, asRf, insO]
          cases s2[n]? with
          | none => simp [SR.W_no]
          | some ob => cases ob with
            | ins c fs =>
              dsimp only
              by_cases h : cs.contains c = true ∧ fs.length < 1000
              · rw [if_pos h]; simp only [SR.W_nx, h, and_self, true_and]
              · rw [if_neg h]; simp only [SR.W_no, h, false_and]
            | _ => simp [SR.W_no]
        | _ => simp only [R.W_ok, asRf, SR.W_no]
      | exc c s1 => simp only [SR.W_exc, R.W_exc]
      | no => simp only [SR.W_no, R.W_no]
  | exc c s1 => simp only [SR.W_exc, R.W_exc]
  | no => simp only [SR.W_no, R.W_no]
theorem we_methC {c : Nat} {m : Str} {F : Fx} {o : Ex} {a : Ax} : (eMethC c m F o a env s).W Q X ↔ (o env s).W (fun y s1 => asRf (fun n => insO s1[n]? fun c' fs => (c' = c ∧ fs.lookup m = none) ∧ (a env s1).W (fun ds s2 => (F (.ref n :: ds) s2).W Q X) X) y) X := by
  unfold eMethC
  cases o env s with
  | ok y s1 =>
    cases y with
    | ref n =>
      simp only [R.W_ok, asRf, insO]
      cases s1[n]? with
      | none => simp [R.W_no]
      | some ob => cases ob with
        | ins c' fs =>
          dsimp only
          by_cases h : c' = c ∧ fs.lookup m = none
          · rw [if_pos h]; simp only [h, and_self, true_and]; cases a env s1 <;> simp only [R.W_ok, R.W_exc, R.W_no]
          · rw [if_neg h]; simp only [R.W_no, h, false_and]
        | _ => simp [R.W_no]
    | _ => simp only [R.W_ok, asRf, R.W_no]
  | exc c s1 => simp only [R.W_exc]
  | no => simp only [R.W_no]
def asN (d : D) (P : Prop) : Prop := match d with
  | .non => P
  | _ => False
theorem asN_n {P : Prop} : asN .non P ↔ P := Iff.rfl
theorem we_make {c : Nat} {F : Fx} {a : Ax} : (eMake c F a env s).W Q X ↔ (a env s).W (fun ds s1 => (F (.ref s1.length :: ds) (s1 ++ [.ins c []])).W (fun d s2 => asN d (Q (.ref s1.length) s2)) X) X := by
  unfold eMake
  cases a env s with
  | ok ds s1 =>
    simp only [R.W_ok]
    cases F (.ref s1.length :: ds) (s1 ++ [.ins c []]) with
    | ok d s2 => cases d <;> simp only [R.W_ok, R.W_no, asN]
    | exc c s1 => simp only [R.W_exc]
    | no => simp only [R.W_no]
  | exc c s1 => simp only [R.W_exc]
  | no => simp only [R.W_no]
theorem wf_isiC {l : List (Nat × Bool)} {n : Nat} : (fIsiC l s (.ref n)).W Q X ↔ insO s[n]? fun c _ => ∃ b, l.lookup c = some b ∧ Q (.bl b) s := by
  unfold fIsiC insO
  dsimp only
  cases s[n]? with
  | none => simp [R.W_no]
  | some ob => cases ob with
    | ins c fs => dsimp only; cases l.lookup c <;> simp [R.W_no, R.W_ok]
    | _ => simp [R.W_no]
def asD (o : Option O) (P : List (Key × D) → Prop) : Prop := match o with
  | some (.dK xs) => P xs
  | _ => False
theorem asD_s {xs : List (Key × D)} {P : List (Key × D) → Prop} : asD (some (.dK xs)) P ↔ P xs := Iff.rfl
theorem ws_dpE {o j e : Ex} : (sDPE o j e env s).W N T Y ↔ (e env s).W (fun x s1 => asK (fun d => (o env s1).W (fun y s2 => asRf (fun n => (j env s2).W (fun z s3 => asKy (fun k => asD s3[n]? fun xs => xs.length < 16777216 ∧ N env (s3.set n (.dK (putD xs k d)))) z) (fun c s1 => Y c env s1)) y) (fun c s1 => Y c env s1)) x) (fun c s1 => Y c env s1) := by
  unfold sDPE
  cases e env s with
  | ok d s1 =>
    simp only [R.W_ok, asK]
    cases snk (fz d) with
    | none => simp only [SR.W_no]
    | some d' =>
      dsimp only
      cases o env s1 with
      | ok y s2 =>
        cases y with
        | ref n =>
          simp only [R.W_ok, asRf]
          cases j env s2 with
          | ok z s3 =>
            simp only [R.W_ok, asKy, asD]
            cases kD z with
            | none => simp [SR.W_no]
            | some k => cases s3[n]? with
              | none => simp [SR.W_no]
              | some ob => cases ob with
                | dK xs => dsimp only; by_cases h : xs.length < 16777216 <;> simp [h, SR.W_no, SR.W_nx]
                | _ => simp [SR.W_no]
          | exc c s1 => simp only [SR.W_exc, R.W_exc]
          | no => simp only [SR.W_no, R.W_no]
        | _ => simp only [R.W_ok, asRf, SR.W_no]
      | exc c s1 => simp only [SR.W_exc, R.W_exc]
      | no => simp only [SR.W_no, R.W_no]
  | exc c s1 => simp only [SR.W_exc, R.W_exc]
  | no => simp only [SR.W_no, R.W_no]
theorem we_dpop {o j : Ex} : (eDPop o j env s).W Q X ↔ (o env s).W (fun y s1 => asRf (fun n => asD s1[n]? fun _ => (j env s1).W (fun z s2 => asKy (fun k => asD s2[n]? fun xs => asAt (valD xs k) fun d => Q d (s2.set n (.dK (dropD xs k)))) (fz z)) X) y) X := by
  unfold eDPop
  cases o env s with
  | ok y s1 =>
    cases y with
    | ref n =>
      simp only [R.W_ok, asRf, asD]
      cases s1[n]? with
      | none => simp [R.W_no]
      | some ob => cases ob with
        | dK xs =>
          dsimp only
          cases j env s1 with
          | ok z s2 =>
            simp only [R.W_ok, asKy]
            cases kD (fz z) with
            | none => simp [R.W_no]
            | some k => cases s2[n]? with
              | none => simp [R.W_no]
              | some ob => cases ob with
                | dK xs => dsimp only; cases valD xs k <;> simp [R.W_no, R.W_ok, asAt]
                | _ => simp [R.W_no]
          | exc c s1 => simp only [R.W_exc]
          | no => simp only [R.W_no]
        | _ => simp [R.W_no]
    | _ => simp only [R.W_ok, asRf, R.W_no]
  | exc c s1 => simp only [R.W_exc]
  | no => simp only [R.W_no]
end
/-! try with a name -/
def trC (o : Option Bool) (A B : Prop) : Prop := match o with
  | some true => A
  | some false => B
  | none => False
theorem trC_t {A B : Prop} : trC (some true) A B ↔ A := Iff.rfl
theorem trC_f {A B : Prop} : trC (some false) A B ↔ B := Iff.rfl
section
variable {env : Env} {s : Store} {N : Env → Store → Prop} {T : D → Store → Prop} {Y : Nat → Env → Store → Prop}
theorem ws_tryAs {i : Nat} {ct : List Bool} {body : Sx} {suite : Nat → Sx} : (sTryAs i ct body suite env s).W N T Y ↔ (body env s).W N T (fun k e s' => trC ct[k]? (noX e = true ∧ (suite k (e.set i (some .exn)) s').W (fun e2 s2 => noX (e2.set i none) = true ∧ N (e2.set i none) s2) T Y0) (Y k e s')) := by
  unfold sTryAs trC
  cases body env s with
  | exc k e s' =>
    simp only [SR.W_exc]
    cases ct[k]? with
    | none => simp only [SR.W_no]
    | some b =>
      cases b with
      | false => simp only [SR.W_exc]
      | true =>
        dsimp only
        by_cases h : noX e = true
        · simp only [h, if_true, true_and]
          cases suite k (e.set i (some .exn)) s' with
          | nx e2 s2 => dsimp only; simp only [SR.W_nx]; by_cases h2 : noX (e2.set i none) = true <;> simp [h2, SR.W_nx, SR.W_no]
          | rt d s2 => simp only [SR.W_rt]
          | exc => simp only [SR.W_no, SR.W_exc, Y0]
          | bk => simp only [SR.W_no, SR.W_bk]
          | ct => simp only [SR.W_no, SR.W_ct]
          | no => simp only [SR.W_no]
        · rw [if_neg h]; exact ⟨fun z => (SR.W_no.mp z).elim, fun z => absurd z.1 h⟩
  | nx e s' => simp only [SR.W_nx]
  | rt d s' => simp only [SR.W_rt]
  | bk e s' => simp only [SR.W_bk]
  | ct e s' => simp only [SR.W_ct]
  | no => simp only [SR.W_no]
theorem noX_0 : noX [] = true := rfl
theorem noX_no {e : Env} : noX (none :: e) = noX e := rfl
theorem noX_i {e : Env} {i : Int} : noX (some (.int i) :: e) = noX e := rfl
theorem noX_b {e : Env} {i : Bool} : noX (some (.bl i) :: e) = noX e := rfl
theorem noX_n {e : Env} : noX (some .non :: e) = noX e := rfl
theorem noX_s {e : Env} {i : Str} : noX (some (.str i) :: e) = noX e := rfl
theorem noX_t {e : Env} {i : List D} : noX (some (.tup i) :: e) = noX e := rfl
theorem noX_l {e : Env} {i : List D} : noX (some (.lst i) :: e) = noX e := rfl
theorem noX_d {e : Env} {i : List (Key × D)} : noX (some (.dct i) :: e) = noX e := rfl
theorem noX_r {e : Env} {i : Nat} : noX (some (.ref i) :: e) = noX e := rfl
theorem noX_o {e : Env} {i : O} : noX (some (.own i) :: e) = noX e := rfl
theorem noX_c {e : Env} {i : List Int} : noX (some (.scr i) :: e) = noX e := rfl
theorem noX_e {e : Env} : noX (some .exn :: e) = false := rfl
def isx (a : Option (Option D)) (b : Option Bool) (P : Bool → Prop) : Prop := match a, b with
  | some (some .exn), some b => P b
  | _, _ => False
theorem isx_s {b : Bool} {P : Bool → Prop} : isx (some (some .exn)) (some b) P ↔ P b := Iff.rfl
theorem we_isX {l : List Bool} {k i : Nat} {Q : D → Store → Prop} {X : Nat → Store → Prop} : (eIsX l k i env s).W Q X ↔ isx env[i]? l[k]? fun b => Q (.bl b) s := by
  unfold eIsX isx
  cases env[i]? with
  | none => simp [R.W_no]
  | some o => cases o with
    | none => simp [R.W_no]
    | some d => cases d <;> cases l[k]? <;> simp [R.W_no, R.W_ok]
end
theorem adO_t {i : Nat} {xs : List D} {N : Env → Store → Prop} {e : Env} {s : Store} : adO (some (some (.tup xs))) i N e s ↔ N e s := Iff.rfl
theorem adO_i {i : Nat} {xs : Int} {N : Env → Store → Prop} {e : Env} {s : Store} : adO (some (some (.int xs))) i N e s ↔ N e s := Iff.rfl
theorem adO_b {i : Nat} {xs : Bool} {N : Env → Store → Prop} {e : Env} {s : Store} : adO (some (some (.bl xs))) i N e s ↔ N e s := Iff.rfl
theorem adO_n {i : Nat} {N : Env → Store → Prop} {e : Env} {s : Store} : adO (some (some .non)) i N e s ↔ N e s := Iff.rfl
theorem adO_st {i : Nat} {xs : Str} {N : Env → Store → Prop} {e : Env} {s : Store} : adO (some (some (.str xs))) i N e s ↔ N e s := Iff.rfl
theorem adO_l {i : Nat} {xs : List D} {N : Env → Store → Prop} {e : Env} {s : Store} : adO (some (some (.lst xs))) i N e s ↔ N e s := Iff.rfl
/-! a comprehension whose parts change the store -/
theorem itr_at {d : D} {xs : List D} {s : Store} (h : seqD s d = some xs) (i : Nat) : Itr.at s (.seq d) i = some xs[i]? := by simp only [Itr.at, h, Option.map_some]
theorem w_lcI {α : Type} {env : Env} {s s1 : Store} {Q : D → Store → Prop} {X : Nat → Store → Prop} {l : List α} {enc : α → D} {d : D} {tg : Tg} {ix : Ix} {tt : Tx} {el : Ex} {vs : List Nat} (p : α → Bool) (I : List α → List D → Store → Prop) (hd : ∀ pre acc s, I pre acc s → seqD s d = some (l.map enc)) (hx : (ix env s).W (fun it s' => s' = s1 ∧ it = .seq d) X0) (hl : l.length ≤ 16777216) (h0 : I [] [] s1)
    (he : ∀ pre a post acc s, l = pre ++ a :: post → acc.length ≤ pre.length → I pre acc s → ∃ e1, tgE tg (enc a) (wipeE env vs) = some e1 ∧ (tt e1 s).W (fun b s' => s' = s ∧ b = p a) X0 ∧ (p a = true → (el e1 s).W (fun d s' => ∃ y, snk (fz d) = some y ∧ I (pre ++ [a]) (acc ++ [y]) s') X0) ∧ (p a = false → I (pre ++ [a]) acc s))
    (hQ : ∀ acc s, I l acc s → Q (.own (.lst acc)) s) : (eLc tg ix tt el vs env s).W Q X := by
  have e := W_eq0 (s := s1) hx
  have key : ∀ (n i : Nat) (acc : List D) (s : Store), i ≤ l.length → l.length < n + i → acc.length ≤ i → I (l.take i) acc s → ∃ acc' s', lcX tg tt el vs (.seq d) n i acc env s = .ok (.own (.lst acc')) s' ∧ I l acc' s' := by
    intro n
    induction n with
    | zero => intro i acc s h1 h2; omega
    | succ n ih =>
      intro i acc s h1 h2 h3 hI
      have ha := itr_at (hd _ _ _ hI) i
      cases q : l[i]? with
      | none =>
        rw [List.getElem?_map, q] at ha
        have : l.length ≤ i := List.getElem?_eq_none_iff.mp q
        rw [List.take_of_length_le this] at hI
        simp only [lcX, ha, Option.map_none]
        exact ⟨acc, s, rfl, hI⟩
      | some x =>
        rw [List.getElem?_map, q] at ha
        obtain ⟨hlt, ex⟩ := List.getElem?_eq_some_iff.mp q
        have hs : l = l.take i ++ x :: l.drop (i + 1) := by rw [← ex, ← List.drop_eq_getElem_cons hlt, List.take_append_drop]
        have htk : l.take (i + 1) = l.take i ++ [x] := by rw [List.take_succ, q]; rfl
        obtain ⟨e1, k1, k2, k3, k4⟩ := he (l.take i) x (l.drop (i + 1)) acc s hs (by rw [List.length_take]; omega) hI
        have k2' := W_eq0 (s := s) k2
        cases hp : p x with
        | false =>
          rw [hp] at k2'
          simp only [lcX, ha, k1, k2', Option.map_some]
          exact ih (i + 1) acc s (by omega) (by omega) (by omega) (by rw [htk]; exact k4 hp)
        | true =>
          rw [hp] at k2'
          obtain ⟨dd, s', k5, y, hy, k6⟩ := (k3 hp).eq
          simp only [lcX, ha, k1, k2', k5, hy, Option.map_some]
          rw [if_pos (by omega)]
          exact ih (i + 1) (acc ++ [y]) s' (by omega) (by omega) (by rw [List.length_append]; simp; omega) (by rw [htk]; exact k6)
  have hf : Itr.fuel s1 (.seq d) = l.length + 1 := by simp only [Itr.fuel, hd _ _ _ h0, Option.getD_some, List.length_map]
  obtain ⟨acc', s', e2, hI⟩ := key (l.length + 1) 0 [] s1 (Nat.zero_le _) (by omega) (by simp) (by simpa using h0)
  have e3 : eLc tg ix tt el vs env s = .ok (.own (.lst acc')) s' := by simp only [eLc, e, hf, e2]
  rw [e3]; exact .ok (hQ _ _ hI)
/-! forks whose branches wait until the test is known -/
def Dm (_A _B : Prop) : Type := Unit
def aTz (k : Bool) (A B : Prop) (_u : Dm A B) : Prop := aT k A B
def dm {A B : Prop} : Dm A B := ()
section
variable {env : Env} {s : Store} {N : Env → Store → Prop} {T : D → Store → Prop} {Y : Nat → Env → Store → Prop} {X : Nat → Store → Prop}
theorem aTz_t {A B : Prop} {u : Dm A B} : aTz true A B u ↔ A := aT_t
theorem aTz_f {A B : Prop} {u : Dm A B} : aTz false A B u ↔ B := aT_f
theorem aTz_d {A B p : Prop} [Decidable p] {u : Dm A B} : aTz (decide p) A B u ↔ (p → A) ∧ (¬ p → B) := aT_d
theorem aTz_n {A B : Prop} {k : Bool} {u : Dm A B} : aTz (!k) A B u ↔ aTz k B A dm := aT_n
theorem aTz_and {A B : Prop} {k l : Bool} {u : Dm A B} : aTz (k && l) A B u ↔ aTz k (aTz l A B dm) B dm := aT_and
theorem aTz_or {A B : Prop} {k l : Bool} {u : Dm A B} : aTz (k || l) A B u ↔ aTz k A (aTz l A B dm) dm := aT_or
theorem wz_andX {a b : Tx} {Q : Bool → Store → Prop} : (tAndX a b env s).W Q X ↔ (a env s).W (fun k s1 => aTz k ((b env s1).W Q X) (Q false s1) dm) X := we_andX
theorem wz_orX {a b : Tx} {Q : Bool → Store → Prop} : (tOrX a b env s).W Q X ↔ (a env s).W (fun k s1 => aTz k (Q true s1) ((b env s1).W Q X) dm) X := we_orX
theorem wz_and {a b : Ex} {Q : D → Store → Prop} : (eAnd a b env s).W Q X ↔ (tq a env s).W (fun k s1 => aTz k ((b env s1).W Q X) (Q (.bl false) s1) dm) X := we_and
theorem wz_or {a b : Ex} {Q : D → Store → Prop} : (eOr a b env s).W Q X ↔ (tq a env s).W (fun k s1 => aTz k (Q (.bl true) s1) ((b env s1).W Q X) dm) X := we_or
theorem wz_eif {c : Tx} {a b : Ex} {Q : D → Store → Prop} : (eIf c a b env s).W Q X ↔ (c env s).W (fun k s1 => aTz k ((a env s1).W Q X) ((b env s1).W Q X) dm) X := we_if
theorem wz_if {c : Tx} {a b : Sx} : (sIf c a b env s).W N T Y ↔ (c env s).W (fun k s1 => aTz k ((a env s1).W N T Y) ((b env s1).W N T Y) dm) (fun c s1 => Y c env s1) := ws_if
end
/-! sorted pairs -/
theorem wf_sortP {ps : List (Int × Int)} {s : Store} {Q : D → Store → Prop} {X : Nat → Store → Prop} : (fSortP s (.lst (ps.map e2))).W Q X ↔ Q (.own (.lst ((sortP ps).map e2))) s := by
  simp only [fSortP, lsD, dr, Option.bind_some, prsD_map, R.W_ok]
/-! try with several clauses -/
def trW (N : Env → Store → Prop) (T : D → Store → Prop) (Y : Nat → Env → Store → Prop) : List (List Bool × Sx) → Nat → Env → Store → Prop
  | [], k, e, s => Y k e s
  | (ct, m) :: r, k, e, s => trC ct[k]? (noX e = true ∧ (m e s).W (fun e2 s2 => noX e2 = true ∧ N e2 s2) T Y0) (trW N T Y r k e s)
section
variable {env : Env} {s : Store} {N : Env → Store → Prop} {T : D → Store → Prop} {Y : Nat → Env → Store → Prop}
theorem trM_W : ∀ {cs : List (List Bool × Sx)} {k : Nat} {e : Env} {s : Store}, (trM cs k e s).W N T Y ↔ trW N T Y cs k e s
  | [], k, e, s => by unfold trM trW; exact SR.W_exc
  | (ct, m) :: r, k, e, s => by
    unfold trM trW trC
    cases ct[k]? with
    | none => simp only [SR.W_no]
    | some b =>
      cases b with
      | false => exact trM_W
      | true =>
        dsimp only
        by_cases h : noX e = true
        · simp only [h, if_true, true_and]
          cases m e s with
          | nx e2 s2 => dsimp only; simp only [SR.W_nx]; by_cases h2 : noX e2 = true <;> simp [h2, SR.W_nx, SR.W_no]
          | rt d s2 => simp only [SR.W_rt]
          | exc => simp only [SR.W_no, SR.W_exc, Y0]
          | bk => simp only [SR.W_no, SR.W_bk]
          | ct => simp only [SR.W_no, SR.W_ct]
          | no => simp only [SR.W_no]
        · rw [if_neg h]; exact ⟨fun z => (SR.W_no.mp z).elim, fun z => absurd z.1 h⟩
theorem ws_tryM {cs : List (List Bool × Sx)} {body : Sx} : (sTryM cs body env s).W N T Y ↔ (body env s).W N T (trW N T Y cs) := by
  unfold sTryM
  cases body env s with
  | exc k e s' => simp only [SR.W_exc]; exact trM_W
  | nx e s' => simp only [SR.W_nx]
  | rt d s' => simp only [SR.W_rt]
  | bk e s' => simp only [SR.W_bk]
  | ct e s' => simp only [SR.W_ct]
  | no => simp only [SR.W_no]
theorem trW_nil {k : Nat} {e : Env} : trW N T Y [] k e s ↔ Y k e s := Iff.rfl
theorem trW_cons {ct : List Bool} {m : Sx} {r : List (List Bool × Sx)} {k : Nat} {e : Env} : trW N T Y ((ct, m) :: r) k e s ↔ trC ct[k]? (noX e = true ∧ (m e s).W (fun e2 s2 => noX e2 = true ∧ N e2 s2) T Y0) (trW N T Y r k e s) := Iff.rfl
end
theorem atI_3 {t : Type} {a b c d : t} {xs : List t} : atI (a :: b :: c :: d :: xs) 3 = some d := atI_nat (j := 3) rfl
end Gm

set_option Elab.async false
set_option linter.all false
set_option maxRecDepth 100000
set_option autoImplicit false
/-! weakest premises: list(range), zip; sequences of either kind -/
namespace Gm
open PySem L2
section
variable {s s1 : Store} {env : Env} {Q : D → Store → Prop} {X : Nat → Store → Prop} {N : Env → Store → Prop} {T : D → Store → Prop} {Y : Nat → Env → Store → Prop}
theorem wf_rngL {j : Int} : (fRngL s (.int j)).W Q X ↔ (rOk j = true ∧ j ≤ 16777216) ∧ Q (.own (.lst ((List.range j.toNat).map fun i : Nat => D.int (i : Int)))) s := by
  unfold fRngL
  dsimp only
  by_cases h : rOk j = true ∧ j ≤ 16777216
  · rw [if_pos h]; simp [h, R.W_ok]
  · rw [if_neg h]; simp [h, R.W_no]
theorem w_forZX {js : List Nat} {body : Sx} {da db : D} {xs ys : List D} (I : Nat → Env → Store → Prop) (hl : xs.length = ys.length) (hd : ∀ i e s, I i e s → dr s da = some (.lst xs) ∧ dr s db = some (.lst ys))
    (hs : ∀ i x y e s, xs[i]? = some x → ys[i]? = some y → I i e s → ∃ e1, tgE (.tp js) (.tup [x, y]) e = some e1 ∧ (body e1 s).W (I (i + 1)) T Y) (hn : ∀ e s, I xs.length e s → N e s) :
    ∀ (f i : Nat) (env : Env) (s : Store), i ≤ xs.length → xs.length < f + i → I i env s → (forZX body js da db f i env s).W N T Y
  | 0, i, env, s, h1, h2, h3 => by omega
  | f + 1, i, env, s, h1, h2, h3 => by
    obtain ⟨ha, hb⟩ := hd i env s h3
    by_cases q : i < xs.length
    · have e1 : xs[i]? = some xs[i] := List.getElem?_eq_getElem q
      have e2 : ys[i]? = some (ys[i]'(by omega)) := List.getElem?_eq_getElem (by omega)
      have ez : zipAt s da db i = some (some (xs[i], ys[i]'(by omega))) := by unfold zipAt; rw [ha, hb]; simp only [e1, e2]
      obtain ⟨e', h4, h5⟩ := hs i _ _ env s e1 e2 h3
      simp only [forZX, ez, h4]
      revert h5
      generalize body e' s = m
      intro h5
      cases h5 with
      | nx h => exact w_forZX I hl hd hs hn f (i + 1) _ _ (by omega) (by omega) h
      | rt h => exact .rt h
      | exc h => exact .exc h
    · have : i = xs.length := by omega
      subst this
      have ez : zipAt s da db xs.length = some none := by unfold zipAt; rw [ha, hb]; simp only [List.getElem?_eq_none (Nat.le_refl _)]
      simp only [forZX, ez]
      exact .nx (hn _ _ h3)
theorem w_forZ {js : List Nat} {a : Ax} {body : Sx} {da db : D} {xs ys : List D} (I : Nat → Env → Store → Prop) (hx : (a env s).W (fun ds s' => s' = s1 ∧ ds = [da, db]) X0) (h0 : I 0 env s1) (hl : xs.length = ys.length) (hd : ∀ i e s, I i e s → dr s da = some (.lst xs) ∧ dr s db = some (.lst ys))
    (hs : ∀ i x y e s, xs[i]? = some x → ys[i]? = some y → I i e s → ∃ e1, tgE (.tp js) (.tup [x, y]) e = some e1 ∧ (body e1 s).W (I (i + 1)) T Y) (hn : ∀ e s, I xs.length e s → N e s) : (sForZ js a body env s).W N T Y := by
  have e := W_eq0 (s := s1) hx
  obtain ⟨ha, hb⟩ := hd 0 env s1 h0
  simp only [sForZ, e, ha, hb]
  exact w_forZX I hl hd hs hn (xs.length + 1) 0 env s1 (Nat.zero_le _) (by omega) h0
/-- a list, as a value or in the store -/
def SqOf (s : Store) (d : D) (xs : List D) : Prop := d = .lst xs ∨ ∃ n, d = .ref n ∧ s[n]? = some (.lst xs)
theorem SqOf.pl {d : D} {xs : List D} (h : SqOf s d xs) : plainD d = true := by rcases h with rfl | ⟨n, rfl, _⟩ <;> rfl
theorem SqOf.dr {d : D} {xs : List D} (h : SqOf s d xs) : Gm.dr s d = some (.lst xs) := by
  rcases h with rfl | ⟨n, rfl, e⟩
  · rfl
  · exact e
theorem SqOf.seq {d : D} {xs : List D} (h : SqOf s d xs) : seqD s d = some xs := by
  rcases h with rfl | ⟨n, rfl, e⟩
  · rfl
  · simp only [seqD, Gm.dr, e]
theorem SqOf.len {d : D} {xs : List D} (h : SqOf s d xs) : fLen s d = .ok (.int xs.length) s := by
  rcases h with rfl | ⟨n, rfl, e⟩
  · rfl
  · simp only [fLen, Gm.dr, e]
theorem SqOf.ix {d x : D} {xs : List D} {i : Int} (h : SqOf s d xs) (hi : atI xs i = some x) : fIx s d (.int i) = .ok x s := by
  rcases h with rfl | ⟨n, rfl, e⟩
  · simp only [fIx, Gm.dr, hi]
  · simp only [fIx, Gm.dr, e, hi]
theorem SqOf.isi {d : D} {xs : List D} (h : SqOf s d xs) : fIsi "list" s d = .ok (.bl true) s := by
  rcases h with rfl | ⟨n, rfl, e⟩
  · rfl
  · unfold fIsi tyD; simp only [Gm.dr, e]; rfl
theorem asR_p {d : D} {P : D → Prop} (h : plainD d = true) : asR P d ↔ P d := by
  unfold asR
  cases d <;> first | exact ⟨fun z => z.2, fun z => ⟨rfl, z⟩⟩ | cases h
theorem asK_p {d : D} {P : D → Prop} (h : plainD d = true) : asK P d ↔ P d := by unfold asK; rw [plain_fz h, plain_snk h]
end
def exq (o : Option (Option D)) (P : Prop) : Prop := match o with
  | some (some .exn) => P
  | _ => False
theorem exq_s {P : Prop} : exq (some (some .exn)) P ↔ P := Iff.rfl
theorem we_callX {F : Fx} {i : Nat} {env : Env} {s : Store} {Q : D → Store → Prop} {X : Nat → Store → Prop} : (eCallX F i env s).W Q X ↔ exq env[i]? ((F [.exn] s).W Q X) := by
  unfold eCallX exq
  cases env[i]? with
  | none => simp [R.W_no]
  | some o => cases o with
    | none => simp [R.W_no]
    | some d => cases d <;> simp [R.W_no]
end Gm

set_option Elab.async false
set_option linter.all false
set_option maxRecDepth 100000
set_option autoImplicit false
namespace Lw
open PySem PySem.Spec PyProof.Rows L2 Gm

/- led_to: 0=value -/
def b_led_to : Sx := sSeq (sIf (tAndX (tq (eOp2 fNotN (eVar 0) (eC D.non))) (tq (eOp2 fEq (eOp2 fIx (eVar 0) (eC (D.int 0))) (eC (D.str "at"))))) (sRet (eOp2 fIx (eVar 0) (eC (D.int 1)))) (sNil))
    (sRet (eC D.non))
def f_led_to : Fx := fnX 1 1 b_led_to
theorem ar_led_to : Ar 1 f_led_to := fnX_ar

/- ways_in: 0=picture 1=slots_of 2=ways 3=row 4=k 5=name 6=at 7=slots -/
def b_ways_in : Sx := sSeq (sSetF 1 (eOp1 fDictP (eOp2 fIx (eVar 0) (eC (D.int 1)))))
    (sSeq (sSet 2 (eDct0))
    (sSeq (sSet 3 (eLst (aNil)))
    (sSeq (sFor (Tg.nm 4) (xRng1 (eC (D.int 8))) (sSeq (sSetF 5 (eCall f_led_to (aCons (eOp2 fIx (eOp2 fIx (eVar 0) (eC (D.int 0))) (eVar 4)) (aNil))))
    (sIf (tAndX (tq (eOp2 fNotN (eVar 5) (eC D.non))) (tq (eOp2 (fDIn true) (eVar 5) (eVar 2)))) (sSeq (sDP 2 (eVar 5) (eLst (aCons (eVar 4) (aNil))))
    (sMut 3 gApp (eVar 5))) (sNil))))
    (sSeq (sSetF 6 (eC (D.int 0)))
    (sSeq (sWhile 400 (tq (eOp2 fLt (eVar 6) (eOp1 fLen (eVar 3)))) (sSeq (sSetF 7 (eOp2 fDG (eVar 1) (eOp2 fIx (eVar 3) (eVar 6))))
    (sSeq (sFor (Tg.nm 4) (xRng1 (eOp1 fLen (eVar 7))) (sSeq (sSetF 5 (eCall f_led_to (aCons (eOp2 fIx (eVar 7) (eVar 4)) (aNil))))
    (sIf (tAndX (tq (eOp2 fNotN (eVar 5) (eC D.non))) (tq (eOp2 (fDIn true) (eVar 5) (eVar 2)))) (sSeq (sDP 2 (eVar 5) (eOp2 fAdd (eOp2 fDG (eVar 2) (eOp2 fIx (eVar 3) (eVar 6))) (eLst (aCons (eVar 4) (aNil)))))
    (sMut 3 gApp (eVar 5))) (sNil))))
    (sSetF 6 (eOp2 fAdd (eVar 6) (eC (D.int 1)))))))
    (sRetV 2))))))
def f_ways_in : Fx := fnX 1 8 b_ways_in
theorem ar_ways_in : Ar 1 f_ways_in := fnX_ar

/- is_value: 0=value 1=names -/
def b_is_value : Sx := sSeq (sIf (tq (eOp2 fIsN (eVar 0) (eC D.non))) (sRet (eC (D.bl true))) (sNil))
    (sSeq (sIf (tq (eOp2 fEq (eOp2 fIx (eVar 0) (eC (D.int 0))) (eC (D.str "is")))) (sRet (eChain fLe fLe (eOp1 fNeg (eC (D.int 1000000))) (eOp2 fIx (eVar 0) (eC (D.int 1))) (eC (D.int 1000000)))) (sNil))
    (sRet (eAnd (eOp2 fEq (eOp2 fIx (eVar 0) (eC (D.int 0))) (eC (D.str "at"))) (eOp2 (fIn false) (eOp2 fIx (eVar 0) (eC (D.int 1))) (eVar 1)))))
def f_is_value : Fx := fnX 2 2 b_is_value
theorem ar_is_value : Ar 2 f_is_value := fnX_ar

/- is_picture: 0=roots 1=cells 2=names 3=name 4=slots 5=cell 6=value -/
def b_is_picture : Sx := sSeq (sSetF 2 (eLc (Tg.nm 5) (iSeq (eVar 1)) (tY) (eOp2 fIx (eVar 5) (eC (D.int 0))) [5]))
    (sSeq (sIf (tOrX (tq (eOp2 fNe (eOp1 fLen (eVar 0)) (eC (D.int 8)))) (tq (eOp2 fNe (eVar 2) (eOp1 fSortSet (eVar 2))))) (sRet (eC (D.bl false))) (sNil))
    (sSeq (sIf (tAndX (tq (eOp2 fGt (eOp1 fLen (eVar 2)) (eC (D.int 0)))) (tq (eOp2 fLt (eOp2 fIx (eVar 2) (eC (D.int 0))) (eC (D.int 0))))) (sRet (eC (D.bl false))) (sNil))
    (sSeq (sFor (Tg.tp [3, 4]) (iSeq (eVar 1)) (sIf (tOrX (tq (eOp2 fGt (eOp1 fLen (eVar 4)) (eC (D.int 4)))) (tNotX (tq (eOp1 fAll (eLc (Tg.nm 6) (iSeq (eVar 4)) (tY) (eCall f_is_value (aCons (eVar 6) (aCons (eVar 2) (aNil)))) [6]))))) (sRet (eC (D.bl false))) (sNil)))
    (sRet (eOp1 fAll (eLc (Tg.nm 6) (iSeq (eVar 0)) (tY) (eCall f_is_value (aCons (eVar 6) (aCons (eVar 2) (aNil)))) [6]))))))
def f_is_picture : Fx := fnX 2 7 b_is_picture
theorem ar_is_picture : Ar 2 f_is_picture := fnX_ar

/- ask_picture: 0=picture -/
def b_ask_picture : Sx := sIf (tNotX (tq (eCall f_is_picture (aCons (eOp2 fIx (eVar 0) (eC (D.int 0))) (aCons (eOp2 fIx (eVar 0) (eC (D.int 1))) (aNil)))))) (sRaise 5) (sNil)
def f_ask_picture : Fx := fnX 1 1 b_ask_picture
theorem ar_ask_picture : Ar 1 f_ask_picture := fnX_ar

/- live: 0=picture -/
def b_live : Sx := sSeq (sEx (eCall f_ask_picture (aCons (eVar 0) (aNil))))
    (sRet (eOp1 fSorted (eOp1 fListD (eCall f_ways_in (aCons (eVar 0) (aNil))))))
def f_live : Fx := fnX 1 1 b_live
theorem ar_live : Ar 1 f_live := fnX_ar

/- live_part: 0=picture 1=ways 2=cells 3=name 4=slots -/
def b_live_part : Sx := sSeq (sEx (eCall f_ask_picture (aCons (eVar 0) (aNil))))
    (sSeq (sSetF 1 (eCall f_ways_in (aCons (eVar 0) (aNil))))
    (sSeq (sSetF 2 (eLc (Tg.tp [3, 4]) (iSeq (eOp2 fIx (eVar 0) (eC (D.int 1)))) (tq (eOp2 (fDIn false) (eVar 3) (eVar 1))) (eTup (aCons (eVar 3) (aCons (eOp1 fListOf (eVar 4)) (aNil)))) [3, 4]))
    (sRet (eTup (aCons (eOp1 fListOf (eOp2 fIx (eVar 0) (eC (D.int 0)))) (aCons (eVar 2) (aNil)))))))
def f_live_part : Fx := fnX 1 5 b_live_part
theorem ar_live_part : Ar 1 f_live_part := fnX_ar

/- way_to: 0=picture 1=name 2=ways -/
def b_way_to : Sx := sSeq (sEx (eCall f_ask_picture (aCons (eVar 0) (aNil))))
    (sSeq (sSetF 2 (eCall f_ways_in (aCons (eVar 0) (aNil))))
    (sSeq (sIf (tq (eOp2 (fDIn true) (eVar 1) (eVar 2))) (sRaise 7) (sNil))
    (sRet (eOp1 fListOf (eOp2 fDG (eVar 2) (eVar 1))))))
def f_way_to : Fx := fnX 2 3 b_way_to
theorem ar_way_to : Ar 2 f_way_to := fnX_ar

/- leads: 0=picture 1=way 2=slots_of 3=name 4=slot -/
def b_leads : Sx := sSeq (sEx (eCall f_ask_picture (aCons (eVar 0) (aNil))))
    (sSeq (sSetF 2 (eOp1 fDictP (eOp2 fIx (eVar 0) (eC (D.int 1)))))
    (sSeq (sIf (tOrX (tq (eOp2 fEq (eOp1 fLen (eVar 1)) (eC (D.int 0)))) (tNotX (tq (eChain fLe fLt (eC (D.int 0)) (eOp2 fIx (eVar 1) (eC (D.int 0))) (eC (D.int 8)))))) (sRet (eC D.non)) (sNil))
    (sSeq (sSetF 3 (eCall f_led_to (aCons (eOp2 fIx (eOp2 fIx (eVar 0) (eC (D.int 0))) (eOp2 fIx (eVar 1) (eC (D.int 0)))) (aNil))))
    (sSeq (sFor (Tg.nm 4) (iSeq (eSl (eVar 1) (oSo (eC (D.int 1))) (oNo))) (sSeq (sIf (tOrX (tq (eOp2 fIsN (eVar 3) (eC D.non))) (tNotX (tq (eChain fLe fLt (eC (D.int 0)) (eVar 4) (eOp1 fLen (eOp2 fDG (eVar 2) (eVar 3))))))) (sRet (eC D.non)) (sNil))
    (sSetF 3 (eCall f_led_to (aCons (eOp2 fIx (eOp2 fDG (eVar 2) (eVar 3)) (eVar 4)) (aNil))))))
    (sRetV 3)))))
def f_leads : Fx := fnX 2 5 b_leads
theorem ar_leads : Ar 2 f_leads := fnX_ar

/- words_of: 0=picture 1=names 2=name 3=slots -/
def b_words_of : Sx := sSeq (sEx (eCall f_ask_picture (aCons (eVar 0) (aNil))))
    (sRet (eOp1 fSum (eLc (Tg.tp [2, 3]) (iSeq (eOp2 fIx (eVar 0) (eC (D.int 1)))) (tq (eOp2 (fIn false) (eVar 2) (eVar 1))) (eOp2 fAdd (eOp1 fLen (eVar 3)) (eC (D.int 1))) [2, 3])))
def f_words_of : Fx := fnX 2 4 b_words_of
theorem ar_words_of : Ar 2 f_words_of := fnX_ar

/- is_closed: 0=picture 1=names 2=value 3=name 4=slots -/
def b_is_closed : Sx := sSeq (sEx (eCall f_ask_picture (aCons (eVar 0) (aNil))))
    (sSeq (sFor (Tg.nm 2) (iSeq (eOp2 fIx (eVar 0) (eC (D.int 0)))) (sIf (tq (eOp2 (fIn false) (eCall f_led_to (aCons (eVar 2) (aNil))) (eVar 1))) (sRet (eC (D.bl false))) (sNil)))
    (sSeq (sFor (Tg.tp [3, 4]) (iSeq (eOp2 fIx (eVar 0) (eC (D.int 1)))) (sIf (tAndX (tq (eOp2 (fIn true) (eVar 3) (eVar 1))) (tq (eOp2 fGt (eOp1 fLen (eLc (Tg.nm 2) (iSeq (eVar 4)) (tq (eOp2 (fIn false) (eCall f_led_to (aCons (eVar 2) (aNil))) (eVar 1))) (eVar 2) [2])) (eC (D.int 0))))) (sRet (eC (D.bl false))) (sNil)))
    (sRet (eC (D.bl true)))))
def f_is_closed : Fx := fnX 2 5 b_is_closed
theorem ar_is_closed : Ar 2 f_is_closed := fnX_ar

/- reasons: 0=picture 1=slots_of 2=found 3=told 4=k 5=name 6=at 7=slots -/
def b_reasons : Sx := sSeq (sEx (eCall f_ask_picture (aCons (eVar 0) (aNil))))
    (sSeq (sSetF 1 (eOp1 fDictP (eOp2 fIx (eVar 0) (eC (D.int 1)))))
    (sSeq (sSet 2 (eLst (aNil)))
    (sSeq (sSet 3 (eDct0))
    (sSeq (sFor (Tg.nm 4) (xRng1 (eC (D.int 8))) (sSeq (sSetF 5 (eCall f_led_to (aCons (eOp2 fIx (eOp2 fIx (eVar 0) (eC (D.int 0))) (eVar 4)) (aNil))))
    (sIf (tAndX (tq (eOp2 fNotN (eVar 5) (eC D.non))) (tq (eOp2 (fDIn true) (eVar 5) (eVar 3)))) (sSeq (sDP 3 (eVar 5) (eC (D.bl true)))
    (sMut 2 gApp (eTup (aCons (eVar 5) (aCons (eTup (aCons (eC (D.str "root")) (aCons (eVar 4) (aNil)))) (aNil)))))) (sNil))))
    (sSeq (sSetF 6 (eC (D.int 0)))
    (sSeq (sWhile 400 (tq (eOp2 fLt (eVar 6) (eOp1 fLen (eVar 2)))) (sSeq (sSetF 7 (eOp2 fDG (eVar 1) (eOp2 fIx (eOp2 fIx (eVar 2) (eVar 6)) (eC (D.int 0)))))
    (sSeq (sFor (Tg.nm 4) (xRng1 (eOp1 fLen (eVar 7))) (sSeq (sSetF 5 (eCall f_led_to (aCons (eOp2 fIx (eVar 7) (eVar 4)) (aNil))))
    (sIf (tAndX (tq (eOp2 fNotN (eVar 5) (eC D.non))) (tq (eOp2 (fDIn true) (eVar 5) (eVar 3)))) (sSeq (sDP 3 (eVar 5) (eC (D.bl true)))
    (sMut 2 gApp (eTup (aCons (eVar 5) (aCons (eTup (aCons (eC (D.str "slot")) (aCons (eOp2 fIx (eOp2 fIx (eVar 2) (eVar 6)) (eC (D.int 0))) (aCons (eVar 4) (aNil))))) (aNil)))))) (sNil))))
    (sSetF 6 (eOp2 fAdd (eVar 6) (eC (D.int 1)))))))
    (sRetV 2)))))))
def f_reasons : Fx := fnX 1 8 b_reasons
theorem ar_reasons : Ar 1 f_reasons := fnX_ar

/- reason_holds: 0=picture 1=told 2=name 3=reason 4=slots_of 5=slots -/
def b_reason_holds : Sx := sSeq (sSetF 4 (eOp1 fDictP (eOp2 fIx (eVar 0) (eC (D.int 1)))))
    (sSeq (sIf (tq (eOp2 fEq (eOp2 fIx (eVar 3) (eC (D.int 0))) (eC (D.str "root")))) (sRet (eAnd (eChain fLe fLt (eC (D.int 0)) (eOp2 fIx (eVar 3) (eC (D.int 1))) (eC (D.int 8))) (eOp2 fEq (eCall f_led_to (aCons (eOp2 fIx (eOp2 fIx (eVar 0) (eC (D.int 0))) (eOp2 fIx (eVar 3) (eC (D.int 1)))) (aNil))) (eVar 2)))) (sNil))
    (sSeq (sIf (tOrX (tq (eOp2 fNe (eOp2 fIx (eVar 3) (eC (D.int 0))) (eC (D.str "slot")))) (tOrX (tq (eOp2 (fIn true) (eOp2 fIx (eVar 3) (eC (D.int 1))) (eVar 1))) (tq (eOp2 (fDIn true) (eOp2 fIx (eVar 3) (eC (D.int 1))) (eVar 4))))) (sRet (eC (D.bl false))) (sNil))
    (sSeq (sSetF 5 (eOp2 fDG (eVar 4) (eOp2 fIx (eVar 3) (eC (D.int 1)))))
    (sRet (eAnd (eChain fLe fLt (eC (D.int 0)) (eOp2 fIx (eVar 3) (eC (D.int 2))) (eOp1 fLen (eVar 5))) (eOp2 fEq (eCall f_led_to (aCons (eOp2 fIx (eVar 5) (eOp2 fIx (eVar 3) (eC (D.int 2)))) (aNil))) (eVar 2)))))))
def f_reason_holds : Fx := fnX 4 6 b_reason_holds
theorem ar_reason_holds : Ar 4 f_reason_holds := fnX_ar

/- reasons_hold: 0=picture 1=kept 2=told 3=name 4=reason -/
def b_reasons_hold : Sx := sSeq (sEx (eCall f_ask_picture (aCons (eVar 0) (aNil))))
    (sSeq (sAd 2 (sSet 2 (eLst (aNil))))
    (sSeq (sFor (Tg.tp [3, 4]) (iSeq (eVar 1)) (sSeq (sPre (gFz 2) (sIf (tOrX (tq (eOp2 (fIn false) (eVar 3) (eVar 2))) (tNotX (tq (eCall f_reason_holds (aCons (eVar 0) (aCons (eVar 2) (aCons (eVar 3) (aCons (eVar 4) (aNil))))))))) (sRet (eC (D.bl false))) (sNil)))
    (sMut 2 gApp (eVar 3))))
    (sRet (eC (D.bl true)))))
def f_reasons_hold : Fx := fnX 2 5 b_reasons_hold
theorem ar_reasons_hold : Ar 2 f_reasons_hold := fnX_ar

/- is_paper: 0=picture 1=kept 2=swept 3=names 4=cell 5=entry -/
def b_is_paper : Sx := sSeq (sEx (eCall f_ask_picture (aCons (eVar 0) (aNil))))
    (sSeq (sSetF 3 (eLc (Tg.nm 4) (iSeq (eOp2 fIx (eVar 0) (eC (D.int 1)))) (tY) (eOp2 fIx (eVar 4) (eC (D.int 0))) [4]))
    (sSeq (sIf (tOrX (tq (eOp2 fNe (eOp1 fSorted (eOp2 fAdd (eLc (Tg.nm 5) (iSeq (eVar 1)) (tY) (eOp2 fIx (eVar 5) (eC (D.int 0))) [5]) (eOp1 fListOf (eVar 2)))) (eVar 3))) (tq (eOp2 fNe (eOp1 fListOf (eVar 2)) (eOp1 fSorted (eVar 2))))) (sRet (eC (D.bl false))) (sNil))
    (sRet (eAnd (eCall f_reasons_hold (aCons (eVar 0) (aCons (eVar 1) (aNil)))) (eCall f_is_closed (aCons (eVar 0) (aCons (eVar 2) (aNil))))))))
def f_is_paper : Fx := fnX 3 6 b_is_paper
theorem ar_is_paper : Ar 3 f_is_paper := fnX_ar

/- paper_of: 0=picture 1=kept 2=names 3=name 4=reason 5=cell -/
def b_paper_of : Sx := sSeq (sSetF 1 (eCall f_reasons (aCons (eVar 0) (aNil))))
    (sSeq (sSetF 2 (eLc (Tg.tp [3, 4]) (iSeq (eVar 1)) (tY) (eVar 3) [3, 4]))
    (sRet (eTup (aCons (eVar 1) (aCons (eLc (Tg.nm 5) (iSeq (eOp2 fIx (eVar 0) (eC (D.int 1)))) (tq (eOp2 (fIn true) (eOp2 fIx (eVar 5) (eC (D.int 0))) (eVar 2))) (eOp2 fIx (eVar 5) (eC (D.int 0))) [5]) (aNil))))))
def f_paper_of : Fx := fnX 1 6 b_paper_of
theorem ar_paper_of : Ar 1 f_paper_of := fnX_ar

/- _law_done: 0=way 1=picture 2=cell -/
def b__law_done : Sx := sIf (tq (eOp2 fEq (eVar 0) (eC (D.int 0)))) (sEx (eCall f_live (aCons (eVar 1) (aNil)))) (sIf (tq (eOp2 fEq (eVar 0) (eC (D.int 1)))) (sEx (eCall f_live_part (aCons (eVar 1) (aNil)))) (sIf (tq (eOp2 fEq (eVar 0) (eC (D.int 2)))) (sEx (eCall f_way_to (aCons (eVar 1) (aCons (eOp2 fSub (eOp2 fMod (eVar 2) (eC (D.int 9))) (eC (D.int 1))) (aNil))))) (sIf (tq (eOp2 fEq (eVar 0) (eC (D.int 3)))) (sEx (eCall f_leads (aCons (eVar 1) (aCons (eLst (aCons (eOp2 fSub (eOp2 fMod (eVar 2) (eC (D.int 9))) (eC (D.int 1))) (aNil))) (aNil))))) (sIf (tq (eOp2 fEq (eVar 0) (eC (D.int 4)))) (sEx (eCall f_words_of (aCons (eVar 1) (aCons (eLst (aCons (eOp2 fMod (eVar 2) (eC (D.int 9))) (aNil))) (aNil))))) (sIf (tq (eOp2 fEq (eVar 0) (eC (D.int 5)))) (sEx (eCall f_is_closed (aCons (eVar 1) (aCons (eLst (aCons (eOp2 fMod (eVar 2) (eC (D.int 9))) (aNil))) (aNil))))) (sIf (tq (eOp2 fEq (eVar 0) (eC (D.int 6)))) (sEx (eCall f_reasons (aCons (eVar 1) (aNil)))) (sIf (tq (eOp2 fEq (eVar 0) (eC (D.int 7)))) (sEx (eCall f_reasons_hold (aCons (eVar 1) (aCons (eLst (aCons (eTup (aCons (eOp2 fMod (eVar 2) (eC (D.int 9))) (aCons (eTup (aCons (eC (D.str "root")) (aCons (eC (D.int 9)) (aNil)))) (aNil)))) (aNil))) (aNil))))) (sIf (tq (eOp2 fEq (eVar 0) (eC (D.int 8)))) (sEx (eCall f_is_paper (aCons (eVar 1) (aCons (eLst (aNil)) (aCons (eLst (aCons (eOp2 fMod (eVar 2) (eC (D.int 9))) (aNil))) (aNil)))))) (sEx (eCall f_paper_of (aCons (eVar 1) (aNil))))))))))))
def f__law_done : Fx := fnX 3 3 b__law_done
theorem ar__law_done : Ar 3 f__law_done := fnX_ar

/- _law_cell_at: 0=script 1=k -/
def b__law_cell_at : Sx := sSeq (sIf (tq (eOp2 fLt (eVar 1) (eOp1 fLen (eVar 0)))) (sRet (eOp2 fIx (eVar 0) (eVar 1))) (sNil))
    (sRet (eC (D.int 0)))
def f__law_cell_at : Fx := fnX 2 2 b__law_cell_at
theorem ar__law_cell_at : Ar 2 f__law_cell_at := fnX_ar

/- _law_others_X: 0=e 1=told -/
def b__law_others_X (k : Nat) : Sx := sSeq (sSetF 1 (eLst (aCons (eIsX [false, false, false, false, false, false, false, false, false, false, false, false, false, false, true, false] k 0) (aCons (eIsX [false, false, false, false, false, false, false, false, false, false, false, true, false, false, false, false] k 0) (aCons (eIsX [false, false, false, true, false, false, false, false, false, false, false, false, false, false, false, false] k 0) (aCons (eIsX [false, true, false, false, false, false, false, false, false, false, false, false, false, false, false, false] k 0) (aNil)))))))
    (sSeq (sSetF 1 (eOp2 fAdd (eVar 1) (eLst (aCons (eIsX [false, false, false, false, false, false, false, false, false, false, false, false, false, false, false, true] k 0) (aCons (eIsX [false, false, false, false, false, false, false, false, false, false, true, false, false, false, false, false] k 0) (aCons (eIsX [false, false, false, false, true, false, false, false, false, false, false, false, false, false, false, false] k 0) (aCons (eIsX [false, false, true, false, false, false, false, false, false, false, false, false, false, false, false, false] k 0) (aNil))))))))
    (sSeq (sSetF 1 (eOp2 fAdd (eVar 1) (eLst (aCons (eIsX [false, false, false, false, false, false, false, false, true, false, false, false, false, false, false, false] k 0) (aCons (eIsX [false, false, false, false, false, false, false, false, false, true, false, false, false, false, false, false] k 0) (aCons (eIsX [false, false, false, false, false, false, false, false, false, false, false, false, true, false, false, false] k 0) (aCons (eIsX [false, false, false, false, false, false, false, false, false, false, false, false, false, true, false, false] k 0) (aNil))))))))
    (sRet (eOp2 fAdd (eVar 1) (eLst (aCons (eIsX [false, false, false, false, false, false, true, false, false, false, false, false, false, false, false, false] k 0) (aCons (eIsX [false, false, false, false, false, false, false, true, false, false, false, false, false, false, false, false] k 0) (aNil))))))))
def f__law_others_X (k : Nat) : Fx := fnX 1 2 (b__law_others_X k)

/- _law_bad: 0=picture 1=cell 2=roots 3=cells 4=way -/
def b__law_bad : Sx := sSeq (sSetT [2, 3] (eVar 0))
    (sSeq (sSetF 4 (eOp2 fMod (eVar 1) (eC (D.int 6))))
    (sSeq (sIf (tq (eOp2 fEq (eVar 4) (eC (D.int 0)))) (sSub 2 (eOp2 fMod (eOp2 fDiv (eVar 1) (eC (D.int 6))) (eC (D.int 8))) (eTup (aCons (eC (D.str "at")) (aCons (eOp2 fAdd (eC (D.int 30)) (eOp2 fMod (eOp2 fDiv (eVar 1) (eC (D.int 48))) (eOp2 fPow (eC (D.int 10)) (eC (D.int 40))))) (aNil))))) (sIf (tq (eOp2 fEq (eVar 4) (eC (D.int 1)))) (sEx (eOp1 fPop (eVar 2))) (sIf (tq (eOp2 fEq (eVar 4) (eC (D.int 2)))) (sMut 2 gApp (eC D.non)) (sIf (tq (eOp2 fEq (eVar 4) (eC (D.int 3)))) (sMut 3 gApp (eTup (aCons (eC (D.int 40)) (aCons (eOp2 fMul (eLst (aCons (eC D.non) (aNil))) (eC (D.int 5))) (aNil))))) (sIf (tq (eOp2 fEq (eVar 4) (eC (D.int 4)))) (sEx (eMeth2 fIns (eVar 3) (eC (D.int 0)) (eTup (aCons (eOp2 fSub (eOp1 fNeg (eC (D.int 1))) (eOp2 fMod (eOp2 fDiv (eVar 1) (eC (D.int 6))) (eOp2 fPow (eC (D.int 10)) (eC (D.int 40))))) (aCons (eAd (eLst (aNil))) (aNil)))))) (sMut 3 gExt (eLst (aCons (eTup (aCons (eC (D.int 50)) (aCons (eAd (eLst (aNil))) (aNil)))) (aCons (eTup (aCons (eC (D.int 50)) (aCons (eAd (eLst (aNil))) (aNil)))) (aNil))))))))))
    (sPre (gFz 2) (sPre (gFz 3) (sRet (eTup (aCons (eVar 2) (aCons (eVar 3) (aNil)))))))))
def f__law_bad : Fx := fnX 2 5 b__law_bad
theorem ar__law_bad : Ar 2 f__law_bad := fnX_ar

/- _law_value: 0=draw 1=names -/
def b__law_value : Sx := sSeq (sIf (tq (eOp2 fEq (eOp2 fMod (eVar 0) (eC (D.int 4))) (eC (D.int 1)))) (sRet (eTup (aCons (eC (D.str "is")) (aCons (eOp2 fSub (eOp2 fDiv (eVar 0) (eC (D.int 4))) (eC (D.int 5))) (aNil))))) (sNil))
    (sSeq (sIf (tOrX (tq (eOp2 fEq (eOp2 fMod (eVar 0) (eC (D.int 4))) (eC (D.int 0)))) (tq (eOp2 fEq (eOp1 fLen (eVar 1)) (eC (D.int 0))))) (sRet (eC D.non)) (sNil))
    (sRet (eTup (aCons (eC (D.str "at")) (aCons (eOp2 fIx (eVar 1) (eOp2 fMod (eOp2 fDiv (eVar 0) (eC (D.int 4))) (eOp1 fLen (eVar 1)))) (aNil))))))
def f__law_value : Fx := fnX 2 2 b__law_value
theorem ar__law_value : Ar 2 f__law_value := fnX_ar

/- _law_draw: 0=cell 1=k 2=bound 3=left 4=j 5=stir -/
def b__law_draw : Sx := sSeq (sIf (tq (eOp2 fEq (eOp2 fMod (eVar 0) (eC (D.int 2))) (eC (D.int 0)))) (sSeq (sSetF 3 (eOp2 fDiv (eVar 0) (eC (D.int 2))))
    (sSeq (sFor (Tg.nm 4) (xRng1 (eVar 1)) (sSetF 3 (eOp2 fDiv (eVar 3) (eVar 2))))
    (sRet (eOp2 fMod (eVar 3) (eVar 2))))) (sNil))
    (sSeq (sSetF 5 (eOp2 fMod (eOp2 fMul (eOp2 fAdd (eOp2 fAdd (eOp2 fMod (eVar 0) (eC (D.int 1000000007))) (eOp2 fMul (eC (D.int 1009)) (eVar 1))) (eC (D.int 17))) (eC (D.int 69621))) (eC (D.int 2147483647))))
    (sSeq (sSetF 5 (eOp2 fMod (eOp2 fAdd (eOp2 fAdd (eOp2 fMul (eVar 5) (eVar 5)) (eOp2 fMul (eC (D.int 40503)) (eVar 1))) (eC (D.int 5))) (eC (D.int 2147483629))))
    (sRet (eOp2 fMod (eOp2 fDiv (eOp2 fMod (eOp2 fMul (eVar 5) (eC (D.int 48271))) (eC (D.int 2147483647))) (eC (D.int 32))) (eVar 2)))))
def f__law_draw : Fx := fnX 3 6 b__law_draw
theorem ar__law_draw : Ar 3 f__law_draw := fnX_ar

/- _law_drawn: 0=script 1=at 2=names 3=k 4=cells 5=cell 6=size 7=j -/
def b__law_drawn : Sx := sSeq (sSet 2 (eLst (aNil)))
    (sSeq (sFor (Tg.nm 3) (xRng1 (eOp2 fMod (eCall f__law_cell_at (aCons (eVar 0) (aCons (eVar 1) (aNil)))) (eC (D.int 7)))) (sMut 2 gApp (eOp2 fAdd (eOp2 fAdd (eIf (tq (eOp2 fGt (eOp1 fLen (eVar 2)) (eC (D.int 0)))) (eOp2 fIx (eVar 2) (eOp1 fNeg (eC (D.int 1)))) (eOp1 fNeg (eC (D.int 1)))) (eC (D.int 1))) (eCall f__law_draw (aCons (eCall f__law_cell_at (aCons (eVar 0) (aCons (eOp2 fAdd (eVar 1) (eC (D.int 1))) (aNil)))) (aCons (eVar 3) (aCons (eC (D.int 3)) (aNil))))))))
    (sSeq (sAd 4 (sSet 4 (eLst (aNil))))
    (sSeq (sFor (Tg.nm 3) (xRng1 (eOp1 fLen (eVar 2))) (sSeq (sSetF 5 (eCall f__law_cell_at (aCons (eVar 0) (aCons (eOp2 fAdd (eOp2 fAdd (eVar 1) (eC (D.int 2))) (eVar 3)) (aNil)))))
    (sSeq (sSetF 6 (eCall f__law_draw (aCons (eVar 5) (aCons (eC (D.int 0)) (aCons (eC (D.int 5)) (aNil))))))
    (sPre (gFz 2) (sMut 4 gApp (eTup (aCons (eOp2 fIx (eVar 2) (eVar 3)) (aCons (eAd (eLc (Tg.nm 7) (xRng1 (eVar 6)) (tY) (eCall f__law_value (aCons (eCall f__law_draw (aCons (eVar 5) (aCons (eOp2 fAdd (eC (D.int 1)) (eVar 7)) (aCons (eC (D.int 60)) (aNil))))) (aCons (eVar 2) (aNil)))) [7])) (aNil)))))))))
    (sSeq (sSetF 5 (eCall f__law_cell_at (aCons (eVar 0) (aCons (eOp2 fAdd (eVar 1) (eC (D.int 8))) (aNil)))))
    (sPre (gFz 4) (sPre (gFz 2) (sRet (eTup (aCons (eAd (eLc (Tg.nm 7) (xRng1 (eC (D.int 8))) (tY) (eCall f__law_value (aCons (eCall f__law_draw (aCons (eVar 5) (aCons (eVar 7) (aCons (eC (D.int 60)) (aNil))))) (aCons (eVar 2) (aNil)))) [7])) (aCons (eVar 4) (aNil)))))))))))
def f__law_drawn : Fx := fnX 2 8 b__law_drawn
theorem ar__law_drawn : Ar 2 f__law_drawn := fnX_ar

/- law: 0=script 1=picture 2=way 3=told 4=e -/
def b_law : Sx := sSeq (sSetF 1 (eCall f__law_bad (aCons (eCall f__law_drawn (aCons (eVar 0) (aCons (eC (D.int 0)) (aNil)))) (aCons (eCall f__law_cell_at (aCons (eVar 0) (aCons (eC (D.int 9)) (aNil)))) (aNil)))))
    (sSeq (sFor (Tg.nm 2) (xRng1 (eC (D.int 10))) (sSeq (sSetF 3 (eC D.non))
    (sSeq (sTryAs 4 [true, true, true, true, true, true, true, true, true, true, true, true, true, true, true, true] (sEx (eCall f__law_done (aCons (eVar 2) (aCons (eVar 1) (aCons (eCall f__law_cell_at (aCons (eVar 0) (aCons (eC (D.int 10)) (aNil)))) (aNil)))))) (fun k => sSetF 3 (eAnd (eIsX [false, false, false, false, false, true, false, false, false, false, false, false, false, false, false, false] k 4) (eAnd (eIsX [true, true, true, true, true, true, true, true, true, true, true, true, true, true, true, true] k 4) (eOp2 fEq (eCallX (f__law_others_X k) 4) (eOp2 fMul (eLst (aCons (eC (D.bl false)) (aNil))) (eC (D.int 14))))))))
    (sIf (tq (eOp2 fNotB (eVar 3) (eC (D.bl true)))) (sRet (eC (D.bl false))) (sNil)))))
    (sRet (eC (D.bl true))))
def f_law : Fx := fnX 1 5 b_law
theorem ar_law : Ar 1 f_law := fnX_ar
end Lw

set_option Elab.async false
set_option linter.all false
set_option maxRecDepth 100000
set_option autoImplicit false
set_option maxHeartbeats 1000000
namespace Lw
open PySem L2 Gm
local macro_rules | `(tactic| walk_at "ev") => `(tactic| try simp only [eOp2, eOp1, eVar, eC, tq, tNotX, tAndX, tOrX, eAnd, eOr, eNot, eIf, aNil, aCons, snk, Gm.fz, eTup, eLst, eCall, oNo, oSo, eSl, iSeq, seqD, dr, tgE, setsE, Option.map_some, List.getElem?_cons_zero, List.getElem?_cons_succ, List.set_cons_zero, List.set_cons_succ, List.length_cons, List.length_nil, Nat.reduceAdd, Nat.reduceLeDiff, if_true, Int.reduceNeg,
  fAdd_i, fSub_i, fLt_i, fLe_i, fGt_i, fGe_i, fNeg_i, fMax_i, fMin_i, fEq_i, fNe_i, fEq_b, fIsN_i, fIsN_n, fNotN_i, fNotN_n, fIsN_t, fNotN_t, fNotB_b, fIsB_b, fLen_l, fLen_t, fLen_b, fLen_s, fIx_p0, fIx_p1, Bool.not_true, Bool.not_false, decide_true, decide_false])
local macro_rules | `(tactic| simp_arith [$ls,*]) => `(tactic| simp (maxSteps := 4000000) (disch := omega) only [↓we_op2, ↓we_op1, ↓we_C, ↓we_dct0, ↓we_tY, ↓we_tq, ↓we_notX, ↓we_andX, ↓we_orX, ↓we_and, ↓we_or, ↓we_not, ↓we_if, ↓we_aNil, ↓we_aCons, ↓we_tup, ↓we_lst, ↓we_call, ↓we_oNo, ↓we_oSo, ↓we_sl, ↓we_meth, ↓we_lele, ↓we_lelt, ↓wi_seq, ↓wi_rng1, ↓wi_rng2, ↓ws_seq, ↓Kt_eq, ↓ws_nil, ↓ws_ex, ↓ws_set, ↓ws_setF, ↓asE_s, ↓ws_setT, ↓ws_if, ↓ws_ret, ↓ws_retN, ↓ws_retV, ↓ws_raise, ↓ws_pre, ↓ws_ad, ↓ws_app, ↓wq_ext, ↓ws_sub, ↓ws_rev, ↓ws_dp,
  eVar_eq, vrO_s, R.W_ok, R.W_exc, R.W_no, R.W_ite, List.getElem?_cons_zero, List.getElem?_cons_succ, List.set_cons_zero, List.set_cons_succ, vr_i, vr_b, vr_n, vr_s, vr_t, vr_l, vr_c, vr_d, vr_r, vr_o, vr_e, fz_i, fz_b, fz_n, fz_s, fz_t, fz_l, fz_c, fz_d, fz_r, fz_bo, fz_ol, fz_od, fz_e, asK_i, asK_b, asK_n, asK_s, asK_t, asK_l, asK_c, asK_d, asK_r, asK_ol, asK_od, asK_e, asR_i, asR_b, asR_n, asR_s, asR_t, asR_l, asR_c, asR_d, asR_r, asR_o, asR_e, asB_b, asI_i, rvO_i, rvO_b, rvO_n, rvO_s, rvO_t, rvO_l, rvO_c, rvO_d, rvO_r, rvO_o, rvO_e,
  muO_app, muO_rev, muO_ext, muO_seti, muO_ref, rfO_app, rfO_ext, rfO_seti, rfO_rev, isLO_own, isLO_ref, isLr_s, asL_s, duO_own, duO_ref, rdO_s, isDO_own, isDO_ref, isDr_s, asKy_i, asKy_s, gFz_1, gFz_2, fzO_o, fzO_l, fzO_d, fzO_r, fzO_i, fzO_b, fzO_t, fzO_n, fzO_z, adK_eq, adO_o, adO_r,
  aT_t, aT_f, aT_d, aT_n, aT_and, aT_or, fAdd_i, fSub_i, fLt_i, fLe_i, fGt_i, fGe_i, fNeg_i, fMax_i, fMin_i, xEq_i, xNe_i, xEq_b, xNe_b, xEq_ni, xEq_in, xEq_nn, xNe_ni, xNe_in, xNe_nn, fIsN_i, fIsN_n, fNotN_i, fNotN_n, fIsN_t, fNotN_t, fNotN_r, fNotN_l, fIsN_r, fIsN_l, fNotB_b, fIsB_b, fLen_l, fLen_t, fLen_b, fLen_s, fIsi_bb, fIsi_ib, fIsi_bi, fIsi_ii, fIsi_ll, fIsi_bl, fIsi_tt, rOk_eq,
  wf_mod, wf_div, wf_mul, cMul_eq, wf_pow, asAt_s, wf_ixL, wf_ixB, wf_ixT, wf_ixR, atI_0, atI_1, atI_2, wf_lenR, wf_lenS, wf_addS, wf_addL, wf_addBL, wf_addLB, wf_addRL, wf_repL, wf_slL, wf_slB, wf_slR, wf_listL, wf_listB, wf_listR, wf_pop, wg_dgD, wg_dgB, wg_dinD, wg_dinB, putD_dic, putD_dicB, putD_dicI, putD_dicL, List.getElem?_set_self, dic_len, dic_keys, wf_sumI, wf_allB, wf_sorted, wf_sortSet, wf_listD, wf_listDB, seqD_l', seqD_t', seqD_c', drM_l, drM_b, isLD_r, fIn_i, fIn_n, fEq_li, fNe_li, exEq, exEq', exEq1, wf_allBg, wf_sumIg,
  Bool.not_true, Bool.not_false, decide_true, decide_false, true_and, and_true, if_true, if_false, Bool.false_eq_true, true_implies, List.length_cons, List.length_nil, Nat.reduceAdd, Nat.reduceLeDiff, Int.reduceNeg, Int.reduceLT, Int.reduceLE, Nat.reduceLT, List.map_cons, List.map_nil, List.cons_append, List.nil_append, List.append_nil, Nat.reduceSub, List.replicate, List.length_map, at_map, Int.zero_add, Int.toNat_natCast, Int.reduceToNat, $ls,*])
local macro_rules | `(tactic| simp_all_arith [$ls,*]) => `(tactic| simp (maxSteps := 4000000) (disch := omega) only [↓we_op2, ↓we_op1, ↓we_C, ↓we_dct0, ↓we_tY, ↓we_tq, ↓we_notX, ↓we_andX, ↓we_orX, ↓we_and, ↓we_or, ↓we_not, ↓we_aNil, ↓we_aCons, ↓we_tup, ↓we_lst, ↓we_call, ↓we_oNo, ↓we_oSo, ↓we_sl, ↓we_meth, ↓we_lele, ↓we_lelt, ↓wi_seq, ↓wi_rng1, ↓wi_rng2, ↓ws_seq, ↓Kt_eq, ↓ws_nil, ↓ws_ex, ↓ws_set, ↓ws_setF, ↓asE_s, ↓ws_setT, ↓ws_ret, ↓ws_retN, ↓ws_retV, ↓ws_raise, ↓ws_pre, ↓ws_ad, ↓ws_app, ↓wq_ext, ↓ws_sub, ↓ws_rev, ↓ws_dp,
  eVar_eq, vrO_s, R.W_ok, R.W_exc, R.W_no, R.W_ite, List.getElem?_cons_zero, List.getElem?_cons_succ, List.set_cons_zero, List.set_cons_succ, vr_i, vr_b, vr_n, vr_s, vr_t, vr_l, vr_c, vr_d, vr_r, vr_o, vr_e, fz_i, fz_b, fz_n, fz_s, fz_t, fz_l, fz_c, fz_d, fz_r, fz_bo, fz_ol, fz_od, fz_e, asK_i, asK_b, asK_n, asK_s, asK_t, asK_l, asK_c, asK_d, asK_r, asK_ol, asK_od, asK_e, asR_i, asR_b, asR_n, asR_s, asR_t, asR_l, asR_c, asR_d, asR_r, asR_o, asR_e, asB_b, asI_i, rvO_i, rvO_b, rvO_n, rvO_s, rvO_t, rvO_l, rvO_c, rvO_d, rvO_r, rvO_o, rvO_e,
  muO_app, muO_rev, muO_ext, muO_seti, muO_ref, rfO_app, rfO_ext, rfO_seti, rfO_rev, isLO_own, isLO_ref, isLr_s, asL_s, duO_own, duO_ref, rdO_s, isDO_own, isDO_ref, isDr_s, asKy_i, asKy_s, gFz_1, gFz_2, fzO_o, fzO_l, fzO_d, fzO_r, fzO_i, fzO_b, fzO_t, fzO_n, fzO_z, adK_eq, adO_o, adO_r,
  aT_t, aT_f, aT_d, aT_n, aT_and, aT_or, fAdd_i, fSub_i, fLt_i, fLe_i, fGt_i, fGe_i, fNeg_i, fMax_i, fMin_i, xEq_i, xNe_i, xEq_b, xNe_b, xEq_ni, xEq_in, xEq_nn, xNe_ni, xNe_in, xNe_nn, fIsN_i, fIsN_n, fNotN_i, fNotN_n, fIsN_t, fNotN_t, fNotN_r, fNotN_l, fIsN_r, fIsN_l, fNotB_b, fIsB_b, fLen_l, fLen_t, fLen_b, fLen_s, fIsi_bb, fIsi_ib, fIsi_bi, fIsi_ii, fIsi_ll, fIsi_bl, fIsi_tt, rOk_eq,
  wf_mod, wf_div, wf_mul, cMul_eq, wf_pow, asAt_s, wf_ixL, wf_ixB, wf_ixT, wf_ixR, atI_0, atI_1, atI_2, wf_lenR, wf_lenS, wf_addS, wf_addL, wf_addBL, wf_addLB, wf_addRL, wf_repL, wf_slL, wf_slB, wf_slR, wf_listL, wf_listB, wf_listR, wf_pop, wg_dgD, wg_dgB, wg_dinD, wg_dinB, putD_dic, putD_dicB, putD_dicI, putD_dicL, List.getElem?_set_self, dic_len, dic_keys, wf_sumI, wf_allB, wf_sorted, wf_sortSet, wf_listD, wf_listDB, seqD_l', seqD_t', seqD_c', drM_l, drM_b, isLD_r, fIn_i, fIn_n, fEq_li, fNe_li, exEq, exEq', exEq1, wf_allBg, wf_sumIg,
  Bool.not_true, Bool.not_false, decide_true, decide_false, true_and, and_true, if_true, if_false, Bool.false_eq_true, true_implies, List.length_cons, List.length_nil, Nat.reduceAdd, Nat.reduceLeDiff, Int.reduceNeg, Int.reduceLT, Int.reduceLE, Nat.reduceLT, List.map_cons, List.map_nil, List.cons_append, List.nil_append, List.append_nil, Nat.reduceSub, List.replicate, List.length_map, at_map, Int.zero_add, Int.toNat_natCast, Int.reduceToNat, $ls,*])
def cellAt (ns : List Int) (k : Int) : Int := if k < ns.length then ns.getD k.toNat 0 else 0
theorem cell_eq {ns : List Int} {k : Int} {s : Store} (h : 0 ≤ k) : f__law_cell_at [.scr ns, .int k] s = .ok (.int (cellAt ns k)) s := by
  have key : (f__law_cell_at [.scr ns, .int k] s).W (fun d s' => d = .int (cellAt ns k) ∧ s' = s) X0 := by
    refine w_fn (env := [some (.scr ns), some (.int k)]) rfl rfl (w_seq (w_if (k := decide (k < (ns.length : Int))) (s' := s) (by walk_at "ev") (fun e => ?_) (fun e => ?_)))
    · have hlt : k < (ns.length : Int) := of_decide_eq_true e
      have : (ns.map D.int)[k.toNat]? = some (.int (ns.getD k.toNat 0)) := by
        rw [List.getElem?_map, List.getD_eq_getElem?_getD, List.getElem?_eq_getElem (by omega)]
        rfl
      refine w_ret (d := .int (ns.getD k.toNat 0)) (s' := s) ?_ rfl ⟨by unfold cellAt; rw [if_pos hlt], rfl⟩
      walk_at "ev"
      simp [fIx, dr, atI_of h this]
    · refine w_nil (w_ret (d := .int 0) (s' := s) (by walk_at "ev") rfl ⟨by unfold cellAt; rw [if_neg (of_decide_eq_false e)], rfl⟩)
  obtain ⟨d, s', e, rfl, rfl⟩ := key.eq
  exact e
/-! what is drawn -/
def divs (b x : Int) : Nat → Int
  | 0 => x
  | n + 1 => divs b x n / b
def stir1 (c k : Int) : Int := (c % 1000000007 + 1009 * k + 17) * 69621 % 2147483647
def stir2 (c k : Int) : Int := (stir1 c k * stir1 c k + 40503 * k + 5) % 2147483629
def drawN (c k b : Int) : Int := if c % 2 = 0 then divs b (c / 2) k.toNat % b else stir2 c k * 48271 % 2147483647 / 32 % b
theorem fMul_r {s : Store} {i j : Int} (h : -(18446744073709551616) < j ∧ j < 18446744073709551616) : fMul s (.int i) (.int j) = .ok (.int (i * j)) s := by
  show (if cMul i j = true then _ else _) = _
  rw [if_pos (by unfold cMul; simp [h.1, h.2])]
theorem fMul_l {s : Store} {i j : Int} (h : -(18446744073709551616) < i ∧ i < 18446744073709551616) : fMul s (.int i) (.int j) = .ok (.int (i * j)) s := by
  show (if cMul i j = true then _ else _) = _
  rw [if_pos (by unfold cMul; simp [h.1, h.2])]
theorem draw_eq {c k b : Int} {s : Store} (hk : 0 ≤ k) (hk2 : k ≤ 1000) (hb : 0 < b) (hb2 : b < 1073741824) : f__law_draw [.int c, .int k, .int b] s = .ok (.int (drawN c k b)) s := by
  have key : (f__law_draw [.int c, .int k, .int b] s).W (fun d s' => d = .int (drawN c k b) ∧ s' = s) X0 := by
    refine w_fn (env := [some (.int c), some (.int k), some (.int b), none, none, none]) rfl rfl (w_seq ?_)
    have h2 : fMod s (.int c) (.int 2) = .ok (.int (c % 2)) s := fMod_i (by decide)
    by_cases h : c % 2 = 0
    · refine w_ifT (s' := s) (by walk_at "ev"; rw [h2]; walk_at "ev"; rw [show (c % 2 == 0) = true from by rw [h]; rfl]) ?_
      refine w_seq (w_setF (d := .int (c / 2)) (d' := .int (c / 2)) (s' := s) (by walk_at "ev"; exact fDiv_i (by decide) (by decide)) rfl ?_)
      refine w_seq (w_forR (lo := 0) (n := k.toNat) (s' := s) (xRng1_of (j := k) (by walk_at "ev") rfl (by omega)) (fun i e s' => s' = s ∧ ∃ v, e = [some (.int c), some (.int k), some (.int b), some (.int (divs b (c / 2) i)), v, none]) ⟨rfl, none, rfl⟩ ?_ ?_)
      · rintro i e s' hi ⟨rfl, v, rfl⟩
        exact w_setF (d := .int (divs b (c / 2) (i + 1))) (d' := .int (divs b (c / 2) (i + 1))) (s' := s') (by walk_at "ev"; exact fDiv_i hb hb2) rfl ⟨rfl, _, rfl⟩
      · rintro e s' ⟨rfl, v, rfl⟩
        exact w_ret (d := .int (drawN c k b)) (s' := s') (by walk_at "ev"; rw [fMod_i hb]; unfold drawN; rw [if_pos h]) rfl ⟨rfl, rfl⟩
    · refine w_ifF (s' := s) (by walk_at "ev"; rw [h2]; walk_at "ev"; rw [show (c % 2 == 0) = false from by rw [beq_eq_false_iff_ne]; exact h]) (w_nil ?_)
      have a1 := Int.emod_nonneg ((c % 1000000007 + 1009 * k + 17) * 69621) (show (2147483647 : Int) ≠ 0 by decide)
      have a2 := Int.emod_lt_of_pos ((c % 1000000007 + 1009 * k + 17) * 69621) (show (0 : Int) < 2147483647 by decide)
      refine w_seq (w_setF (d := .int (stir1 c k)) (d' := .int (stir1 c k)) (s' := s) ?_ rfl ?_)
      · walk_at "ev"
        rw [fMod_i (by decide)]
        walk_at "ev"
        rw [fMul_l (i := 1009) (j := k) (by decide)]
        walk_at "ev"
        rw [fMul_r (by decide)]
        walk_at "ev"
        rw [fMod_i (by decide)]
        rfl
      refine w_seq (w_setF (d := .int (stir2 c k)) (d' := .int (stir2 c k)) (s' := s) ?_ rfl ?_)
      · walk_at "ev"
        rw [fMul_l (i := stir1 c k) (j := stir1 c k) (by unfold stir1; omega)]
        walk_at "ev"
        rw [fMul_l (i := 40503) (j := k) (by decide)]
        walk_at "ev"
        rw [fMod_i (by decide)]
        rfl
      refine w_ret (d := .int (drawN c k b)) (s' := s) ?_ rfl ⟨rfl, rfl⟩
      walk_at "ev"
      rw [fMul_r (by decide)]
      walk_at "ev"
      rw [fMod_i (by decide)]
      walk_at "ev"
      rw [fDiv_i (by decide) (by decide)]
      walk_at "ev"
      rw [fMod_i hb]
      unfold drawN
      rw [if_neg h]
  obtain ⟨d, s', e, rfl, rfl⟩ := key.eq
  exact e
inductive Val where
  | non | num (n : Int) | at_ (m : Int) | odd (m : Int)
deriving DecidableEq
instance : En Val := ⟨fun v => match v with
  | .non => .non
  | .num n => .tup [.str "is", .int n]
  | .at_ m => .tup [.str "at", .int m]
  | .odd m => .tup [.str "to", .int m], fun v => by cases v <;> rfl⟩
theorem e_non : (En.e Val.non : D) = .non := rfl
theorem e_num {n : Int} : (En.e (Val.num n) : D) = .tup [.str "is", .int n] := rfl
theorem e_at {n : Int} : (En.e (Val.at_ n) : D) = .tup [.str "at", .int n] := rfl
theorem e_odd {n : Int} : (En.e (Val.odd n) : D) = .tup [.str "to", .int n] := rfl
theorem is_ok : PyData.strOk "is" = true := by decide +kernel
theorem at_ok : PyData.strOk "at" = true := by decide +kernel
theorem to_ok : PyData.strOk "to" = true := by decide +kernel
theorem s_isat {s : Store} : fEq s (.str "is") (.str "at") = .ok (.bl false) s := by rw [wf_eqS is_ok at_ok]; rfl
theorem s_atis {s : Store} : fEq s (.str "at") (.str "is") = .ok (.bl false) s := by rw [wf_eqS at_ok is_ok]; rfl
theorem s_isis {s : Store} : fEq s (.str "is") (.str "is") = .ok (.bl true) s := by rw [wf_eqS is_ok is_ok]; rfl
theorem s_atat {s : Store} : fEq s (.str "at") (.str "at") = .ok (.bl true) s := by rw [wf_eqS at_ok at_ok]; rfl
theorem s_tois {s : Store} : fEq s (.str "to") (.str "is") = .ok (.bl false) s := by rw [wf_eqS to_ok is_ok]; rfl
theorem s_toat {s : Store} : fEq s (.str "to") (.str "at") = .ok (.bl false) s := by rw [wf_eqS to_ok at_ok]; rfl
theorem v_str {x y : Str} {a b : Int} (hx : PyData.strOk x = true) : dOk 2 (.tup [.str x, .int a]) = true := by
  unfold dOk dOkL dOkL dOkL dOk
  simp [hx]
theorem val_ok (v : Val) : dOk 2 (En.e v) = true := by
  cases v with
  | non => rfl
  | num n => exact v_str (y := "") (b := 0) is_ok
  | at_ n => exact v_str (y := "") (b := 0) at_ok
  | odd n => exact v_str (y := "") (b := 0) to_ok
theorem val_inj (a b : Val) : PyData.eqv (pyD (En.e a)) (pyD (En.e b)) = true ↔ a = b := by
  have h1 : (Str.ofString "is" == Str.ofString "at") = false := by decide +kernel
  have h2 : (Str.ofString "is" == Str.ofString "to") = false := by decide +kernel
  have h3 : (Str.ofString "at" == Str.ofString "is") = false := by decide +kernel
  have h4 : (Str.ofString "at" == Str.ofString "to") = false := by decide +kernel
  have h5 : (Str.ofString "to" == Str.ofString "is") = false := by decide +kernel
  have h6 : (Str.ofString "to" == Str.ofString "at") = false := by decide +kernel
  have h7 : ∀ x : Str, (x == x) = true := fun x => by simp
  cases a <;> cases b <;> simp only [e_non, e_num, e_at, e_odd, pyD, pyL, PyData.eqv, PyData.eqvAll, h1, h2, h3, h4, h5, h6, h7] <;> simp
instance : Eqn Val := { dep := 2, ok := val_ok, inj := val_inj }
abbrev Cel := Int × List Val
abbrev Pic := List Val × List Cel
abbrev eP (p : Pic) : D := .tup [.lst (p.1.map En.e), .lst (p.2.map En.e)]
/-- what a value leads to -/
def led : Val → Option Int
  | .at_ m => some m
  | _ => none
def inN (l : List Int) : Option Int → Bool
  | some k => decide (k ∈ l)
  | none => false
theorem fIn_o {o : Option Int} {l : List Int} {b : Bool} {s : Store} : fIn b s (En.e o) (.lst (l.map D.int)) = .ok (.bl (if b then !inN l o else inN l o)) s := by
  cases o with
  | none => rw [e_none, fIn_n]; cases b <;> rfl
  | some k => rw [e_some, e_int, fIn_i]; rfl
def valueOf (d : Int) (names : List Int) : Val := if d % 4 = 1 then .num (d / 4 - 5) else if d % 4 = 0 ∨ names.length = 0 then .non else .at_ (names.getD (d / 4 % names.length).toNat 0)
theorem value_eq {d : Int} {names : List Int} {s : Store} : f__law_value [.int d, .lst (names.map D.int)] s = .ok (En.e (valueOf d names)) s := by
  refine w_fnE rfl ?_
  simp_arith [b__law_value]
  unfold valueOf
  refine ⟨fun h => by rw [if_pos h]; rfl, fun h => ⟨fun h1 => by rw [if_neg h, if_pos (.inl h1)]; rfl, fun h1 => ⟨fun h2 => by rw [if_neg h, if_pos (.inr (by omega))]; rfl, fun h2 => ?_⟩⟩⟩
  have m0 := Int.emod_nonneg (d / 4) h2
  have m1 := Int.emod_lt_of_pos (d / 4) (show 0 < (names.length : Int) by omega)
  refine ⟨by omega, _, atI_get 0 m0 (by omega), ?_⟩
  rw [if_neg h, if_neg (by omega)]; rfl
/-! the names -/
def nmL (c : Int) : Nat → List Int
  | 0 => []
  | k + 1 => nmL c k ++ [(nmL c k).getLastD (-1) + 1 + drawN c k 3]
theorem nmL_len (c : Int) : ∀ k, (nmL c k).length = k
  | 0 => rfl
  | k + 1 => by simp [nmL, nmL_len c k]
def slotsOf (c : Int) (names : List Int) : List Val := (List.range (drawN c 0 5).toNat).map fun (j : Nat) => valueOf (drawN c (1 + j) 60) names
def drawnP (ns : List Int) (a : Int) : Pic :=
  let names := nmL (cellAt ns (a + 1)) (cellAt ns a % 7).toNat
  ((List.range 8).map fun (j : Nat) => valueOf (drawN (cellAt ns (a + 8)) j 60) names, (List.range names.length).map fun (k : Nat) => (names.getD k 0, slotsOf (cellAt ns (a + 2 + k)) names))
theorem draw_lt {c k b : Int} (hb : 0 < b) : 0 ≤ drawN c k b ∧ drawN c k b < b := by
  unfold drawN
  split
  · exact ⟨Int.emod_nonneg _ (by omega), Int.emod_lt_of_pos _ hb⟩
  · exact ⟨Int.emod_nonneg _ (by omega), Int.emod_lt_of_pos _ hb⟩
def isVal (names : List Int) : Val → Bool
  | .non => true
  | .num n => decide (-1000000 ≤ n) && decide (n ≤ 1000000)
  | .at_ m => decide (m ∈ names)
  | .odd _ => false
theorem isVal_eq {v : Val} {names : List Int} {s : Store} : f_is_value [En.e v, .lst (names.map D.int)] s = .ok (.bl (isVal names v)) s := by
  refine w_fnE rfl ?_
  cases v <;> simp_arith [b_is_value, e_non, e_num, e_at, e_odd, isVal, s_isat, s_atis, s_isis, s_atat, s_toat, s_tois]
  rename_i n
  by_cases h : -1000000 ≤ n <;> simp [h]
def cellB (names : List Int) (c : Cel) : Bool := decide (c.2.length ≤ 4) && c.2.all (isVal names)
def isPicB (p : Pic) : Bool :=
  let names := p.2.map (·.1)
  decide (p.1.length = 8) && decide (names = dedI (sortI names)) && (names.length == 0 || decide (0 ≤ names.headD 0)) && p.2.all (cellB names) && p.1.all (isVal names)
theorem allVal_W {names : List Int} {l : List Val} {e : Ex} {env : Gm.Env} {s : Store} {Q : D → Store → Prop} {X : Nat → Store → Prop} (hl : l.length ≤ 16777216) (hx : (iSeq e env s).W (fun it s' => s' = s ∧ it = .seq (.lst (l.map En.e))) X0) (he : ∀ v : Val, ∃ e2, e2 = (wipeE env [6]).set 6 (some (En.e v)) ∧ e2[6]? = some (some (En.e v)) ∧ e2[2]? = some (some (.lst (names.map D.int)))) (hQ : Q (.own (.lst (l.map fun v => D.bl (isVal names v)))) s) :
    (eLc (Tg.nm 6) (iSeq e) tY (eCall f_is_value (aCons (eVar 6) (aCons (eVar 2) aNil))) [6] env s).W Q X := by
  refine w_lcY (s1 := s) (l := l) (enc := En.e) (fun v => D.bl (isVal names v)) hx hl (fun v hv => ⟨_, tgE_nmE, ?_⟩) ?_
  · obtain ⟨e2, h1, h2, h3⟩ := he v
    rw [← h1]
    simp_arith [h2, h3, isVal_eq]
    rfl
  · exact hQ
theorem isPic_eq {p : Pic} {s : Store} (h : p.2.length < 64) (hr : p.1.length ≤ 1000) : f_is_picture [.lst (p.1.map En.e), .lst (p.2.map En.e)] s = .ok (.bl (isPicB p)) s := by
  refine w_fnE rfl ?_
  simp_arith [b_is_picture]
  refine w_lcY (s1 := s) (l := p.2) (enc := En.e) (fun c => D.int c.1) ?_ (by omega) (fun c hc => ⟨_, tgE_nmE, ?_⟩) ?_
  · simp_arith []
  · simp_arith [wipeE, e_prod, e_int]
    rfl
  rw [show p.2.map (fun c => D.int c.1) = (p.2.map (·.1)).map D.int from by simp]
  have hl : (p.2.map (·.1)).length < 64 := by simpa using h
  have hB : isPicB p = (decide (p.1.length = 8) && decide (p.2.map (·.1) = dedI (sortI (p.2.map (·.1)))) && ((p.2.map (·.1)).length == 0 || decide (0 ≤ (p.2.map (·.1)).headD 0)) && p.2.all (cellB (p.2.map (·.1))) && p.1.all (isVal (p.2.map (·.1)))) := rfl
  generalize p.2.map (·.1) = names at hl hB ⊢
  generalize hb : isPicB p = b at hB ⊢
  simp_arith []
  generalize hW : SR.W (Kt _ _ _ _) _ _ (sFor _ _ _ _ _) = W
  have key : b = (p.2.all (cellB names) && p.1.all (isVal names)) → W := fun hC => by
    rw [← hW]
    refine w_forM (s1 := s) (l := p.2) (enc := En.e) (fun pre e s' => s' = s ∧ pre.all (cellB names) = true ∧ ∃ v3 v4, e = [some (D.lst (List.map En.e p.1)), some (D.lst (List.map En.e p.2)), some (D.lst (List.map D.int names)), v3, v4, none, none]) ?_ ⟨rfl, rfl, _, _, rfl⟩ ?_ ?_
    · simp_arith []
    · rintro pre ⟨k, sl⟩ post e s' hl2 ⟨rfl, hp, v3, v4, rfl⟩
      refine ⟨_, tgE_p2, ?_⟩
      have hc : (!cellB names (k, sl)) = true → b = false := fun z => by
        rw [hC, hl2]
        simp only [Bool.not_eq_true'] at z
        simp [z]
      simp_arith [e_int, e_list]
      refine ⟨fun h5 => congrArg D.bl (hc ?_).symm, fun h5 => ?_⟩
      · unfold cellB
        rw [decide_eq_false (show ¬ (sl.length ≤ 4) by omega)]; rfl
      · have h4 : sl.length ≤ 4 := by omega
        refine allVal_W (l := sl) (by omega) (by simp_arith []) (fun v => ⟨_, rfl, rfl, rfl⟩) ?_
        simp_arith []
        cases q : sl.all (isVal names) with
        | true =>
          simp_arith []
          refine ⟨?_, _, _, rfl⟩
          rw [List.all_append, hp]
          simp [cellB, q, h4]
        | false =>
          simp_arith []
          exact congrArg D.bl (hc (by simp [cellB, q])).symm
    · rintro e s' ⟨rfl, hp, v3, v4, rfl⟩
      simp_arith []
      refine allVal_W (l := p.1) (by omega) (by simp_arith []) (fun v => ⟨_, rfl, rfl, rfl⟩) ?_
      simp_arith []
      rw [hC, hp]; rfl
  have h8' : ∀ k : Nat, ((k : Int) = 8) = (k = 8) := fun k => by rw [eq_iff_iff]; omega
  rw [h8']
  refine ⟨fun h8 => ⟨hl, fun hd => ?_, fun hd => by rw [hB]; simp [hd]⟩, fun h8 => by rw [hB]; simp [h8]⟩
  rw [← hd] at hB
  cases names with
  | nil => exact ⟨fun hp => absurd hp (by simp), fun _ => key (by rw [hB]; simp [h8])⟩
  | cons a r => exact ⟨fun _ => ⟨a, atI_0, fun hn => by rw [hB]; simp [show ¬ (0 ≤ a) by omega], fun hn => key (by rw [hB]; simp [h8, show (0 ≤ a) by omega])⟩, fun hz => absurd (show (0 : Int) < ((a :: r).length : Nat) by simp) hz⟩
end Lw

set_option Elab.async false
set_option linter.all false
set_option maxRecDepth 100000
set_option autoImplicit false
set_option maxHeartbeats 1000000
namespace Lw
open PySem L2 Gm
local macro_rules | `(tactic| walk_at "ev") => `(tactic| try simp only [eOp2, eOp1, eVar, eC, tq, tNotX, tAndX, tOrX, eAnd, eOr, eNot, eIf, aNil, aCons, snk, Gm.fz, eTup, eLst, eCall, oNo, oSo, eSl, iSeq, seqD, dr, tgE, setsE, Option.map_some, List.getElem?_cons_zero, List.getElem?_cons_succ, List.set_cons_zero, List.set_cons_succ, List.length_cons, List.length_nil, Nat.reduceAdd, Nat.reduceLeDiff, if_true, Int.reduceNeg,
  fAdd_i, fSub_i, fLt_i, fLe_i, fGt_i, fGe_i, fNeg_i, fMax_i, fMin_i, fEq_i, fNe_i, fEq_b, fIsN_i, fIsN_n, fNotN_i, fNotN_n, fIsN_t, fNotN_t, fNotB_b, fIsB_b, fLen_l, fLen_t, fLen_b, fLen_s, fIx_p0, fIx_p1, Bool.not_true, Bool.not_false, decide_true, decide_false])
local macro_rules | `(tactic| simp_arith [$ls,*]) => `(tactic| simp (maxSteps := 4000000) (disch := omega) only [↓we_op2, ↓we_op1, ↓we_C, ↓we_dct0, ↓we_tY, ↓we_tq, ↓we_notX, ↓we_andX, ↓we_orX, ↓we_and, ↓we_or, ↓we_not, ↓we_if, ↓we_aNil, ↓we_aCons, ↓we_tup, ↓we_lst, ↓we_call, ↓we_oNo, ↓we_oSo, ↓we_sl, ↓we_meth, ↓we_lele, ↓we_lelt, ↓wi_seq, ↓wi_rng1, ↓wi_rng2, ↓ws_seq, ↓Kt_eq, ↓ws_nil, ↓ws_ex, ↓ws_set, ↓ws_setF, ↓asE_s, ↓ws_setT, ↓ws_if, ↓ws_ret, ↓ws_retN, ↓ws_retV, ↓ws_raise, ↓ws_pre, ↓ws_ad, ↓ws_app, ↓wq_ext, ↓ws_sub, ↓ws_rev, ↓ws_dp,
  ↓we_ad, ↓ws_tryAs, ↓we_isX, trC_t, trC_f, noX_0, noX_no, noX_i, noX_b, noX_n, noX_s, noX_t, noX_l, noX_d, noX_r, noX_o, noX_c, noX_e, isx_s, adO_t, adO_i, adO_b, adO_n, adO_st, adO_l, ↓ws_par, ↓ws_subE, ↓we_meth2, ↓ws_fldX, ↓we_methC, ↓we_make, ↓ws_dpE, ↓we_dpop, adR_o, adR_r, asRf_r, liO_app, liO_ext, liO_set, insO_s, asN_n, asD_s, wf_liA, wf_liE, wf_ins, wf_fld, wf_isiC, wf_intB, wf_intI, wf_absI, snk_i, snk_b, snk_n, snk_s, snk_t, snk_l, snk_d, snk_r, drM_r, setsE_2, asE_s, eVar_eq, vrO_s, R.W_ok, R.W_exc, R.W_no, R.W_ite, List.getElem?_cons_zero, List.getElem?_cons_succ, List.set_cons_zero, List.set_cons_succ, vr_i, vr_b, vr_n, vr_s, vr_t, vr_l, vr_c, vr_d, vr_r, vr_o, vr_e, fz_i, fz_b, fz_n, fz_s, fz_t, fz_l, fz_c, fz_d, fz_r, fz_bo, fz_ol, fz_od, fz_e, asK_i, asK_b, asK_n, asK_s, asK_t, asK_l, asK_c, asK_d, asK_r, asK_ol, asK_od, asK_e, asR_i, asR_b, asR_n, asR_s, asR_t, asR_l, asR_c, asR_d, asR_r, asR_o, asR_e, asB_b, asI_i, rvO_i, rvO_b, rvO_n, rvO_s, rvO_t, rvO_l, rvO_c, rvO_d, rvO_r, rvO_o, rvO_e,
  muO_app, muO_rev, muO_ext, muO_seti, muO_ref, rfO_app, rfO_ext, rfO_seti, rfO_rev, isLO_own, isLO_ref, isLr_s, asL_s, duO_own, duO_ref, rdO_s, isDO_own, isDO_ref, isDr_s, asKy_i, asKy_s, gFz_1, gFz_2, fzO_o, fzO_l, fzO_d, fzO_r, fzO_i, fzO_b, fzO_t, fzO_n, fzO_z, adK_eq, adO_o, adO_r,
  aT_t, aT_f, aT_d, aT_n, aT_and, aT_or, fAdd_i, fSub_i, fLt_i, fLe_i, fGt_i, fGe_i, fNeg_i, fMax_i, fMin_i, xEq_i, xNe_i, xEq_b, xNe_b, xEq_ni, xEq_in, xEq_nn, xNe_ni, xNe_in, xNe_nn, fIsN_i, fIsN_n, fNotN_i, fNotN_n, fIsN_t, fNotN_t, fNotN_r, fNotN_l, fIsN_r, fIsN_l, fNotB_b, fIsB_b, fLen_l, fLen_t, fLen_b, fLen_s, fIsi_bb, fIsi_ib, fIsi_bi, fIsi_ii, fIsi_ll, fIsi_bl, fIsi_tt, rOk_eq,
  wf_mod, wf_div, wf_mul, cMul_eq, wf_pow, asAt_s, wf_ixL, wf_ixB, wf_ixT, wf_ixR, atI_0, atI_1, atI_2, wf_lenR, wf_lenS, wf_addS, wf_addL, wf_addBL, wf_addLB, wf_addRL, wf_repL, wf_slL, wf_slB, wf_slR, wf_listL, wf_listB, wf_listR, wf_pop, wg_dgD, wg_dgB, wg_dinD, wg_dinB, putD_dic, putD_dicB, putD_dicI, putD_dicL, List.getElem?_set_self, dic_len, dic_keys, wf_sumI, wf_allB, wf_sorted, wf_sortSet, wf_listD, wf_listDB, seqD_l', seqD_t', seqD_c', drM_l, drM_b, isLD_r, fIn_i, fIn_n, fEq_li, fNe_li, exEq, exEq', exEq1, wf_allBg, wf_sumIg,
  Bool.not_true, Bool.not_false, decide_true, decide_false, true_and, and_true, if_true, if_false, Bool.false_eq_true, true_implies, List.length_cons, List.length_nil, Nat.reduceAdd, Nat.reduceLeDiff, Int.reduceNeg, Int.reduceLT, Int.reduceLE, Nat.reduceLT, List.map_cons, List.map_nil, List.cons_append, List.nil_append, List.append_nil, Nat.reduceSub, List.replicate, List.length_map, at_map, Int.zero_add, Int.toNat_natCast, eq_self, not_true_eq_false, not_false_eq_true, false_implies, implies_true, reduceCtorEq, and_self, false_and, and_false, Int.reduceToNat, $ls,*])
local macro_rules | `(tactic| simp_all_arith [$ls,*]) => `(tactic| simp (maxSteps := 4000000) (disch := omega) only [↓we_op2, ↓we_op1, ↓we_C, ↓we_dct0, ↓we_tY, ↓we_tq, ↓we_notX, ↓we_andX, ↓we_orX, ↓we_and, ↓we_or, ↓we_not, ↓we_aNil, ↓we_aCons, ↓we_tup, ↓we_lst, ↓we_call, ↓we_oNo, ↓we_oSo, ↓we_sl, ↓we_meth, ↓we_lele, ↓we_lelt, ↓wi_seq, ↓wi_rng1, ↓wi_rng2, ↓ws_seq, ↓Kt_eq, ↓ws_nil, ↓ws_ex, ↓ws_set, ↓ws_setF, ↓asE_s, ↓ws_setT, ↓ws_ret, ↓ws_retN, ↓ws_retV, ↓ws_raise, ↓ws_pre, ↓ws_ad, ↓ws_app, ↓wq_ext, ↓ws_sub, ↓ws_rev, ↓ws_dp,
  ↓we_ad, ↓ws_tryAs, ↓we_isX, trC_t, trC_f, noX_0, noX_no, noX_i, noX_b, noX_n, noX_s, noX_t, noX_l, noX_d, noX_r, noX_o, noX_c, noX_e, isx_s, adO_t, adO_i, adO_b, adO_n, adO_st, adO_l, ↓ws_par, ↓ws_subE, ↓we_meth2, ↓ws_fldX, ↓we_methC, ↓we_make, ↓ws_dpE, ↓we_dpop, adR_o, adR_r, asRf_r, liO_app, liO_ext, liO_set, insO_s, asN_n, asD_s, wf_liA, wf_liE, wf_ins, wf_fld, wf_isiC, wf_intB, wf_intI, wf_absI, snk_i, snk_b, snk_n, snk_s, snk_t, snk_l, snk_d, snk_r, drM_r, setsE_2, asE_s, eVar_eq, vrO_s, R.W_ok, R.W_exc, R.W_no, R.W_ite, List.getElem?_cons_zero, List.getElem?_cons_succ, List.set_cons_zero, List.set_cons_succ, vr_i, vr_b, vr_n, vr_s, vr_t, vr_l, vr_c, vr_d, vr_r, vr_o, vr_e, fz_i, fz_b, fz_n, fz_s, fz_t, fz_l, fz_c, fz_d, fz_r, fz_bo, fz_ol, fz_od, fz_e, asK_i, asK_b, asK_n, asK_s, asK_t, asK_l, asK_c, asK_d, asK_r, asK_ol, asK_od, asK_e, asR_i, asR_b, asR_n, asR_s, asR_t, asR_l, asR_c, asR_d, asR_r, asR_o, asR_e, asB_b, asI_i, rvO_i, rvO_b, rvO_n, rvO_s, rvO_t, rvO_l, rvO_c, rvO_d, rvO_r, rvO_o, rvO_e,
  muO_app, muO_rev, muO_ext, muO_seti, muO_ref, rfO_app, rfO_ext, rfO_seti, rfO_rev, isLO_own, isLO_ref, isLr_s, asL_s, duO_own, duO_ref, rdO_s, isDO_own, isDO_ref, isDr_s, asKy_i, asKy_s, gFz_1, gFz_2, fzO_o, fzO_l, fzO_d, fzO_r, fzO_i, fzO_b, fzO_t, fzO_n, fzO_z, adK_eq, adO_o, adO_r,
  aT_t, aT_f, aT_d, aT_n, aT_and, aT_or, fAdd_i, fSub_i, fLt_i, fLe_i, fGt_i, fGe_i, fNeg_i, fMax_i, fMin_i, xEq_i, xNe_i, xEq_b, xNe_b, xEq_ni, xEq_in, xEq_nn, xNe_ni, xNe_in, xNe_nn, fIsN_i, fIsN_n, fNotN_i, fNotN_n, fIsN_t, fNotN_t, fNotN_r, fNotN_l, fIsN_r, fIsN_l, fNotB_b, fIsB_b, fLen_l, fLen_t, fLen_b, fLen_s, fIsi_bb, fIsi_ib, fIsi_bi, fIsi_ii, fIsi_ll, fIsi_bl, fIsi_tt, rOk_eq,
  wf_mod, wf_div, wf_mul, cMul_eq, wf_pow, asAt_s, wf_ixL, wf_ixB, wf_ixT, wf_ixR, atI_0, atI_1, atI_2, wf_lenR, wf_lenS, wf_addS, wf_addL, wf_addBL, wf_addLB, wf_addRL, wf_repL, wf_slL, wf_slB, wf_slR, wf_listL, wf_listB, wf_listR, wf_pop, wg_dgD, wg_dgB, wg_dinD, wg_dinB, putD_dic, putD_dicB, putD_dicI, putD_dicL, List.getElem?_set_self, dic_len, dic_keys, wf_sumI, wf_allB, wf_sorted, wf_sortSet, wf_listD, wf_listDB, seqD_l', seqD_t', seqD_c', drM_l, drM_b, isLD_r, fIn_i, fIn_n, fEq_li, fNe_li, exEq, exEq', exEq1, wf_allBg, wf_sumIg,
  Bool.not_true, Bool.not_false, decide_true, decide_false, true_and, and_true, if_true, if_false, Bool.false_eq_true, true_implies, List.length_cons, List.length_nil, Nat.reduceAdd, Nat.reduceLeDiff, Int.reduceNeg, Int.reduceLT, Int.reduceLE, Nat.reduceLT, List.map_cons, List.map_nil, List.cons_append, List.nil_append, List.append_nil, Nat.reduceSub, List.replicate, List.length_map, at_map, Int.zero_add, Int.toNat_natCast, eq_self, not_true_eq_false, not_false_eq_true, false_implies, implies_true, reduceCtorEq, and_self, false_and, and_false, Int.reduceToNat, $ls,*])
/-! a picture whose lists stand in the store -/
abbrev Crf := Cel × Nat
def crf (c : Crf) : D := .tup [.int c.1.1, .ref c.2]
structure PicR (s : Store) (r c : Nat) (rs : List Val) (cs : List Crf) (b : Nat) : Prop where
  hr : s[r]? = some (.lst (rs.map En.e))
  hc : s[c]? = some (.lst (cs.map crf))
  hx : ∀ x ∈ cs, s[x.2]? = some (.lst (x.1.2.map En.e)) ∧ x.2 ≠ r ∧ x.2 ≠ c
  nd : (cs.map (·.2)).Nodup
  ne : r ≠ c
  r1 : 8 ≤ rs.length + b
  r2 : rs.length ≤ 8 + b
  c2 : cs.length ≤ 6 + b
  s2 : ∀ x ∈ cs, x.1.2.length ≤ 4 + 5 * b
theorem set_same {α : Type} {l : List α} {i : Nat} {x : α} (h : l[i]? = some x) : l.set i x = l := by
  obtain ⟨hlt, e⟩ := List.getElem?_eq_some_iff.mp h
  subst e
  exact List.set_getElem_self hlt
section
variable {s : Store} {r c b : Nat} {rs : List Val} {cs : List Crf}
theorem PicR.up (a : PicR s r c rs cs b) {b2 : Nat} (h : b ≤ b2) : PicR s r c rs cs b2 := ⟨a.hr, a.hc, a.hx, a.nd, a.ne, by have := a.r1; omega, by have := a.r2; omega, by have := a.c2; omega, fun x hx => by have := a.s2 x hx; omega⟩
theorem PicR.setR (a : PicR s r c rs cs b) {rs2 : List Val} {b2 : Nat} (h : b ≤ b2) (h1 : 8 ≤ rs2.length + b2) (h2 : rs2.length ≤ 8 + b2) : PicR (s.set r (.lst (rs2.map En.e))) r c rs2 cs b2 := by
  have lr := (List.getElem?_eq_some_iff.mp a.hr).1
  have u := a.up h
  refine ⟨by simp [lr], by rw [List.getElem?_set_ne a.ne]; exact a.hc, fun x hx => ?_, a.nd, a.ne, h1, h2, u.c2, u.s2⟩
  obtain ⟨x1, x2, x3⟩ := a.hx x hx
  exact ⟨by rw [List.getElem?_set_ne (Ne.symm x2)]; exact x1, x2, x3⟩
/-- other cells of the same lists -/
theorem PicR.setC (a : PicR s r c rs cs b) {cs2 : List Crf} {b2 : Nat} (h : b ≤ b2) (h1 : cs2.length ≤ 6 + b2) (nd : (cs2.map (·.2)).Nodup) (hm : ∀ x ∈ cs2, ∃ y ∈ cs, x.2 = y.2 ∧ x.1.2 = y.1.2) : PicR (s.set c (.lst (cs2.map crf))) r c rs cs2 b2 := by
  have lc := (List.getElem?_eq_some_iff.mp a.hc).1
  have u := a.up h
  refine ⟨by rw [List.getElem?_set_ne (Ne.symm a.ne)]; exact a.hr, by simp [lc], fun x hx => ?_, nd, a.ne, u.r1, u.r2, h1, fun x hx => ?_⟩
  · obtain ⟨y, hy, e1, e2⟩ := hm x hx
    obtain ⟨x1, x2, x3⟩ := a.hx y hy
    rw [e1, e2]
    exact ⟨by rw [List.getElem?_set_ne (Ne.symm x3)]; exact x1, x2, x3⟩
  · obtain ⟨y, hy, e1, e2⟩ := hm x hx
    rw [e2]; exact u.s2 y hy
/-- a new list for a cell's slots -/
theorem PicR.app (a : PicR s r c rs cs b) {o : O} : PicR (s ++ [o]) r c rs cs b := by
  have ap : ∀ {n : Nat} {x : O}, s[n]? = some x → (s ++ [o])[n]? = some x := fun h => by rw [List.getElem?_append_left (List.getElem?_eq_some_iff.mp h).1]; exact h
  exact ⟨ap a.hr, ap a.hc, fun x hx => ⟨ap (a.hx x hx).1, (a.hx x hx).2⟩, a.nd, a.ne, a.r1, a.r2, a.c2, a.s2⟩
theorem PicR.insC (a : PicR s r c rs cs b) {cs2 : List Crf} {k : Int} {sl : List Val} {n b2 : Nat} (h : b ≤ b2) (h1 : cs2.length ≤ 6 + b2) (nd : (cs2.map (·.2)).Nodup) (hn : s[n]? = some (.lst (sl.map En.e))) (n1 : n ≠ r) (n2 : n ≠ c) (hl : sl.length ≤ 4 + 5 * b2) (hm : ∀ x ∈ cs2, x ∈ cs ∨ x = ((k, sl), n)) : PicR (s.set c (.lst (cs2.map crf))) r c rs cs2 b2 := by
  have lc := (List.getElem?_eq_some_iff.mp a.hc).1
  have u := a.up h
  refine ⟨by rw [List.getElem?_set_ne (Ne.symm a.ne)]; exact a.hr, by simp [lc], fun x hx => ?_, nd, a.ne, u.r1, u.r2, h1, fun x hx => ?_⟩
  · rcases hm x hx with z | rfl
    · obtain ⟨x1, x2, x3⟩ := a.hx x z
      exact ⟨by rw [List.getElem?_set_ne (Ne.symm x3)]; exact x1, x2, x3⟩
    · exact ⟨by rw [List.getElem?_set_ne (Ne.symm n2)]; exact hn, n1, n2⟩
  · rcases hm x hx with z | rfl
    · exact u.s2 x z
    · exact hl
/-- other slots for one cell -/
theorem PicR.setS (a : PicR s r c rs cs b) {i : Nat} {k : Int} {sl sl2 : List Val} {n b2 : Nat} (h : b ≤ b2) (hi : cs[i]? = some ((k, sl), n)) (hl : sl2.length ≤ 4 + 5 * b2) : PicR (s.set n (.lst (sl2.map En.e))) r c rs (cs.set i ((k, sl2), n)) b2 := by
  obtain ⟨hlt, he⟩ := List.getElem?_eq_some_iff.mp hi
  have hm := List.mem_of_getElem? hi
  obtain ⟨x1, x2, x3⟩ := a.hx _ hm
  simp only at x1 x2 x3
  have ln := (List.getElem?_eq_some_iff.mp x1).1
  have u := a.up h
  have e1 : (cs.set i ((k, sl2), n)).map crf = cs.map crf := by
    rw [List.map_set]
    exact set_same (by rw [List.getElem?_map, hi]; rfl)
  have e2 : (cs.set i ((k, sl2), n)).map (·.2) = cs.map (·.2) := by
    rw [List.map_set]
    exact set_same (by rw [List.getElem?_map, hi]; rfl)
  refine ⟨by rw [List.getElem?_set_ne x2]; exact a.hr, by rw [List.getElem?_set_ne x3, e1]; exact a.hc, fun x hx => ?_, by rw [e2]; exact a.nd, a.ne, u.r1, u.r2, by rw [List.length_set]; exact u.c2, fun x hx => ?_⟩
  · obtain ⟨j, hj, ex⟩ := List.getElem_of_mem hx
    rw [List.length_set] at hj
    by_cases q : i = j
    · subst q
      rw [List.getElem_set_self] at ex
      subst ex
      exact ⟨by rw [List.getElem?_set_self ln], x2, x3⟩
    · rw [List.getElem_set_ne q] at ex
      subst ex
      obtain ⟨y1, y2, y3⟩ := a.hx _ (List.getElem_mem hj)
      have pw := List.pairwise_iff_getElem.mp a.nd
      have : n ≠ cs[j].2 := fun e => by
        rcases Nat.lt_or_gt_of_ne q with z | z
        · exact pw i j (by simpa using hlt) (by simpa using hj) z (by simp [he, e])
        · exact pw j i (by simpa using hj) (by simpa using hlt) z (by simp [he, e])
      exact ⟨by rw [List.getElem?_set_ne this]; exact y1, y2, y3⟩
  · rcases List.mem_or_eq_of_mem_set hx with z | z
    · exact u.s2 x z
    · rw [z]; exact hl
end
theorem nmL_lt (c : Int) : ∀ k, ∀ x ∈ nmL c k, x < 3 * k
  | 0, x, h => by cases h
  | k + 1, x, h => by
    have ih := nmL_lt c k
    have hd := @draw_lt c k 3 (by decide)
    unfold nmL at h
    rcases List.mem_append.mp h with z | z
    · have := ih x z; omega
    · rw [List.mem_singleton] at z
      have hl : (nmL c k).getLastD (-1) < 3 * k := by
        rw [List.getLastD_eq_getLast?]
        cases q : (nmL c k).getLast? with
        | none =>
          simp only [Option.getD_none]; omega
        | some y => exact ih y (List.mem_of_getLast? q)
      omega
theorem drawnR {ns : List Int} {a : Int} {s : Store} (h : 0 ≤ a) : ∃ r c rs cs s', f__law_drawn [.scr ns, .int a] s = .ok (.tup [.ref r, .ref c]) s' ∧ PicR s' r c rs cs 0 ∧ ∀ x ∈ cs, x.1.1 < 30 := by
  have key : (f__law_drawn [.scr ns, .int a] s).W (fun d s' => ∃ r c rs cs, d = .tup [.ref r, .ref c] ∧ PicR s' r c rs cs 0 ∧ ∀ x ∈ cs, x.1.1 < 30) X0 := by
    refine w_fnW rfl ?_
    have hn : (cellAt ns a % 7).toNat < 7 := by omega
    simp_arith [b__law_drawn]
    refine w_forN (s1 := s) (n := (cellAt ns a % 7).toNat) (lo := 0) (fun i e s' => s' = s ∧ ∃ v, e = [some (.scr ns), some (.int a), some (.own (.lst ((nmL (cellAt ns (a + 1)) i).map D.int))), v, none, none, none, none]) ?_ ⟨rfl, _, rfl⟩ ?_ ?_
    · simp_arith [cell_eq]
      omega
    · rintro i e s' hi ⟨rfl, v, rfl⟩
      simp_arith [cell_eq, draw_eq]
      refine ⟨fun h1 => ⟨_, atI_neg1 (-1) (by omega), by rw [nmL_len]; omega, some (.int i), by simp [nmL]⟩, fun h1 => ⟨by rw [nmL_len]; omega, some (.int i), ?_⟩⟩
      have : i = 0 := by rw [nmL_len] at h1; omega
      subst this
      rfl
    rintro e s' ⟨rfl, v, rfl⟩
    generalize hnm : nmL (cellAt ns (a + 1)) (cellAt ns a % 7).toNat = names
    have hl : names.length < 7 := by rw [← hnm, nmL_len]; exact hn
    have hlt : ∀ x ∈ names, x < 30 := fun x hx => by rw [← hnm] at hx; have := nmL_lt _ _ x hx; omega
    simp_arith []
    generalize hs1 : s' ++ [O.lst []] = s1
    have hc1 : s1[s'.length]? = some (.lst (([] : List Crf).map crf)) := by rw [← hs1]; simp
    refine w_forN (s1 := s1) (n := names.length) (lo := 0) (fun i e s2 => ∃ v2 v3 v5 v6 cs, (v2 = .own (.lst (names.map D.int)) ∨ v2 = .lst (names.map D.int)) ∧ e = [some (.scr ns), some (.int a), some v2, v3, some (.ref s'.length), v5, v6, none] ∧ s2[s'.length]? = some (.lst (cs.map crf)) ∧ (∀ x ∈ cs, s2[x.2]? = some (.lst (x.1.2.map En.e)) ∧ x.2 ≠ s'.length) ∧ (cs.map (·.2)).Nodup ∧ cs.length = i ∧ ∀ x ∈ cs, x.1.2.length ≤ 4 ∧ x.1.1 < 30) ?_ ⟨_, _, _, _, [], .inl rfl, rfl, hc1, by simp, List.nodup_nil, rfl, by simp⟩ ?_ ?_
    · simp_arith []
      omega
    · rintro i e s2 hi ⟨v2, v3, v5, v6, cs, hv, rfl, hc, hx, nd, lc, ls⟩
      generalize hcc : cellAt ns (a + 2 + i) = c
      have hd := @draw_lt c 0 5 (by decide)
      have h0 : (0 : Int) ≤ a + 2 + i := by omega
      rcases hv with rfl | rfl
      all_goals
        simp_arith [cell_eq, draw_eq, hcc, hc]
        refine ⟨_, atI_get 0 (by omega) (by omega), w_lcR (s1 := s2) (n := (drawN c 0 5).toNat) (fun j => En.e (valueOf (drawN c (1 + j) 60) names)) ?_ (by omega) (fun j hj => ?_) ?_⟩
        · simp_arith [and_true]; omega
        · simp_arith [wipeE, draw_eq, value_eq, snk_e]
        · rw [show (List.range (drawN c 0 5).toNat).map (fun j : Nat => En.e (valueOf (drawN c (1 + j) 60) names)) = ((List.range (drawN c 0 5).toNat).map fun j : Nat => valueOf (drawN c (1 + j) 60) names).map En.e from by simp]
          generalize hsl : (List.range (drawN c 0 5).toNat).map (fun j : Nat => valueOf (drawN c (1 + j) 60) names) = sl
          have lsl : sl.length ≤ 4 := by rw [← hsl]; simp; omega
          have lt := (List.getElem?_eq_some_iff.mp hc).1
          have hc2 : (s2 ++ [O.lst (sl.map En.e)])[s'.length]? = some (.lst (cs.map crf)) := by rw [List.getElem?_append_left lt]; exact hc
          simp_arith [hc2]
          refine ⟨by omega, .lst (names.map D.int), some (.int i), some (.int c), some (.int (drawN c 0 5)), cs ++ [((names.getD ((i : Int)).toNat 0, sl), s2.length)], .inr rfl, rfl, ?_, fun x hxm => ?_, ?_, by simp [lc], fun x hxm => ?_⟩
          · rw [List.getElem?_set_self (by simp; omega)]; simp [crf]
          · rcases List.mem_append.mp hxm with z | z
            · obtain ⟨x1, x2⟩ := hx x z
              exact ⟨by rw [List.getElem?_set_ne (Ne.symm x2), List.getElem?_append_left (List.getElem?_eq_some_iff.mp x1).1]; exact x1, x2⟩
            · rw [List.mem_singleton] at z; subst z
              refine ⟨?_, by simp only; omega⟩
              simp only
              rw [List.getElem?_set_ne (by omega)]; simp
          · rw [List.map_append, List.nodup_append]
            refine ⟨nd, by simp, fun x hx1 y hy e => ?_⟩
            obtain ⟨z, hz, e2⟩ := List.mem_map.mp hx1
            have := (List.getElem?_eq_some_iff.mp (hx z hz).1).1
            simp at hy
            omega
          · rcases List.mem_append.mp hxm with z | z
            · exact ls x z
            · rw [List.mem_singleton] at z; subst z
              refine ⟨lsl, ?_⟩
              have hii : i < names.length := by omega
              have : names.getD ((i : Int)).toNat 0 ∈ names := by
                rw [Int.toNat_natCast, List.getD_eq_getElem?_getD, List.getElem?_eq_getElem hii]
                exact List.getElem_mem hii
              exact hlt _ this
    · rintro e s2 ⟨v2, v3, v5, v6, cs, hv, rfl, hc, hx, nd, lc, ls⟩
      generalize hcc : cellAt ns (a + 8) = c
      have h0 : (0 : Int) ≤ a + 8 := by omega
      have lt := (List.getElem?_eq_some_iff.mp hc).1
      rcases hv with rfl | rfl
      all_goals
        simp_arith [cell_eq, hcc]
        refine w_lcR (s1 := s2) (n := 8) (fun j => En.e (valueOf (drawN c j 60) names)) ?_ (by omega) (fun j hj => ?_) ?_
        · simp_arith []
        · simp_arith [wipeE, draw_eq, value_eq, snk_e]
        · rw [show (List.range 8).map (fun j : Nat => En.e (valueOf (drawN c j 60) names)) = ((List.range 8).map fun j : Nat => valueOf (drawN c j 60) names).map En.e from by simp]
          generalize hrs : (List.range 8).map (fun j : Nat => valueOf (drawN c j 60) names) = rs
          have lrs : rs.length = 8 := by rw [← hrs]; simp
          simp_arith []
          refine ⟨_, _, rs, cs, rfl, ⟨by simp, by rw [List.getElem?_append_left lt]; exact hc, fun x hxm => ?_, nd, by omega, by omega, by omega, by omega, fun x hx => (ls x hx).1⟩, fun x hx => (ls x hx).2⟩
          obtain ⟨x1, x2⟩ := hx x hxm
          have := (List.getElem?_eq_some_iff.mp x1).1
          exact ⟨by rw [List.getElem?_append_left this]; exact x1, by omega, x2⟩
  obtain ⟨d, s', e, r, c, rs, cs, rfl, h⟩ := key.eq
  exact ⟨r, c, rs, cs, s', e, h⟩
end Lw

set_option Elab.async false
set_option linter.all false
set_option maxRecDepth 100000
set_option autoImplicit false
set_option maxHeartbeats 1000000
namespace Lw
open PySem L2 Gm
local macro_rules | `(tactic| walk_at "ev") => `(tactic| try simp only [eOp2, eOp1, eVar, eC, tq, tNotX, tAndX, tOrX, eAnd, eOr, eNot, eIf, aNil, aCons, snk, Gm.fz, eTup, eLst, eCall, oNo, oSo, eSl, iSeq, seqD, dr, tgE, setsE, Option.map_some, List.getElem?_cons_zero, List.getElem?_cons_succ, List.set_cons_zero, List.set_cons_succ, List.length_cons, List.length_nil, Nat.reduceAdd, Nat.reduceLeDiff, if_true, Int.reduceNeg,
  fAdd_i, fSub_i, fLt_i, fLe_i, fGt_i, fGe_i, fNeg_i, fMax_i, fMin_i, fEq_i, fNe_i, fEq_b, fIsN_i, fIsN_n, fNotN_i, fNotN_n, fIsN_t, fNotN_t, fNotB_b, fIsB_b, fLen_l, fLen_t, fLen_b, fLen_s, fIx_p0, fIx_p1, Bool.not_true, Bool.not_false, decide_true, decide_false])
local macro_rules | `(tactic| simp_arith [$ls,*]) => `(tactic| simp (maxSteps := 4000000) (disch := (first | omega | (simp only [List.length_append, List.length_set, List.length_cons, List.length_nil, List.length_map]; done) | (simp only [List.length_append, List.length_set, List.length_cons, List.length_nil, List.length_map]; omega))) only [↓we_op2, ↓we_op1, ↓we_C, ↓we_dct0, ↓we_tY, ↓we_tq, ↓we_notX, ↓wz_andX, ↓wz_orX, ↓wz_and, ↓wz_or, ↓we_not, ↓wz_eif, ↓we_aNil, ↓we_aCons, ↓we_tup, ↓we_lst, ↓we_call, ↓we_oNo, ↓we_oSo, ↓we_sl, ↓we_meth, ↓we_lele, ↓we_lelt, ↓wi_seq, ↓wi_rng1, ↓wi_rng2, ↓ws_seq, ↓Kt_eq, ↓ws_nil, ↓ws_ex, ↓ws_set, ↓ws_setF, ↓asE_s, ↓ws_setT, ↓wz_if, ↓ws_ret, ↓ws_retN, ↓ws_retV, ↓ws_raise, ↓ws_pre, ↓ws_ad, ↓ws_app, ↓wq_ext, ↓ws_sub, ↓ws_rev, ↓ws_dp,
  ↓we_ad, ↓ws_tryAs, ↓ws_tryM, trW_nil, trW_cons, ↓we_isX, ↓we_callX, exq_s, trC_t, trC_f, noX_0, noX_no, noX_i, noX_b, noX_n, noX_s, noX_t, noX_l, noX_d, noX_r, noX_o, noX_c, noX_e, isx_s, adO_t, adO_i, adO_b, adO_n, adO_st, adO_l, ↓ws_par, ↓ws_subE, ↓we_meth2, ↓ws_fldX, ↓we_methC, ↓we_make, ↓ws_dpE, ↓we_dpop, adR_o, adR_r, asRf_r, liO_app, liO_ext, liO_set, insO_s, asN_n, asD_s, wf_liA, wf_liE, wf_ins, wf_fld, wf_isiC, wf_intB, wf_intI, wf_absI, snk_i, snk_b, snk_n, snk_s, snk_t, snk_l, snk_d, snk_r, drM_r, setsE_2, asE_s, List.getElem?_append_left, List.getElem?_set_ne, List.length_set, List.length_append, wf_sortP, wf_rngL, eVar_eq, vrO_s, R.W_ok, R.W_exc, R.W_no, R.W_ite, List.getElem?_cons_zero, List.getElem?_cons_succ, List.set_cons_zero, List.set_cons_succ, vr_i, vr_b, vr_n, vr_s, vr_t, vr_l, vr_c, vr_d, vr_r, vr_o, vr_e, fz_i, fz_b, fz_n, fz_s, fz_t, fz_l, fz_c, fz_d, fz_r, fz_bo, fz_ol, fz_od, fz_e, asK_i, asK_b, asK_n, asK_s, asK_t, asK_l, asK_c, asK_d, asK_r, asK_ol, asK_od, asK_e, asR_i, asR_b, asR_n, asR_s, asR_t, asR_l, asR_c, asR_d, asR_r, asR_o, asR_e, asB_b, asI_i, rvO_i, rvO_b, rvO_n, rvO_s, rvO_t, rvO_l, rvO_c, rvO_d, rvO_r, rvO_o, rvO_e,
  muO_app, muO_rev, muO_ext, muO_seti, muO_ref, rfO_app, rfO_ext, rfO_seti, rfO_rev, isLO_own, isLO_ref, isLr_s, asL_s, duO_own, duO_ref, rdO_s, isDO_own, isDO_ref, isDr_s, asKy_i, asKy_s, gFz_1, gFz_2, fzO_o, fzO_l, fzO_d, fzO_r, fzO_i, fzO_b, fzO_t, fzO_n, fzO_z, adK_eq, adO_o, adO_r,
  aT_t, aT_f, aTz_t, aTz_f, aTz_d, aTz_n, aTz_and, aTz_or, aT_d, aT_n, aT_and, aT_or, fAdd_i, fSub_i, fLt_i, fLe_i, fGt_i, fGe_i, fNeg_i, fMax_i, fMin_i, xEq_i, xNe_i, xEq_b, xNe_b, xEq_ni, xEq_in, xEq_nn, xNe_ni, xNe_in, xNe_nn, fIsN_i, fIsN_n, fNotN_i, fNotN_n, fIsN_t, fNotN_t, fNotN_r, fNotN_l, fIsN_r, fIsN_l, fNotB_b, fIsB_b, fLen_l, fLen_t, fLen_b, fLen_s, fIsi_bb, fIsi_ib, fIsi_bi, fIsi_ii, fIsi_ll, fIsi_bl, fIsi_tt, rOk_eq,
  wf_mod, wf_div, wf_mul, cMul_eq, wf_pow, asAt_s, wf_ixL, wf_ixB, wf_ixT, wf_ixR, atI_0, atI_1, atI_2, atI_3, Int.add_zero, Int.reduceAdd, Int.reduceEq, Int.reduceMod, wf_lenR, wf_lenS, wf_addS, wf_addL, wf_addBL, wf_addLB, wf_addRL, wf_repL, wf_slL, wf_slB, wf_slR, wf_listL, wf_listB, wf_listR, wf_pop, wg_dgD, wg_dgB, wg_dinD, wg_dinB, putD_dic, putD_dicB, putD_dicI, putD_dicL, List.getElem?_set_self, dic_len, dic_keys, wf_sumI, wf_allB, wf_sorted, wf_sortSet, wf_listD, wf_listDB, seqD_l', seqD_t', seqD_c', drM_l, drM_b, isLD_r, fIn_i, fIn_n, fEq_li, fNe_li, exEq, exEq', exEq1, wf_allBg, wf_sumIg,
  Bool.not_true, Bool.not_false, decide_true, decide_false, true_and, and_true, if_true, if_false, Bool.false_eq_true, true_implies, List.length_cons, List.length_nil, Nat.reduceAdd, Nat.reduceLeDiff, Int.reduceNeg, Int.reduceLT, Int.reduceLE, Nat.reduceLT, List.map_cons, List.map_nil, List.cons_append, List.nil_append, List.append_nil, Nat.reduceSub, List.replicate, List.length_map, at_map, Int.zero_add, Int.toNat_natCast, eq_self, not_true_eq_false, not_false_eq_true, false_implies, implies_true, reduceCtorEq, and_self, false_and, and_false, Int.reduceToNat, $ls,*])
local macro_rules | `(tactic| simp_all_arith [$ls,*]) => `(tactic| simp (maxSteps := 4000000) (disch := (first | omega | (simp only [List.length_append, List.length_set, List.length_cons, List.length_nil, List.length_map]; done) | (simp only [List.length_append, List.length_set, List.length_cons, List.length_nil, List.length_map]; omega))) only [↓we_op2, ↓we_op1, ↓we_C, ↓we_dct0, ↓we_tY, ↓we_tq, ↓we_notX, ↓wz_andX, ↓wz_orX, ↓wz_and, ↓wz_or, ↓we_not, ↓we_aNil, ↓we_aCons, ↓we_tup, ↓we_lst, ↓we_call, ↓we_oNo, ↓we_oSo, ↓we_sl, ↓we_meth, ↓we_lele, ↓we_lelt, ↓wi_seq, ↓wi_rng1, ↓wi_rng2, ↓ws_seq, ↓Kt_eq, ↓ws_nil, ↓ws_ex, ↓ws_set, ↓ws_setF, ↓asE_s, ↓ws_setT, ↓ws_ret, ↓ws_retN, ↓ws_retV, ↓ws_raise, ↓ws_pre, ↓ws_ad, ↓ws_app, ↓wq_ext, ↓ws_sub, ↓ws_rev, ↓ws_dp,
  ↓we_ad, ↓ws_tryAs, ↓ws_tryM, trW_nil, trW_cons, ↓we_isX, ↓we_callX, exq_s, trC_t, trC_f, noX_0, noX_no, noX_i, noX_b, noX_n, noX_s, noX_t, noX_l, noX_d, noX_r, noX_o, noX_c, noX_e, isx_s, adO_t, adO_i, adO_b, adO_n, adO_st, adO_l, ↓ws_par, ↓ws_subE, ↓we_meth2, ↓ws_fldX, ↓we_methC, ↓we_make, ↓ws_dpE, ↓we_dpop, adR_o, adR_r, asRf_r, liO_app, liO_ext, liO_set, insO_s, asN_n, asD_s, wf_liA, wf_liE, wf_ins, wf_fld, wf_isiC, wf_intB, wf_intI, wf_absI, snk_i, snk_b, snk_n, snk_s, snk_t, snk_l, snk_d, snk_r, drM_r, setsE_2, asE_s, List.getElem?_append_left, List.getElem?_set_ne, List.length_set, List.length_append, wf_sortP, wf_rngL, eVar_eq, vrO_s, R.W_ok, R.W_exc, R.W_no, R.W_ite, List.getElem?_cons_zero, List.getElem?_cons_succ, List.set_cons_zero, List.set_cons_succ, vr_i, vr_b, vr_n, vr_s, vr_t, vr_l, vr_c, vr_d, vr_r, vr_o, vr_e, fz_i, fz_b, fz_n, fz_s, fz_t, fz_l, fz_c, fz_d, fz_r, fz_bo, fz_ol, fz_od, fz_e, asK_i, asK_b, asK_n, asK_s, asK_t, asK_l, asK_c, asK_d, asK_r, asK_ol, asK_od, asK_e, asR_i, asR_b, asR_n, asR_s, asR_t, asR_l, asR_c, asR_d, asR_r, asR_o, asR_e, asB_b, asI_i, rvO_i, rvO_b, rvO_n, rvO_s, rvO_t, rvO_l, rvO_c, rvO_d, rvO_r, rvO_o, rvO_e,
  muO_app, muO_rev, muO_ext, muO_seti, muO_ref, rfO_app, rfO_ext, rfO_seti, rfO_rev, isLO_own, isLO_ref, isLr_s, asL_s, duO_own, duO_ref, rdO_s, isDO_own, isDO_ref, isDr_s, asKy_i, asKy_s, gFz_1, gFz_2, fzO_o, fzO_l, fzO_d, fzO_r, fzO_i, fzO_b, fzO_t, fzO_n, fzO_z, adK_eq, adO_o, adO_r,
  aT_t, aT_f, aTz_t, aTz_f, aTz_d, aTz_n, aTz_and, aTz_or, aT_d, aT_n, aT_and, aT_or, fAdd_i, fSub_i, fLt_i, fLe_i, fGt_i, fGe_i, fNeg_i, fMax_i, fMin_i, xEq_i, xNe_i, xEq_b, xNe_b, xEq_ni, xEq_in, xEq_nn, xNe_ni, xNe_in, xNe_nn, fIsN_i, fIsN_n, fNotN_i, fNotN_n, fIsN_t, fNotN_t, fNotN_r, fNotN_l, fIsN_r, fIsN_l, fNotB_b, fIsB_b, fLen_l, fLen_t, fLen_b, fLen_s, fIsi_bb, fIsi_ib, fIsi_bi, fIsi_ii, fIsi_ll, fIsi_bl, fIsi_tt, rOk_eq,
  wf_mod, wf_div, wf_mul, cMul_eq, wf_pow, asAt_s, wf_ixL, wf_ixB, wf_ixT, wf_ixR, atI_0, atI_1, atI_2, atI_3, Int.add_zero, Int.reduceAdd, Int.reduceEq, Int.reduceMod, wf_lenR, wf_lenS, wf_addS, wf_addL, wf_addBL, wf_addLB, wf_addRL, wf_repL, wf_slL, wf_slB, wf_slR, wf_listL, wf_listB, wf_listR, wf_pop, wg_dgD, wg_dgB, wg_dinD, wg_dinB, putD_dic, putD_dicB, putD_dicI, putD_dicL, List.getElem?_set_self, dic_len, dic_keys, wf_sumI, wf_allB, wf_sorted, wf_sortSet, wf_listD, wf_listDB, seqD_l', seqD_t', seqD_c', drM_l, drM_b, isLD_r, fIn_i, fIn_n, fEq_li, fNe_li, exEq, exEq', exEq1, wf_allBg, wf_sumIg,
  Bool.not_true, Bool.not_false, decide_true, decide_false, true_and, and_true, if_true, if_false, Bool.false_eq_true, true_implies, List.length_cons, List.length_nil, Nat.reduceAdd, Nat.reduceLeDiff, Int.reduceNeg, Int.reduceLT, Int.reduceLE, Nat.reduceLT, List.map_cons, List.map_nil, List.cons_append, List.nil_append, List.append_nil, Nat.reduceSub, List.replicate, List.length_map, at_map, Int.zero_add, Int.toNat_natCast, eq_self, not_true_eq_false, not_false_eq_true, false_implies, implies_true, reduceCtorEq, and_self, false_and, and_false, Int.reduceToNat, $ls,*])
theorem xEq_oi {o : Option Int} {n : Int} {s : Store} : fEq s (En.e o) (.int n) = .ok (.bl (decide (o = some n))) s := by
  cases o with
  | none => rw [e_none, xEq_ni]; rfl
  | some k => rw [e_some, e_int, xEq_i]; congr 2; rw [Bool.eq_iff_iff]; simp
theorem fIn_sq {k : Int} {l : List Int} {b : Bool} {d : D} {s : Store} (h : seqD s d = some (l.map D.int)) : fIn b s (.int k) d = .ok (.bl (if b then !decide (k ∈ l) else decide (k ∈ l))) s := by
  have := @fIn_i s k l b
  unfold fIn at this ⊢
  rw [h]; exact this
theorem getD_at {α : Type} {l : List α} {i : Int} {d : α} (h0 : 0 ≤ i) (h : i < l.length) : atI l i = some (l.getD i.toNat d) := atI_get d h0 (by omega)
theorem fIsi_r {n : Nat} {xs : List D} {s : Store} (h : s[n]? = some (.lst xs)) : fIsi "list" s (.ref n) = .ok (.bl true) s := by
  unfold fIsi tyD
  simp only [dr, h]
  rfl
theorem fNe_r {n : Nat} {xs : List D} {a : D} {s : Store} (h : s[n]? = some (.lst xs)) : fNe s a (.ref n) = fNe s a (.lst xs) := by
  unfold fNe
  rw [show toPy s 9 (.ref n) = toPy s 9 (.lst xs) from by simp only [toPy, dr, h]]
theorem fNe_r1 {n : Nat} {xs : List D} {a : D} {s : Store} (h : s[n]? = some (.lst xs)) : fNe s (.ref n) a = fNe s (.lst xs) a := by
  unfold fNe
  rw [show toPy s 9 (.ref n) = toPy s 9 (.lst xs) from by simp only [toPy, dr, h]]
theorem fEq_r {n : Nat} {xs : List D} {a : D} {s : Store} (h : s[n]? = some (.lst xs)) : fEq s a (.ref n) = fEq s a (.lst xs) := by
  unfold fEq
  rw [show toPy s 9 (.ref n) = toPy s 9 (.lst xs) from by simp only [toPy, dr, h]]
theorem fEq_r1 {n : Nat} {xs : List D} {a : D} {s : Store} (h : s[n]? = some (.lst xs)) : fEq s (.ref n) a = fEq s (.lst xs) a := by
  unfold fEq
  rw [show toPy s 9 (.ref n) = toPy s 9 (.lst xs) from by simp only [toPy, dr, h]]
theorem seqD_r {n : Nat} {xs : List D} {s : Store} (h : s[n]? = some (.lst xs)) : seqD s (.ref n) = some xs := by simp only [seqD, dr, h]
theorem seq_at {d : D} {xs : List D} {s : Store} (h : seqD s d = some xs) (i : Nat) : Itr.at s (.seq d) i = some xs[i]? := by simp only [Itr.at, h, Option.map_some]
theorem seq_fuel {d : D} {xs : List D} {s : Store} (h : seqD s d = some xs) : Itr.fuel s (.seq d) = xs.length + 1 := by simp only [Itr.fuel, h, Option.getD_some]
/-- a comprehension over any sequence -/
theorem w_lcS {α : Type} {env : Gm.Env} {s s1 : Store} {Q : D → Store → Prop} {X : Nat → Store → Prop} {l : List α} {enc : α → D} {d : D} {tg : Tg} {ix : Ix} {tt : Tx} {el : Ex} {vs : List Nat} (p : α → Bool) (f : α → D) (hd : seqD s1 d = some (l.map enc)) (hx : (ix env s).W (fun it s' => s' = s1 ∧ it = .seq d) X0) (hl : l.length ≤ 16777216)
    (he : ∀ a ∈ l, ∃ e1, tgE tg (enc a) (wipeE env vs) = some e1 ∧ (tt e1 s1).W (fun b s' => s' = s1 ∧ b = p a) X0 ∧ (p a = true → (el e1 s1).W (fun d s' => s' = s1 ∧ snk (fz d) = some (f a)) X0))
    (hQ : Q (.own (.lst ((l.filter p).map f))) s1) : (eLc tg ix tt el vs env s).W Q X := by
  let P : Option D → Bool := fun _ => true
  have e := W_eq0 (s := s1) hx
  have key : ∀ (n i : Nat) (acc : List D), i ≤ l.length → l.length < n + i → acc.length + (l.length - i) ≤ 16777216 → lcX tg tt el vs (.seq d) n i acc env s1 = .ok (.own (.lst (acc ++ ((l.drop i).filter p).map f))) s1 := by
    intro n
    induction n with
    | zero => intro i acc h1 h2; omega
    | succ n ih =>
      intro i acc h1 h2 h3
      have ha := seq_at hd i
      cases q : l[i]? with
      | none =>
        rw [List.getElem?_map, q] at ha
        have : l.length ≤ i := List.getElem?_eq_none_iff.mp q
        simp only [lcX, ha, Option.map_none]
        rw [List.drop_eq_nil_of_le this]
        simp
      | some x =>
        rw [List.getElem?_map, q] at ha
        obtain ⟨hlt, ex⟩ := List.getElem?_eq_some_iff.mp q
        obtain ⟨e1, k1, k2, k3⟩ := he x (List.mem_of_getElem? q)
        have hdr : l.drop i = x :: l.drop (i + 1) := by rw [List.drop_eq_getElem_cons hlt, ex]
        have k2' := W_eq0 (s := s1) k2
        cases hp : p x with
        | false =>
          rw [hp] at k2'
          simp only [lcX, ha, k1, k2', Option.map_some]
          rw [ih (i + 1) acc (by omega) (by omega) (by omega), hdr, List.filter_cons_of_neg (by rw [hp]; exact Bool.false_ne_true)]
        | true =>
          rw [hp] at k2'
          obtain ⟨dd, s', k4, hs', k5⟩ := (k3 hp).eq
          rw [hs'] at k4
          simp only [lcX, ha, k1, k2', k4, k5, Option.map_some]
          rw [if_pos (by omega), ih (i + 1) (acc ++ [f x]) (by omega) (by omega) (by rw [List.length_append]; simp; omega), hdr, List.filter_cons_of_pos hp]
          simp
  have e2 : eLc tg ix tt el vs env s = .ok (.own (.lst ((l.filter p).map f))) s1 := by
    simp only [eLc, e, seq_fuel hd, List.length_map]
    rw [key _ 0 [] (Nat.zero_le _) (by omega) (by simp; omega)]
    simp
  rw [e2]; exact .ok hQ
/-- a loop over any sequence that stays -/
theorem w_forS {α : Type} {env : Gm.Env} {s s1 : Store} {N : Gm.Env → Store → Prop} {T : D → Store → Prop} {Y : Nat → Gm.Env → Store → Prop} {l : List α} {enc : α → D} {d : D} {tg : Tg} {ix : Ix} {body : Sx} (I : List α → Gm.Env → Store → Prop) (hx : (ix env s).W (fun it s' => s' = s1 ∧ it = .seq d) X0) (h0 : I [] env s1)
    (hd : ∀ pre e s, I pre e s → seqD s d = some (l.map enc)) (hd1 : seqD s1 d = some (l.map enc))
    (hs : ∀ pre a post e s, l = pre ++ a :: post → I pre e s → ∃ e1, tgE tg (enc a) e = some e1 ∧ (body e1 s).W (I (pre ++ [a])) T Y) (hn : ∀ e s, I l e s → N e s) : (sFor tg ix body env s).W N T Y := by
  have e := W_eq0 (s := s1) hx
  refine w_for (xs := l.map enc) e (by rw [seq_fuel hd1]) (fun i e s => I (l.take i) e s) (by simpa using h0) (fun i e s _ hI => seq_at (hd _ _ _ hI) i) (fun i x e s hx hI => ?_) (fun e s h => hn e s ?_)
  · rw [List.getElem?_map] at hx
    cases q : l[i]? with
    | none => rw [q] at hx; cases hx
    | some a =>
      rw [q] at hx
      simp only [Option.map_some, Option.some.injEq] at hx
      subst hx
      obtain ⟨hlt, ex⟩ := List.getElem?_eq_some_iff.mp q
      have h1 : l = l.take i ++ a :: l.drop (i + 1) := by
        rw [← ex, ← List.drop_eq_getElem_cons hlt, List.take_append_drop]
      obtain ⟨e1, k1, k2⟩ := hs _ a _ e s h1 hI
      refine ⟨e1, k1, ?_⟩
      have : l.take (i + 1) = l.take i ++ [a] := by rw [List.take_succ, q]; rfl
      rw [this]; exact k2
  · rw [List.length_map, List.take_length] at h; exact h
theorem wf_addRR {n : Nat} {xs ys : List D} {s : Store} {Q : D → Store → Prop} {X : Nat → Store → Prop} : (fAdd s (.lst xs) (.lst ys)).W Q X ↔ xs.length + ys.length ≤ 16777216 ∧ Q (.own (.lst (xs ++ ys))) s := wf_addL
theorem wf_popAt {n : Nat} {i : Int} {s : Store} {Q : D → Store → Prop} {X : Nat → Store → Prop} {xs : List D} (h : s[n]? = some (.lst xs)) (h0 : 0 ≤ i) (h1 : i < 1000000000) : (fPopAt s (.ref n) (.int i)).W Q X ↔ asAt xs[i.toNat]? fun d => Q d (s.set n (.lst (xs.eraseIdx i.toNat))) := by
  simp only [fPopAt, h, show (-9223372036854775808 : Int) ≤ i ∧ i < 9223372036854775808 from by omega, if_true, and_self]
  unfold ixN asAt
  rw [if_pos h0]
  by_cases q : i < xs.length
  · rw [if_pos q]
    simp only []
    cases xs[i.toNat]? <;> simp [R.W_ok, R.W_no]
  · rw [if_neg q]
    have : xs[i.toNat]? = none := List.getElem?_eq_none (by omega)
    simp [this, R.W_no]
theorem wf_liApp {n : Nat} {xs : List D} {b d : D} {s : Store} {Q : D → Store → Prop} {X : Nat → Store → Prop} (h : s[n]? = some (.lst xs)) (hb : snk b = some d) : (fLiR gApp s (.ref n) b).W Q X ↔ xs.length < 16777216 ∧ Q .non (s.set n (.lst (xs ++ [d]))) := by
  simp only [fLiR, h, gApp, hb, Option.map_some, fApp]
  by_cases q : xs.length < 16777216 <;> simp [q, R.W_ok, R.W_no]
theorem wf_int_b {b : Bool} {s : Store} {Q : D → Store → Prop} {X : Nat → Store → Prop} : (fInt s (.bl b)).W Q X ↔ Q (.int (if b then 1 else 0)) s := R.W_ok
theorem wf_slT {xs : List D} {lo hi : Option Int} {s : Store} {Q : D → Store → Prop} {X : Nat → Store → Prop} : (fSlT s (.tup xs) lo hi).W Q X ↔ Q (.tup (cutD xs lo hi)) s := R.W_ok
theorem we_slT {env : Gm.Env} {s : Store} {Q : D → Store → Prop} {X : Nat → Store → Prop} {a : Ex} {l h : Ox} : (eSlT a l h env s).W Q X ↔ (a env s).W (fun x s1 => (l env s1).W (fun i s2 => (h env s2).W (fun j s3 => (fSlT s3 (fz x) i j).W Q X) X) X) X := by
  unfold eSlT
  cases a env s with
  | ok x s1 =>
    simp only [R.W_ok]
    cases l env s1 with
    | ok y s2 => simp only [R.W_ok]; cases h env s2 <;> simp only [R.W_ok, R.W_exc, R.W_no]
    | exc c s1 => simp only [R.W_exc]
    | no => simp only [R.W_no]
  | exc c s1 => simp only [R.W_exc]
  | no => simp only [R.W_no]
theorem fIn_b {k : Int} {l : List Int} {b : Bool} {s : Store} : fIn b s (.int k) (.bor (.lst (l.map D.int))) = .ok (.bl (if b then !decide (k ∈ l) else decide (k ∈ l))) s := fIn_sq (by simp only [seqD, dr])
end Lw

set_option Elab.async false
set_option linter.all false
set_option maxRecDepth 100000
set_option autoImplicit false
set_option maxHeartbeats 1000000
namespace Lw
open PySem L2 Gm
local macro_rules | `(tactic| walk_at "ev") => `(tactic| try simp only [eOp2, eOp1, eVar, eC, tq, tNotX, tAndX, tOrX, eAnd, eOr, eNot, eIf, aNil, aCons, snk, Gm.fz, eTup, eLst, eCall, oNo, oSo, eSl, iSeq, seqD, dr, tgE, setsE, Option.map_some, List.getElem?_cons_zero, List.getElem?_cons_succ, List.set_cons_zero, List.set_cons_succ, List.length_cons, List.length_nil, Nat.reduceAdd, Nat.reduceLeDiff, if_true, Int.reduceNeg,
  fAdd_i, fSub_i, fLt_i, fLe_i, fGt_i, fGe_i, fNeg_i, fMax_i, fMin_i, fEq_i, fNe_i, fEq_b, fIsN_i, fIsN_n, fNotN_i, fNotN_n, fIsN_t, fNotN_t, fNotB_b, fIsB_b, fLen_l, fLen_t, fLen_b, fLen_s, fIx_p0, fIx_p1, Bool.not_true, Bool.not_false, decide_true, decide_false])
local macro_rules | `(tactic| simp_arith [$ls,*]) => `(tactic| simp (maxSteps := 4000000) (disch := (first | omega | (simp only [List.length_append, List.length_set, List.length_cons, List.length_nil, List.length_map]; done) | (simp only [List.length_append, List.length_set, List.length_cons, List.length_nil, List.length_map]; omega))) only [↓we_op2, ↓we_op1, ↓we_C, ↓we_dct0, ↓we_tY, ↓we_tq, ↓we_notX, ↓wz_andX, ↓wz_orX, ↓wz_and, ↓wz_or, ↓we_not, ↓wz_eif, ↓we_aNil, ↓we_aCons, ↓we_tup, ↓we_lst, ↓we_call, ↓we_oNo, ↓we_oSo, ↓we_sl, ↓we_meth, ↓we_lele, ↓we_lelt, ↓wi_seq, ↓wi_rng1, ↓wi_rng2, ↓ws_seq, ↓Kt_eq, ↓ws_nil, ↓ws_ex, ↓ws_set, ↓ws_setF, ↓asE_s, ↓ws_setT, ↓wz_if, ↓ws_ret, ↓ws_retN, ↓ws_retV, ↓ws_raise, ↓ws_pre, ↓ws_ad, ↓ws_app, ↓wq_ext, ↓ws_sub, ↓ws_rev, ↓ws_dp,
  ↓we_ad, ↓ws_tryAs, ↓ws_tryM, trW_nil, trW_cons, ↓we_isX, ↓we_callX, exq_s, trC_t, trC_f, noX_0, noX_no, noX_i, noX_b, noX_n, noX_s, noX_t, noX_l, noX_d, noX_r, noX_o, noX_c, noX_e, isx_s, adO_t, adO_i, adO_b, adO_n, adO_st, adO_l, ↓ws_par, ↓ws_subE, ↓we_meth2, ↓ws_fldX, ↓we_methC, ↓we_make, ↓ws_dpE, ↓we_dpop, adR_o, adR_r, asRf_r, liO_app, liO_ext, liO_set, insO_s, asN_n, asD_s, wf_liA, wf_liE, wf_ins, wf_fld, wf_isiC, wf_intB, wf_intI, wf_absI, snk_i, snk_b, snk_n, snk_s, snk_t, snk_l, snk_d, snk_r, drM_r, setsE_2, asE_s, List.getElem?_append_left, List.getElem?_set_ne, List.length_set, List.length_append, wf_sortP, wf_rngL, eVar_eq, vrO_s, R.W_ok, R.W_exc, R.W_no, R.W_ite, List.getElem?_cons_zero, List.getElem?_cons_succ, List.set_cons_zero, List.set_cons_succ, vr_i, vr_b, vr_n, vr_s, vr_t, vr_l, vr_c, vr_d, vr_r, vr_o, vr_e, fz_i, fz_b, fz_n, fz_s, fz_t, fz_l, fz_c, fz_d, fz_r, fz_bo, fz_ol, fz_od, fz_e, asK_i, asK_b, asK_n, asK_s, asK_t, asK_l, asK_c, asK_d, asK_r, asK_ol, asK_od, asK_e, asR_i, asR_b, asR_n, asR_s, asR_t, asR_l, asR_c, asR_d, asR_r, asR_o, asR_e, asB_b, asI_i, rvO_i, rvO_b, rvO_n, rvO_s, rvO_t, rvO_l, rvO_c, rvO_d, rvO_r, rvO_o, rvO_e,
  muO_app, muO_rev, muO_ext, muO_seti, muO_ref, rfO_app, rfO_ext, rfO_seti, rfO_rev, isLO_own, isLO_ref, isLr_s, asL_s, duO_own, duO_ref, rdO_s, isDO_own, isDO_ref, isDr_s, asKy_i, asKy_s, gFz_1, gFz_2, fzO_o, fzO_l, fzO_d, fzO_r, fzO_i, fzO_b, fzO_t, fzO_n, fzO_z, adK_eq, adO_o, adO_r,
  aT_t, aT_f, aTz_t, aTz_f, aTz_d, aTz_n, aTz_and, aTz_or, aT_d, aT_n, aT_and, aT_or, fAdd_i, fSub_i, fLt_i, fLe_i, fGt_i, fGe_i, fNeg_i, fMax_i, fMin_i, xEq_i, xNe_i, xEq_b, xNe_b, xEq_ni, xEq_in, xEq_nn, xNe_ni, xNe_in, xNe_nn, fIsN_i, fIsN_n, fNotN_i, fNotN_n, fIsN_t, fNotN_t, fNotN_r, fNotN_l, fIsN_r, fIsN_l, fNotB_b, fIsB_b, fLen_l, fLen_t, fLen_b, fLen_s, fIsi_bb, fIsi_ib, fIsi_bi, fIsi_ii, fIsi_ll, fIsi_bl, fIsi_tt, rOk_eq,
  wf_mod, wf_div, wf_mul, cMul_eq, wf_pow, asAt_s, wf_ixL, wf_ixB, wf_ixT, wf_ixR, atI_0, atI_1, atI_2, atI_3, Int.add_zero, Int.reduceAdd, Int.reduceEq, Int.reduceMod, wf_lenR, wf_lenS, wf_addS, wf_addL, wf_addBL, wf_addLB, wf_addRL, wf_repL, wf_slL, wf_slB, wf_slR, wf_listL, wf_listB, wf_listR, wf_pop, wg_dgD, wg_dgB, wg_dinD, wg_dinB, putD_dic, putD_dicB, putD_dicI, putD_dicL, List.getElem?_set_self, dic_len, dic_keys, wf_sumI, wf_allB, wf_sorted, wf_sortSet, wf_listD, wf_listDB, seqD_l', seqD_t', seqD_c', drM_l, drM_b, isLD_r, fIn_i, fIn_n, fEq_li, fNe_li, exEq, exEq', exEq1, wf_allBg, wf_sumIg,
  Bool.not_true, Bool.not_false, decide_true, decide_false, true_and, and_true, if_true, if_false, Bool.false_eq_true, true_implies, List.length_cons, List.length_nil, Nat.reduceAdd, Nat.reduceLeDiff, Int.reduceNeg, Int.reduceLT, Int.reduceLE, Nat.reduceLT, List.map_cons, List.map_nil, List.cons_append, List.nil_append, List.append_nil, Nat.reduceSub, List.replicate, List.length_map, at_map, Int.zero_add, Int.toNat_natCast, eq_self, not_true_eq_false, not_false_eq_true, false_implies, implies_true, reduceCtorEq, and_self, false_and, and_false, Int.reduceToNat, $ls,*])
local macro_rules | `(tactic| simp_all_arith [$ls,*]) => `(tactic| simp (maxSteps := 4000000) (disch := (first | omega | (simp only [List.length_append, List.length_set, List.length_cons, List.length_nil, List.length_map]; done) | (simp only [List.length_append, List.length_set, List.length_cons, List.length_nil, List.length_map]; omega))) only [↓we_op2, ↓we_op1, ↓we_C, ↓we_dct0, ↓we_tY, ↓we_tq, ↓we_notX, ↓wz_andX, ↓wz_orX, ↓wz_and, ↓wz_or, ↓we_not, ↓we_aNil, ↓we_aCons, ↓we_tup, ↓we_lst, ↓we_call, ↓we_oNo, ↓we_oSo, ↓we_sl, ↓we_meth, ↓we_lele, ↓we_lelt, ↓wi_seq, ↓wi_rng1, ↓wi_rng2, ↓ws_seq, ↓Kt_eq, ↓ws_nil, ↓ws_ex, ↓ws_set, ↓ws_setF, ↓asE_s, ↓ws_setT, ↓ws_ret, ↓ws_retN, ↓ws_retV, ↓ws_raise, ↓ws_pre, ↓ws_ad, ↓ws_app, ↓wq_ext, ↓ws_sub, ↓ws_rev, ↓ws_dp,
  ↓we_ad, ↓ws_tryAs, ↓ws_tryM, trW_nil, trW_cons, ↓we_isX, ↓we_callX, exq_s, trC_t, trC_f, noX_0, noX_no, noX_i, noX_b, noX_n, noX_s, noX_t, noX_l, noX_d, noX_r, noX_o, noX_c, noX_e, isx_s, adO_t, adO_i, adO_b, adO_n, adO_st, adO_l, ↓ws_par, ↓ws_subE, ↓we_meth2, ↓ws_fldX, ↓we_methC, ↓we_make, ↓ws_dpE, ↓we_dpop, adR_o, adR_r, asRf_r, liO_app, liO_ext, liO_set, insO_s, asN_n, asD_s, wf_liA, wf_liE, wf_ins, wf_fld, wf_isiC, wf_intB, wf_intI, wf_absI, snk_i, snk_b, snk_n, snk_s, snk_t, snk_l, snk_d, snk_r, drM_r, setsE_2, asE_s, List.getElem?_append_left, List.getElem?_set_ne, List.length_set, List.length_append, wf_sortP, wf_rngL, eVar_eq, vrO_s, R.W_ok, R.W_exc, R.W_no, R.W_ite, List.getElem?_cons_zero, List.getElem?_cons_succ, List.set_cons_zero, List.set_cons_succ, vr_i, vr_b, vr_n, vr_s, vr_t, vr_l, vr_c, vr_d, vr_r, vr_o, vr_e, fz_i, fz_b, fz_n, fz_s, fz_t, fz_l, fz_c, fz_d, fz_r, fz_bo, fz_ol, fz_od, fz_e, asK_i, asK_b, asK_n, asK_s, asK_t, asK_l, asK_c, asK_d, asK_r, asK_ol, asK_od, asK_e, asR_i, asR_b, asR_n, asR_s, asR_t, asR_l, asR_c, asR_d, asR_r, asR_o, asR_e, asB_b, asI_i, rvO_i, rvO_b, rvO_n, rvO_s, rvO_t, rvO_l, rvO_c, rvO_d, rvO_r, rvO_o, rvO_e,
  muO_app, muO_rev, muO_ext, muO_seti, muO_ref, rfO_app, rfO_ext, rfO_seti, rfO_rev, isLO_own, isLO_ref, isLr_s, asL_s, duO_own, duO_ref, rdO_s, isDO_own, isDO_ref, isDr_s, asKy_i, asKy_s, gFz_1, gFz_2, fzO_o, fzO_l, fzO_d, fzO_r, fzO_i, fzO_b, fzO_t, fzO_n, fzO_z, adK_eq, adO_o, adO_r,
  aT_t, aT_f, aTz_t, aTz_f, aTz_d, aTz_n, aTz_and, aTz_or, aT_d, aT_n, aT_and, aT_or, fAdd_i, fSub_i, fLt_i, fLe_i, fGt_i, fGe_i, fNeg_i, fMax_i, fMin_i, xEq_i, xNe_i, xEq_b, xNe_b, xEq_ni, xEq_in, xEq_nn, xNe_ni, xNe_in, xNe_nn, fIsN_i, fIsN_n, fNotN_i, fNotN_n, fIsN_t, fNotN_t, fNotN_r, fNotN_l, fIsN_r, fIsN_l, fNotB_b, fIsB_b, fLen_l, fLen_t, fLen_b, fLen_s, fIsi_bb, fIsi_ib, fIsi_bi, fIsi_ii, fIsi_ll, fIsi_bl, fIsi_tt, rOk_eq,
  wf_mod, wf_div, wf_mul, cMul_eq, wf_pow, asAt_s, wf_ixL, wf_ixB, wf_ixT, wf_ixR, atI_0, atI_1, atI_2, atI_3, Int.add_zero, Int.reduceAdd, Int.reduceEq, Int.reduceMod, wf_lenR, wf_lenS, wf_addS, wf_addL, wf_addBL, wf_addLB, wf_addRL, wf_repL, wf_slL, wf_slB, wf_slR, wf_listL, wf_listB, wf_listR, wf_pop, wg_dgD, wg_dgB, wg_dinD, wg_dinB, putD_dic, putD_dicB, putD_dicI, putD_dicL, List.getElem?_set_self, dic_len, dic_keys, wf_sumI, wf_allB, wf_sorted, wf_sortSet, wf_listD, wf_listDB, seqD_l', seqD_t', seqD_c', drM_l, drM_b, isLD_r, fIn_i, fIn_n, fEq_li, fNe_li, exEq, exEq', exEq1, wf_allBg, wf_sumIg,
  Bool.not_true, Bool.not_false, decide_true, decide_false, true_and, and_true, if_true, if_false, Bool.false_eq_true, true_implies, List.length_cons, List.length_nil, Nat.reduceAdd, Nat.reduceLeDiff, Int.reduceNeg, Int.reduceLT, Int.reduceLE, Nat.reduceLT, List.map_cons, List.map_nil, List.cons_append, List.nil_append, List.append_nil, Nat.reduceSub, List.replicate, List.length_map, at_map, Int.zero_add, Int.toNat_natCast, eq_self, not_true_eq_false, not_false_eq_true, false_implies, implies_true, reduceCtorEq, and_self, false_and, and_false, Int.reduceToNat, $ls,*])
/-! what is reached -/
inductive Reach (p : Pic) : Int → Prop where
  | root {v : Val} {k : Int} (h : v ∈ p.1) (e : led v = some k) : Reach p k
  | slot {m k : Int} {sl : List Val} {v : Val} (r : Reach p m) (h : (m, sl) ∈ p.2) (hv : v ∈ sl) (e : led v = some k) : Reach p k
abbrev Pic.ns (p : Pic) : List Int := p.2.map (·.1)
noncomputable def aliveL (p : Pic) : List Int := p.ns.filter fun k => @decide (Reach p k) (Classical.propDecidable _)
structure GoodP (p : Pic) : Prop where
  r8 : p.1.length = 8
  up : p.ns.Pairwise (· < ·)
  n0 : ∀ k ∈ p.ns, 0 ≤ k
  s4 : ∀ c ∈ p.2, c.2.length ≤ 4
  rv : ∀ v ∈ p.1, isVal p.ns v = true
  sv : ∀ c ∈ p.2, ∀ v ∈ c.2, isVal p.ns v = true
theorem goodP_iff {p : Pic} : isPicB p = true ↔ GoodP p := by
  have hd : ∀ l : List Int, l.Pairwise (· < ·) → ((l.length == 0 || decide (0 ≤ l.headD 0)) = true ↔ ∀ k ∈ l, 0 ≤ k) := fun l h => by
    cases l with
    | nil => simp
    | cons a r =>
      have := (List.pairwise_cons.mp h).1
      simp
      exact fun h0 k hk => by have := this k hk; omega
  unfold isPicB
  simp only [Bool.and_eq_true, decide_eq_true_eq, List.all_eq_true]
  constructor
  · rintro ⟨⟨⟨⟨h1, h2⟩, h3⟩, h4⟩, h5⟩
    have up : p.ns.Pairwise (· < ·) := by show (p.2.map (·.1)).Pairwise (· < ·); rw [h2]; exact dedI_rise
    refine ⟨h1, up, (hd _ up).mp h3, fun c hc => ?_, h5, fun c hc => ?_⟩
    · have := h4 c hc; unfold cellB at this; simp only [Bool.and_eq_true, decide_eq_true_eq] at this; exact this.1
    · have := h4 c hc; unfold cellB at this; simp only [Bool.and_eq_true, decide_eq_true_eq, List.all_eq_true] at this; exact this.2
  · intro h
    refine ⟨⟨⟨⟨h.r8, (dedI_id h.up).symm⟩, (hd _ h.up).mpr h.n0⟩, fun c hc => ?_⟩, h.rv⟩
    unfold cellB; simp only [Bool.and_eq_true, decide_eq_true_eq, List.all_eq_true]
    exact ⟨h.s4 c hc, h.sv c hc⟩
theorem isVal_led {l : List Int} {v : Val} {k : Int} (h : isVal l v = true) (e : led v = some k) : k ∈ l := by
  cases v <;> simp [led] at e
  subst e
  simpa [isVal] using h
theorem Reach.mem {p : Pic} (g : GoodP p) {k : Int} (h : Reach p k) : k ∈ p.ns := by
  cases h with
  | root h e => exact isVal_led (g.rv _ h) e
  | slot r h hv e => exact isVal_led (g.sv _ h _ hv) e
theorem mem_alive {p : Pic} (g : GoodP p) {k : Int} : k ∈ aliveL p ↔ Reach p k := by
  unfold aliveL
  rw [List.mem_filter, @decide_eq_true_eq _ (Classical.propDecidable _)]
  exact ⟨fun h => h.2, fun h => ⟨h.mem g, h⟩⟩
theorem alive_up {p : Pic} (g : GoodP p) : (aliveL p).Pairwise (· < ·) := g.up.filter _
/-- a set that has what the roots lead to, and what its own slots lead to -/
theorem reach_sub {p : Pic} {F : List Int} (g : GoodP p) (h1 : ∀ v ∈ p.1, ∀ k, led v = some k → k ∈ F) (h2 : ∀ m ∈ F, ∀ sl, (m, sl) ∈ p.2 → ∀ v ∈ sl, ∀ k, led v = some k → k ∈ F) : ∀ k, Reach p k → k ∈ F := by
  intro k h
  induction h with
  | root h e => exact h1 _ h _ e
  | slot r h hv e ih => exact h2 _ ih _ h _ hv _ e
theorem look_cell {p : Pic} (g : GoodP p) {k : Int} (h : k ∈ p.ns) : ∃ sl, look p.2 k = some sl ∧ (k, sl) ∈ p.2 := by
  obtain ⟨c, hc, e⟩ := List.mem_map.mp h
  subst e
  exact ⟨c.2, look_mem (rises_nd g.up) hc, hc⟩
theorem sub_len : ∀ {F l : List Int}, F.Nodup → (∀ k ∈ F, k ∈ l) → F.length ≤ l.length
  | [], _, _, _ => Nat.zero_le _
  | a :: r, l, nd, h => by
    have h1 := List.nodup_cons.mp nd
    have ha := h a (by simp)
    have := sub_len (F := r) (l := l.erase a) h1.2 fun k hk => (List.mem_erase_of_ne fun z => h1.1 (by rw [← z]; exact hk)).mpr (h k (by simp [hk]))
    rw [List.length_erase_of_mem ha] at this
    have := List.length_pos_of_mem ha
    simp; omega
theorem wf_popL {α : Type} [En α] {T : List α} {v : α} {n : Nat} {s : Store} {Q : D → Store → Prop} {X : Nat → Store → Prop} (h : s[n]? = some (.lst ((T ++ [v]).map En.e))) : (fPop s (.ref n)).W Q X ↔ Q (En.e v) (s.set n (.lst (T.map En.e))) := by
  rw [wf_pop, h, asL_s]
  simp [asAt]
/-! a picture by any lists -/
def cdf (x : Cel × D) : D := .tup [.int x.1.1, x.2]
structure PicD (s : Store) (a b : D) (rs : List Val) (cs : List (Cel × D)) : Prop where
  hr : SqOf s a (rs.map En.e)
  hc : SqOf s b (cs.map cdf)
  hx : ∀ x ∈ cs, SqOf s x.2 (x.1.2.map En.e)
  r2 : rs.length ≤ 1000
  c2 : cs.length < 64
  s2 : ∀ x ∈ cs, x.1.2.length ≤ 1000
theorem allValS {names : List Int} {l : List Val} {dd : D} {e : Ex} {env : Gm.Env} {s : Store} {Q : D → Store → Prop} {X : Nat → Store → Prop} (hd : SqOf s dd (l.map En.e)) (hl : l.length ≤ 16777216) (hx : (iSeq e env s).W (fun it s' => s' = s ∧ it = .seq dd) X0) (he : ∀ v : Val, ∃ e2, e2 = (wipeE env [6]).set 6 (some (En.e v)) ∧ e2[6]? = some (some (En.e v)) ∧ e2[2]? = some (some (.lst (names.map D.int)))) (hQ : Q (.own (.lst (l.map fun v => D.bl (isVal names v)))) s) :
    (eLc (Tg.nm 6) (iSeq e) tY (eCall f_is_value (aCons (eVar 6) (aCons (eVar 2) aNil))) [6] env s).W Q X := by
  refine w_lcS (s1 := s) (l := l) (enc := En.e) (d := dd) (fun _ => true) (fun v => D.bl (isVal names v)) hd.seq hx hl (fun v hv => ⟨_, tgE_nmE, ?_, fun _ => ?_⟩) ?_
  · simp_arith []
  · obtain ⟨e2, h1, h2, h3⟩ := he v
    rw [← h1]
    simp_arith [h2, h3, isVal_eq]
  · rw [List.filter_eq_self.mpr (fun _ _ => rfl)]; exact hQ
theorem tgE_p2d {i j : Nat} {k : Int} {d : D} {env : Gm.Env} (h : plainD d = true) : tgE (.tp [i, j]) (.tup [.int k, d]) env = some ((env.set i (some (.int k))).set j (some d)) := by
  rfl
theorem isPicD {a b : D} {rs : List Val} {cs : List (Cel × D)} {s : Store} (h : PicD s a b rs cs) : f_is_picture [a, b] s = .ok (.bl (isPicB (rs, cs.map (·.1)))) s := by
  have hr2 := h.r2
  have hc2 := h.c2
  refine w_fnE rfl ?_
  simp_arith [b_is_picture, plain_vr h.hr.pl, plain_fz h.hr.pl, plain_snk h.hr.pl, plain_vr h.hc.pl, plain_fz h.hc.pl, plain_snk h.hc.pl, asK_p h.hr.pl, asK_p h.hc.pl, asR_p h.hr.pl, asR_p h.hc.pl]
  refine w_lcS (s1 := s) (l := cs) (enc := cdf) (d := b) (fun _ => true) (fun x => .int x.1.1) h.hc.seq ?_ (by omega) (fun x hx => ?_) ?_
  · simp_arith [plain_vr h.hc.pl, plain_fz h.hc.pl, plain_snk h.hc.pl, h.hc.seq, asK_p h.hc.pl]
  · refine ⟨_, rfl, ?_, fun _ => ?_⟩
    · simp_arith []
    · simp_arith [wipeE, cdf]
  rw [List.filter_eq_self.mpr (fun _ _ => rfl), show cs.map (fun x : Cel × D => D.int x.1.1) = ((cs.map (·.1)).map (·.1)).map D.int from by simp]
  have hl : ((cs.map (·.1)).map (·.1)).length < 64 := by simpa using hc2
  have hB : isPicB (rs, cs.map (·.1)) = (decide (rs.length = 8) && decide ((cs.map (·.1)).map (·.1) = dedI (sortI ((cs.map (·.1)).map (·.1)))) && (((cs.map (·.1)).map (·.1)).length == 0 || decide (0 ≤ ((cs.map (·.1)).map (·.1)).headD 0)) && (cs.map (·.1)).all (cellB ((cs.map (·.1)).map (·.1))) && rs.all (isVal ((cs.map (·.1)).map (·.1)))) := rfl
  generalize (cs.map (·.1)).map (·.1) = names at hl hB ⊢
  generalize hb : isPicB (rs, cs.map (·.1)) = bb at hB ⊢
  simp_arith [plain_vr h.hr.pl, plain_fz h.hr.pl, plain_snk h.hr.pl, plain_vr h.hc.pl, plain_fz h.hc.pl, plain_snk h.hc.pl, asK_p h.hr.pl, asK_p h.hc.pl, asR_p h.hr.pl, asR_p h.hc.pl, h.hr.len]
  generalize hW : SR.W (Kt _ _ _ _) _ _ (sFor _ _ _ _ _) = W
  have key : bb = ((cs.map (·.1)).all (cellB names) && rs.all (isVal names)) → W := fun hC => by
    rw [← hW]
    refine w_forS (s1 := s) (l := cs) (enc := cdf) (d := b) (fun pre e s' => s' = s ∧ (pre.map (·.1)).all (cellB names) = true ∧ ∃ v3 v4, e = [some a, some b, some (D.lst (List.map D.int names)), v3, v4, none, none]) ?_ ⟨rfl, rfl, _, _, rfl⟩ ?_ h.hc.seq ?_ ?_
    · simp_arith [plain_vr h.hc.pl, plain_fz h.hc.pl, plain_snk h.hc.pl, h.hc.seq, asK_p h.hc.pl]
    · rintro pre e s' ⟨rfl, _⟩
      exact h.hc.seq
    · rintro pre ⟨⟨k, sl⟩, dd⟩ post e s' hl2 ⟨rfl, hp, v3, v4, rfl⟩
      have hm : ((k, sl), dd) ∈ cs := by rw [hl2]; simp
      have hx := h.hx _ hm
      have hs2 := h.s2 _ hm
      simp only at hx hs2
      refine ⟨_, tgE_p2d hx.pl, ?_⟩
      have hc : (!cellB names (k, sl)) = true → bb = false := fun z => by
        rw [hC, hl2]
        simp only [Bool.not_eq_true'] at z
        simp [z]
      simp_arith [e_int, plain_vr hx.pl, plain_fz hx.pl, plain_snk hx.pl, asK_p hx.pl, asR_p hx.pl, hx.len]
      refine ⟨fun h5 => congrArg D.bl (hc ?_).symm, fun h5 => ?_⟩
      · unfold cellB
        rw [decide_eq_false (show ¬ (sl.length ≤ 4) by omega)]; rfl
      · have h4 : sl.length ≤ 4 := by omega
        refine allValS (l := sl) hx (by omega) (by simp_arith [plain_vr hx.pl, plain_fz hx.pl, plain_snk hx.pl, hx.seq, asK_p hx.pl]) (fun v => ⟨_, rfl, rfl, rfl⟩) ?_
        simp_arith []
        cases q : sl.all (isVal names) with
        | true =>
          simp_arith []
          refine ⟨?_, _, _, rfl⟩
          rw [List.map_append, List.all_append, hp]
          simp [cellB, q, h4]
        | false =>
          simp_arith []
          exact congrArg D.bl (hc (by simp [cellB, q])).symm
    · rintro e s' ⟨rfl, hp, v3, v4, rfl⟩
      simp_arith []
      refine allValS (l := rs) h.hr (by omega) (by simp_arith [plain_vr h.hr.pl, plain_fz h.hr.pl, plain_snk h.hr.pl, h.hr.seq, asK_p h.hr.pl]) (fun v => ⟨_, rfl, rfl, rfl⟩) ?_
      simp_arith []
      rw [hC, hp]; rfl
  have h8' : ∀ k : Nat, ((k : Int) = 8) = (k = 8) := fun k => by rw [eq_iff_iff]; omega
  rw [h8']
  refine ⟨fun h8 => ⟨hl, fun hd => ?_, fun hd => by rw [hB]; simp [hd]⟩, fun h8 => by rw [hB]; simp [h8]⟩
  rw [← hd] at hB
  cases names with
  | nil => exact ⟨fun hp => absurd hp (by simp), fun _ => key (by rw [hB]; simp [h8])⟩
  | cons a r => exact ⟨fun _ => ⟨a, atI_0, fun hn => by rw [hB]; simp [show ¬ (0 ≤ a) by omega], fun hn => key (by rw [hB]; simp [h8, show (0 ≤ a) by omega])⟩, fun hz => absurd (show (0 : Int) < ((a :: r).length : Nat) by simp) hz⟩
theorem askD {a b : D} {rs : List Val} {cs : List (Cel × D)} {s : Store} (h : PicD s a b rs cs) (hn : isPicB (rs, cs.map (·.1)) = false) : f_ask_picture [.tup [a, b]] s = .exc 5 s := by
  refine w_fnX rfl ?_
  have e := isPicD h
  rw [hn] at e
  simp_arith [b_ask_picture, plain_vr h.hr.pl, plain_fz h.hr.pl, plain_snk h.hr.pl, plain_vr h.hc.pl, plain_fz h.hc.pl, plain_snk h.hc.pl, asK_p h.hr.pl, asK_p h.hc.pl, asR_p h.hr.pl, asR_p h.hc.pl, e]
section
variable {a b : D} {rs : List Val} {cs : List (Cel × D)} {s : Store} {d2 d3 : D}
theorem liveX (h : PicD s a b rs cs) (hn : isPicB (rs, cs.map (·.1)) = false) : f_live [.tup [a, b]] s = .exc 5 s := by
  refine w_fnX rfl ?_
  simp_arith [b_live, askD h hn]
theorem lpartX (h : PicD s a b rs cs) (hn : isPicB (rs, cs.map (·.1)) = false) : f_live_part [.tup [a, b]] s = .exc 5 s := by
  refine w_fnX rfl ?_
  simp_arith [b_live_part, askD h hn]
theorem wayX (h : PicD s a b rs cs) (hn : isPicB (rs, cs.map (·.1)) = false) : f_way_to [.tup [a, b], d2] s = .exc 5 s := by
  refine w_fnX rfl ?_
  simp_arith [b_way_to, askD h hn]
theorem leadsX (h : PicD s a b rs cs) (hn : isPicB (rs, cs.map (·.1)) = false) : f_leads [.tup [a, b], d2] s = .exc 5 s := by
  refine w_fnX rfl ?_
  simp_arith [b_leads, askD h hn]
theorem wordsX (h : PicD s a b rs cs) (hn : isPicB (rs, cs.map (·.1)) = false) : f_words_of [.tup [a, b], d2] s = .exc 5 s := by
  refine w_fnX rfl ?_
  simp_arith [b_words_of, askD h hn]
theorem closedX (h : PicD s a b rs cs) (hn : isPicB (rs, cs.map (·.1)) = false) : f_is_closed [.tup [a, b], d2] s = .exc 5 s := by
  refine w_fnX rfl ?_
  simp_arith [b_is_closed, askD h hn]
theorem reasonsX (h : PicD s a b rs cs) (hn : isPicB (rs, cs.map (·.1)) = false) : f_reasons [.tup [a, b]] s = .exc 5 s := by
  refine w_fnX rfl ?_
  simp_arith [b_reasons, askD h hn]
theorem holdX (h : PicD s a b rs cs) (hn : isPicB (rs, cs.map (·.1)) = false) : f_reasons_hold [.tup [a, b], d2] s = .exc 5 s := by
  refine w_fnX rfl ?_
  simp_arith [b_reasons_hold, askD h hn]
theorem paperX (h : PicD s a b rs cs) (hn : isPicB (rs, cs.map (·.1)) = false) : f_is_paper [.tup [a, b], d2, d3] s = .exc 5 s := by
  refine w_fnX rfl ?_
  simp_arith [b_is_paper, askD h hn]
theorem paperOfX (h : PicD s a b rs cs) (hn : isPicB (rs, cs.map (·.1)) = false) : f_paper_of [.tup [a, b]] s = .exc 5 s := by
  refine w_fnX rfl ?_
  simp_arith [b_paper_of, reasonsX h hn]
end
end Lw

set_option Elab.async false
set_option linter.all false
set_option maxRecDepth 100000
set_option autoImplicit false
set_option maxHeartbeats 1000000
namespace Lw
open PySem L2 Gm
local macro_rules | `(tactic| walk_at "ev") => `(tactic| try simp only [eOp2, eOp1, eVar, eC, tq, tNotX, tAndX, tOrX, eAnd, eOr, eNot, eIf, aNil, aCons, snk, Gm.fz, eTup, eLst, eCall, oNo, oSo, eSl, iSeq, seqD, dr, tgE, setsE, Option.map_some, List.getElem?_cons_zero, List.getElem?_cons_succ, List.set_cons_zero, List.set_cons_succ, List.length_cons, List.length_nil, Nat.reduceAdd, Nat.reduceLeDiff, if_true, Int.reduceNeg,
  fAdd_i, fSub_i, fLt_i, fLe_i, fGt_i, fGe_i, fNeg_i, fMax_i, fMin_i, fEq_i, fNe_i, fEq_b, fIsN_i, fIsN_n, fNotN_i, fNotN_n, fIsN_t, fNotN_t, fNotB_b, fIsB_b, fLen_l, fLen_t, fLen_b, fLen_s, fIx_p0, fIx_p1, Bool.not_true, Bool.not_false, decide_true, decide_false])
local macro_rules | `(tactic| simp_arith [$ls,*]) => `(tactic| simp (maxSteps := 4000000) (disch := (first | omega | (simp only [List.length_append, List.length_set, List.length_cons, List.length_nil, List.length_map]; done) | (simp only [List.length_append, List.length_set, List.length_cons, List.length_nil, List.length_map]; omega))) only [↓we_op2, ↓we_op1, ↓we_C, ↓we_dct0, ↓we_tY, ↓we_tq, ↓we_notX, ↓wz_andX, ↓wz_orX, ↓wz_and, ↓wz_or, ↓we_not, ↓wz_eif, ↓we_aNil, ↓we_aCons, ↓we_tup, ↓we_lst, ↓we_call, ↓we_oNo, ↓we_oSo, ↓we_sl, ↓we_meth, ↓we_lele, ↓we_lelt, ↓wi_seq, ↓wi_rng1, ↓wi_rng2, ↓ws_seq, ↓Kt_eq, ↓ws_nil, ↓ws_ex, ↓ws_set, ↓ws_setF, ↓asE_s, ↓ws_setT, ↓wz_if, ↓ws_ret, ↓ws_retN, ↓ws_retV, ↓ws_raise, ↓ws_pre, ↓ws_ad, ↓ws_app, ↓wq_ext, ↓ws_sub, ↓ws_rev, ↓ws_dp,
  ↓we_ad, ↓ws_tryAs, ↓ws_tryM, trW_nil, trW_cons, ↓we_isX, ↓we_callX, exq_s, trC_t, trC_f, noX_0, noX_no, noX_i, noX_b, noX_n, noX_s, noX_t, noX_l, noX_d, noX_r, noX_o, noX_c, noX_e, isx_s, adO_t, adO_i, adO_b, adO_n, adO_st, adO_l, ↓ws_par, ↓ws_subE, ↓we_meth2, ↓ws_fldX, ↓we_methC, ↓we_make, ↓ws_dpE, ↓we_dpop, adR_o, adR_r, asRf_r, liO_app, liO_ext, liO_set, insO_s, asN_n, asD_s, wf_liA, wf_liE, wf_ins, wf_fld, wf_isiC, wf_intB, wf_intI, wf_absI, snk_i, snk_b, snk_n, snk_s, snk_t, snk_l, snk_d, snk_r, drM_r, setsE_2, asE_s, List.getElem?_append_left, List.getElem?_set_ne, List.length_set, List.length_append, wf_sortP, wf_rngL, eVar_eq, vrO_s, R.W_ok, R.W_exc, R.W_no, R.W_ite, List.getElem?_cons_zero, List.getElem?_cons_succ, List.set_cons_zero, List.set_cons_succ, vr_i, vr_b, vr_n, vr_s, vr_t, vr_l, vr_c, vr_d, vr_r, vr_o, vr_e, fz_i, fz_b, fz_n, fz_s, fz_t, fz_l, fz_c, fz_d, fz_r, fz_bo, fz_ol, fz_od, fz_e, asK_i, asK_b, asK_n, asK_s, asK_t, asK_l, asK_c, asK_d, asK_r, asK_ol, asK_od, asK_e, asR_i, asR_b, asR_n, asR_s, asR_t, asR_l, asR_c, asR_d, asR_r, asR_o, asR_e, asB_b, asI_i, rvO_i, rvO_b, rvO_n, rvO_s, rvO_t, rvO_l, rvO_c, rvO_d, rvO_r, rvO_o, rvO_e,
  muO_app, muO_rev, muO_ext, muO_seti, muO_ref, rfO_app, rfO_ext, rfO_seti, rfO_rev, isLO_own, isLO_ref, isLr_s, asL_s, duO_own, duO_ref, rdO_s, isDO_own, isDO_ref, isDr_s, asKy_i, asKy_s, gFz_1, gFz_2, fzO_o, fzO_l, fzO_d, fzO_r, fzO_i, fzO_b, fzO_t, fzO_n, fzO_z, adK_eq, adO_o, adO_r,
  aT_t, aT_f, aTz_t, aTz_f, aTz_d, aTz_n, aTz_and, aTz_or, aT_d, aT_n, aT_and, aT_or, fAdd_i, fSub_i, fLt_i, fLe_i, fGt_i, fGe_i, fNeg_i, fMax_i, fMin_i, xEq_i, xNe_i, xEq_b, xNe_b, xEq_ni, xEq_in, xEq_nn, xNe_ni, xNe_in, xNe_nn, fIsN_i, fIsN_n, fNotN_i, fNotN_n, fIsN_t, fNotN_t, fNotN_r, fNotN_l, fIsN_r, fIsN_l, fNotB_b, fIsB_b, fLen_l, fLen_t, fLen_b, fLen_s, fIsi_bb, fIsi_ib, fIsi_bi, fIsi_ii, fIsi_ll, fIsi_bl, fIsi_tt, rOk_eq,
  wf_mod, wf_div, wf_mul, cMul_eq, wf_pow, asAt_s, wf_ixL, wf_ixB, wf_ixT, wf_ixR, atI_0, atI_1, atI_2, atI_3, Int.add_zero, Int.reduceAdd, Int.reduceEq, Int.reduceMod, wf_lenR, wf_lenS, wf_addS, wf_addL, wf_addBL, wf_addLB, wf_addRL, wf_repL, wf_slL, wf_slB, wf_slR, wf_listL, wf_listB, wf_listR, wf_pop, wg_dgD, wg_dgB, wg_dinD, wg_dinB, putD_dic, putD_dicB, putD_dicI, putD_dicL, List.getElem?_set_self, dic_len, dic_keys, wf_sumI, wf_allB, wf_sorted, wf_sortSet, wf_listD, wf_listDB, seqD_l', seqD_t', seqD_c', drM_l, drM_b, isLD_r, fIn_i, fIn_n, fEq_li, fNe_li, exEq, exEq', exEq1, wf_allBg, wf_sumIg,
  Bool.not_true, Bool.not_false, decide_true, decide_false, true_and, and_true, if_true, if_false, Bool.false_eq_true, true_implies, List.length_cons, List.length_nil, Nat.reduceAdd, Nat.reduceLeDiff, Int.reduceNeg, Int.reduceLT, Int.reduceLE, Nat.reduceLT, List.map_cons, List.map_nil, List.cons_append, List.nil_append, List.append_nil, Nat.reduceSub, List.replicate, List.length_map, at_map, Int.zero_add, Int.toNat_natCast, eq_self, not_true_eq_false, not_false_eq_true, false_implies, implies_true, reduceCtorEq, and_self, false_and, and_false, Int.reduceToNat, $ls,*])
local macro_rules | `(tactic| simp_all_arith [$ls,*]) => `(tactic| simp (maxSteps := 4000000) (disch := (first | omega | (simp only [List.length_append, List.length_set, List.length_cons, List.length_nil, List.length_map]; done) | (simp only [List.length_append, List.length_set, List.length_cons, List.length_nil, List.length_map]; omega))) only [↓we_op2, ↓we_op1, ↓we_C, ↓we_dct0, ↓we_tY, ↓we_tq, ↓we_notX, ↓wz_andX, ↓wz_orX, ↓wz_and, ↓wz_or, ↓we_not, ↓we_aNil, ↓we_aCons, ↓we_tup, ↓we_lst, ↓we_call, ↓we_oNo, ↓we_oSo, ↓we_sl, ↓we_meth, ↓we_lele, ↓we_lelt, ↓wi_seq, ↓wi_rng1, ↓wi_rng2, ↓ws_seq, ↓Kt_eq, ↓ws_nil, ↓ws_ex, ↓ws_set, ↓ws_setF, ↓asE_s, ↓ws_setT, ↓ws_ret, ↓ws_retN, ↓ws_retV, ↓ws_raise, ↓ws_pre, ↓ws_ad, ↓ws_app, ↓wq_ext, ↓ws_sub, ↓ws_rev, ↓ws_dp,
  ↓we_ad, ↓ws_tryAs, ↓ws_tryM, trW_nil, trW_cons, ↓we_isX, ↓we_callX, exq_s, trC_t, trC_f, noX_0, noX_no, noX_i, noX_b, noX_n, noX_s, noX_t, noX_l, noX_d, noX_r, noX_o, noX_c, noX_e, isx_s, adO_t, adO_i, adO_b, adO_n, adO_st, adO_l, ↓ws_par, ↓ws_subE, ↓we_meth2, ↓ws_fldX, ↓we_methC, ↓we_make, ↓ws_dpE, ↓we_dpop, adR_o, adR_r, asRf_r, liO_app, liO_ext, liO_set, insO_s, asN_n, asD_s, wf_liA, wf_liE, wf_ins, wf_fld, wf_isiC, wf_intB, wf_intI, wf_absI, snk_i, snk_b, snk_n, snk_s, snk_t, snk_l, snk_d, snk_r, drM_r, setsE_2, asE_s, List.getElem?_append_left, List.getElem?_set_ne, List.length_set, List.length_append, wf_sortP, wf_rngL, eVar_eq, vrO_s, R.W_ok, R.W_exc, R.W_no, R.W_ite, List.getElem?_cons_zero, List.getElem?_cons_succ, List.set_cons_zero, List.set_cons_succ, vr_i, vr_b, vr_n, vr_s, vr_t, vr_l, vr_c, vr_d, vr_r, vr_o, vr_e, fz_i, fz_b, fz_n, fz_s, fz_t, fz_l, fz_c, fz_d, fz_r, fz_bo, fz_ol, fz_od, fz_e, asK_i, asK_b, asK_n, asK_s, asK_t, asK_l, asK_c, asK_d, asK_r, asK_ol, asK_od, asK_e, asR_i, asR_b, asR_n, asR_s, asR_t, asR_l, asR_c, asR_d, asR_r, asR_o, asR_e, asB_b, asI_i, rvO_i, rvO_b, rvO_n, rvO_s, rvO_t, rvO_l, rvO_c, rvO_d, rvO_r, rvO_o, rvO_e,
  muO_app, muO_rev, muO_ext, muO_seti, muO_ref, rfO_app, rfO_ext, rfO_seti, rfO_rev, isLO_own, isLO_ref, isLr_s, asL_s, duO_own, duO_ref, rdO_s, isDO_own, isDO_ref, isDr_s, asKy_i, asKy_s, gFz_1, gFz_2, fzO_o, fzO_l, fzO_d, fzO_r, fzO_i, fzO_b, fzO_t, fzO_n, fzO_z, adK_eq, adO_o, adO_r,
  aT_t, aT_f, aTz_t, aTz_f, aTz_d, aTz_n, aTz_and, aTz_or, aT_d, aT_n, aT_and, aT_or, fAdd_i, fSub_i, fLt_i, fLe_i, fGt_i, fGe_i, fNeg_i, fMax_i, fMin_i, xEq_i, xNe_i, xEq_b, xNe_b, xEq_ni, xEq_in, xEq_nn, xNe_ni, xNe_in, xNe_nn, fIsN_i, fIsN_n, fNotN_i, fNotN_n, fIsN_t, fNotN_t, fNotN_r, fNotN_l, fIsN_r, fIsN_l, fNotB_b, fIsB_b, fLen_l, fLen_t, fLen_b, fLen_s, fIsi_bb, fIsi_ib, fIsi_bi, fIsi_ii, fIsi_ll, fIsi_bl, fIsi_tt, rOk_eq,
  wf_mod, wf_div, wf_mul, cMul_eq, wf_pow, asAt_s, wf_ixL, wf_ixB, wf_ixT, wf_ixR, atI_0, atI_1, atI_2, atI_3, Int.add_zero, Int.reduceAdd, Int.reduceEq, Int.reduceMod, wf_lenR, wf_lenS, wf_addS, wf_addL, wf_addBL, wf_addLB, wf_addRL, wf_repL, wf_slL, wf_slB, wf_slR, wf_listL, wf_listB, wf_listR, wf_pop, wg_dgD, wg_dgB, wg_dinD, wg_dinB, putD_dic, putD_dicB, putD_dicI, putD_dicL, List.getElem?_set_self, dic_len, dic_keys, wf_sumI, wf_allB, wf_sorted, wf_sortSet, wf_listD, wf_listDB, seqD_l', seqD_t', seqD_c', drM_l, drM_b, isLD_r, fIn_i, fIn_n, fEq_li, fNe_li, exEq, exEq', exEq1, wf_allBg, wf_sumIg,
  Bool.not_true, Bool.not_false, decide_true, decide_false, true_and, and_true, if_true, if_false, Bool.false_eq_true, true_implies, List.length_cons, List.length_nil, Nat.reduceAdd, Nat.reduceLeDiff, Int.reduceNeg, Int.reduceLT, Int.reduceLE, Nat.reduceLT, List.map_cons, List.map_nil, List.cons_append, List.nil_append, List.append_nil, Nat.reduceSub, List.replicate, List.length_map, at_map, Int.zero_add, Int.toNat_natCast, eq_self, not_true_eq_false, not_false_eq_true, false_implies, implies_true, reduceCtorEq, and_self, false_and, and_false, Int.reduceToNat, $ls,*])
theorem fEq_refl {d : D} {s : Store} (h : dOk 9 d = true) : fEq s d d = .ok (.bl true) s := by
  rw [fEq_of h h, eqv_self _ (toPy_of s 9 d h).2]
theorem fNe_refl {d : D} {s : Store} (h : dOk 9 d = true) : fNe s d d = .ok (.bl false) s := by
  rw [fNe_of h h, eqv_self _ (toPy_of s 9 d h).2]; rfl
theorem dOkL_all {n : Nat} : ∀ {l : List D}, (∀ x ∈ l, dOk n x = true) → dOkL n l = true
  | [], _ => by unfold dOkL; rfl
  | a :: r, h => by
    unfold dOkL
    rw [h a (List.mem_cons_self ..), dOkL_all fun x hx => h x (List.mem_cons_of_mem _ hx)]; rfl
theorem tgE_rr {i j a b : Nat} {env : Gm.Env} : tgE (.tp [i, j]) (.tup [.ref a, .ref b]) env = some ((env.set i (some (.ref a))).set j (some (.ref b))) := rfl
theorem doneX {a b : D} {rs : List Val} {cs : List (Cel × D)} {s : Store} (h : PicD s a b rs cs) (hn : isPicB (rs, cs.map (·.1)) = false) {c i : Int} (h0 : 0 ≤ i) (hi : i < 10) : f__law_done [.int i, .tup [a, b], .int c] s = .exc 5 s := by
  refine w_fnX rfl ?_
  have : i = 0 ∨ i = 1 ∨ i = 2 ∨ i = 3 ∨ i = 4 ∨ i = 5 ∨ i = 6 ∨ i = 7 ∨ i = 8 ∨ i = 9 := by omega
  rcases this with rfl | rfl | rfl | rfl | rfl | rfl | rfl | rfl | rfl | rfl
  all_goals simp_arith [b__law_done, liveX h hn, lpartX h hn, wayX h hn, leadsX h hn, wordsX h hn, closedX h hn, reasonsX h hn, holdX h hn, paperX h hn, paperOfX h hn]
theorem othersX {s : Store} : f__law_others_X 5 [.exn] s = .ok (.own (.lst (List.replicate 14 (D.bl false)))) s := by
  refine w_fnE rfl ?_
  simp_arith [b__law_others_X]
def cdR (x : Crf) : Cel × D := (x.1, .ref x.2)
theorem cdR_map {cs : List Crf} : (cs.map cdR).map cdf = cs.map crf := by rw [List.map_map]; rfl
theorem cdR_fst {cs : List Crf} : (cs.map cdR).map (·.1) = cs.map (·.1) := by rw [List.map_map]; rfl
theorem PicR.ext {s s2 : Store} {r c : Nat} {rs rs2 : List Val} {cs : List Crf} (a : PicR s r c rs cs 0) {cs2 : List (Cel × D)} (hr : s2[r]? = some (.lst (rs2.map En.e))) (hrl : rs2.length ≤ 1000) (hc : s2[c]? = some (.lst (cs2.map cdf))) (hx : ∀ x ∈ cs, s2[x.2]? = s[x.2]?) (hm : ∀ x ∈ cs2, x ∈ cs.map cdR ∨ (SqOf s2 x.2 (x.1.2.map En.e) ∧ x.1.2.length ≤ 1000)) (hl : cs2.length < 64) : PicD s2 (.ref r) (.ref c) rs2 cs2 := by
  refine ⟨.inr ⟨r, rfl, hr⟩, .inr ⟨c, rfl, hc⟩, fun x h => ?_, hrl, hl, fun x h => ?_⟩
  · rcases hm x h with z | z
    · obtain ⟨y, hy, rfl⟩ := List.mem_map.mp z
      exact .inr ⟨y.2, rfl, by rw [hx y hy]; exact (a.hx y hy).1⟩
    · exact z.1
  · rcases hm x h with z | z
    · obtain ⟨y, hy, rfl⟩ := List.mem_map.mp z
      have := a.s2 y hy
      simp only [cdR]; omega
    · exact z.2
theorem badG {p : Pic} (h : ¬ GoodP p) : isPicB p = false := by rw [Bool.eq_false_iff]; exact fun q => h (goodP_iff.mp q)
theorem badR {s : Store} {r c : Nat} {rs : List Val} {cs : List Crf} {cell : Int} (a : PicR s r c rs cs 0) (hlt : ∀ x ∈ cs, x.1.1 < 30) : ∃ rs' cs' s', f__law_bad [.tup [.ref r, .ref c], .int cell] s = .ok (.tup [.ref r, .ref c]) s' ∧ PicD s' (.ref r) (.ref c) rs' cs' ∧ isPicB (rs', cs'.map (·.1)) = false := by
  have key : (f__law_bad [.tup [.ref r, .ref c], .int cell] s).W (fun d s' => ∃ rs' cs', d = .tup [.ref r, .ref c] ∧ PicD s' (.ref r) (.ref c) rs' cs' ∧ isPicB (rs', cs'.map (·.1)) = false) X0 := by
    refine w_fnW rfl ?_
    have hr8 : rs.length = 8 := by have := a.r1; have := a.r2; omega
    have c6 := a.c2
    have hp : Int.natAbs 10 < 18446744073709551616 := by decide
    have p0 : (0 : Int) < 10 ^ 40 := by decide
    have f0 : ∀ x : Int, 0 ≤ x % 10 ^ 40 := fun x => Int.emod_nonneg _ (by omega)
    have lr := (List.getElem?_eq_some_iff.mp a.hr).1
    have lc := (List.getElem?_eq_some_iff.mp a.hc).1
    have ar := a.hr
    have ac := a.hc
    have ne := a.ne
    have hw : cell % 6 = 0 ∨ cell % 6 = 1 ∨ cell % 6 = 2 ∨ cell % 6 = 3 ∨ cell % 6 = 4 ∨ cell % 6 = 5 := by omega
    rcases hw with e | e | e | e | e | e
    · simp_arith [b__law_bad, tgE_rr, e, hp, p0, ar, ac]
      obtain ⟨j, hj⟩ : ∃ j : Nat, cell / 6 % 8 = j := ⟨(cell / 6 % 8).toNat, by omega⟩
      rw [hj]
      have hj8 : j < rs.length := by omega
      refine ⟨j, by unfold ixN; rw [if_pos (by omega), if_pos (by omega)]; simp, rs.set j (.at_ (30 + cell / 48 % 10 ^ 40)), cs.map cdR, ?_, badG fun g => ?_⟩
      · refine a.ext (by rw [List.getElem?_set_self lr, List.map_set]; rfl) (by simp; omega) (by rw [List.getElem?_set_ne ne, cdR_map]; exact ac) (fun x hx => List.getElem?_set_ne (Ne.symm (a.hx x hx).2.1)) (fun x hx => .inl hx) (by simp; omega)
      · have h1 := g.rv (.at_ (30 + cell / 48 % 10 ^ 40)) (List.mem_of_getElem? (i := j) (by simp [hj8]))
        have h2 := of_decide_eq_true h1
        unfold Pic.ns at h2
        simp only [cdR_fst] at h2
        obtain ⟨y, hy, e3⟩ := List.mem_map.mp h2
        obtain ⟨z, hz, rfl⟩ := List.mem_map.mp hy
        have := hlt z hz
        have := f0 (cell / 48)
        omega
    · simp_arith [b__law_bad, tgE_rr, e, hp, p0, ar, ac]
      have hq : (rs.map (En.e : Val → D))[rs.length - 1]? = some (En.e (rs[rs.length - 1]'(by omega))) := by simp [show rs.length - 1 < rs.length by omega]
      rw [hq]
      refine asAt_s.mpr ⟨rs.dropLast, cs.map cdR, ?_, badG fun g => ?_⟩
      · refine a.ext (by rw [List.getElem?_set_self lr, List.map_dropLast]) (by simp; omega) (by rw [List.getElem?_set_ne ne, cdR_map]; exact ac) (fun x hx => List.getElem?_set_ne (Ne.symm (a.hx x hx).2.1)) (fun x hx => .inl hx) (by simp; omega)
      · have := g.r8
        simp at this
        omega
    · simp_arith [b__law_bad, tgE_rr, e, hp, p0, ar, ac]
      refine ⟨by omega, rs ++ [.non], cs.map cdR, ?_, badG fun g => ?_⟩
      · refine a.ext (by rw [List.getElem?_set_self lr, List.map_append]; rfl) (by simp; omega) (by rw [List.getElem?_set_ne ne, cdR_map]; exact ac) (fun x hx => List.getElem?_set_ne (Ne.symm (a.hx x hx).2.1)) (fun x hx => .inl hx) (by simp; omega)
      · have := g.r8
        simp at this
        omega
    · simp_arith [b__law_bad, tgE_rr, e, hp, p0, ar, ac]
      refine ⟨by omega, by omega, rs, cs.map cdR ++ [((40, List.replicate 5 .non), .lst (List.replicate 5 .non))], ?_, badG fun g => ?_⟩
      · refine a.ext (by rw [List.getElem?_set_ne (Ne.symm ne)]; exact ar) (by omega) (by rw [List.getElem?_set_self lc, List.map_append, cdR_map]; rfl) (fun x hx => List.getElem?_set_ne (Ne.symm (a.hx x hx).2.2)) (fun x hx => ?_) (by simp; omega)
        rcases List.mem_append.mp hx with z | z
        · exact .inl z
        · rw [List.mem_singleton] at z
          subst z
          exact .inr ⟨.inl rfl, by simp⟩
      · have := g.s4 (40, List.replicate 5 .non) (by simp)
        simp at this
    · simp_arith [b__law_bad, tgE_rr, e, hp, p0, ar, ac]
      have l1 : c < (s ++ [O.lst []]).length := by simp; omega
      refine ⟨by omega, rs, ((-1 - cell / 6 % 10 ^ 40, []), .ref s.length) :: cs.map cdR, ?_, badG fun g => ?_⟩
      · refine a.ext (by rw [List.getElem?_set_ne (Ne.symm ne), List.getElem?_append_left lr]; exact ar) (by omega) (by rw [List.getElem?_set_self l1, List.map_cons, cdR_map]; rfl) (fun x hx => ?_) (fun x hx => ?_) (by simp; omega)
        · obtain ⟨x1, x2, x3⟩ := a.hx x hx
          rw [List.getElem?_set_ne (Ne.symm x3), List.getElem?_append_left (List.getElem?_eq_some_iff.mp x1).1]
        · rcases List.mem_cons.mp hx with z | z
          · subst z
            exact .inr ⟨.inr ⟨_, rfl, by rw [List.getElem?_set_ne (by omega)]; simp⟩, by simp⟩
          · exact .inl z
      · have := g.n0 (-1 - cell / 6 % 10 ^ 40) (by simp [Pic.ns])
        have := f0 (cell / 6)
        omega
    · simp_arith [b__law_bad, tgE_rr, e, hp, p0, ar, ac]
      have l1 : c < (s ++ [O.lst []] ++ [O.lst []]).length := by simp; omega
      refine ⟨by omega, rs, cs.map cdR ++ [((50, []), .ref s.length), ((50, []), .ref (s.length + 1))], ?_, badG fun g => ?_⟩
      · refine a.ext (by rw [List.getElem?_set_ne (Ne.symm ne), List.append_assoc, List.getElem?_append_left lr]; exact ar) (by omega) (by rw [List.getElem?_set_self l1, List.map_append, cdR_map]; rfl) (fun x hx => ?_) (fun x hx => ?_) (by simp; omega)
        · obtain ⟨x1, x2, x3⟩ := a.hx x hx
          rw [List.getElem?_set_ne (Ne.symm x3), List.append_assoc, List.getElem?_append_left (List.getElem?_eq_some_iff.mp x1).1]
        · rcases List.mem_append.mp hx with z | z
          · exact .inl z
          · simp only [List.mem_cons, List.mem_nil_iff, or_false] at z
            rcases z with rfl | rfl
            · exact .inr ⟨.inr ⟨_, rfl, by rw [List.getElem?_set_ne (by omega)]; simp⟩, by simp⟩
            · exact .inr ⟨.inr ⟨_, rfl, by rw [List.getElem?_set_ne (by omega)]; simp⟩, by simp⟩
      · have := g.up
        unfold Pic.ns at this
        simp only [List.map_append, List.map_cons, List.map_nil] at this
        have h2 := (List.pairwise_append.mp this).2.1
        simp at h2
  obtain ⟨d, s', e, rs', cs', rfl, h⟩ := key.eq
  exact ⟨rs', cs', s', e, h⟩
theorem main (ns : List Int) (hn : ns.length ≤ 63) : ∃ s', f_law [.scr ns] [] = .ok (.bl true) s' := by
  have key : (f_law [.scr ns] []).W (fun d s' => d = .bl true) X0 := by
    generalize ([] : Store) = s
    refine w_fnW rfl ?_
    obtain ⟨r, c, rs, cs, s1, e1, a, hlt⟩ := drawnR (ns := ns) (a := 0) (s := s) (by omega)
    obtain ⟨rs2, cs2, s2, e2, h, hf⟩ := badR (cell := cellAt ns 9) a hlt
    have dF : dOk 9 (.lst (List.replicate 14 (D.bl false))) = true := by
      unfold dOk
      refine dOkL_all fun x hx => ?_
      rw [List.eq_of_mem_replicate hx]
      unfold dOk; rfl
    have hE : fEq s2 (.lst [D.bl false, D.bl false, D.bl false, D.bl false, D.bl false, D.bl false, D.bl false, D.bl false, D.bl false, D.bl false, D.bl false, D.bl false, D.bl false, D.bl false]) (.lst [[D.bl false], [D.bl false], [D.bl false], [D.bl false], [D.bl false], [D.bl false], [D.bl false], [D.bl false], [D.bl false], [D.bl false], [D.bl false], [D.bl false], [D.bl false], [D.bl false]].flatten) = .ok (.bl true) s2 := fEq_refl dF
    simp_all_arith [b_law, e1, cell_eq, e2]
    refine w_forN (s1 := s2) (n := 10) (lo := 0) (fun i e s' => s' = s2 ∧ ∃ v2 v3, e = [some (.scr ns), some (.tup [.ref r, .ref c]), v2, v3, none]) ?_ ⟨rfl, none, none, rfl⟩ ?_ ?_
    · simp_arith []
    · rintro i e s' hi ⟨rfl, v2, v3, rfl⟩
      have ed := fun c => doneX h hf (c := c) (i := (i : Int)) (by omega) (by omega)
      simp_arith [cell_eq, ed, othersX, hE]
      exact ⟨by omega, _, _, rfl⟩
    · rintro e s' ⟨rfl, v2, v3, rfl⟩
      simp_arith []
  obtain ⟨d, s', e, rfl⟩ := key.eq
  exact ⟨s', e⟩
end Lw

set_option Elab.async false
set_option linter.all false
set_option maxRecDepth 100000
set_option autoImplicit false
set_option maxHeartbeats 0
namespace Lw
open PySem PySem.Spec PyProof.Rows L2 Gm
def top (i : Nat) : Stmt := PySem.Challenge.pw_gleanyard_k09_pictures_refused.main.body.getD i (.Pass ⟨0, 0, 0, 0⟩)
def acls (K : PySem.W.Frag) : Nat → Addr
  | 0 => He.ga K "YardError"
  | 1 => He.ga K "NoKind"
  | 2 => He.ga K "NoRoom"
  | 3 => He.ga K "NoDeed"
  | 4 => He.ga K "NoProgram"
  | 5 => He.ga K "NoPicture"
  | 6 => He.ga K "NoValue"
  | 7 => He.ga K "NoWay"
  | 8 => He.ga K "NoRoot"
  | 9 => He.ga K "NoSize"
  | 10 => He.ga K "NoNumber"
  | 11 => He.ga K "NoCell"
  | 12 => He.ga K "NoSlot"
  | 13 => He.ga K "NoSteps"
  | 14 => He.ga K "Full"
  | 15 => He.ga K "NoNote"
  | _ => 0
abbrev st_led_to : Stmt := top 24
abbrev n_led_to : List Str := ["value"]
theorem sc_led_to : FnScope n_led_to ["value"] (defScope st_led_to) := ⟨rfl, rfl, rfl, by decide +kernel, rfl, by decide +kernel, by decide +kernel⟩
def d_led_to : He.DefD := ⟨("led_to", none), "led_to", "led_to", defArgs st_led_to, defBody st_led_to, defScope st_led_to, [], []⟩
abbrev st_ways_in : Stmt := top 25
abbrev n_ways_in : List Str := ["picture", "slots_of", "ways", "row", "k", "name", "at", "slots"]
theorem sc_ways_in : FnScope n_ways_in ["picture"] (defScope st_ways_in) := ⟨rfl, rfl, rfl, by decide +kernel, rfl, by decide +kernel, by decide +kernel⟩
def d_ways_in : He.DefD := ⟨("ways_in", none), "ways_in", "ways_in", defArgs st_ways_in, defBody st_ways_in, defScope st_ways_in, [], []⟩
abbrev st_is_value : Stmt := top 21
abbrev n_is_value : List Str := ["value", "names"]
theorem sc_is_value : FnScope n_is_value ["value", "names"] (defScope st_is_value) := ⟨rfl, rfl, rfl, by decide +kernel, rfl, by decide +kernel, by decide +kernel⟩
def d_is_value : He.DefD := ⟨("is_value", none), "is_value", "is_value", defArgs st_is_value, defBody st_is_value, defScope st_is_value, [], []⟩
abbrev st_is_picture : Stmt := top 22
abbrev n_is_picture : List Str := ["roots", "cells", "names", "name", "slots", "cell", "value"]
theorem sc_is_picture : FnScope n_is_picture ["roots", "cells"] (defScope st_is_picture) := ⟨rfl, rfl, rfl, by decide +kernel, rfl, by decide +kernel, by decide +kernel⟩
def d_is_picture : He.DefD := ⟨("is_picture", none), "is_picture", "is_picture", defArgs st_is_picture, defBody st_is_picture, defScope st_is_picture, [], []⟩
abbrev st_ask_picture : Stmt := top 23
abbrev n_ask_picture : List Str := ["picture"]
theorem sc_ask_picture : FnScope n_ask_picture ["picture"] (defScope st_ask_picture) := ⟨rfl, rfl, rfl, by decide +kernel, rfl, by decide +kernel, by decide +kernel⟩
def d_ask_picture : He.DefD := ⟨("ask_picture", none), "ask_picture", "ask_picture", defArgs st_ask_picture, defBody st_ask_picture, defScope st_ask_picture, [], []⟩
abbrev st_live : Stmt := top 26
abbrev n_live : List Str := ["picture"]
theorem sc_live : FnScope n_live ["picture"] (defScope st_live) := ⟨rfl, rfl, rfl, by decide +kernel, rfl, by decide +kernel, by decide +kernel⟩
def d_live : He.DefD := ⟨("live", none), "live", "live", defArgs st_live, defBody st_live, defScope st_live, [], []⟩
abbrev st_live_part : Stmt := top 27
abbrev n_live_part : List Str := ["picture", "ways", "cells", "name", "slots"]
theorem sc_live_part : FnScope n_live_part ["picture"] (defScope st_live_part) := ⟨rfl, rfl, rfl, by decide +kernel, rfl, by decide +kernel, by decide +kernel⟩
def d_live_part : He.DefD := ⟨("live_part", none), "live_part", "live_part", defArgs st_live_part, defBody st_live_part, defScope st_live_part, [], []⟩
abbrev st_way_to : Stmt := top 28
abbrev n_way_to : List Str := ["picture", "name", "ways"]
theorem sc_way_to : FnScope n_way_to ["picture", "name"] (defScope st_way_to) := ⟨rfl, rfl, rfl, by decide +kernel, rfl, by decide +kernel, by decide +kernel⟩
def d_way_to : He.DefD := ⟨("way_to", none), "way_to", "way_to", defArgs st_way_to, defBody st_way_to, defScope st_way_to, [], []⟩
abbrev st_leads : Stmt := top 29
abbrev n_leads : List Str := ["picture", "way", "slots_of", "name", "slot"]
theorem sc_leads : FnScope n_leads ["picture", "way"] (defScope st_leads) := ⟨rfl, rfl, rfl, by decide +kernel, rfl, by decide +kernel, by decide +kernel⟩
def d_leads : He.DefD := ⟨("leads", none), "leads", "leads", defArgs st_leads, defBody st_leads, defScope st_leads, [], []⟩
abbrev st_words_of : Stmt := top 30
abbrev n_words_of : List Str := ["picture", "names", "name", "slots"]
theorem sc_words_of : FnScope n_words_of ["picture", "names"] (defScope st_words_of) := ⟨rfl, rfl, rfl, by decide +kernel, rfl, by decide +kernel, by decide +kernel⟩
def d_words_of : He.DefD := ⟨("words_of", none), "words_of", "words_of", defArgs st_words_of, defBody st_words_of, defScope st_words_of, [], []⟩
abbrev st_is_closed : Stmt := top 32
abbrev n_is_closed : List Str := ["picture", "names", "value", "name", "slots"]
theorem sc_is_closed : FnScope n_is_closed ["picture", "names"] (defScope st_is_closed) := ⟨rfl, rfl, rfl, by decide +kernel, rfl, by decide +kernel, by decide +kernel⟩
def d_is_closed : He.DefD := ⟨("is_closed", none), "is_closed", "is_closed", defArgs st_is_closed, defBody st_is_closed, defScope st_is_closed, [], []⟩
abbrev st_reasons : Stmt := top 36
abbrev n_reasons : List Str := ["picture", "slots_of", "found", "told", "k", "name", "at", "slots"]
theorem sc_reasons : FnScope n_reasons ["picture"] (defScope st_reasons) := ⟨rfl, rfl, rfl, by decide +kernel, rfl, by decide +kernel, by decide +kernel⟩
def d_reasons : He.DefD := ⟨("reasons", none), "reasons", "reasons", defArgs st_reasons, defBody st_reasons, defScope st_reasons, [], []⟩
abbrev st_reason_holds : Stmt := top 33
abbrev n_reason_holds : List Str := ["picture", "told", "name", "reason", "slots_of", "slots"]
theorem sc_reason_holds : FnScope n_reason_holds ["picture", "told", "name", "reason"] (defScope st_reason_holds) := ⟨rfl, rfl, rfl, by decide +kernel, rfl, by decide +kernel, by decide +kernel⟩
def d_reason_holds : He.DefD := ⟨("reason_holds", none), "reason_holds", "reason_holds", defArgs st_reason_holds, defBody st_reason_holds, defScope st_reason_holds, [], []⟩
abbrev st_reasons_hold : Stmt := top 34
abbrev n_reasons_hold : List Str := ["picture", "kept", "told", "name", "reason"]
theorem sc_reasons_hold : FnScope n_reasons_hold ["picture", "kept"] (defScope st_reasons_hold) := ⟨rfl, rfl, rfl, by decide +kernel, rfl, by decide +kernel, by decide +kernel⟩
def d_reasons_hold : He.DefD := ⟨("reasons_hold", none), "reasons_hold", "reasons_hold", defArgs st_reasons_hold, defBody st_reasons_hold, defScope st_reasons_hold, [], []⟩
abbrev st_is_paper : Stmt := top 35
abbrev n_is_paper : List Str := ["picture", "kept", "swept", "names", "cell", "entry"]
theorem sc_is_paper : FnScope n_is_paper ["picture", "kept", "swept"] (defScope st_is_paper) := ⟨rfl, rfl, rfl, by decide +kernel, rfl, by decide +kernel, by decide +kernel⟩
def d_is_paper : He.DefD := ⟨("is_paper", none), "is_paper", "is_paper", defArgs st_is_paper, defBody st_is_paper, defScope st_is_paper, [], []⟩
abbrev st_paper_of : Stmt := top 37
abbrev n_paper_of : List Str := ["picture", "kept", "names", "name", "reason", "cell"]
theorem sc_paper_of : FnScope n_paper_of ["picture"] (defScope st_paper_of) := ⟨rfl, rfl, rfl, by decide +kernel, rfl, by decide +kernel, by decide +kernel⟩
def d_paper_of : He.DefD := ⟨("paper_of", none), "paper_of", "paper_of", defArgs st_paper_of, defBody st_paper_of, defScope st_paper_of, [], []⟩
abbrev st__law_done : Stmt := top 45
abbrev n__law_done : List Str := ["way", "picture", "cell"]
theorem sc__law_done : FnScope n__law_done ["way", "picture", "cell"] (defScope st__law_done) := ⟨rfl, rfl, rfl, by decide +kernel, rfl, by decide +kernel, by decide +kernel⟩
def d__law_done : He.DefD := ⟨("_law_done", none), "_law_done", "_law_done", defArgs st__law_done, defBody st__law_done, defScope st__law_done, [], []⟩
abbrev st__law_cell_at : Stmt := top 39
abbrev n__law_cell_at : List Str := ["script", "k"]
theorem sc__law_cell_at : FnScope n__law_cell_at ["script", "k"] (defScope st__law_cell_at) := ⟨rfl, rfl, rfl, by decide +kernel, rfl, by decide +kernel, by decide +kernel⟩
def d__law_cell_at : He.DefD := ⟨("_law_cell_at", none), "_law_cell_at", "_law_cell_at", defArgs st__law_cell_at, defBody st__law_cell_at, defScope st__law_cell_at, [], []⟩
abbrev st__law_others_X : Stmt := top 43
abbrev n__law_others_X : List Str := ["e", "told"]
theorem sc__law_others_X : FnScope n__law_others_X ["e"] (defScope st__law_others_X) := ⟨rfl, rfl, rfl, by decide +kernel, rfl, by decide +kernel, by decide +kernel⟩
def d__law_others_X : He.DefD := ⟨("_law_others", none), "_law_others", "_law_others", defArgs st__law_others_X, defBody st__law_others_X, defScope st__law_others_X, [], []⟩
abbrev st__law_bad : Stmt := top 44
abbrev n__law_bad : List Str := ["picture", "cell", "roots", "cells", "way"]
theorem sc__law_bad : FnScope n__law_bad ["picture", "cell"] (defScope st__law_bad) := ⟨rfl, rfl, rfl, by decide +kernel, rfl, by decide +kernel, by decide +kernel⟩
def d__law_bad : He.DefD := ⟨("_law_bad", none), "_law_bad", "_law_bad", defArgs st__law_bad, defBody st__law_bad, defScope st__law_bad, [], []⟩
abbrev st__law_value : Stmt := top 41
abbrev n__law_value : List Str := ["draw", "names"]
theorem sc__law_value : FnScope n__law_value ["draw", "names"] (defScope st__law_value) := ⟨rfl, rfl, rfl, by decide +kernel, rfl, by decide +kernel, by decide +kernel⟩
def d__law_value : He.DefD := ⟨("_law_value", none), "_law_value", "_law_value", defArgs st__law_value, defBody st__law_value, defScope st__law_value, [], []⟩
abbrev st__law_draw : Stmt := top 40
abbrev n__law_draw : List Str := ["cell", "k", "bound", "left", "j", "stir"]
theorem sc__law_draw : FnScope n__law_draw ["cell", "k", "bound"] (defScope st__law_draw) := ⟨rfl, rfl, rfl, by decide +kernel, rfl, by decide +kernel, by decide +kernel⟩
def d__law_draw : He.DefD := ⟨("_law_draw", none), "_law_draw", "_law_draw", defArgs st__law_draw, defBody st__law_draw, defScope st__law_draw, [], []⟩
abbrev st__law_drawn : Stmt := top 42
abbrev n__law_drawn : List Str := ["script", "at", "names", "k", "cells", "cell", "size", "j"]
theorem sc__law_drawn : FnScope n__law_drawn ["script", "at"] (defScope st__law_drawn) := ⟨rfl, rfl, rfl, by decide +kernel, rfl, by decide +kernel, by decide +kernel⟩
def d__law_drawn : He.DefD := ⟨("_law_drawn", none), "_law_drawn", "_law_drawn", defArgs st__law_drawn, defBody st__law_drawn, defScope st__law_drawn, [], []⟩
abbrev st_law : Stmt := top 46
abbrev n_law : List Str := ["script", "picture", "way", "told", "e"]
theorem sc_law : FnScope n_law ["script"] (defScope st_law) := ⟨rfl, rfl, rfl, by decide +kernel, rfl, by decide +kernel, by decide +kernel⟩
def d_law : He.DefD := ⟨("law", none), "law", "law", defArgs st_law, defBody st_law, defScope st_law, [], []⟩
structure Txt (K : PySem.W.Frag) (mg : Str → Option Value) (wl : World) : Prop where
  g_led_to : mg "led_to" = some (.ref (He.ga K "led_to"))
  g_ways_in : mg "ways_in" = some (.ref (He.ga K "ways_in"))
  g_is_value : mg "is_value" = some (.ref (He.ga K "is_value"))
  g_is_picture : mg "is_picture" = some (.ref (He.ga K "is_picture"))
  g_ask_picture : mg "ask_picture" = some (.ref (He.ga K "ask_picture"))
  g_live : mg "live" = some (.ref (He.ga K "live"))
  g_live_part : mg "live_part" = some (.ref (He.ga K "live_part"))
  g_way_to : mg "way_to" = some (.ref (He.ga K "way_to"))
  g_leads : mg "leads" = some (.ref (He.ga K "leads"))
  g_words_of : mg "words_of" = some (.ref (He.ga K "words_of"))
  g_is_closed : mg "is_closed" = some (.ref (He.ga K "is_closed"))
  g_reasons : mg "reasons" = some (.ref (He.ga K "reasons"))
  g_reason_holds : mg "reason_holds" = some (.ref (He.ga K "reason_holds"))
  g_reasons_hold : mg "reasons_hold" = some (.ref (He.ga K "reasons_hold"))
  g_is_paper : mg "is_paper" = some (.ref (He.ga K "is_paper"))
  g_paper_of : mg "paper_of" = some (.ref (He.ga K "paper_of"))
  g__law_done : mg "_law_done" = some (.ref (He.ga K "_law_done"))
  g__law_cell_at : mg "_law_cell_at" = some (.ref (He.ga K "_law_cell_at"))
  g__law_others : mg "_law_others" = some (.ref (He.ga K "_law_others"))
  g__law_bad : mg "_law_bad" = some (.ref (He.ga K "_law_bad"))
  g__law_value : mg "_law_value" = some (.ref (He.ga K "_law_value"))
  g__law_draw : mg "_law_draw" = some (.ref (He.ga K "_law_draw"))
  g__law_drawn : mg "_law_drawn" = some (.ref (He.ga K "_law_drawn"))
  g_law : mg "law" = some (.ref (He.ga K "law"))
  g_YardError : mg "YardError" = some (.ref (He.ga K "YardError"))
  x_YardError : PySem.W.excIn K (He.ga K "YardError") He.veBase "ValueError.__new__" = true ∧ PySem.W.keepIn K (.ref (He.ga K "YardError")) = true ∧ PySem.W.subIn K (.ref (He.ga K "YardError")) (.type "BaseException") = some true ∧ PySem.W.typeIn K (.ref (He.ga K "YardError")) = some (.type "type")
  g_NoKind : mg "NoKind" = some (.ref (He.ga K "NoKind"))
  x_NoKind : PySem.W.excIn K (He.ga K "NoKind") He.veBase "ValueError.__new__" = true ∧ PySem.W.keepIn K (.ref (He.ga K "NoKind")) = true ∧ PySem.W.subIn K (.ref (He.ga K "NoKind")) (.type "BaseException") = some true ∧ PySem.W.typeIn K (.ref (He.ga K "NoKind")) = some (.type "type")
  g_NoRoom : mg "NoRoom" = some (.ref (He.ga K "NoRoom"))
  x_NoRoom : PySem.W.excIn K (He.ga K "NoRoom") He.veBase "ValueError.__new__" = true ∧ PySem.W.keepIn K (.ref (He.ga K "NoRoom")) = true ∧ PySem.W.subIn K (.ref (He.ga K "NoRoom")) (.type "BaseException") = some true ∧ PySem.W.typeIn K (.ref (He.ga K "NoRoom")) = some (.type "type")
  g_NoDeed : mg "NoDeed" = some (.ref (He.ga K "NoDeed"))
  x_NoDeed : PySem.W.excIn K (He.ga K "NoDeed") He.veBase "ValueError.__new__" = true ∧ PySem.W.keepIn K (.ref (He.ga K "NoDeed")) = true ∧ PySem.W.subIn K (.ref (He.ga K "NoDeed")) (.type "BaseException") = some true ∧ PySem.W.typeIn K (.ref (He.ga K "NoDeed")) = some (.type "type")
  g_NoProgram : mg "NoProgram" = some (.ref (He.ga K "NoProgram"))
  x_NoProgram : PySem.W.excIn K (He.ga K "NoProgram") He.veBase "ValueError.__new__" = true ∧ PySem.W.keepIn K (.ref (He.ga K "NoProgram")) = true ∧ PySem.W.subIn K (.ref (He.ga K "NoProgram")) (.type "BaseException") = some true ∧ PySem.W.typeIn K (.ref (He.ga K "NoProgram")) = some (.type "type")
  g_NoPicture : mg "NoPicture" = some (.ref (He.ga K "NoPicture"))
  x_NoPicture : PySem.W.excIn K (He.ga K "NoPicture") He.veBase "ValueError.__new__" = true ∧ PySem.W.keepIn K (.ref (He.ga K "NoPicture")) = true ∧ PySem.W.subIn K (.ref (He.ga K "NoPicture")) (.type "BaseException") = some true ∧ PySem.W.typeIn K (.ref (He.ga K "NoPicture")) = some (.type "type")
  g_NoValue : mg "NoValue" = some (.ref (He.ga K "NoValue"))
  x_NoValue : PySem.W.excIn K (He.ga K "NoValue") He.veBase "ValueError.__new__" = true ∧ PySem.W.keepIn K (.ref (He.ga K "NoValue")) = true ∧ PySem.W.subIn K (.ref (He.ga K "NoValue")) (.type "BaseException") = some true ∧ PySem.W.typeIn K (.ref (He.ga K "NoValue")) = some (.type "type")
  g_NoWay : mg "NoWay" = some (.ref (He.ga K "NoWay"))
  x_NoWay : PySem.W.excIn K (He.ga K "NoWay") He.veBase "ValueError.__new__" = true ∧ PySem.W.keepIn K (.ref (He.ga K "NoWay")) = true ∧ PySem.W.subIn K (.ref (He.ga K "NoWay")) (.type "BaseException") = some true ∧ PySem.W.typeIn K (.ref (He.ga K "NoWay")) = some (.type "type")
  g_NoRoot : mg "NoRoot" = some (.ref (He.ga K "NoRoot"))
  x_NoRoot : PySem.W.excIn K (He.ga K "NoRoot") He.veBase "ValueError.__new__" = true ∧ PySem.W.keepIn K (.ref (He.ga K "NoRoot")) = true ∧ PySem.W.subIn K (.ref (He.ga K "NoRoot")) (.type "BaseException") = some true ∧ PySem.W.typeIn K (.ref (He.ga K "NoRoot")) = some (.type "type")
  g_NoSize : mg "NoSize" = some (.ref (He.ga K "NoSize"))
  x_NoSize : PySem.W.excIn K (He.ga K "NoSize") He.veBase "ValueError.__new__" = true ∧ PySem.W.keepIn K (.ref (He.ga K "NoSize")) = true ∧ PySem.W.subIn K (.ref (He.ga K "NoSize")) (.type "BaseException") = some true ∧ PySem.W.typeIn K (.ref (He.ga K "NoSize")) = some (.type "type")
  g_NoNumber : mg "NoNumber" = some (.ref (He.ga K "NoNumber"))
  x_NoNumber : PySem.W.excIn K (He.ga K "NoNumber") He.veBase "ValueError.__new__" = true ∧ PySem.W.keepIn K (.ref (He.ga K "NoNumber")) = true ∧ PySem.W.subIn K (.ref (He.ga K "NoNumber")) (.type "BaseException") = some true ∧ PySem.W.typeIn K (.ref (He.ga K "NoNumber")) = some (.type "type")
  g_NoCell : mg "NoCell" = some (.ref (He.ga K "NoCell"))
  x_NoCell : PySem.W.excIn K (He.ga K "NoCell") He.veBase "ValueError.__new__" = true ∧ PySem.W.keepIn K (.ref (He.ga K "NoCell")) = true ∧ PySem.W.subIn K (.ref (He.ga K "NoCell")) (.type "BaseException") = some true ∧ PySem.W.typeIn K (.ref (He.ga K "NoCell")) = some (.type "type")
  g_NoSlot : mg "NoSlot" = some (.ref (He.ga K "NoSlot"))
  x_NoSlot : PySem.W.excIn K (He.ga K "NoSlot") He.veBase "ValueError.__new__" = true ∧ PySem.W.keepIn K (.ref (He.ga K "NoSlot")) = true ∧ PySem.W.subIn K (.ref (He.ga K "NoSlot")) (.type "BaseException") = some true ∧ PySem.W.typeIn K (.ref (He.ga K "NoSlot")) = some (.type "type")
  g_NoSteps : mg "NoSteps" = some (.ref (He.ga K "NoSteps"))
  x_NoSteps : PySem.W.excIn K (He.ga K "NoSteps") He.veBase "ValueError.__new__" = true ∧ PySem.W.keepIn K (.ref (He.ga K "NoSteps")) = true ∧ PySem.W.subIn K (.ref (He.ga K "NoSteps")) (.type "BaseException") = some true ∧ PySem.W.typeIn K (.ref (He.ga K "NoSteps")) = some (.type "type")
  g_Full : mg "Full" = some (.ref (He.ga K "Full"))
  x_Full : PySem.W.excIn K (He.ga K "Full") He.veBase "ValueError.__new__" = true ∧ PySem.W.keepIn K (.ref (He.ga K "Full")) = true ∧ PySem.W.subIn K (.ref (He.ga K "Full")) (.type "BaseException") = some true ∧ PySem.W.typeIn K (.ref (He.ga K "Full")) = some (.type "type")
  g_NoNote : mg "NoNote" = some (.ref (He.ga K "NoNote"))
  x_NoNote : PySem.W.excIn K (He.ga K "NoNote") He.veBase "ValueError.__new__" = true ∧ PySem.W.keepIn K (.ref (He.ga K "NoNote")) = true ∧ PySem.W.subIn K (.ref (He.ga K "NoNote")) (.type "BaseException") = some true ∧ PySem.W.typeIn K (.ref (He.ga K "NoNote")) = some (.type "type")
  c_GREATEST : ∃ t, mg "GREATEST" = some (.int 1000000 t)
  c_MOST_SIZE : ∃ t, mg "MOST_SIZE" = some (.int 4 t)
  c_ROOTS : ∃ t, mg "ROOTS" = some (.int 8 t)
  z_ValueError : mg "ValueError" = none
  z_all : mg "all" = none
  z_dict : mg "dict" = none
  z_isinstance : mg "isinstance" = none
  z_len : mg "len" = none
  z_list : mg "list" = none
  z_range : mg "range" = none
  z_set : mg "set" = none
  z_sorted : mg "sorted" = none
  z_sum : mg "sum" = none
  m_YardError_YardError : PySem.W.exmOne K (.ref (He.ga K "YardError")) (.ref (He.ga K "YardError")) = some true
  m_NoKind_YardError : PySem.W.exmOne K (.ref (He.ga K "NoKind")) (.ref (He.ga K "YardError")) = some true
  m_NoRoom_YardError : PySem.W.exmOne K (.ref (He.ga K "NoRoom")) (.ref (He.ga K "YardError")) = some true
  m_NoDeed_YardError : PySem.W.exmOne K (.ref (He.ga K "NoDeed")) (.ref (He.ga K "YardError")) = some true
  m_NoProgram_YardError : PySem.W.exmOne K (.ref (He.ga K "NoProgram")) (.ref (He.ga K "YardError")) = some true
  m_NoPicture_YardError : PySem.W.exmOne K (.ref (He.ga K "NoPicture")) (.ref (He.ga K "YardError")) = some true
  m_NoValue_YardError : PySem.W.exmOne K (.ref (He.ga K "NoValue")) (.ref (He.ga K "YardError")) = some true
  m_NoWay_YardError : PySem.W.exmOne K (.ref (He.ga K "NoWay")) (.ref (He.ga K "YardError")) = some true
  m_NoRoot_YardError : PySem.W.exmOne K (.ref (He.ga K "NoRoot")) (.ref (He.ga K "YardError")) = some true
  m_NoSize_YardError : PySem.W.exmOne K (.ref (He.ga K "NoSize")) (.ref (He.ga K "YardError")) = some true
  m_NoNumber_YardError : PySem.W.exmOne K (.ref (He.ga K "NoNumber")) (.ref (He.ga K "YardError")) = some true
  m_NoCell_YardError : PySem.W.exmOne K (.ref (He.ga K "NoCell")) (.ref (He.ga K "YardError")) = some true
  m_NoSlot_YardError : PySem.W.exmOne K (.ref (He.ga K "NoSlot")) (.ref (He.ga K "YardError")) = some true
  m_NoSteps_YardError : PySem.W.exmOne K (.ref (He.ga K "NoSteps")) (.ref (He.ga K "YardError")) = some true
  m_Full_YardError : PySem.W.exmOne K (.ref (He.ga K "Full")) (.ref (He.ga K "YardError")) = some true
  m_NoNote_YardError : PySem.W.exmOne K (.ref (He.ga K "NoNote")) (.ref (He.ga K "YardError")) = some true
  ec_YardError : ExcC K (He.ga K "YardError")
  ec_NoKind : ExcC K (He.ga K "NoKind")
  ec_NoRoom : ExcC K (He.ga K "NoRoom")
  ec_NoDeed : ExcC K (He.ga K "NoDeed")
  ec_NoProgram : ExcC K (He.ga K "NoProgram")
  ec_NoPicture : ExcC K (He.ga K "NoPicture")
  ec_NoValue : ExcC K (He.ga K "NoValue")
  ec_NoWay : ExcC K (He.ga K "NoWay")
  ec_NoRoot : ExcC K (He.ga K "NoRoot")
  ec_NoSize : ExcC K (He.ga K "NoSize")
  ec_NoNumber : ExcC K (He.ga K "NoNumber")
  ec_NoCell : ExcC K (He.ga K "NoCell")
  ec_NoSlot : ExcC K (He.ga K "NoSlot")
  ec_NoSteps : ExcC K (He.ga K "NoSteps")
  ec_Full : ExcC K (He.ga K "Full")
  ec_NoNote : ExcC K (He.ga K "NoNote")
  kt_YardError_Full : PySem.W.kitOne K (.ref (He.ga K "YardError")) (.ref (He.ga K "Full")) = some false
  kt_NoKind_Full : PySem.W.kitOne K (.ref (He.ga K "NoKind")) (.ref (He.ga K "Full")) = some false
  kt_NoRoom_Full : PySem.W.kitOne K (.ref (He.ga K "NoRoom")) (.ref (He.ga K "Full")) = some false
  kt_NoDeed_Full : PySem.W.kitOne K (.ref (He.ga K "NoDeed")) (.ref (He.ga K "Full")) = some false
  kt_NoProgram_Full : PySem.W.kitOne K (.ref (He.ga K "NoProgram")) (.ref (He.ga K "Full")) = some false
  kt_NoPicture_Full : PySem.W.kitOne K (.ref (He.ga K "NoPicture")) (.ref (He.ga K "Full")) = some false
  kt_NoValue_Full : PySem.W.kitOne K (.ref (He.ga K "NoValue")) (.ref (He.ga K "Full")) = some false
  kt_NoWay_Full : PySem.W.kitOne K (.ref (He.ga K "NoWay")) (.ref (He.ga K "Full")) = some false
  kt_NoRoot_Full : PySem.W.kitOne K (.ref (He.ga K "NoRoot")) (.ref (He.ga K "Full")) = some false
  kt_NoSize_Full : PySem.W.kitOne K (.ref (He.ga K "NoSize")) (.ref (He.ga K "Full")) = some false
  kt_NoNumber_Full : PySem.W.kitOne K (.ref (He.ga K "NoNumber")) (.ref (He.ga K "Full")) = some false
  kt_NoCell_Full : PySem.W.kitOne K (.ref (He.ga K "NoCell")) (.ref (He.ga K "Full")) = some false
  kt_NoSlot_Full : PySem.W.kitOne K (.ref (He.ga K "NoSlot")) (.ref (He.ga K "Full")) = some false
  kt_NoSteps_Full : PySem.W.kitOne K (.ref (He.ga K "NoSteps")) (.ref (He.ga K "Full")) = some false
  kt_Full_Full : PySem.W.kitOne K (.ref (He.ga K "Full")) (.ref (He.ga K "Full")) = some true
  kt_NoNote_Full : PySem.W.kitOne K (.ref (He.ga K "NoNote")) (.ref (He.ga K "Full")) = some false
  kt_YardError_NoCell : PySem.W.kitOne K (.ref (He.ga K "YardError")) (.ref (He.ga K "NoCell")) = some false
  kt_NoKind_NoCell : PySem.W.kitOne K (.ref (He.ga K "NoKind")) (.ref (He.ga K "NoCell")) = some false
  kt_NoRoom_NoCell : PySem.W.kitOne K (.ref (He.ga K "NoRoom")) (.ref (He.ga K "NoCell")) = some false
  kt_NoDeed_NoCell : PySem.W.kitOne K (.ref (He.ga K "NoDeed")) (.ref (He.ga K "NoCell")) = some false
  kt_NoProgram_NoCell : PySem.W.kitOne K (.ref (He.ga K "NoProgram")) (.ref (He.ga K "NoCell")) = some false
  kt_NoPicture_NoCell : PySem.W.kitOne K (.ref (He.ga K "NoPicture")) (.ref (He.ga K "NoCell")) = some false
  kt_NoValue_NoCell : PySem.W.kitOne K (.ref (He.ga K "NoValue")) (.ref (He.ga K "NoCell")) = some false
  kt_NoWay_NoCell : PySem.W.kitOne K (.ref (He.ga K "NoWay")) (.ref (He.ga K "NoCell")) = some false
  kt_NoRoot_NoCell : PySem.W.kitOne K (.ref (He.ga K "NoRoot")) (.ref (He.ga K "NoCell")) = some false
  kt_NoSize_NoCell : PySem.W.kitOne K (.ref (He.ga K "NoSize")) (.ref (He.ga K "NoCell")) = some false
  kt_NoNumber_NoCell : PySem.W.kitOne K (.ref (He.ga K "NoNumber")) (.ref (He.ga K "NoCell")) = some false
  kt_NoCell_NoCell : PySem.W.kitOne K (.ref (He.ga K "NoCell")) (.ref (He.ga K "NoCell")) = some true
  kt_NoSlot_NoCell : PySem.W.kitOne K (.ref (He.ga K "NoSlot")) (.ref (He.ga K "NoCell")) = some false
  kt_NoSteps_NoCell : PySem.W.kitOne K (.ref (He.ga K "NoSteps")) (.ref (He.ga K "NoCell")) = some false
  kt_Full_NoCell : PySem.W.kitOne K (.ref (He.ga K "Full")) (.ref (He.ga K "NoCell")) = some false
  kt_NoNote_NoCell : PySem.W.kitOne K (.ref (He.ga K "NoNote")) (.ref (He.ga K "NoCell")) = some false
  kt_YardError_NoDeed : PySem.W.kitOne K (.ref (He.ga K "YardError")) (.ref (He.ga K "NoDeed")) = some false
  kt_NoKind_NoDeed : PySem.W.kitOne K (.ref (He.ga K "NoKind")) (.ref (He.ga K "NoDeed")) = some false
  kt_NoRoom_NoDeed : PySem.W.kitOne K (.ref (He.ga K "NoRoom")) (.ref (He.ga K "NoDeed")) = some false
  kt_NoDeed_NoDeed : PySem.W.kitOne K (.ref (He.ga K "NoDeed")) (.ref (He.ga K "NoDeed")) = some true
  kt_NoProgram_NoDeed : PySem.W.kitOne K (.ref (He.ga K "NoProgram")) (.ref (He.ga K "NoDeed")) = some false
  kt_NoPicture_NoDeed : PySem.W.kitOne K (.ref (He.ga K "NoPicture")) (.ref (He.ga K "NoDeed")) = some false
  kt_NoValue_NoDeed : PySem.W.kitOne K (.ref (He.ga K "NoValue")) (.ref (He.ga K "NoDeed")) = some false
  kt_NoWay_NoDeed : PySem.W.kitOne K (.ref (He.ga K "NoWay")) (.ref (He.ga K "NoDeed")) = some false
  kt_NoRoot_NoDeed : PySem.W.kitOne K (.ref (He.ga K "NoRoot")) (.ref (He.ga K "NoDeed")) = some false
  kt_NoSize_NoDeed : PySem.W.kitOne K (.ref (He.ga K "NoSize")) (.ref (He.ga K "NoDeed")) = some false
  kt_NoNumber_NoDeed : PySem.W.kitOne K (.ref (He.ga K "NoNumber")) (.ref (He.ga K "NoDeed")) = some false
  kt_NoCell_NoDeed : PySem.W.kitOne K (.ref (He.ga K "NoCell")) (.ref (He.ga K "NoDeed")) = some false
  kt_NoSlot_NoDeed : PySem.W.kitOne K (.ref (He.ga K "NoSlot")) (.ref (He.ga K "NoDeed")) = some false
  kt_NoSteps_NoDeed : PySem.W.kitOne K (.ref (He.ga K "NoSteps")) (.ref (He.ga K "NoDeed")) = some false
  kt_Full_NoDeed : PySem.W.kitOne K (.ref (He.ga K "Full")) (.ref (He.ga K "NoDeed")) = some false
  kt_NoNote_NoDeed : PySem.W.kitOne K (.ref (He.ga K "NoNote")) (.ref (He.ga K "NoDeed")) = some false
  kt_YardError_NoKind : PySem.W.kitOne K (.ref (He.ga K "YardError")) (.ref (He.ga K "NoKind")) = some false
  kt_NoKind_NoKind : PySem.W.kitOne K (.ref (He.ga K "NoKind")) (.ref (He.ga K "NoKind")) = some true
  kt_NoRoom_NoKind : PySem.W.kitOne K (.ref (He.ga K "NoRoom")) (.ref (He.ga K "NoKind")) = some false
  kt_NoDeed_NoKind : PySem.W.kitOne K (.ref (He.ga K "NoDeed")) (.ref (He.ga K "NoKind")) = some false
  kt_NoProgram_NoKind : PySem.W.kitOne K (.ref (He.ga K "NoProgram")) (.ref (He.ga K "NoKind")) = some false
  kt_NoPicture_NoKind : PySem.W.kitOne K (.ref (He.ga K "NoPicture")) (.ref (He.ga K "NoKind")) = some false
  kt_NoValue_NoKind : PySem.W.kitOne K (.ref (He.ga K "NoValue")) (.ref (He.ga K "NoKind")) = some false
  kt_NoWay_NoKind : PySem.W.kitOne K (.ref (He.ga K "NoWay")) (.ref (He.ga K "NoKind")) = some false
  kt_NoRoot_NoKind : PySem.W.kitOne K (.ref (He.ga K "NoRoot")) (.ref (He.ga K "NoKind")) = some false
  kt_NoSize_NoKind : PySem.W.kitOne K (.ref (He.ga K "NoSize")) (.ref (He.ga K "NoKind")) = some false
  kt_NoNumber_NoKind : PySem.W.kitOne K (.ref (He.ga K "NoNumber")) (.ref (He.ga K "NoKind")) = some false
  kt_NoCell_NoKind : PySem.W.kitOne K (.ref (He.ga K "NoCell")) (.ref (He.ga K "NoKind")) = some false
  kt_NoSlot_NoKind : PySem.W.kitOne K (.ref (He.ga K "NoSlot")) (.ref (He.ga K "NoKind")) = some false
  kt_NoSteps_NoKind : PySem.W.kitOne K (.ref (He.ga K "NoSteps")) (.ref (He.ga K "NoKind")) = some false
  kt_Full_NoKind : PySem.W.kitOne K (.ref (He.ga K "Full")) (.ref (He.ga K "NoKind")) = some false
  kt_NoNote_NoKind : PySem.W.kitOne K (.ref (He.ga K "NoNote")) (.ref (He.ga K "NoKind")) = some false
  kt_YardError_NoNote : PySem.W.kitOne K (.ref (He.ga K "YardError")) (.ref (He.ga K "NoNote")) = some false
  kt_NoKind_NoNote : PySem.W.kitOne K (.ref (He.ga K "NoKind")) (.ref (He.ga K "NoNote")) = some false
  kt_NoRoom_NoNote : PySem.W.kitOne K (.ref (He.ga K "NoRoom")) (.ref (He.ga K "NoNote")) = some false
  kt_NoDeed_NoNote : PySem.W.kitOne K (.ref (He.ga K "NoDeed")) (.ref (He.ga K "NoNote")) = some false
  kt_NoProgram_NoNote : PySem.W.kitOne K (.ref (He.ga K "NoProgram")) (.ref (He.ga K "NoNote")) = some false
  kt_NoPicture_NoNote : PySem.W.kitOne K (.ref (He.ga K "NoPicture")) (.ref (He.ga K "NoNote")) = some false
  kt_NoValue_NoNote : PySem.W.kitOne K (.ref (He.ga K "NoValue")) (.ref (He.ga K "NoNote")) = some false
  kt_NoWay_NoNote : PySem.W.kitOne K (.ref (He.ga K "NoWay")) (.ref (He.ga K "NoNote")) = some false
  kt_NoRoot_NoNote : PySem.W.kitOne K (.ref (He.ga K "NoRoot")) (.ref (He.ga K "NoNote")) = some false
  kt_NoSize_NoNote : PySem.W.kitOne K (.ref (He.ga K "NoSize")) (.ref (He.ga K "NoNote")) = some false
  kt_NoNumber_NoNote : PySem.W.kitOne K (.ref (He.ga K "NoNumber")) (.ref (He.ga K "NoNote")) = some false
  kt_NoCell_NoNote : PySem.W.kitOne K (.ref (He.ga K "NoCell")) (.ref (He.ga K "NoNote")) = some false
  kt_NoSlot_NoNote : PySem.W.kitOne K (.ref (He.ga K "NoSlot")) (.ref (He.ga K "NoNote")) = some false
  kt_NoSteps_NoNote : PySem.W.kitOne K (.ref (He.ga K "NoSteps")) (.ref (He.ga K "NoNote")) = some false
  kt_Full_NoNote : PySem.W.kitOne K (.ref (He.ga K "Full")) (.ref (He.ga K "NoNote")) = some false
  kt_NoNote_NoNote : PySem.W.kitOne K (.ref (He.ga K "NoNote")) (.ref (He.ga K "NoNote")) = some true
  kt_YardError_NoNumber : PySem.W.kitOne K (.ref (He.ga K "YardError")) (.ref (He.ga K "NoNumber")) = some false
  kt_NoKind_NoNumber : PySem.W.kitOne K (.ref (He.ga K "NoKind")) (.ref (He.ga K "NoNumber")) = some false
  kt_NoRoom_NoNumber : PySem.W.kitOne K (.ref (He.ga K "NoRoom")) (.ref (He.ga K "NoNumber")) = some false
  kt_NoDeed_NoNumber : PySem.W.kitOne K (.ref (He.ga K "NoDeed")) (.ref (He.ga K "NoNumber")) = some false
  kt_NoProgram_NoNumber : PySem.W.kitOne K (.ref (He.ga K "NoProgram")) (.ref (He.ga K "NoNumber")) = some false
  kt_NoPicture_NoNumber : PySem.W.kitOne K (.ref (He.ga K "NoPicture")) (.ref (He.ga K "NoNumber")) = some false
  kt_NoValue_NoNumber : PySem.W.kitOne K (.ref (He.ga K "NoValue")) (.ref (He.ga K "NoNumber")) = some false
  kt_NoWay_NoNumber : PySem.W.kitOne K (.ref (He.ga K "NoWay")) (.ref (He.ga K "NoNumber")) = some false
  kt_NoRoot_NoNumber : PySem.W.kitOne K (.ref (He.ga K "NoRoot")) (.ref (He.ga K "NoNumber")) = some false
  kt_NoSize_NoNumber : PySem.W.kitOne K (.ref (He.ga K "NoSize")) (.ref (He.ga K "NoNumber")) = some false
  kt_NoNumber_NoNumber : PySem.W.kitOne K (.ref (He.ga K "NoNumber")) (.ref (He.ga K "NoNumber")) = some true
  kt_NoCell_NoNumber : PySem.W.kitOne K (.ref (He.ga K "NoCell")) (.ref (He.ga K "NoNumber")) = some false
  kt_NoSlot_NoNumber : PySem.W.kitOne K (.ref (He.ga K "NoSlot")) (.ref (He.ga K "NoNumber")) = some false
  kt_NoSteps_NoNumber : PySem.W.kitOne K (.ref (He.ga K "NoSteps")) (.ref (He.ga K "NoNumber")) = some false
  kt_Full_NoNumber : PySem.W.kitOne K (.ref (He.ga K "Full")) (.ref (He.ga K "NoNumber")) = some false
  kt_NoNote_NoNumber : PySem.W.kitOne K (.ref (He.ga K "NoNote")) (.ref (He.ga K "NoNumber")) = some false
  kt_YardError_NoPicture : PySem.W.kitOne K (.ref (He.ga K "YardError")) (.ref (He.ga K "NoPicture")) = some false
  kt_NoKind_NoPicture : PySem.W.kitOne K (.ref (He.ga K "NoKind")) (.ref (He.ga K "NoPicture")) = some false
  kt_NoRoom_NoPicture : PySem.W.kitOne K (.ref (He.ga K "NoRoom")) (.ref (He.ga K "NoPicture")) = some false
  kt_NoDeed_NoPicture : PySem.W.kitOne K (.ref (He.ga K "NoDeed")) (.ref (He.ga K "NoPicture")) = some false
  kt_NoProgram_NoPicture : PySem.W.kitOne K (.ref (He.ga K "NoProgram")) (.ref (He.ga K "NoPicture")) = some false
  kt_NoPicture_NoPicture : PySem.W.kitOne K (.ref (He.ga K "NoPicture")) (.ref (He.ga K "NoPicture")) = some true
  kt_NoValue_NoPicture : PySem.W.kitOne K (.ref (He.ga K "NoValue")) (.ref (He.ga K "NoPicture")) = some false
  kt_NoWay_NoPicture : PySem.W.kitOne K (.ref (He.ga K "NoWay")) (.ref (He.ga K "NoPicture")) = some false
  kt_NoRoot_NoPicture : PySem.W.kitOne K (.ref (He.ga K "NoRoot")) (.ref (He.ga K "NoPicture")) = some false
  kt_NoSize_NoPicture : PySem.W.kitOne K (.ref (He.ga K "NoSize")) (.ref (He.ga K "NoPicture")) = some false
  kt_NoNumber_NoPicture : PySem.W.kitOne K (.ref (He.ga K "NoNumber")) (.ref (He.ga K "NoPicture")) = some false
  kt_NoCell_NoPicture : PySem.W.kitOne K (.ref (He.ga K "NoCell")) (.ref (He.ga K "NoPicture")) = some false
  kt_NoSlot_NoPicture : PySem.W.kitOne K (.ref (He.ga K "NoSlot")) (.ref (He.ga K "NoPicture")) = some false
  kt_NoSteps_NoPicture : PySem.W.kitOne K (.ref (He.ga K "NoSteps")) (.ref (He.ga K "NoPicture")) = some false
  kt_Full_NoPicture : PySem.W.kitOne K (.ref (He.ga K "Full")) (.ref (He.ga K "NoPicture")) = some false
  kt_NoNote_NoPicture : PySem.W.kitOne K (.ref (He.ga K "NoNote")) (.ref (He.ga K "NoPicture")) = some false
  kt_YardError_NoProgram : PySem.W.kitOne K (.ref (He.ga K "YardError")) (.ref (He.ga K "NoProgram")) = some false
  kt_NoKind_NoProgram : PySem.W.kitOne K (.ref (He.ga K "NoKind")) (.ref (He.ga K "NoProgram")) = some false
  kt_NoRoom_NoProgram : PySem.W.kitOne K (.ref (He.ga K "NoRoom")) (.ref (He.ga K "NoProgram")) = some false
  kt_NoDeed_NoProgram : PySem.W.kitOne K (.ref (He.ga K "NoDeed")) (.ref (He.ga K "NoProgram")) = some false
  kt_NoProgram_NoProgram : PySem.W.kitOne K (.ref (He.ga K "NoProgram")) (.ref (He.ga K "NoProgram")) = some true
  kt_NoPicture_NoProgram : PySem.W.kitOne K (.ref (He.ga K "NoPicture")) (.ref (He.ga K "NoProgram")) = some false
  kt_NoValue_NoProgram : PySem.W.kitOne K (.ref (He.ga K "NoValue")) (.ref (He.ga K "NoProgram")) = some false
  kt_NoWay_NoProgram : PySem.W.kitOne K (.ref (He.ga K "NoWay")) (.ref (He.ga K "NoProgram")) = some false
  kt_NoRoot_NoProgram : PySem.W.kitOne K (.ref (He.ga K "NoRoot")) (.ref (He.ga K "NoProgram")) = some false
  kt_NoSize_NoProgram : PySem.W.kitOne K (.ref (He.ga K "NoSize")) (.ref (He.ga K "NoProgram")) = some false
  kt_NoNumber_NoProgram : PySem.W.kitOne K (.ref (He.ga K "NoNumber")) (.ref (He.ga K "NoProgram")) = some false
  kt_NoCell_NoProgram : PySem.W.kitOne K (.ref (He.ga K "NoCell")) (.ref (He.ga K "NoProgram")) = some false
  kt_NoSlot_NoProgram : PySem.W.kitOne K (.ref (He.ga K "NoSlot")) (.ref (He.ga K "NoProgram")) = some false
  kt_NoSteps_NoProgram : PySem.W.kitOne K (.ref (He.ga K "NoSteps")) (.ref (He.ga K "NoProgram")) = some false
  kt_Full_NoProgram : PySem.W.kitOne K (.ref (He.ga K "Full")) (.ref (He.ga K "NoProgram")) = some false
  kt_NoNote_NoProgram : PySem.W.kitOne K (.ref (He.ga K "NoNote")) (.ref (He.ga K "NoProgram")) = some false
  kt_YardError_NoRoom : PySem.W.kitOne K (.ref (He.ga K "YardError")) (.ref (He.ga K "NoRoom")) = some false
  kt_NoKind_NoRoom : PySem.W.kitOne K (.ref (He.ga K "NoKind")) (.ref (He.ga K "NoRoom")) = some false
  kt_NoRoom_NoRoom : PySem.W.kitOne K (.ref (He.ga K "NoRoom")) (.ref (He.ga K "NoRoom")) = some true
  kt_NoDeed_NoRoom : PySem.W.kitOne K (.ref (He.ga K "NoDeed")) (.ref (He.ga K "NoRoom")) = some false
  kt_NoProgram_NoRoom : PySem.W.kitOne K (.ref (He.ga K "NoProgram")) (.ref (He.ga K "NoRoom")) = some false
  kt_NoPicture_NoRoom : PySem.W.kitOne K (.ref (He.ga K "NoPicture")) (.ref (He.ga K "NoRoom")) = some false
  kt_NoValue_NoRoom : PySem.W.kitOne K (.ref (He.ga K "NoValue")) (.ref (He.ga K "NoRoom")) = some false
  kt_NoWay_NoRoom : PySem.W.kitOne K (.ref (He.ga K "NoWay")) (.ref (He.ga K "NoRoom")) = some false
  kt_NoRoot_NoRoom : PySem.W.kitOne K (.ref (He.ga K "NoRoot")) (.ref (He.ga K "NoRoom")) = some false
  kt_NoSize_NoRoom : PySem.W.kitOne K (.ref (He.ga K "NoSize")) (.ref (He.ga K "NoRoom")) = some false
  kt_NoNumber_NoRoom : PySem.W.kitOne K (.ref (He.ga K "NoNumber")) (.ref (He.ga K "NoRoom")) = some false
  kt_NoCell_NoRoom : PySem.W.kitOne K (.ref (He.ga K "NoCell")) (.ref (He.ga K "NoRoom")) = some false
  kt_NoSlot_NoRoom : PySem.W.kitOne K (.ref (He.ga K "NoSlot")) (.ref (He.ga K "NoRoom")) = some false
  kt_NoSteps_NoRoom : PySem.W.kitOne K (.ref (He.ga K "NoSteps")) (.ref (He.ga K "NoRoom")) = some false
  kt_Full_NoRoom : PySem.W.kitOne K (.ref (He.ga K "Full")) (.ref (He.ga K "NoRoom")) = some false
  kt_NoNote_NoRoom : PySem.W.kitOne K (.ref (He.ga K "NoNote")) (.ref (He.ga K "NoRoom")) = some false
  kt_YardError_NoRoot : PySem.W.kitOne K (.ref (He.ga K "YardError")) (.ref (He.ga K "NoRoot")) = some false
  kt_NoKind_NoRoot : PySem.W.kitOne K (.ref (He.ga K "NoKind")) (.ref (He.ga K "NoRoot")) = some false
  kt_NoRoom_NoRoot : PySem.W.kitOne K (.ref (He.ga K "NoRoom")) (.ref (He.ga K "NoRoot")) = some false
  kt_NoDeed_NoRoot : PySem.W.kitOne K (.ref (He.ga K "NoDeed")) (.ref (He.ga K "NoRoot")) = some false
  kt_NoProgram_NoRoot : PySem.W.kitOne K (.ref (He.ga K "NoProgram")) (.ref (He.ga K "NoRoot")) = some false
  kt_NoPicture_NoRoot : PySem.W.kitOne K (.ref (He.ga K "NoPicture")) (.ref (He.ga K "NoRoot")) = some false
  kt_NoValue_NoRoot : PySem.W.kitOne K (.ref (He.ga K "NoValue")) (.ref (He.ga K "NoRoot")) = some false
  kt_NoWay_NoRoot : PySem.W.kitOne K (.ref (He.ga K "NoWay")) (.ref (He.ga K "NoRoot")) = some false
  kt_NoRoot_NoRoot : PySem.W.kitOne K (.ref (He.ga K "NoRoot")) (.ref (He.ga K "NoRoot")) = some true
  kt_NoSize_NoRoot : PySem.W.kitOne K (.ref (He.ga K "NoSize")) (.ref (He.ga K "NoRoot")) = some false
  kt_NoNumber_NoRoot : PySem.W.kitOne K (.ref (He.ga K "NoNumber")) (.ref (He.ga K "NoRoot")) = some false
  kt_NoCell_NoRoot : PySem.W.kitOne K (.ref (He.ga K "NoCell")) (.ref (He.ga K "NoRoot")) = some false
  kt_NoSlot_NoRoot : PySem.W.kitOne K (.ref (He.ga K "NoSlot")) (.ref (He.ga K "NoRoot")) = some false
  kt_NoSteps_NoRoot : PySem.W.kitOne K (.ref (He.ga K "NoSteps")) (.ref (He.ga K "NoRoot")) = some false
  kt_Full_NoRoot : PySem.W.kitOne K (.ref (He.ga K "Full")) (.ref (He.ga K "NoRoot")) = some false
  kt_NoNote_NoRoot : PySem.W.kitOne K (.ref (He.ga K "NoNote")) (.ref (He.ga K "NoRoot")) = some false
  kt_YardError_NoSize : PySem.W.kitOne K (.ref (He.ga K "YardError")) (.ref (He.ga K "NoSize")) = some false
  kt_NoKind_NoSize : PySem.W.kitOne K (.ref (He.ga K "NoKind")) (.ref (He.ga K "NoSize")) = some false
  kt_NoRoom_NoSize : PySem.W.kitOne K (.ref (He.ga K "NoRoom")) (.ref (He.ga K "NoSize")) = some false
  kt_NoDeed_NoSize : PySem.W.kitOne K (.ref (He.ga K "NoDeed")) (.ref (He.ga K "NoSize")) = some false
  kt_NoProgram_NoSize : PySem.W.kitOne K (.ref (He.ga K "NoProgram")) (.ref (He.ga K "NoSize")) = some false
  kt_NoPicture_NoSize : PySem.W.kitOne K (.ref (He.ga K "NoPicture")) (.ref (He.ga K "NoSize")) = some false
  kt_NoValue_NoSize : PySem.W.kitOne K (.ref (He.ga K "NoValue")) (.ref (He.ga K "NoSize")) = some false
  kt_NoWay_NoSize : PySem.W.kitOne K (.ref (He.ga K "NoWay")) (.ref (He.ga K "NoSize")) = some false
  kt_NoRoot_NoSize : PySem.W.kitOne K (.ref (He.ga K "NoRoot")) (.ref (He.ga K "NoSize")) = some false
  kt_NoSize_NoSize : PySem.W.kitOne K (.ref (He.ga K "NoSize")) (.ref (He.ga K "NoSize")) = some true
  kt_NoNumber_NoSize : PySem.W.kitOne K (.ref (He.ga K "NoNumber")) (.ref (He.ga K "NoSize")) = some false
  kt_NoCell_NoSize : PySem.W.kitOne K (.ref (He.ga K "NoCell")) (.ref (He.ga K "NoSize")) = some false
  kt_NoSlot_NoSize : PySem.W.kitOne K (.ref (He.ga K "NoSlot")) (.ref (He.ga K "NoSize")) = some false
  kt_NoSteps_NoSize : PySem.W.kitOne K (.ref (He.ga K "NoSteps")) (.ref (He.ga K "NoSize")) = some false
  kt_Full_NoSize : PySem.W.kitOne K (.ref (He.ga K "Full")) (.ref (He.ga K "NoSize")) = some false
  kt_NoNote_NoSize : PySem.W.kitOne K (.ref (He.ga K "NoNote")) (.ref (He.ga K "NoSize")) = some false
  kt_YardError_NoSlot : PySem.W.kitOne K (.ref (He.ga K "YardError")) (.ref (He.ga K "NoSlot")) = some false
  kt_NoKind_NoSlot : PySem.W.kitOne K (.ref (He.ga K "NoKind")) (.ref (He.ga K "NoSlot")) = some false
  kt_NoRoom_NoSlot : PySem.W.kitOne K (.ref (He.ga K "NoRoom")) (.ref (He.ga K "NoSlot")) = some false
  kt_NoDeed_NoSlot : PySem.W.kitOne K (.ref (He.ga K "NoDeed")) (.ref (He.ga K "NoSlot")) = some false
  kt_NoProgram_NoSlot : PySem.W.kitOne K (.ref (He.ga K "NoProgram")) (.ref (He.ga K "NoSlot")) = some false
  kt_NoPicture_NoSlot : PySem.W.kitOne K (.ref (He.ga K "NoPicture")) (.ref (He.ga K "NoSlot")) = some false
  kt_NoValue_NoSlot : PySem.W.kitOne K (.ref (He.ga K "NoValue")) (.ref (He.ga K "NoSlot")) = some false
  kt_NoWay_NoSlot : PySem.W.kitOne K (.ref (He.ga K "NoWay")) (.ref (He.ga K "NoSlot")) = some false
  kt_NoRoot_NoSlot : PySem.W.kitOne K (.ref (He.ga K "NoRoot")) (.ref (He.ga K "NoSlot")) = some false
  kt_NoSize_NoSlot : PySem.W.kitOne K (.ref (He.ga K "NoSize")) (.ref (He.ga K "NoSlot")) = some false
  kt_NoNumber_NoSlot : PySem.W.kitOne K (.ref (He.ga K "NoNumber")) (.ref (He.ga K "NoSlot")) = some false
  kt_NoCell_NoSlot : PySem.W.kitOne K (.ref (He.ga K "NoCell")) (.ref (He.ga K "NoSlot")) = some false
  kt_NoSlot_NoSlot : PySem.W.kitOne K (.ref (He.ga K "NoSlot")) (.ref (He.ga K "NoSlot")) = some true
  kt_NoSteps_NoSlot : PySem.W.kitOne K (.ref (He.ga K "NoSteps")) (.ref (He.ga K "NoSlot")) = some false
  kt_Full_NoSlot : PySem.W.kitOne K (.ref (He.ga K "Full")) (.ref (He.ga K "NoSlot")) = some false
  kt_NoNote_NoSlot : PySem.W.kitOne K (.ref (He.ga K "NoNote")) (.ref (He.ga K "NoSlot")) = some false
  kt_YardError_NoSteps : PySem.W.kitOne K (.ref (He.ga K "YardError")) (.ref (He.ga K "NoSteps")) = some false
  kt_NoKind_NoSteps : PySem.W.kitOne K (.ref (He.ga K "NoKind")) (.ref (He.ga K "NoSteps")) = some false
  kt_NoRoom_NoSteps : PySem.W.kitOne K (.ref (He.ga K "NoRoom")) (.ref (He.ga K "NoSteps")) = some false
  kt_NoDeed_NoSteps : PySem.W.kitOne K (.ref (He.ga K "NoDeed")) (.ref (He.ga K "NoSteps")) = some false
  kt_NoProgram_NoSteps : PySem.W.kitOne K (.ref (He.ga K "NoProgram")) (.ref (He.ga K "NoSteps")) = some false
  kt_NoPicture_NoSteps : PySem.W.kitOne K (.ref (He.ga K "NoPicture")) (.ref (He.ga K "NoSteps")) = some false
  kt_NoValue_NoSteps : PySem.W.kitOne K (.ref (He.ga K "NoValue")) (.ref (He.ga K "NoSteps")) = some false
  kt_NoWay_NoSteps : PySem.W.kitOne K (.ref (He.ga K "NoWay")) (.ref (He.ga K "NoSteps")) = some false
  kt_NoRoot_NoSteps : PySem.W.kitOne K (.ref (He.ga K "NoRoot")) (.ref (He.ga K "NoSteps")) = some false
  kt_NoSize_NoSteps : PySem.W.kitOne K (.ref (He.ga K "NoSize")) (.ref (He.ga K "NoSteps")) = some false
  kt_NoNumber_NoSteps : PySem.W.kitOne K (.ref (He.ga K "NoNumber")) (.ref (He.ga K "NoSteps")) = some false
  kt_NoCell_NoSteps : PySem.W.kitOne K (.ref (He.ga K "NoCell")) (.ref (He.ga K "NoSteps")) = some false
  kt_NoSlot_NoSteps : PySem.W.kitOne K (.ref (He.ga K "NoSlot")) (.ref (He.ga K "NoSteps")) = some false
  kt_NoSteps_NoSteps : PySem.W.kitOne K (.ref (He.ga K "NoSteps")) (.ref (He.ga K "NoSteps")) = some true
  kt_Full_NoSteps : PySem.W.kitOne K (.ref (He.ga K "Full")) (.ref (He.ga K "NoSteps")) = some false
  kt_NoNote_NoSteps : PySem.W.kitOne K (.ref (He.ga K "NoNote")) (.ref (He.ga K "NoSteps")) = some false
  kt_YardError_NoValue : PySem.W.kitOne K (.ref (He.ga K "YardError")) (.ref (He.ga K "NoValue")) = some false
  kt_NoKind_NoValue : PySem.W.kitOne K (.ref (He.ga K "NoKind")) (.ref (He.ga K "NoValue")) = some false
  kt_NoRoom_NoValue : PySem.W.kitOne K (.ref (He.ga K "NoRoom")) (.ref (He.ga K "NoValue")) = some false
  kt_NoDeed_NoValue : PySem.W.kitOne K (.ref (He.ga K "NoDeed")) (.ref (He.ga K "NoValue")) = some false
  kt_NoProgram_NoValue : PySem.W.kitOne K (.ref (He.ga K "NoProgram")) (.ref (He.ga K "NoValue")) = some false
  kt_NoPicture_NoValue : PySem.W.kitOne K (.ref (He.ga K "NoPicture")) (.ref (He.ga K "NoValue")) = some false
  kt_NoValue_NoValue : PySem.W.kitOne K (.ref (He.ga K "NoValue")) (.ref (He.ga K "NoValue")) = some true
  kt_NoWay_NoValue : PySem.W.kitOne K (.ref (He.ga K "NoWay")) (.ref (He.ga K "NoValue")) = some false
  kt_NoRoot_NoValue : PySem.W.kitOne K (.ref (He.ga K "NoRoot")) (.ref (He.ga K "NoValue")) = some false
  kt_NoSize_NoValue : PySem.W.kitOne K (.ref (He.ga K "NoSize")) (.ref (He.ga K "NoValue")) = some false
  kt_NoNumber_NoValue : PySem.W.kitOne K (.ref (He.ga K "NoNumber")) (.ref (He.ga K "NoValue")) = some false
  kt_NoCell_NoValue : PySem.W.kitOne K (.ref (He.ga K "NoCell")) (.ref (He.ga K "NoValue")) = some false
  kt_NoSlot_NoValue : PySem.W.kitOne K (.ref (He.ga K "NoSlot")) (.ref (He.ga K "NoValue")) = some false
  kt_NoSteps_NoValue : PySem.W.kitOne K (.ref (He.ga K "NoSteps")) (.ref (He.ga K "NoValue")) = some false
  kt_Full_NoValue : PySem.W.kitOne K (.ref (He.ga K "Full")) (.ref (He.ga K "NoValue")) = some false
  kt_NoNote_NoValue : PySem.W.kitOne K (.ref (He.ga K "NoNote")) (.ref (He.ga K "NoValue")) = some false
  kt_YardError_NoWay : PySem.W.kitOne K (.ref (He.ga K "YardError")) (.ref (He.ga K "NoWay")) = some false
  kt_NoKind_NoWay : PySem.W.kitOne K (.ref (He.ga K "NoKind")) (.ref (He.ga K "NoWay")) = some false
  kt_NoRoom_NoWay : PySem.W.kitOne K (.ref (He.ga K "NoRoom")) (.ref (He.ga K "NoWay")) = some false
  kt_NoDeed_NoWay : PySem.W.kitOne K (.ref (He.ga K "NoDeed")) (.ref (He.ga K "NoWay")) = some false
  kt_NoProgram_NoWay : PySem.W.kitOne K (.ref (He.ga K "NoProgram")) (.ref (He.ga K "NoWay")) = some false
  kt_NoPicture_NoWay : PySem.W.kitOne K (.ref (He.ga K "NoPicture")) (.ref (He.ga K "NoWay")) = some false
  kt_NoValue_NoWay : PySem.W.kitOne K (.ref (He.ga K "NoValue")) (.ref (He.ga K "NoWay")) = some false
  kt_NoWay_NoWay : PySem.W.kitOne K (.ref (He.ga K "NoWay")) (.ref (He.ga K "NoWay")) = some true
  kt_NoRoot_NoWay : PySem.W.kitOne K (.ref (He.ga K "NoRoot")) (.ref (He.ga K "NoWay")) = some false
  kt_NoSize_NoWay : PySem.W.kitOne K (.ref (He.ga K "NoSize")) (.ref (He.ga K "NoWay")) = some false
  kt_NoNumber_NoWay : PySem.W.kitOne K (.ref (He.ga K "NoNumber")) (.ref (He.ga K "NoWay")) = some false
  kt_NoCell_NoWay : PySem.W.kitOne K (.ref (He.ga K "NoCell")) (.ref (He.ga K "NoWay")) = some false
  kt_NoSlot_NoWay : PySem.W.kitOne K (.ref (He.ga K "NoSlot")) (.ref (He.ga K "NoWay")) = some false
  kt_NoSteps_NoWay : PySem.W.kitOne K (.ref (He.ga K "NoSteps")) (.ref (He.ga K "NoWay")) = some false
  kt_Full_NoWay : PySem.W.kitOne K (.ref (He.ga K "Full")) (.ref (He.ga K "NoWay")) = some false
  kt_NoNote_NoWay : PySem.W.kitOne K (.ref (He.ga K "NoNote")) (.ref (He.ga K "NoWay")) = some false
  kt_YardError_ValueError : PySem.W.kitOne K (.ref (He.ga K "YardError")) (.type "ValueError") = some true
  kt_NoKind_ValueError : PySem.W.kitOne K (.ref (He.ga K "NoKind")) (.type "ValueError") = some true
  kt_NoRoom_ValueError : PySem.W.kitOne K (.ref (He.ga K "NoRoom")) (.type "ValueError") = some true
  kt_NoDeed_ValueError : PySem.W.kitOne K (.ref (He.ga K "NoDeed")) (.type "ValueError") = some true
  kt_NoProgram_ValueError : PySem.W.kitOne K (.ref (He.ga K "NoProgram")) (.type "ValueError") = some true
  kt_NoPicture_ValueError : PySem.W.kitOne K (.ref (He.ga K "NoPicture")) (.type "ValueError") = some true
  kt_NoValue_ValueError : PySem.W.kitOne K (.ref (He.ga K "NoValue")) (.type "ValueError") = some true
  kt_NoWay_ValueError : PySem.W.kitOne K (.ref (He.ga K "NoWay")) (.type "ValueError") = some true
  kt_NoRoot_ValueError : PySem.W.kitOne K (.ref (He.ga K "NoRoot")) (.type "ValueError") = some true
  kt_NoSize_ValueError : PySem.W.kitOne K (.ref (He.ga K "NoSize")) (.type "ValueError") = some true
  kt_NoNumber_ValueError : PySem.W.kitOne K (.ref (He.ga K "NoNumber")) (.type "ValueError") = some true
  kt_NoCell_ValueError : PySem.W.kitOne K (.ref (He.ga K "NoCell")) (.type "ValueError") = some true
  kt_NoSlot_ValueError : PySem.W.kitOne K (.ref (He.ga K "NoSlot")) (.type "ValueError") = some true
  kt_NoSteps_ValueError : PySem.W.kitOne K (.ref (He.ga K "NoSteps")) (.type "ValueError") = some true
  kt_Full_ValueError : PySem.W.kitOne K (.ref (He.ga K "Full")) (.type "ValueError") = some true
  kt_NoNote_ValueError : PySem.W.kitOne K (.ref (He.ga K "NoNote")) (.type "ValueError") = some true
  f_led_to : ∃ fd, FunD K "led_to" "led_to" (defArgs st_led_to) (defBody st_led_to) (defScope st_led_to) [] [] (He.ga K "led_to") fd
  f_ways_in : ∃ fd, FunD K "ways_in" "ways_in" (defArgs st_ways_in) (defBody st_ways_in) (defScope st_ways_in) [] [] (He.ga K "ways_in") fd
  f_is_value : ∃ fd, FunD K "is_value" "is_value" (defArgs st_is_value) (defBody st_is_value) (defScope st_is_value) [] [] (He.ga K "is_value") fd
  f_is_picture : ∃ fd, FunD K "is_picture" "is_picture" (defArgs st_is_picture) (defBody st_is_picture) (defScope st_is_picture) [] [] (He.ga K "is_picture") fd
  f_ask_picture : ∃ fd, FunD K "ask_picture" "ask_picture" (defArgs st_ask_picture) (defBody st_ask_picture) (defScope st_ask_picture) [] [] (He.ga K "ask_picture") fd
  f_live : ∃ fd, FunD K "live" "live" (defArgs st_live) (defBody st_live) (defScope st_live) [] [] (He.ga K "live") fd
  f_live_part : ∃ fd, FunD K "live_part" "live_part" (defArgs st_live_part) (defBody st_live_part) (defScope st_live_part) [] [] (He.ga K "live_part") fd
  f_way_to : ∃ fd, FunD K "way_to" "way_to" (defArgs st_way_to) (defBody st_way_to) (defScope st_way_to) [] [] (He.ga K "way_to") fd
  f_leads : ∃ fd, FunD K "leads" "leads" (defArgs st_leads) (defBody st_leads) (defScope st_leads) [] [] (He.ga K "leads") fd
  f_words_of : ∃ fd, FunD K "words_of" "words_of" (defArgs st_words_of) (defBody st_words_of) (defScope st_words_of) [] [] (He.ga K "words_of") fd
  f_is_closed : ∃ fd, FunD K "is_closed" "is_closed" (defArgs st_is_closed) (defBody st_is_closed) (defScope st_is_closed) [] [] (He.ga K "is_closed") fd
  f_reasons : ∃ fd, FunD K "reasons" "reasons" (defArgs st_reasons) (defBody st_reasons) (defScope st_reasons) [] [] (He.ga K "reasons") fd
  f_reason_holds : ∃ fd, FunD K "reason_holds" "reason_holds" (defArgs st_reason_holds) (defBody st_reason_holds) (defScope st_reason_holds) [] [] (He.ga K "reason_holds") fd
  f_reasons_hold : ∃ fd, FunD K "reasons_hold" "reasons_hold" (defArgs st_reasons_hold) (defBody st_reasons_hold) (defScope st_reasons_hold) [] [] (He.ga K "reasons_hold") fd
  f_is_paper : ∃ fd, FunD K "is_paper" "is_paper" (defArgs st_is_paper) (defBody st_is_paper) (defScope st_is_paper) [] [] (He.ga K "is_paper") fd
  f_paper_of : ∃ fd, FunD K "paper_of" "paper_of" (defArgs st_paper_of) (defBody st_paper_of) (defScope st_paper_of) [] [] (He.ga K "paper_of") fd
  f__law_done : ∃ fd, FunD K "_law_done" "_law_done" (defArgs st__law_done) (defBody st__law_done) (defScope st__law_done) [] [] (He.ga K "_law_done") fd
  f__law_cell_at : ∃ fd, FunD K "_law_cell_at" "_law_cell_at" (defArgs st__law_cell_at) (defBody st__law_cell_at) (defScope st__law_cell_at) [] [] (He.ga K "_law_cell_at") fd
  f__law_others_X : ∃ fd, FunD K "_law_others" "_law_others" (defArgs st__law_others_X) (defBody st__law_others_X) (defScope st__law_others_X) [] [] (He.ga K "_law_others") fd
  f__law_bad : ∃ fd, FunD K "_law_bad" "_law_bad" (defArgs st__law_bad) (defBody st__law_bad) (defScope st__law_bad) [] [] (He.ga K "_law_bad") fd
  f__law_value : ∃ fd, FunD K "_law_value" "_law_value" (defArgs st__law_value) (defBody st__law_value) (defScope st__law_value) [] [] (He.ga K "_law_value") fd
  f__law_draw : ∃ fd, FunD K "_law_draw" "_law_draw" (defArgs st__law_draw) (defBody st__law_draw) (defScope st__law_draw) [] [] (He.ga K "_law_draw") fd
  f__law_drawn : ∃ fd, FunD K "_law_drawn" "_law_drawn" (defArgs st__law_drawn) (defBody st__law_drawn) (defScope st__law_drawn) [] [] (He.ga K "_law_drawn") fd
  f_law : ∃ fd, FunD K "law" "law" (defArgs st_law) (defBody st_law) (defScope st_law) [] [] (He.ga K "law") fd
theorem lt_of {l : List Bool} {k : Nat} {b : Bool} (h : l[k]? = some b) : k < l.length := (List.getElem?_eq_some_iff.mp h).1
theorem exm_YardError {K : PySem.W.Frag} {mg : Str → Option Value} {wl : World} (T : Txt K mg wl) : ∀ (k : Nat) (b : Bool), ([true, true, true, true, true, true, true, true, true, true, true, true, true, true, true, true] : List Bool)[k]? = some b → PySem.W.exmOne K (.ref (acls K k)) (.ref (He.ga K "YardError")) = some b
  | 0, _, h => by cases h; exact T.m_YardError_YardError
  | 1, _, h => by cases h; exact T.m_NoKind_YardError
  | 2, _, h => by cases h; exact T.m_NoRoom_YardError
  | 3, _, h => by cases h; exact T.m_NoDeed_YardError
  | 4, _, h => by cases h; exact T.m_NoProgram_YardError
  | 5, _, h => by cases h; exact T.m_NoPicture_YardError
  | 6, _, h => by cases h; exact T.m_NoValue_YardError
  | 7, _, h => by cases h; exact T.m_NoWay_YardError
  | 8, _, h => by cases h; exact T.m_NoRoot_YardError
  | 9, _, h => by cases h; exact T.m_NoSize_YardError
  | 10, _, h => by cases h; exact T.m_NoNumber_YardError
  | 11, _, h => by cases h; exact T.m_NoCell_YardError
  | 12, _, h => by cases h; exact T.m_NoSlot_YardError
  | 13, _, h => by cases h; exact T.m_NoSteps_YardError
  | 14, _, h => by cases h; exact T.m_Full_YardError
  | 15, _, h => by cases h; exact T.m_NoNote_YardError
  | n + 16, _, h => by simp at h
theorem kit_Full {K : PySem.W.Frag} {mg : Str → Option Value} {wl : World} (T : Txt K mg wl) : ∀ (k : Nat) (b : Bool), ([false, false, false, false, false, false, false, false, false, false, false, false, false, false, true, false] : List Bool)[k]? = some b → PySem.W.kitOne K (.ref (acls K k)) (.ref (He.ga K "Full")) = some b
  | 0, _, h => by cases h; exact T.kt_YardError_Full
  | 1, _, h => by cases h; exact T.kt_NoKind_Full
  | 2, _, h => by cases h; exact T.kt_NoRoom_Full
  | 3, _, h => by cases h; exact T.kt_NoDeed_Full
  | 4, _, h => by cases h; exact T.kt_NoProgram_Full
  | 5, _, h => by cases h; exact T.kt_NoPicture_Full
  | 6, _, h => by cases h; exact T.kt_NoValue_Full
  | 7, _, h => by cases h; exact T.kt_NoWay_Full
  | 8, _, h => by cases h; exact T.kt_NoRoot_Full
  | 9, _, h => by cases h; exact T.kt_NoSize_Full
  | 10, _, h => by cases h; exact T.kt_NoNumber_Full
  | 11, _, h => by cases h; exact T.kt_NoCell_Full
  | 12, _, h => by cases h; exact T.kt_NoSlot_Full
  | 13, _, h => by cases h; exact T.kt_NoSteps_Full
  | 14, _, h => by cases h; exact T.kt_Full_Full
  | 15, _, h => by cases h; exact T.kt_NoNote_Full
  | n + 16, _, h => by simp at h
theorem kit_NoCell {K : PySem.W.Frag} {mg : Str → Option Value} {wl : World} (T : Txt K mg wl) : ∀ (k : Nat) (b : Bool), ([false, false, false, false, false, false, false, false, false, false, false, true, false, false, false, false] : List Bool)[k]? = some b → PySem.W.kitOne K (.ref (acls K k)) (.ref (He.ga K "NoCell")) = some b
  | 0, _, h => by cases h; exact T.kt_YardError_NoCell
  | 1, _, h => by cases h; exact T.kt_NoKind_NoCell
  | 2, _, h => by cases h; exact T.kt_NoRoom_NoCell
  | 3, _, h => by cases h; exact T.kt_NoDeed_NoCell
  | 4, _, h => by cases h; exact T.kt_NoProgram_NoCell
  | 5, _, h => by cases h; exact T.kt_NoPicture_NoCell
  | 6, _, h => by cases h; exact T.kt_NoValue_NoCell
  | 7, _, h => by cases h; exact T.kt_NoWay_NoCell
  | 8, _, h => by cases h; exact T.kt_NoRoot_NoCell
  | 9, _, h => by cases h; exact T.kt_NoSize_NoCell
  | 10, _, h => by cases h; exact T.kt_NoNumber_NoCell
  | 11, _, h => by cases h; exact T.kt_NoCell_NoCell
  | 12, _, h => by cases h; exact T.kt_NoSlot_NoCell
  | 13, _, h => by cases h; exact T.kt_NoSteps_NoCell
  | 14, _, h => by cases h; exact T.kt_Full_NoCell
  | 15, _, h => by cases h; exact T.kt_NoNote_NoCell
  | n + 16, _, h => by simp at h
theorem kit_NoDeed {K : PySem.W.Frag} {mg : Str → Option Value} {wl : World} (T : Txt K mg wl) : ∀ (k : Nat) (b : Bool), ([false, false, false, true, false, false, false, false, false, false, false, false, false, false, false, false] : List Bool)[k]? = some b → PySem.W.kitOne K (.ref (acls K k)) (.ref (He.ga K "NoDeed")) = some b
  | 0, _, h => by cases h; exact T.kt_YardError_NoDeed
  | 1, _, h => by cases h; exact T.kt_NoKind_NoDeed
  | 2, _, h => by cases h; exact T.kt_NoRoom_NoDeed
  | 3, _, h => by cases h; exact T.kt_NoDeed_NoDeed
  | 4, _, h => by cases h; exact T.kt_NoProgram_NoDeed
  | 5, _, h => by cases h; exact T.kt_NoPicture_NoDeed
  | 6, _, h => by cases h; exact T.kt_NoValue_NoDeed
  | 7, _, h => by cases h; exact T.kt_NoWay_NoDeed
  | 8, _, h => by cases h; exact T.kt_NoRoot_NoDeed
  | 9, _, h => by cases h; exact T.kt_NoSize_NoDeed
  | 10, _, h => by cases h; exact T.kt_NoNumber_NoDeed
  | 11, _, h => by cases h; exact T.kt_NoCell_NoDeed
  | 12, _, h => by cases h; exact T.kt_NoSlot_NoDeed
  | 13, _, h => by cases h; exact T.kt_NoSteps_NoDeed
  | 14, _, h => by cases h; exact T.kt_Full_NoDeed
  | 15, _, h => by cases h; exact T.kt_NoNote_NoDeed
  | n + 16, _, h => by simp at h
theorem kit_NoKind {K : PySem.W.Frag} {mg : Str → Option Value} {wl : World} (T : Txt K mg wl) : ∀ (k : Nat) (b : Bool), ([false, true, false, false, false, false, false, false, false, false, false, false, false, false, false, false] : List Bool)[k]? = some b → PySem.W.kitOne K (.ref (acls K k)) (.ref (He.ga K "NoKind")) = some b
  | 0, _, h => by cases h; exact T.kt_YardError_NoKind
  | 1, _, h => by cases h; exact T.kt_NoKind_NoKind
  | 2, _, h => by cases h; exact T.kt_NoRoom_NoKind
  | 3, _, h => by cases h; exact T.kt_NoDeed_NoKind
  | 4, _, h => by cases h; exact T.kt_NoProgram_NoKind
  | 5, _, h => by cases h; exact T.kt_NoPicture_NoKind
  | 6, _, h => by cases h; exact T.kt_NoValue_NoKind
  | 7, _, h => by cases h; exact T.kt_NoWay_NoKind
  | 8, _, h => by cases h; exact T.kt_NoRoot_NoKind
  | 9, _, h => by cases h; exact T.kt_NoSize_NoKind
  | 10, _, h => by cases h; exact T.kt_NoNumber_NoKind
  | 11, _, h => by cases h; exact T.kt_NoCell_NoKind
  | 12, _, h => by cases h; exact T.kt_NoSlot_NoKind
  | 13, _, h => by cases h; exact T.kt_NoSteps_NoKind
  | 14, _, h => by cases h; exact T.kt_Full_NoKind
  | 15, _, h => by cases h; exact T.kt_NoNote_NoKind
  | n + 16, _, h => by simp at h
theorem kit_NoNote {K : PySem.W.Frag} {mg : Str → Option Value} {wl : World} (T : Txt K mg wl) : ∀ (k : Nat) (b : Bool), ([false, false, false, false, false, false, false, false, false, false, false, false, false, false, false, true] : List Bool)[k]? = some b → PySem.W.kitOne K (.ref (acls K k)) (.ref (He.ga K "NoNote")) = some b
  | 0, _, h => by cases h; exact T.kt_YardError_NoNote
  | 1, _, h => by cases h; exact T.kt_NoKind_NoNote
  | 2, _, h => by cases h; exact T.kt_NoRoom_NoNote
  | 3, _, h => by cases h; exact T.kt_NoDeed_NoNote
  | 4, _, h => by cases h; exact T.kt_NoProgram_NoNote
  | 5, _, h => by cases h; exact T.kt_NoPicture_NoNote
  | 6, _, h => by cases h; exact T.kt_NoValue_NoNote
  | 7, _, h => by cases h; exact T.kt_NoWay_NoNote
  | 8, _, h => by cases h; exact T.kt_NoRoot_NoNote
  | 9, _, h => by cases h; exact T.kt_NoSize_NoNote
  | 10, _, h => by cases h; exact T.kt_NoNumber_NoNote
  | 11, _, h => by cases h; exact T.kt_NoCell_NoNote
  | 12, _, h => by cases h; exact T.kt_NoSlot_NoNote
  | 13, _, h => by cases h; exact T.kt_NoSteps_NoNote
  | 14, _, h => by cases h; exact T.kt_Full_NoNote
  | 15, _, h => by cases h; exact T.kt_NoNote_NoNote
  | n + 16, _, h => by simp at h
theorem kit_NoNumber {K : PySem.W.Frag} {mg : Str → Option Value} {wl : World} (T : Txt K mg wl) : ∀ (k : Nat) (b : Bool), ([false, false, false, false, false, false, false, false, false, false, true, false, false, false, false, false] : List Bool)[k]? = some b → PySem.W.kitOne K (.ref (acls K k)) (.ref (He.ga K "NoNumber")) = some b
  | 0, _, h => by cases h; exact T.kt_YardError_NoNumber
  | 1, _, h => by cases h; exact T.kt_NoKind_NoNumber
  | 2, _, h => by cases h; exact T.kt_NoRoom_NoNumber
  | 3, _, h => by cases h; exact T.kt_NoDeed_NoNumber
  | 4, _, h => by cases h; exact T.kt_NoProgram_NoNumber
  | 5, _, h => by cases h; exact T.kt_NoPicture_NoNumber
  | 6, _, h => by cases h; exact T.kt_NoValue_NoNumber
  | 7, _, h => by cases h; exact T.kt_NoWay_NoNumber
  | 8, _, h => by cases h; exact T.kt_NoRoot_NoNumber
  | 9, _, h => by cases h; exact T.kt_NoSize_NoNumber
  | 10, _, h => by cases h; exact T.kt_NoNumber_NoNumber
  | 11, _, h => by cases h; exact T.kt_NoCell_NoNumber
  | 12, _, h => by cases h; exact T.kt_NoSlot_NoNumber
  | 13, _, h => by cases h; exact T.kt_NoSteps_NoNumber
  | 14, _, h => by cases h; exact T.kt_Full_NoNumber
  | 15, _, h => by cases h; exact T.kt_NoNote_NoNumber
  | n + 16, _, h => by simp at h
theorem kit_NoPicture {K : PySem.W.Frag} {mg : Str → Option Value} {wl : World} (T : Txt K mg wl) : ∀ (k : Nat) (b : Bool), ([false, false, false, false, false, true, false, false, false, false, false, false, false, false, false, false] : List Bool)[k]? = some b → PySem.W.kitOne K (.ref (acls K k)) (.ref (He.ga K "NoPicture")) = some b
  | 0, _, h => by cases h; exact T.kt_YardError_NoPicture
  | 1, _, h => by cases h; exact T.kt_NoKind_NoPicture
  | 2, _, h => by cases h; exact T.kt_NoRoom_NoPicture
  | 3, _, h => by cases h; exact T.kt_NoDeed_NoPicture
  | 4, _, h => by cases h; exact T.kt_NoProgram_NoPicture
  | 5, _, h => by cases h; exact T.kt_NoPicture_NoPicture
  | 6, _, h => by cases h; exact T.kt_NoValue_NoPicture
  | 7, _, h => by cases h; exact T.kt_NoWay_NoPicture
  | 8, _, h => by cases h; exact T.kt_NoRoot_NoPicture
  | 9, _, h => by cases h; exact T.kt_NoSize_NoPicture
  | 10, _, h => by cases h; exact T.kt_NoNumber_NoPicture
  | 11, _, h => by cases h; exact T.kt_NoCell_NoPicture
  | 12, _, h => by cases h; exact T.kt_NoSlot_NoPicture
  | 13, _, h => by cases h; exact T.kt_NoSteps_NoPicture
  | 14, _, h => by cases h; exact T.kt_Full_NoPicture
  | 15, _, h => by cases h; exact T.kt_NoNote_NoPicture
  | n + 16, _, h => by simp at h
theorem kit_NoProgram {K : PySem.W.Frag} {mg : Str → Option Value} {wl : World} (T : Txt K mg wl) : ∀ (k : Nat) (b : Bool), ([false, false, false, false, true, false, false, false, false, false, false, false, false, false, false, false] : List Bool)[k]? = some b → PySem.W.kitOne K (.ref (acls K k)) (.ref (He.ga K "NoProgram")) = some b
  | 0, _, h => by cases h; exact T.kt_YardError_NoProgram
  | 1, _, h => by cases h; exact T.kt_NoKind_NoProgram
  | 2, _, h => by cases h; exact T.kt_NoRoom_NoProgram
  | 3, _, h => by cases h; exact T.kt_NoDeed_NoProgram
  | 4, _, h => by cases h; exact T.kt_NoProgram_NoProgram
  | 5, _, h => by cases h; exact T.kt_NoPicture_NoProgram
  | 6, _, h => by cases h; exact T.kt_NoValue_NoProgram
  | 7, _, h => by cases h; exact T.kt_NoWay_NoProgram
  | 8, _, h => by cases h; exact T.kt_NoRoot_NoProgram
  | 9, _, h => by cases h; exact T.kt_NoSize_NoProgram
  | 10, _, h => by cases h; exact T.kt_NoNumber_NoProgram
  | 11, _, h => by cases h; exact T.kt_NoCell_NoProgram
  | 12, _, h => by cases h; exact T.kt_NoSlot_NoProgram
  | 13, _, h => by cases h; exact T.kt_NoSteps_NoProgram
  | 14, _, h => by cases h; exact T.kt_Full_NoProgram
  | 15, _, h => by cases h; exact T.kt_NoNote_NoProgram
  | n + 16, _, h => by simp at h
theorem kit_NoRoom {K : PySem.W.Frag} {mg : Str → Option Value} {wl : World} (T : Txt K mg wl) : ∀ (k : Nat) (b : Bool), ([false, false, true, false, false, false, false, false, false, false, false, false, false, false, false, false] : List Bool)[k]? = some b → PySem.W.kitOne K (.ref (acls K k)) (.ref (He.ga K "NoRoom")) = some b
  | 0, _, h => by cases h; exact T.kt_YardError_NoRoom
  | 1, _, h => by cases h; exact T.kt_NoKind_NoRoom
  | 2, _, h => by cases h; exact T.kt_NoRoom_NoRoom
  | 3, _, h => by cases h; exact T.kt_NoDeed_NoRoom
  | 4, _, h => by cases h; exact T.kt_NoProgram_NoRoom
  | 5, _, h => by cases h; exact T.kt_NoPicture_NoRoom
  | 6, _, h => by cases h; exact T.kt_NoValue_NoRoom
  | 7, _, h => by cases h; exact T.kt_NoWay_NoRoom
  | 8, _, h => by cases h; exact T.kt_NoRoot_NoRoom
  | 9, _, h => by cases h; exact T.kt_NoSize_NoRoom
  | 10, _, h => by cases h; exact T.kt_NoNumber_NoRoom
  | 11, _, h => by cases h; exact T.kt_NoCell_NoRoom
  | 12, _, h => by cases h; exact T.kt_NoSlot_NoRoom
  | 13, _, h => by cases h; exact T.kt_NoSteps_NoRoom
  | 14, _, h => by cases h; exact T.kt_Full_NoRoom
  | 15, _, h => by cases h; exact T.kt_NoNote_NoRoom
  | n + 16, _, h => by simp at h
theorem kit_NoRoot {K : PySem.W.Frag} {mg : Str → Option Value} {wl : World} (T : Txt K mg wl) : ∀ (k : Nat) (b : Bool), ([false, false, false, false, false, false, false, false, true, false, false, false, false, false, false, false] : List Bool)[k]? = some b → PySem.W.kitOne K (.ref (acls K k)) (.ref (He.ga K "NoRoot")) = some b
  | 0, _, h => by cases h; exact T.kt_YardError_NoRoot
  | 1, _, h => by cases h; exact T.kt_NoKind_NoRoot
  | 2, _, h => by cases h; exact T.kt_NoRoom_NoRoot
  | 3, _, h => by cases h; exact T.kt_NoDeed_NoRoot
  | 4, _, h => by cases h; exact T.kt_NoProgram_NoRoot
  | 5, _, h => by cases h; exact T.kt_NoPicture_NoRoot
  | 6, _, h => by cases h; exact T.kt_NoValue_NoRoot
  | 7, _, h => by cases h; exact T.kt_NoWay_NoRoot
  | 8, _, h => by cases h; exact T.kt_NoRoot_NoRoot
  | 9, _, h => by cases h; exact T.kt_NoSize_NoRoot
  | 10, _, h => by cases h; exact T.kt_NoNumber_NoRoot
  | 11, _, h => by cases h; exact T.kt_NoCell_NoRoot
  | 12, _, h => by cases h; exact T.kt_NoSlot_NoRoot
  | 13, _, h => by cases h; exact T.kt_NoSteps_NoRoot
  | 14, _, h => by cases h; exact T.kt_Full_NoRoot
  | 15, _, h => by cases h; exact T.kt_NoNote_NoRoot
  | n + 16, _, h => by simp at h
theorem kit_NoSize {K : PySem.W.Frag} {mg : Str → Option Value} {wl : World} (T : Txt K mg wl) : ∀ (k : Nat) (b : Bool), ([false, false, false, false, false, false, false, false, false, true, false, false, false, false, false, false] : List Bool)[k]? = some b → PySem.W.kitOne K (.ref (acls K k)) (.ref (He.ga K "NoSize")) = some b
  | 0, _, h => by cases h; exact T.kt_YardError_NoSize
  | 1, _, h => by cases h; exact T.kt_NoKind_NoSize
  | 2, _, h => by cases h; exact T.kt_NoRoom_NoSize
  | 3, _, h => by cases h; exact T.kt_NoDeed_NoSize
  | 4, _, h => by cases h; exact T.kt_NoProgram_NoSize
  | 5, _, h => by cases h; exact T.kt_NoPicture_NoSize
  | 6, _, h => by cases h; exact T.kt_NoValue_NoSize
  | 7, _, h => by cases h; exact T.kt_NoWay_NoSize
  | 8, _, h => by cases h; exact T.kt_NoRoot_NoSize
  | 9, _, h => by cases h; exact T.kt_NoSize_NoSize
  | 10, _, h => by cases h; exact T.kt_NoNumber_NoSize
  | 11, _, h => by cases h; exact T.kt_NoCell_NoSize
  | 12, _, h => by cases h; exact T.kt_NoSlot_NoSize
  | 13, _, h => by cases h; exact T.kt_NoSteps_NoSize
  | 14, _, h => by cases h; exact T.kt_Full_NoSize
  | 15, _, h => by cases h; exact T.kt_NoNote_NoSize
  | n + 16, _, h => by simp at h
theorem kit_NoSlot {K : PySem.W.Frag} {mg : Str → Option Value} {wl : World} (T : Txt K mg wl) : ∀ (k : Nat) (b : Bool), ([false, false, false, false, false, false, false, false, false, false, false, false, true, false, false, false] : List Bool)[k]? = some b → PySem.W.kitOne K (.ref (acls K k)) (.ref (He.ga K "NoSlot")) = some b
  | 0, _, h => by cases h; exact T.kt_YardError_NoSlot
  | 1, _, h => by cases h; exact T.kt_NoKind_NoSlot
  | 2, _, h => by cases h; exact T.kt_NoRoom_NoSlot
  | 3, _, h => by cases h; exact T.kt_NoDeed_NoSlot
  | 4, _, h => by cases h; exact T.kt_NoProgram_NoSlot
  | 5, _, h => by cases h; exact T.kt_NoPicture_NoSlot
  | 6, _, h => by cases h; exact T.kt_NoValue_NoSlot
  | 7, _, h => by cases h; exact T.kt_NoWay_NoSlot
  | 8, _, h => by cases h; exact T.kt_NoRoot_NoSlot
  | 9, _, h => by cases h; exact T.kt_NoSize_NoSlot
  | 10, _, h => by cases h; exact T.kt_NoNumber_NoSlot
  | 11, _, h => by cases h; exact T.kt_NoCell_NoSlot
  | 12, _, h => by cases h; exact T.kt_NoSlot_NoSlot
  | 13, _, h => by cases h; exact T.kt_NoSteps_NoSlot
  | 14, _, h => by cases h; exact T.kt_Full_NoSlot
  | 15, _, h => by cases h; exact T.kt_NoNote_NoSlot
  | n + 16, _, h => by simp at h
theorem kit_NoSteps {K : PySem.W.Frag} {mg : Str → Option Value} {wl : World} (T : Txt K mg wl) : ∀ (k : Nat) (b : Bool), ([false, false, false, false, false, false, false, false, false, false, false, false, false, true, false, false] : List Bool)[k]? = some b → PySem.W.kitOne K (.ref (acls K k)) (.ref (He.ga K "NoSteps")) = some b
  | 0, _, h => by cases h; exact T.kt_YardError_NoSteps
  | 1, _, h => by cases h; exact T.kt_NoKind_NoSteps
  | 2, _, h => by cases h; exact T.kt_NoRoom_NoSteps
  | 3, _, h => by cases h; exact T.kt_NoDeed_NoSteps
  | 4, _, h => by cases h; exact T.kt_NoProgram_NoSteps
  | 5, _, h => by cases h; exact T.kt_NoPicture_NoSteps
  | 6, _, h => by cases h; exact T.kt_NoValue_NoSteps
  | 7, _, h => by cases h; exact T.kt_NoWay_NoSteps
  | 8, _, h => by cases h; exact T.kt_NoRoot_NoSteps
  | 9, _, h => by cases h; exact T.kt_NoSize_NoSteps
  | 10, _, h => by cases h; exact T.kt_NoNumber_NoSteps
  | 11, _, h => by cases h; exact T.kt_NoCell_NoSteps
  | 12, _, h => by cases h; exact T.kt_NoSlot_NoSteps
  | 13, _, h => by cases h; exact T.kt_NoSteps_NoSteps
  | 14, _, h => by cases h; exact T.kt_Full_NoSteps
  | 15, _, h => by cases h; exact T.kt_NoNote_NoSteps
  | n + 16, _, h => by simp at h
theorem kit_NoValue {K : PySem.W.Frag} {mg : Str → Option Value} {wl : World} (T : Txt K mg wl) : ∀ (k : Nat) (b : Bool), ([false, false, false, false, false, false, true, false, false, false, false, false, false, false, false, false] : List Bool)[k]? = some b → PySem.W.kitOne K (.ref (acls K k)) (.ref (He.ga K "NoValue")) = some b
  | 0, _, h => by cases h; exact T.kt_YardError_NoValue
  | 1, _, h => by cases h; exact T.kt_NoKind_NoValue
  | 2, _, h => by cases h; exact T.kt_NoRoom_NoValue
  | 3, _, h => by cases h; exact T.kt_NoDeed_NoValue
  | 4, _, h => by cases h; exact T.kt_NoProgram_NoValue
  | 5, _, h => by cases h; exact T.kt_NoPicture_NoValue
  | 6, _, h => by cases h; exact T.kt_NoValue_NoValue
  | 7, _, h => by cases h; exact T.kt_NoWay_NoValue
  | 8, _, h => by cases h; exact T.kt_NoRoot_NoValue
  | 9, _, h => by cases h; exact T.kt_NoSize_NoValue
  | 10, _, h => by cases h; exact T.kt_NoNumber_NoValue
  | 11, _, h => by cases h; exact T.kt_NoCell_NoValue
  | 12, _, h => by cases h; exact T.kt_NoSlot_NoValue
  | 13, _, h => by cases h; exact T.kt_NoSteps_NoValue
  | 14, _, h => by cases h; exact T.kt_Full_NoValue
  | 15, _, h => by cases h; exact T.kt_NoNote_NoValue
  | n + 16, _, h => by simp at h
theorem kit_NoWay {K : PySem.W.Frag} {mg : Str → Option Value} {wl : World} (T : Txt K mg wl) : ∀ (k : Nat) (b : Bool), ([false, false, false, false, false, false, false, true, false, false, false, false, false, false, false, false] : List Bool)[k]? = some b → PySem.W.kitOne K (.ref (acls K k)) (.ref (He.ga K "NoWay")) = some b
  | 0, _, h => by cases h; exact T.kt_YardError_NoWay
  | 1, _, h => by cases h; exact T.kt_NoKind_NoWay
  | 2, _, h => by cases h; exact T.kt_NoRoom_NoWay
  | 3, _, h => by cases h; exact T.kt_NoDeed_NoWay
  | 4, _, h => by cases h; exact T.kt_NoProgram_NoWay
  | 5, _, h => by cases h; exact T.kt_NoPicture_NoWay
  | 6, _, h => by cases h; exact T.kt_NoValue_NoWay
  | 7, _, h => by cases h; exact T.kt_NoWay_NoWay
  | 8, _, h => by cases h; exact T.kt_NoRoot_NoWay
  | 9, _, h => by cases h; exact T.kt_NoSize_NoWay
  | 10, _, h => by cases h; exact T.kt_NoNumber_NoWay
  | 11, _, h => by cases h; exact T.kt_NoCell_NoWay
  | 12, _, h => by cases h; exact T.kt_NoSlot_NoWay
  | 13, _, h => by cases h; exact T.kt_NoSteps_NoWay
  | 14, _, h => by cases h; exact T.kt_Full_NoWay
  | 15, _, h => by cases h; exact T.kt_NoNote_NoWay
  | n + 16, _, h => by simp at h
theorem kit_ValueError {K : PySem.W.Frag} {mg : Str → Option Value} {wl : World} (T : Txt K mg wl) : ∀ (k : Nat) (b : Bool), ([true, true, true, true, true, true, true, true, true, true, true, true, true, true, true, true] : List Bool)[k]? = some b → PySem.W.kitOne K (.ref (acls K k)) (.type "ValueError") = some b
  | 0, _, h => by cases h; exact T.kt_YardError_ValueError
  | 1, _, h => by cases h; exact T.kt_NoKind_ValueError
  | 2, _, h => by cases h; exact T.kt_NoRoom_ValueError
  | 3, _, h => by cases h; exact T.kt_NoDeed_ValueError
  | 4, _, h => by cases h; exact T.kt_NoProgram_ValueError
  | 5, _, h => by cases h; exact T.kt_NoPicture_ValueError
  | 6, _, h => by cases h; exact T.kt_NoValue_ValueError
  | 7, _, h => by cases h; exact T.kt_NoWay_ValueError
  | 8, _, h => by cases h; exact T.kt_NoRoot_ValueError
  | 9, _, h => by cases h; exact T.kt_NoSize_ValueError
  | 10, _, h => by cases h; exact T.kt_NoNumber_ValueError
  | 11, _, h => by cases h; exact T.kt_NoCell_ValueError
  | 12, _, h => by cases h; exact T.kt_NoSlot_ValueError
  | 13, _, h => by cases h; exact T.kt_NoSteps_ValueError
  | 14, _, h => by cases h; exact T.kt_Full_ValueError
  | 15, _, h => by cases h; exact T.kt_NoNote_ValueError
  | n + 16, _, h => by simp at h
theorem ecc {K : PySem.W.Frag} {mg : Str → Option Value} {wl : World} (T : Txt K mg wl) : ∀ (k : Nat), k < 16 → ExcC K (acls K k)
  | 0, _ => T.ec_YardError
  | 1, _ => T.ec_NoKind
  | 2, _ => T.ec_NoRoom
  | 3, _ => T.ec_NoDeed
  | 4, _ => T.ec_NoProgram
  | 5, _ => T.ec_NoPicture
  | 6, _ => T.ec_NoValue
  | 7, _ => T.ec_NoWay
  | 8, _ => T.ec_NoRoot
  | 9, _ => T.ec_NoSize
  | 10, _ => T.ec_NoNumber
  | 11, _ => T.ec_NoCell
  | 12, _ => T.ec_NoSlot
  | 13, _ => T.ec_NoSteps
  | 14, _ => T.ec_Full
  | 15, _ => T.ec_NoNote
  | n + 16, h => by omega
section
variable {P : Program} {wl : World} {K : PySem.W.Frag} {mg : Str → Option Value} {base : Heap}
theorem ok_led_to (T : Txt K mg wl) {fd : FuncData} (F : FunD K "led_to" "led_to" (defArgs st_led_to) (defBody st_led_to) (defScope st_led_to) [] [] (He.ga K "led_to") fd) : FnOk P wl K mg base (L2.CX P wl) 1 (He.ga K "led_to") fd ["value"] (spOf ⟨K, acls K, none⟩ 1 f_led_to) := by
  refine fn_ok (k := 0) F sc_led_to (by decide) fun cdv Ar outer s H E hr tk po => ?_
  exact mss_cons (ms_if (mw_pt (mw_and (mt_notN (me_var 0) (me_non)) (mw_and1 (mt_eq hr.units (me_ix (me_var 0) (me_int)) (me_str))))) (mss_one (ms_ret (me_ix (me_var 0) (me_int)))) (mss_nil))
    (mss_one (ms_ret (me_non)))
theorem ok_ways_in (T : Txt K mg wl) {fd : FuncData} (F : FunD K "ways_in" "ways_in" (defArgs st_ways_in) (defBody st_ways_in) (defScope st_ways_in) [] [] (He.ga K "ways_in") fd) : FnOk P wl K mg base (L2.CX P wl) 2 (He.ga K "ways_in") fd ["picture"] (spOf ⟨K, acls K, none⟩ 1 f_ways_in) := by
  obtain ⟨fd_led_to, F_led_to⟩ := T.f_led_to
  have G_led_to := ok_led_to (P := P) (wl := wl) (base := base) T F_led_to
  have b_led_to : Binds K fd_led_to ["value"] [] := F_led_to.bindsN (fun _ _ _ _ _ _ us hl => match us, hl with | [_], _ => rfl)
  have k_led_to := F_led_to.kp
  refine fn_ok (k := 1) F sc_ways_in (by decide) fun cdv Ar outer s H E hr tk po => ?_
  exact mss_cons (ms_setF 1 sc_ways_in.nd (me_dictP rfl rfl T.z_dict (me_ix (me_var 0) (me_int))))
    (mss_cons (ms_set 2 sc_ways_in.nd (me_dct0))
    (mss_cons (ms_set 3 sc_ways_in.nd (me_lst (ma_nil)))
    (mss_cons (ms_for po rfl (mi_rng1 (by exact rfl) T.z_range (me_num rfl T.c_ROOTS)) (mg_nm 4 sc_ways_in.nd) (mss_cons (ms_setF 5 sc_ways_in.nd (me_call G_led_to ar_led_to (hr.mono (by decide)) tk rfl T.g_led_to k_led_to b_led_to (ma_cons (me_ix (me_ix (me_var 0) (me_int)) (me_var 4)) (ma_nil))))
    (mss_one (ms_if (mw_pt (mw_and (mt_notN (me_var 5) (me_non)) (mw_and1 (mt_dnotin (u1 hr.units) (me_var 5) (me_var 2))))) (mss_cons (ms_dp 2 (u1 hr.units) (me_lst (ma_cons (me_var 4) (ma_nil))) (me_var 5))
    (mss_one (ms_app 3 (me_var 5)))) (mss_nil)))))
    (mss_cons (ms_setF 6 sc_ways_in.nd (me_int))
    (mss_cons (ms_while 400 po (mt_lt (me_var 6) (me_len rfl T.z_len (me_var 3))) (mss_cons (ms_setF 7 sc_ways_in.nd (me_dg (u1 hr.units) (me_var 1) (me_ix (me_var 3) (me_var 6))))
    (mss_cons (ms_for po rfl (mi_rng1 (by exact rfl) T.z_range (me_len rfl T.z_len (me_var 7))) (mg_nm 4 sc_ways_in.nd) (mss_cons (ms_setF 5 sc_ways_in.nd (me_call G_led_to ar_led_to (hr.mono (by decide)) tk rfl T.g_led_to k_led_to b_led_to (ma_cons (me_ix (me_var 7) (me_var 4)) (ma_nil))))
    (mss_one (ms_if (mw_pt (mw_and (mt_notN (me_var 5) (me_non)) (mw_and1 (mt_dnotin (u1 hr.units) (me_var 5) (me_var 2))))) (mss_cons (ms_dp 2 (u1 hr.units) (me_add (me_dg (u1 hr.units) (me_var 2) (me_ix (me_var 3) (me_var 6))) (me_lst (ma_cons (me_var 4) (ma_nil)))) (me_var 5))
    (mss_one (ms_app 3 (me_var 5)))) (mss_nil)))))
    (mss_one (ms_setF 6 sc_ways_in.nd (me_add (me_var 6) (me_int)))))))
    (mss_one (ms_retV 2)))))))
theorem ok_is_value (T : Txt K mg wl) {fd : FuncData} (F : FunD K "is_value" "is_value" (defArgs st_is_value) (defBody st_is_value) (defScope st_is_value) [] [] (He.ga K "is_value") fd) : FnOk P wl K mg base (L2.CX P wl) 1 (He.ga K "is_value") fd ["value", "names"] (spOf ⟨K, acls K, none⟩ 2 f_is_value) := by
  refine fn_ok (k := 0) F sc_is_value (by decide) fun cdv Ar outer s H E hr tk po => ?_
  exact mss_cons (ms_if (mt_isN (me_var 0) (me_non)) (mss_one (ms_ret (me_bl))) (mss_nil))
    (mss_cons (ms_if (mt_eq hr.units (me_ix (me_var 0) (me_int)) (me_str)) (mss_one (ms_ret (me_lele (me_neg (me_num rfl T.c_GREATEST)) (me_ix (me_var 0) (me_int)) (me_num rfl T.c_GREATEST)))) (mss_nil))
    (mss_one (ms_ret (me_and (me_eq hr.units (me_ix (me_var 0) (me_int)) (me_str)) (me_one (me_in (me_ix (me_var 0) (me_int)) (me_var 1)))))))
theorem ok_is_picture (T : Txt K mg wl) {fd : FuncData} (F : FunD K "is_picture" "is_picture" (defArgs st_is_picture) (defBody st_is_picture) (defScope st_is_picture) [] [] (He.ga K "is_picture") fd) : FnOk P wl K mg base (L2.CX P wl) 2 (He.ga K "is_picture") fd ["roots", "cells"] (spOf ⟨K, acls K, none⟩ 2 f_is_picture) := by
  obtain ⟨fd_is_value, F_is_value⟩ := T.f_is_value
  have G_is_value := ok_is_value (P := P) (wl := wl) (base := base) T F_is_value
  have b_is_value : Binds K fd_is_value ["value", "names"] [] := F_is_value.bindsN (fun _ _ _ _ _ _ us hl => match us, hl with | [_, _], _ => rfl)
  have k_is_value := F_is_value.kp
  refine fn_ok (k := 1) F sc_is_picture (by decide) fun cdv Ar outer s H E hr tk po => ?_
  exact mss_cons (ms_setF 2 sc_is_picture.nd (me_lc rfl sc_is_picture.nd (mi_seq (me_var 1)) (blkOk_by (N := n_is_picture) (sc := defScope st_is_picture) (own := [("cell", 5)]) (by decide +kernel)) rfl (by decide) (fun _ _ _ _ _ => mg_nm 5 sc_is_picture.nd) (fun _ _ _ _ _ => mpt_nil) (fun _ _ _ _ _ tk3 => me_ix (me_var 5) (me_int))))
    (mss_cons (ms_if (mw_pt (mw_or (mt_ne hr.units (me_len rfl T.z_len (me_var 0)) (me_num rfl T.c_ROOTS)) (mw_or1 (mt_ne hr.units (me_var 2) (me_sortSet rfl rfl T.z_sorted rfl T.z_set (me_var 2)))))) (mss_one (ms_ret (me_bl))) (mss_nil))
    (mss_cons (ms_if (mw_pt (mw_and (mt_gt (me_len rfl T.z_len (me_var 2)) (me_int)) (mw_and1 (mt_lt (me_ix (me_var 2) (me_int)) (me_int))))) (mss_one (ms_ret (me_bl))) (mss_nil))
    (mss_cons (ms_for po rfl (mi_seq (me_var 1)) (mg_tp rfl (mgs_cons 3 sc_is_picture.nd (mgs_cons 4 sc_is_picture.nd (mgs_nil)))) (mss_one (ms_if (mw_pt (mw_or (mt_gt (me_len rfl T.z_len (me_var 4)) (me_num rfl T.c_MOST_SIZE)) (mw_or1 (mt_not (mt_val (me_all rfl rfl T.z_all (me_lc rfl sc_is_picture.nd (mi_seq (me_var 4)) (blkOk_by (N := n_is_picture) (sc := defScope st_is_picture) (own := [("value", 6)]) (by decide +kernel)) rfl (by decide) (fun _ _ _ _ _ => mg_nm 6 sc_is_picture.nd) (fun _ _ _ _ _ => mpt_nil) (fun _ _ _ _ _ tk2 => me_call G_is_value ar_is_value (hr.mono (by decide)) tk2 rfl T.g_is_value k_is_value b_is_value (ma_cons (me_var 6) (ma_cons (me_var 2) (ma_nil))))))))))) (mss_one (ms_ret (me_bl))) (mss_nil))))
    (mss_one (ms_ret (me_all rfl rfl T.z_all (me_lc rfl sc_is_picture.nd (mi_seq (me_var 0)) (blkOk_by (N := n_is_picture) (sc := defScope st_is_picture) (own := [("value", 6)]) (by decide +kernel)) rfl (by decide) (fun _ _ _ _ _ => mg_nm 6 sc_is_picture.nd) (fun _ _ _ _ _ => mpt_nil) (fun _ _ _ _ _ tk1 => me_call G_is_value ar_is_value (hr.mono (by decide)) tk1 rfl T.g_is_value k_is_value b_is_value (ma_cons (me_var 6) (ma_cons (me_var 2) (ma_nil)))))))))))
theorem ok_ask_picture (T : Txt K mg wl) {fd : FuncData} (F : FunD K "ask_picture" "ask_picture" (defArgs st_ask_picture) (defBody st_ask_picture) (defScope st_ask_picture) [] [] (He.ga K "ask_picture") fd) : FnOk P wl K mg base (L2.CX P wl) 3 (He.ga K "ask_picture") fd ["picture"] (spOf ⟨K, acls K, none⟩ 1 f_ask_picture) := by
  obtain ⟨fd_is_picture, F_is_picture⟩ := T.f_is_picture
  have G_is_picture := ok_is_picture (P := P) (wl := wl) (base := base) T F_is_picture
  have b_is_picture : Binds K fd_is_picture ["roots", "cells"] [] := F_is_picture.bindsN (fun _ _ _ _ _ _ us hl => match us, hl with | [_, _], _ => rfl)
  have k_is_picture := F_is_picture.kp
  refine fn_ok (k := 2) F sc_ask_picture (by decide) fun cdv Ar outer s H E hr tk po => ?_
  exact mss_one (ms_if (mt_not (mt_val (me_call G_is_picture ar_is_picture (hr.mono (by decide)) tk rfl T.g_is_picture k_is_picture b_is_picture (ma_cons (me_ix (me_var 0) (me_int)) (ma_cons (me_ix (me_var 0) (me_int)) (ma_nil)))))) (mss_one (ms_raise (k := 5) rfl tk (pmk_own PySem.F.excBase_ValueError T.x_NoPicture.1 T.g_NoPicture T.x_NoPicture.2.1 (raises_own T.x_NoPicture.2.2.1 T.x_NoPicture.2.2.2) rfl))) (mss_nil))
theorem ok_live (T : Txt K mg wl) {fd : FuncData} (F : FunD K "live" "live" (defArgs st_live) (defBody st_live) (defScope st_live) [] [] (He.ga K "live") fd) : FnOk P wl K mg base (L2.CX P wl) 4 (He.ga K "live") fd ["picture"] (spOf ⟨K, acls K, none⟩ 1 f_live) := by
  obtain ⟨fd_ask_picture, F_ask_picture⟩ := T.f_ask_picture
  have G_ask_picture := ok_ask_picture (P := P) (wl := wl) (base := base) T F_ask_picture
  have b_ask_picture : Binds K fd_ask_picture ["picture"] [] := F_ask_picture.bindsN (fun _ _ _ _ _ _ us hl => match us, hl with | [_], _ => rfl)
  have k_ask_picture := F_ask_picture.kp
  obtain ⟨fd_ways_in, F_ways_in⟩ := T.f_ways_in
  have G_ways_in := ok_ways_in (P := P) (wl := wl) (base := base) T F_ways_in
  have b_ways_in : Binds K fd_ways_in ["picture"] [] := F_ways_in.bindsN (fun _ _ _ _ _ _ us hl => match us, hl with | [_], _ => rfl)
  have k_ways_in := F_ways_in.kp
  refine fn_ok (k := 3) F sc_live (by decide) fun cdv Ar outer s H E hr tk po => ?_
  exact mss_cons (ms_ex (me_call G_ask_picture ar_ask_picture (hr.mono (by decide)) tk rfl T.g_ask_picture k_ask_picture b_ask_picture (ma_cons (me_var 0) (ma_nil))))
    (mss_one (ms_ret (me_sorted rfl T.z_sorted (me_listD rfl rfl T.z_list (me_call G_ways_in ar_ways_in (hr.mono (by decide)) tk rfl T.g_ways_in k_ways_in b_ways_in (ma_cons (me_var 0) (ma_nil)))))))
theorem ok_live_part (T : Txt K mg wl) {fd : FuncData} (F : FunD K "live_part" "live_part" (defArgs st_live_part) (defBody st_live_part) (defScope st_live_part) [] [] (He.ga K "live_part") fd) : FnOk P wl K mg base (L2.CX P wl) 4 (He.ga K "live_part") fd ["picture"] (spOf ⟨K, acls K, none⟩ 1 f_live_part) := by
  obtain ⟨fd_ask_picture, F_ask_picture⟩ := T.f_ask_picture
  have G_ask_picture := ok_ask_picture (P := P) (wl := wl) (base := base) T F_ask_picture
  have b_ask_picture : Binds K fd_ask_picture ["picture"] [] := F_ask_picture.bindsN (fun _ _ _ _ _ _ us hl => match us, hl with | [_], _ => rfl)
  have k_ask_picture := F_ask_picture.kp
  obtain ⟨fd_ways_in, F_ways_in⟩ := T.f_ways_in
  have G_ways_in := ok_ways_in (P := P) (wl := wl) (base := base) T F_ways_in
  have b_ways_in : Binds K fd_ways_in ["picture"] [] := F_ways_in.bindsN (fun _ _ _ _ _ _ us hl => match us, hl with | [_], _ => rfl)
  have k_ways_in := F_ways_in.kp
  refine fn_ok (k := 3) F sc_live_part (by decide) fun cdv Ar outer s H E hr tk po => ?_
  exact mss_cons (ms_ex (me_call G_ask_picture ar_ask_picture (hr.mono (by decide)) tk rfl T.g_ask_picture k_ask_picture b_ask_picture (ma_cons (me_var 0) (ma_nil))))
    (mss_cons (ms_setF 1 sc_live_part.nd (me_call G_ways_in ar_ways_in (hr.mono (by decide)) tk rfl T.g_ways_in k_ways_in b_ways_in (ma_cons (me_var 0) (ma_nil))))
    (mss_cons (ms_setLcF rfl sc_live_part.nd rfl rfl (sw_true rfl rfl rfl (by decide +kernel)) (mi_seq (me_ix (me_var 0) (me_int))) (blkOk_by (N := n_live_part) (sc := defScope st_live_part) (own := [("name", 3), ("slots", 4)]) (by decide +kernel)) rfl (by decide) (fun _ _ _ _ _ => mg_tp rfl (mgs_cons 3 sc_live_part.nd (mgs_cons 4 sc_live_part.nd (mgs_nil)))) (fun _ _ _ _ _ => mpt_one (mt_din (u1 hr.units) (me_var 3) (me_var 1))) (fun _ _ _ _ _ tk1 => me_tup (ma_cons (me_var 3) (ma_cons (me_list rfl T.z_list (me_var 4)) (ma_nil)))))
    (mss_one (ms_ret (me_tup (ma_cons (me_list rfl T.z_list (me_ix (me_var 0) (me_int))) (ma_cons (me_var 2) (ma_nil))))))))
theorem ok_way_to (T : Txt K mg wl) {fd : FuncData} (F : FunD K "way_to" "way_to" (defArgs st_way_to) (defBody st_way_to) (defScope st_way_to) [] [] (He.ga K "way_to") fd) : FnOk P wl K mg base (L2.CX P wl) 4 (He.ga K "way_to") fd ["picture", "name"] (spOf ⟨K, acls K, none⟩ 2 f_way_to) := by
  obtain ⟨fd_ask_picture, F_ask_picture⟩ := T.f_ask_picture
  have G_ask_picture := ok_ask_picture (P := P) (wl := wl) (base := base) T F_ask_picture
  have b_ask_picture : Binds K fd_ask_picture ["picture"] [] := F_ask_picture.bindsN (fun _ _ _ _ _ _ us hl => match us, hl with | [_], _ => rfl)
  have k_ask_picture := F_ask_picture.kp
  obtain ⟨fd_ways_in, F_ways_in⟩ := T.f_ways_in
  have G_ways_in := ok_ways_in (P := P) (wl := wl) (base := base) T F_ways_in
  have b_ways_in : Binds K fd_ways_in ["picture"] [] := F_ways_in.bindsN (fun _ _ _ _ _ _ us hl => match us, hl with | [_], _ => rfl)
  have k_ways_in := F_ways_in.kp
  refine fn_ok (k := 3) F sc_way_to (by decide) fun cdv Ar outer s H E hr tk po => ?_
  exact mss_cons (ms_ex (me_call G_ask_picture ar_ask_picture (hr.mono (by decide)) tk rfl T.g_ask_picture k_ask_picture b_ask_picture (ma_cons (me_var 0) (ma_nil))))
    (mss_cons (ms_setF 2 sc_way_to.nd (me_call G_ways_in ar_ways_in (hr.mono (by decide)) tk rfl T.g_ways_in k_ways_in b_ways_in (ma_cons (me_var 0) (ma_nil))))
    (mss_cons (ms_if (mt_dnotin (u1 hr.units) (me_var 1) (me_var 2)) (mss_one (ms_raise (k := 7) rfl tk (pmk_own PySem.F.excBase_ValueError T.x_NoWay.1 T.g_NoWay T.x_NoWay.2.1 (raises_own T.x_NoWay.2.2.1 T.x_NoWay.2.2.2) rfl))) (mss_nil))
    (mss_one (ms_ret (me_list rfl T.z_list (me_dg (u1 hr.units) (me_var 2) (me_var 1)))))))
theorem ok_leads (T : Txt K mg wl) {fd : FuncData} (F : FunD K "leads" "leads" (defArgs st_leads) (defBody st_leads) (defScope st_leads) [] [] (He.ga K "leads") fd) : FnOk P wl K mg base (L2.CX P wl) 4 (He.ga K "leads") fd ["picture", "way"] (spOf ⟨K, acls K, none⟩ 2 f_leads) := by
  obtain ⟨fd_ask_picture, F_ask_picture⟩ := T.f_ask_picture
  have G_ask_picture := ok_ask_picture (P := P) (wl := wl) (base := base) T F_ask_picture
  have b_ask_picture : Binds K fd_ask_picture ["picture"] [] := F_ask_picture.bindsN (fun _ _ _ _ _ _ us hl => match us, hl with | [_], _ => rfl)
  have k_ask_picture := F_ask_picture.kp
  obtain ⟨fd_led_to, F_led_to⟩ := T.f_led_to
  have G_led_to := ok_led_to (P := P) (wl := wl) (base := base) T F_led_to
  have b_led_to : Binds K fd_led_to ["value"] [] := F_led_to.bindsN (fun _ _ _ _ _ _ us hl => match us, hl with | [_], _ => rfl)
  have k_led_to := F_led_to.kp
  refine fn_ok (k := 3) F sc_leads (by decide) fun cdv Ar outer s H E hr tk po => ?_
  exact mss_cons (ms_ex (me_call G_ask_picture ar_ask_picture (hr.mono (by decide)) tk rfl T.g_ask_picture k_ask_picture b_ask_picture (ma_cons (me_var 0) (ma_nil))))
    (mss_cons (ms_setF 2 sc_leads.nd (me_dictP rfl rfl T.z_dict (me_ix (me_var 0) (me_int))))
    (mss_cons (ms_if (mw_pt (mw_or (mt_eq hr.units (me_len rfl T.z_len (me_var 1)) (me_int)) (mw_or1 (mt_not (mt_lelt (me_int) (me_ix (me_var 1) (me_int)) (me_num rfl T.c_ROOTS)))))) (mss_one (ms_ret (me_non))) (mss_nil))
    (mss_cons (ms_setF 3 sc_leads.nd (me_call G_led_to ar_led_to (hr.mono (by decide)) tk rfl T.g_led_to k_led_to b_led_to (ma_cons (me_ix (me_ix (me_var 0) (me_int)) (me_ix (me_var 1) (me_int))) (ma_nil))))
    (mss_cons (ms_for po rfl (mi_seq (me_sl (me_var 1) (mo_so (me_int)) (mo_no))) (mg_nm 4 sc_leads.nd) (mss_cons (ms_if (mw_pt (mw_or (mt_isN (me_var 3) (me_non)) (mw_or1 (mt_not (mt_lelt (me_int) (me_var 4) (me_len rfl T.z_len (me_dg (u1 hr.units) (me_var 2) (me_var 3)))))))) (mss_one (ms_ret (me_non))) (mss_nil))
    (mss_one (ms_setF 3 sc_leads.nd (me_call G_led_to ar_led_to (hr.mono (by decide)) tk rfl T.g_led_to k_led_to b_led_to (ma_cons (me_ix (me_dg (u1 hr.units) (me_var 2) (me_var 3)) (me_var 4)) (ma_nil)))))))
    (mss_one (ms_retV 3))))))
theorem ok_words_of (T : Txt K mg wl) {fd : FuncData} (F : FunD K "words_of" "words_of" (defArgs st_words_of) (defBody st_words_of) (defScope st_words_of) [] [] (He.ga K "words_of") fd) : FnOk P wl K mg base (L2.CX P wl) 4 (He.ga K "words_of") fd ["picture", "names"] (spOf ⟨K, acls K, none⟩ 2 f_words_of) := by
  obtain ⟨fd_ask_picture, F_ask_picture⟩ := T.f_ask_picture
  have G_ask_picture := ok_ask_picture (P := P) (wl := wl) (base := base) T F_ask_picture
  have b_ask_picture : Binds K fd_ask_picture ["picture"] [] := F_ask_picture.bindsN (fun _ _ _ _ _ _ us hl => match us, hl with | [_], _ => rfl)
  have k_ask_picture := F_ask_picture.kp
  refine fn_ok (k := 3) F sc_words_of (by decide) fun cdv Ar outer s H E hr tk po => ?_
  exact mss_cons (ms_ex (me_call G_ask_picture ar_ask_picture (hr.mono (by decide)) tk rfl T.g_ask_picture k_ask_picture b_ask_picture (ma_cons (me_var 0) (ma_nil))))
    (mss_one (ms_ret (me_sum rfl rfl T.z_sum (me_lc rfl sc_words_of.nd (mi_seq (me_ix (me_var 0) (me_int))) (blkOk_by (N := n_words_of) (sc := defScope st_words_of) (own := [("name", 2), ("slots", 3)]) (by decide +kernel)) rfl (by decide) (fun _ _ _ _ _ => mg_tp rfl (mgs_cons 2 sc_words_of.nd (mgs_cons 3 sc_words_of.nd (mgs_nil)))) (fun _ _ _ _ _ => mpt_one (mt_in (me_var 2) (me_var 1))) (fun _ _ _ _ _ tk1 => me_add (me_len rfl T.z_len (me_var 3)) (me_int))))))
theorem ok_is_closed (T : Txt K mg wl) {fd : FuncData} (F : FunD K "is_closed" "is_closed" (defArgs st_is_closed) (defBody st_is_closed) (defScope st_is_closed) [] [] (He.ga K "is_closed") fd) : FnOk P wl K mg base (L2.CX P wl) 4 (He.ga K "is_closed") fd ["picture", "names"] (spOf ⟨K, acls K, none⟩ 2 f_is_closed) := by
  obtain ⟨fd_ask_picture, F_ask_picture⟩ := T.f_ask_picture
  have G_ask_picture := ok_ask_picture (P := P) (wl := wl) (base := base) T F_ask_picture
  have b_ask_picture : Binds K fd_ask_picture ["picture"] [] := F_ask_picture.bindsN (fun _ _ _ _ _ _ us hl => match us, hl with | [_], _ => rfl)
  have k_ask_picture := F_ask_picture.kp
  obtain ⟨fd_led_to, F_led_to⟩ := T.f_led_to
  have G_led_to := ok_led_to (P := P) (wl := wl) (base := base) T F_led_to
  have b_led_to : Binds K fd_led_to ["value"] [] := F_led_to.bindsN (fun _ _ _ _ _ _ us hl => match us, hl with | [_], _ => rfl)
  have k_led_to := F_led_to.kp
  refine fn_ok (k := 3) F sc_is_closed (by decide) fun cdv Ar outer s H E hr tk po => ?_
  exact mss_cons (ms_ex (me_call G_ask_picture ar_ask_picture (hr.mono (by decide)) tk rfl T.g_ask_picture k_ask_picture b_ask_picture (ma_cons (me_var 0) (ma_nil))))
    (mss_cons (ms_for po rfl (mi_seq (me_ix (me_var 0) (me_int))) (mg_nm 2 sc_is_closed.nd) (mss_one (ms_if (mt_in (me_call G_led_to ar_led_to (hr.mono (by decide)) tk rfl T.g_led_to k_led_to b_led_to (ma_cons (me_var 2) (ma_nil))) (me_var 1)) (mss_one (ms_ret (me_bl))) (mss_nil))))
    (mss_cons (ms_for po rfl (mi_seq (me_ix (me_var 0) (me_int))) (mg_tp rfl (mgs_cons 3 sc_is_closed.nd (mgs_cons 4 sc_is_closed.nd (mgs_nil)))) (mss_one (ms_if (mw_pt (mw_and (mt_notIn (me_var 3) (me_var 1)) (mw_and1 (mt_gt (me_len rfl T.z_len (me_lc rfl sc_is_closed.nd (mi_seq (me_var 4)) (blkOk_by (N := n_is_closed) (sc := defScope st_is_closed) (own := [("value", 2)]) (by decide +kernel)) rfl (by decide) (fun _ _ _ _ _ => mg_nm 2 sc_is_closed.nd) (fun _ _ _ _ _ => mpt_one (mt_in (me_call G_led_to ar_led_to (hr.mono (by decide)) takes0 rfl T.g_led_to k_led_to b_led_to (ma_cons (me_var 2) (ma_nil))) (me_var 1))) (fun _ _ _ _ _ tk1 => me_var 2))) (me_int))))) (mss_one (ms_ret (me_bl))) (mss_nil))))
    (mss_one (ms_ret (me_bl)))))
theorem ok_reasons (T : Txt K mg wl) {fd : FuncData} (F : FunD K "reasons" "reasons" (defArgs st_reasons) (defBody st_reasons) (defScope st_reasons) [] [] (He.ga K "reasons") fd) : FnOk P wl K mg base (L2.CX P wl) 4 (He.ga K "reasons") fd ["picture"] (spOf ⟨K, acls K, none⟩ 1 f_reasons) := by
  obtain ⟨fd_ask_picture, F_ask_picture⟩ := T.f_ask_picture
  have G_ask_picture := ok_ask_picture (P := P) (wl := wl) (base := base) T F_ask_picture
  have b_ask_picture : Binds K fd_ask_picture ["picture"] [] := F_ask_picture.bindsN (fun _ _ _ _ _ _ us hl => match us, hl with | [_], _ => rfl)
  have k_ask_picture := F_ask_picture.kp
  obtain ⟨fd_led_to, F_led_to⟩ := T.f_led_to
  have G_led_to := ok_led_to (P := P) (wl := wl) (base := base) T F_led_to
  have b_led_to : Binds K fd_led_to ["value"] [] := F_led_to.bindsN (fun _ _ _ _ _ _ us hl => match us, hl with | [_], _ => rfl)
  have k_led_to := F_led_to.kp
  refine fn_ok (k := 3) F sc_reasons (by decide) fun cdv Ar outer s H E hr tk po => ?_
  exact mss_cons (ms_ex (me_call G_ask_picture ar_ask_picture (hr.mono (by decide)) tk rfl T.g_ask_picture k_ask_picture b_ask_picture (ma_cons (me_var 0) (ma_nil))))
    (mss_cons (ms_setF 1 sc_reasons.nd (me_dictP rfl rfl T.z_dict (me_ix (me_var 0) (me_int))))
    (mss_cons (ms_set 2 sc_reasons.nd (me_lst (ma_nil)))
    (mss_cons (ms_set 3 sc_reasons.nd (me_dct0))
    (mss_cons (ms_for po rfl (mi_rng1 (by exact rfl) T.z_range (me_num rfl T.c_ROOTS)) (mg_nm 4 sc_reasons.nd) (mss_cons (ms_setF 5 sc_reasons.nd (me_call G_led_to ar_led_to (hr.mono (by decide)) tk rfl T.g_led_to k_led_to b_led_to (ma_cons (me_ix (me_ix (me_var 0) (me_int)) (me_var 4)) (ma_nil))))
    (mss_one (ms_if (mw_pt (mw_and (mt_notN (me_var 5) (me_non)) (mw_and1 (mt_dnotin (u1 hr.units) (me_var 5) (me_var 3))))) (mss_cons (ms_dp 3 (u1 hr.units) (me_bl) (me_var 5))
    (mss_one (ms_app 2 (me_tup (ma_cons (me_var 5) (ma_cons (me_tup (ma_cons (me_str) (ma_cons (me_var 4) (ma_nil)))) (ma_nil))))))) (mss_nil)))))
    (mss_cons (ms_setF 6 sc_reasons.nd (me_int))
    (mss_cons (ms_while 400 po (mt_lt (me_var 6) (me_len rfl T.z_len (me_var 2))) (mss_cons (ms_setF 7 sc_reasons.nd (me_dg (u1 hr.units) (me_var 1) (me_ix (me_ix (me_var 2) (me_var 6)) (me_int))))
    (mss_cons (ms_for po rfl (mi_rng1 (by exact rfl) T.z_range (me_len rfl T.z_len (me_var 7))) (mg_nm 4 sc_reasons.nd) (mss_cons (ms_setF 5 sc_reasons.nd (me_call G_led_to ar_led_to (hr.mono (by decide)) tk rfl T.g_led_to k_led_to b_led_to (ma_cons (me_ix (me_var 7) (me_var 4)) (ma_nil))))
    (mss_one (ms_if (mw_pt (mw_and (mt_notN (me_var 5) (me_non)) (mw_and1 (mt_dnotin (u1 hr.units) (me_var 5) (me_var 3))))) (mss_cons (ms_dp 3 (u1 hr.units) (me_bl) (me_var 5))
    (mss_one (ms_app 2 (me_tup (ma_cons (me_var 5) (ma_cons (me_tup (ma_cons (me_str) (ma_cons (me_ix (me_ix (me_var 2) (me_var 6)) (me_int)) (ma_cons (me_var 4) (ma_nil))))) (ma_nil))))))) (mss_nil)))))
    (mss_one (ms_setF 6 sc_reasons.nd (me_add (me_var 6) (me_int)))))))
    (mss_one (ms_retV 2))))))))
theorem ok_reason_holds (T : Txt K mg wl) {fd : FuncData} (F : FunD K "reason_holds" "reason_holds" (defArgs st_reason_holds) (defBody st_reason_holds) (defScope st_reason_holds) [] [] (He.ga K "reason_holds") fd) : FnOk P wl K mg base (L2.CX P wl) 2 (He.ga K "reason_holds") fd ["picture", "told", "name", "reason"] (spOf ⟨K, acls K, none⟩ 4 f_reason_holds) := by
  obtain ⟨fd_led_to, F_led_to⟩ := T.f_led_to
  have G_led_to := ok_led_to (P := P) (wl := wl) (base := base) T F_led_to
  have b_led_to : Binds K fd_led_to ["value"] [] := F_led_to.bindsN (fun _ _ _ _ _ _ us hl => match us, hl with | [_], _ => rfl)
  have k_led_to := F_led_to.kp
  refine fn_ok (k := 1) F sc_reason_holds (by decide) fun cdv Ar outer s H E hr tk po => ?_
  exact mss_cons (ms_setF 4 sc_reason_holds.nd (me_dictP rfl rfl T.z_dict (me_ix (me_var 0) (me_int))))
    (mss_cons (ms_if (mt_eq hr.units (me_ix (me_var 3) (me_int)) (me_str)) (mss_one (ms_ret (me_and (me_lelt (me_int) (me_ix (me_var 3) (me_int)) (me_num rfl T.c_ROOTS)) (me_one (me_eq hr.units (me_call G_led_to ar_led_to (hr.mono (by decide)) tk rfl T.g_led_to k_led_to b_led_to (ma_cons (me_ix (me_ix (me_var 0) (me_int)) (me_ix (me_var 3) (me_int))) (ma_nil))) (me_var 2)))))) (mss_nil))
    (mss_cons (ms_if (mw_pt (mw_or (mt_ne hr.units (me_ix (me_var 3) (me_int)) (me_str)) (mw_or (mt_notIn (me_ix (me_var 3) (me_int)) (me_var 1)) (mw_or1 (mt_dnotin (u1 hr.units) (me_ix (me_var 3) (me_int)) (me_var 4)))))) (mss_one (ms_ret (me_bl))) (mss_nil))
    (mss_cons (ms_setF 5 sc_reason_holds.nd (me_dg (u1 hr.units) (me_var 4) (me_ix (me_var 3) (me_int))))
    (mss_one (ms_ret (me_and (me_lelt (me_int) (me_ix (me_var 3) (me_int)) (me_len rfl T.z_len (me_var 5))) (me_one (me_eq hr.units (me_call G_led_to ar_led_to (hr.mono (by decide)) tk rfl T.g_led_to k_led_to b_led_to (ma_cons (me_ix (me_var 5) (me_ix (me_var 3) (me_int))) (ma_nil))) (me_var 2)))))))))
theorem ok_reasons_hold (T : Txt K mg wl) {fd : FuncData} (F : FunD K "reasons_hold" "reasons_hold" (defArgs st_reasons_hold) (defBody st_reasons_hold) (defScope st_reasons_hold) [] [] (He.ga K "reasons_hold") fd) : FnOk P wl K mg base (L2.CX P wl) 4 (He.ga K "reasons_hold") fd ["picture", "kept"] (spOf ⟨K, acls K, none⟩ 2 f_reasons_hold) := by
  obtain ⟨fd_ask_picture, F_ask_picture⟩ := T.f_ask_picture
  have G_ask_picture := ok_ask_picture (P := P) (wl := wl) (base := base) T F_ask_picture
  have b_ask_picture : Binds K fd_ask_picture ["picture"] [] := F_ask_picture.bindsN (fun _ _ _ _ _ _ us hl => match us, hl with | [_], _ => rfl)
  have k_ask_picture := F_ask_picture.kp
  obtain ⟨fd_reason_holds, F_reason_holds⟩ := T.f_reason_holds
  have G_reason_holds := ok_reason_holds (P := P) (wl := wl) (base := base) T F_reason_holds
  have b_reason_holds : Binds K fd_reason_holds ["picture", "told", "name", "reason"] [] := F_reason_holds.bindsN (fun _ _ _ _ _ _ us hl => match us, hl with | [_, _, _, _], _ => rfl)
  have k_reason_holds := F_reason_holds.kp
  refine fn_ok (k := 3) F sc_reasons_hold (by decide) fun cdv Ar outer s H E hr tk po => ?_
  exact mss_cons (ms_ex (me_call G_ask_picture ar_ask_picture (hr.mono (by decide)) tk rfl T.g_ask_picture k_ask_picture b_ask_picture (ma_cons (me_var 0) (ma_nil))))
    (mss_cons (ms_ad 2 (ms_set 2 sc_reasons_hold.nd (me_lst (ma_nil))))
    (mss_cons (ms_for po rfl (mi_seq (me_var 1)) (mg_tp rfl (mgs_cons 3 sc_reasons_hold.nd (mgs_cons 4 sc_reasons_hold.nd (mgs_nil)))) (mss_cons (ms_pre (quiet_fz 2) (ms_if (mw_pt (mw_or (mt_in (me_var 3) (me_var 2)) (mw_or1 (mt_not (mt_val (me_call G_reason_holds ar_reason_holds (hr.mono (by decide)) tk rfl T.g_reason_holds k_reason_holds b_reason_holds (ma_cons (me_var 0) (ma_cons (me_var 2) (ma_cons (me_var 3) (ma_cons (me_var 4) (ma_nil))))))))))) (mss_one (ms_ret (me_bl))) (mss_nil)))
    (mss_one (ms_app 2 (me_var 3)))))
    (mss_one (ms_ret (me_bl)))))
theorem ok_is_paper (T : Txt K mg wl) {fd : FuncData} (F : FunD K "is_paper" "is_paper" (defArgs st_is_paper) (defBody st_is_paper) (defScope st_is_paper) [] [] (He.ga K "is_paper") fd) : FnOk P wl K mg base (L2.CX P wl) 5 (He.ga K "is_paper") fd ["picture", "kept", "swept"] (spOf ⟨K, acls K, none⟩ 3 f_is_paper) := by
  obtain ⟨fd_ask_picture, F_ask_picture⟩ := T.f_ask_picture
  have G_ask_picture := ok_ask_picture (P := P) (wl := wl) (base := base) T F_ask_picture
  have b_ask_picture : Binds K fd_ask_picture ["picture"] [] := F_ask_picture.bindsN (fun _ _ _ _ _ _ us hl => match us, hl with | [_], _ => rfl)
  have k_ask_picture := F_ask_picture.kp
  obtain ⟨fd_is_closed, F_is_closed⟩ := T.f_is_closed
  have G_is_closed := ok_is_closed (P := P) (wl := wl) (base := base) T F_is_closed
  have b_is_closed : Binds K fd_is_closed ["picture", "names"] [] := F_is_closed.bindsN (fun _ _ _ _ _ _ us hl => match us, hl with | [_, _], _ => rfl)
  have k_is_closed := F_is_closed.kp
  obtain ⟨fd_reasons_hold, F_reasons_hold⟩ := T.f_reasons_hold
  have G_reasons_hold := ok_reasons_hold (P := P) (wl := wl) (base := base) T F_reasons_hold
  have b_reasons_hold : Binds K fd_reasons_hold ["picture", "kept"] [] := F_reasons_hold.bindsN (fun _ _ _ _ _ _ us hl => match us, hl with | [_, _], _ => rfl)
  have k_reasons_hold := F_reasons_hold.kp
  refine fn_ok (k := 4) F sc_is_paper (by decide) fun cdv Ar outer s H E hr tk po => ?_
  exact mss_cons (ms_ex (me_call G_ask_picture ar_ask_picture (hr.mono (by decide)) tk rfl T.g_ask_picture k_ask_picture b_ask_picture (ma_cons (me_var 0) (ma_nil))))
    (mss_cons (ms_setLcF rfl sc_is_paper.nd rfl rfl (sw_true rfl rfl rfl (by decide +kernel)) (mi_seq (me_ix (me_var 0) (me_int))) (blkOk_by (N := n_is_paper) (sc := defScope st_is_paper) (own := [("cell", 4)]) (by decide +kernel)) rfl (by decide) (fun _ _ _ _ _ => mg_nm 4 sc_is_paper.nd) (fun _ _ _ _ _ => mpt_nil) (fun _ _ _ _ _ tk2 => me_ix (me_var 4) (me_int)))
    (mss_cons (ms_if (mw_pt (mw_or (mt_ne hr.units (me_sorted rfl T.z_sorted (me_add (me_lc rfl sc_is_paper.nd (mi_seq (me_var 1)) (blkOk_by (N := n_is_paper) (sc := defScope st_is_paper) (own := [("entry", 5)]) (by decide +kernel)) rfl (by decide) (fun _ _ _ _ _ => mg_nm 5 sc_is_paper.nd) (fun _ _ _ _ _ => mpt_nil) (fun _ _ _ _ _ tk1 => me_ix (me_var 5) (me_int))) (me_list rfl T.z_list (me_var 2)))) (me_var 3)) (mw_or1 (mt_ne hr.units (me_list rfl T.z_list (me_var 2)) (me_sorted rfl T.z_sorted (me_var 2)))))) (mss_one (ms_ret (me_bl))) (mss_nil))
    (mss_one (ms_ret (me_and (me_call G_reasons_hold ar_reasons_hold (hr.mono (by decide)) tk rfl T.g_reasons_hold k_reasons_hold b_reasons_hold (ma_cons (me_var 0) (ma_cons (me_var 1) (ma_nil)))) (me_one (me_call G_is_closed ar_is_closed (hr.mono (by decide)) tk rfl T.g_is_closed k_is_closed b_is_closed (ma_cons (me_var 0) (ma_cons (me_var 2) (ma_nil))))))))))
theorem ok_paper_of (T : Txt K mg wl) {fd : FuncData} (F : FunD K "paper_of" "paper_of" (defArgs st_paper_of) (defBody st_paper_of) (defScope st_paper_of) [] [] (He.ga K "paper_of") fd) : FnOk P wl K mg base (L2.CX P wl) 5 (He.ga K "paper_of") fd ["picture"] (spOf ⟨K, acls K, none⟩ 1 f_paper_of) := by
  obtain ⟨fd_reasons, F_reasons⟩ := T.f_reasons
  have G_reasons := ok_reasons (P := P) (wl := wl) (base := base) T F_reasons
  have b_reasons : Binds K fd_reasons ["picture"] [] := F_reasons.bindsN (fun _ _ _ _ _ _ us hl => match us, hl with | [_], _ => rfl)
  have k_reasons := F_reasons.kp
  refine fn_ok (k := 4) F sc_paper_of (by decide) fun cdv Ar outer s H E hr tk po => ?_
  exact mss_cons (ms_setF 1 sc_paper_of.nd (me_call G_reasons ar_reasons (hr.mono (by decide)) tk rfl T.g_reasons k_reasons b_reasons (ma_cons (me_var 0) (ma_nil))))
    (mss_cons (ms_setF 2 sc_paper_of.nd (me_lc rfl sc_paper_of.nd (mi_seq (me_var 1)) (blkOk_by (N := n_paper_of) (sc := defScope st_paper_of) (own := [("name", 3), ("reason", 4)]) (by decide +kernel)) rfl (by decide) (fun _ _ _ _ _ => mg_tp rfl (mgs_cons 3 sc_paper_of.nd (mgs_cons 4 sc_paper_of.nd (mgs_nil)))) (fun _ _ _ _ _ => mpt_nil) (fun _ _ _ _ _ tk2 => me_var 3)))
    (mss_one (ms_ret (me_tup (ma_cons (me_var 1) (ma_cons (me_lc rfl sc_paper_of.nd (mi_seq (me_ix (me_var 0) (me_int))) (blkOk_by (N := n_paper_of) (sc := defScope st_paper_of) (own := [("cell", 5)]) (by decide +kernel)) rfl (by decide) (fun _ _ _ _ _ => mg_nm 5 sc_paper_of.nd) (fun _ _ _ _ _ => mpt_one (mt_notIn (me_ix (me_var 5) (me_int)) (me_var 2))) (fun _ _ _ _ _ tk1 => me_ix (me_var 5) (me_int))) (ma_nil)))))))
theorem ok__law_done (T : Txt K mg wl) {fd : FuncData} (F : FunD K "_law_done" "_law_done" (defArgs st__law_done) (defBody st__law_done) (defScope st__law_done) [] [] (He.ga K "_law_done") fd) : FnOk P wl K mg base (L2.CX P wl) 6 (He.ga K "_law_done") fd ["way", "picture", "cell"] (spOf ⟨K, acls K, none⟩ 3 f__law_done) := by
  obtain ⟨fd_is_closed, F_is_closed⟩ := T.f_is_closed
  have G_is_closed := ok_is_closed (P := P) (wl := wl) (base := base) T F_is_closed
  have b_is_closed : Binds K fd_is_closed ["picture", "names"] [] := F_is_closed.bindsN (fun _ _ _ _ _ _ us hl => match us, hl with | [_, _], _ => rfl)
  have k_is_closed := F_is_closed.kp
  obtain ⟨fd_is_paper, F_is_paper⟩ := T.f_is_paper
  have G_is_paper := ok_is_paper (P := P) (wl := wl) (base := base) T F_is_paper
  have b_is_paper : Binds K fd_is_paper ["picture", "kept", "swept"] [] := F_is_paper.bindsN (fun _ _ _ _ _ _ us hl => match us, hl with | [_, _, _], _ => rfl)
  have k_is_paper := F_is_paper.kp
  obtain ⟨fd_leads, F_leads⟩ := T.f_leads
  have G_leads := ok_leads (P := P) (wl := wl) (base := base) T F_leads
  have b_leads : Binds K fd_leads ["picture", "way"] [] := F_leads.bindsN (fun _ _ _ _ _ _ us hl => match us, hl with | [_, _], _ => rfl)
  have k_leads := F_leads.kp
  obtain ⟨fd_live, F_live⟩ := T.f_live
  have G_live := ok_live (P := P) (wl := wl) (base := base) T F_live
  have b_live : Binds K fd_live ["picture"] [] := F_live.bindsN (fun _ _ _ _ _ _ us hl => match us, hl with | [_], _ => rfl)
  have k_live := F_live.kp
  obtain ⟨fd_live_part, F_live_part⟩ := T.f_live_part
  have G_live_part := ok_live_part (P := P) (wl := wl) (base := base) T F_live_part
  have b_live_part : Binds K fd_live_part ["picture"] [] := F_live_part.bindsN (fun _ _ _ _ _ _ us hl => match us, hl with | [_], _ => rfl)
  have k_live_part := F_live_part.kp
  obtain ⟨fd_paper_of, F_paper_of⟩ := T.f_paper_of
  have G_paper_of := ok_paper_of (P := P) (wl := wl) (base := base) T F_paper_of
  have b_paper_of : Binds K fd_paper_of ["picture"] [] := F_paper_of.bindsN (fun _ _ _ _ _ _ us hl => match us, hl with | [_], _ => rfl)
  have k_paper_of := F_paper_of.kp
  obtain ⟨fd_reasons, F_reasons⟩ := T.f_reasons
  have G_reasons := ok_reasons (P := P) (wl := wl) (base := base) T F_reasons
  have b_reasons : Binds K fd_reasons ["picture"] [] := F_reasons.bindsN (fun _ _ _ _ _ _ us hl => match us, hl with | [_], _ => rfl)
  have k_reasons := F_reasons.kp
  obtain ⟨fd_reasons_hold, F_reasons_hold⟩ := T.f_reasons_hold
  have G_reasons_hold := ok_reasons_hold (P := P) (wl := wl) (base := base) T F_reasons_hold
  have b_reasons_hold : Binds K fd_reasons_hold ["picture", "kept"] [] := F_reasons_hold.bindsN (fun _ _ _ _ _ _ us hl => match us, hl with | [_, _], _ => rfl)
  have k_reasons_hold := F_reasons_hold.kp
  obtain ⟨fd_way_to, F_way_to⟩ := T.f_way_to
  have G_way_to := ok_way_to (P := P) (wl := wl) (base := base) T F_way_to
  have b_way_to : Binds K fd_way_to ["picture", "name"] [] := F_way_to.bindsN (fun _ _ _ _ _ _ us hl => match us, hl with | [_, _], _ => rfl)
  have k_way_to := F_way_to.kp
  obtain ⟨fd_words_of, F_words_of⟩ := T.f_words_of
  have G_words_of := ok_words_of (P := P) (wl := wl) (base := base) T F_words_of
  have b_words_of : Binds K fd_words_of ["picture", "names"] [] := F_words_of.bindsN (fun _ _ _ _ _ _ us hl => match us, hl with | [_, _], _ => rfl)
  have k_words_of := F_words_of.kp
  refine fn_ok (k := 5) F sc__law_done (by decide) fun cdv Ar outer s H E hr tk po => ?_
  exact mss_one (ms_if (mt_eq hr.units (me_var 0) (me_int)) (mss_one (ms_ex (me_call G_live ar_live (hr.mono (by decide)) tk rfl T.g_live k_live b_live (ma_cons (me_var 1) (ma_nil))))) (mss_one (ms_if (mt_eq hr.units (me_var 0) (me_int)) (mss_one (ms_ex (me_call G_live_part ar_live_part (hr.mono (by decide)) tk rfl T.g_live_part k_live_part b_live_part (ma_cons (me_var 1) (ma_nil))))) (mss_one (ms_if (mt_eq hr.units (me_var 0) (me_int)) (mss_one (ms_ex (me_call G_way_to ar_way_to (hr.mono (by decide)) tk rfl T.g_way_to k_way_to b_way_to (ma_cons (me_var 1) (ma_cons (me_sub (me_mod (me_var 2) (me_int)) (me_int)) (ma_nil)))))) (mss_one (ms_if (mt_eq hr.units (me_var 0) (me_int)) (mss_one (ms_ex (me_call G_leads ar_leads (hr.mono (by decide)) tk rfl T.g_leads k_leads b_leads (ma_cons (me_var 1) (ma_cons (me_lst (ma_cons (me_sub (me_mod (me_var 2) (me_int)) (me_int)) (ma_nil))) (ma_nil)))))) (mss_one (ms_if (mt_eq hr.units (me_var 0) (me_int)) (mss_one (ms_ex (me_call G_words_of ar_words_of (hr.mono (by decide)) tk rfl T.g_words_of k_words_of b_words_of (ma_cons (me_var 1) (ma_cons (me_lst (ma_cons (me_mod (me_var 2) (me_int)) (ma_nil))) (ma_nil)))))) (mss_one (ms_if (mt_eq hr.units (me_var 0) (me_int)) (mss_one (ms_ex (me_call G_is_closed ar_is_closed (hr.mono (by decide)) tk rfl T.g_is_closed k_is_closed b_is_closed (ma_cons (me_var 1) (ma_cons (me_lst (ma_cons (me_mod (me_var 2) (me_int)) (ma_nil))) (ma_nil)))))) (mss_one (ms_if (mt_eq hr.units (me_var 0) (me_int)) (mss_one (ms_ex (me_call G_reasons ar_reasons (hr.mono (by decide)) tk rfl T.g_reasons k_reasons b_reasons (ma_cons (me_var 1) (ma_nil))))) (mss_one (ms_if (mt_eq hr.units (me_var 0) (me_int)) (mss_one (ms_ex (me_call G_reasons_hold ar_reasons_hold (hr.mono (by decide)) tk rfl T.g_reasons_hold k_reasons_hold b_reasons_hold (ma_cons (me_var 1) (ma_cons (me_lst (ma_cons (me_tup (ma_cons (me_mod (me_var 2) (me_int)) (ma_cons (me_tup (ma_cons (me_str) (ma_cons (me_int) (ma_nil)))) (ma_nil)))) (ma_nil))) (ma_nil)))))) (mss_one (ms_if (mt_eq hr.units (me_var 0) (me_int)) (mss_one (ms_ex (me_call G_is_paper ar_is_paper (hr.mono (by decide)) tk rfl T.g_is_paper k_is_paper b_is_paper (ma_cons (me_var 1) (ma_cons (me_lst (ma_nil)) (ma_cons (me_lst (ma_cons (me_mod (me_var 2) (me_int)) (ma_nil))) (ma_nil))))))) (mss_one (ms_ex (me_call G_paper_of ar_paper_of (hr.mono (by decide)) tk rfl T.g_paper_of k_paper_of b_paper_of (ma_cons (me_var 1) (ma_nil))))))))))))))))))))))
theorem ok__law_cell_at (T : Txt K mg wl) {fd : FuncData} (F : FunD K "_law_cell_at" "_law_cell_at" (defArgs st__law_cell_at) (defBody st__law_cell_at) (defScope st__law_cell_at) [] [] (He.ga K "_law_cell_at") fd) : FnOk P wl K mg base (L2.CX P wl) 1 (He.ga K "_law_cell_at") fd ["script", "k"] (spOf ⟨K, acls K, none⟩ 2 f__law_cell_at) := by
  refine fn_ok (k := 0) F sc__law_cell_at (by decide) fun cdv Ar outer s H E hr tk po => ?_
  exact mss_cons (ms_if (mt_lt (me_var 1) (me_len rfl T.z_len (me_var 0))) (mss_one (ms_ret (me_ix (me_var 0) (me_var 1)))) (mss_nil))
    (mss_one (ms_ret (me_int)))
theorem okX__law_others_X (T : Txt K mg wl) {fd : FuncData} (F : FunD K "_law_others" "_law_others" (defArgs st__law_others_X) (defBody st__law_others_X) (defScope st__law_others_X) [] [] (He.ga K "_law_others") fd) {k : Nat} (hk : k < 16) {a : Addr} {oe : Obj} (hz : Zc (.ref (acls K k)) none oe) (hfd : ∃ vs, oe.data = .fields vs) : FnP P wl K mg base (L2.CX P wl) 1 (He.ga K "_law_others") fd ["e"] (spX ⟨K, acls K, some a⟩ (f__law_others_X k)) (a, oe) := by
  refine fnP_ok (k := 0) F sc__law_others_X (by decide) fun cdv Ar outer s H E => ?_
  exact mss_cons (ms_setF 1 sc__law_others_X.nd (me_lst (ma_cons (me_isXp (l := [false, false, false, false, false, false, false, false, false, false, false, false, false, false, true, false]) (k := k) (i := 0) (List.mem_singleton.mpr rfl) (ecc T k hk) hz hfd (fun b hb => kit_Full T k b hb) rfl (Or.inl rfl) rfl T.z_isinstance rfl T.g_Full (by decide) (by decide) (by decide) rfl rfl rfl) (ma_cons (me_isXp (l := [false, false, false, false, false, false, false, false, false, false, false, true, false, false, false, false]) (k := k) (i := 0) (List.mem_singleton.mpr rfl) (ecc T k hk) hz hfd (fun b hb => kit_NoCell T k b hb) rfl (Or.inl rfl) rfl T.z_isinstance rfl T.g_NoCell (by decide) (by decide) (by decide) rfl rfl rfl) (ma_cons (me_isXp (l := [false, false, false, true, false, false, false, false, false, false, false, false, false, false, false, false]) (k := k) (i := 0) (List.mem_singleton.mpr rfl) (ecc T k hk) hz hfd (fun b hb => kit_NoDeed T k b hb) rfl (Or.inl rfl) rfl T.z_isinstance rfl T.g_NoDeed (by decide) (by decide) (by decide) rfl rfl rfl) (ma_cons (me_isXp (l := [false, true, false, false, false, false, false, false, false, false, false, false, false, false, false, false]) (k := k) (i := 0) (List.mem_singleton.mpr rfl) (ecc T k hk) hz hfd (fun b hb => kit_NoKind T k b hb) rfl (Or.inl rfl) rfl T.z_isinstance rfl T.g_NoKind (by decide) (by decide) (by decide) rfl rfl rfl) (ma_nil)))))))
    (mss_cons (ms_setF 1 sc__law_others_X.nd (me_add (me_var 1) (me_lst (ma_cons (me_isXp (l := [false, false, false, false, false, false, false, false, false, false, false, false, false, false, false, true]) (k := k) (i := 0) (List.mem_singleton.mpr rfl) (ecc T k hk) hz hfd (fun b hb => kit_NoNote T k b hb) rfl (Or.inl rfl) rfl T.z_isinstance rfl T.g_NoNote (by decide) (by decide) (by decide) rfl rfl rfl) (ma_cons (me_isXp (l := [false, false, false, false, false, false, false, false, false, false, true, false, false, false, false, false]) (k := k) (i := 0) (List.mem_singleton.mpr rfl) (ecc T k hk) hz hfd (fun b hb => kit_NoNumber T k b hb) rfl (Or.inl rfl) rfl T.z_isinstance rfl T.g_NoNumber (by decide) (by decide) (by decide) rfl rfl rfl) (ma_cons (me_isXp (l := [false, false, false, false, true, false, false, false, false, false, false, false, false, false, false, false]) (k := k) (i := 0) (List.mem_singleton.mpr rfl) (ecc T k hk) hz hfd (fun b hb => kit_NoProgram T k b hb) rfl (Or.inl rfl) rfl T.z_isinstance rfl T.g_NoProgram (by decide) (by decide) (by decide) rfl rfl rfl) (ma_cons (me_isXp (l := [false, false, true, false, false, false, false, false, false, false, false, false, false, false, false, false]) (k := k) (i := 0) (List.mem_singleton.mpr rfl) (ecc T k hk) hz hfd (fun b hb => kit_NoRoom T k b hb) rfl (Or.inl rfl) rfl T.z_isinstance rfl T.g_NoRoom (by decide) (by decide) (by decide) rfl rfl rfl) (ma_nil))))))))
    (mss_cons (ms_setF 1 sc__law_others_X.nd (me_add (me_var 1) (me_lst (ma_cons (me_isXp (l := [false, false, false, false, false, false, false, false, true, false, false, false, false, false, false, false]) (k := k) (i := 0) (List.mem_singleton.mpr rfl) (ecc T k hk) hz hfd (fun b hb => kit_NoRoot T k b hb) rfl (Or.inl rfl) rfl T.z_isinstance rfl T.g_NoRoot (by decide) (by decide) (by decide) rfl rfl rfl) (ma_cons (me_isXp (l := [false, false, false, false, false, false, false, false, false, true, false, false, false, false, false, false]) (k := k) (i := 0) (List.mem_singleton.mpr rfl) (ecc T k hk) hz hfd (fun b hb => kit_NoSize T k b hb) rfl (Or.inl rfl) rfl T.z_isinstance rfl T.g_NoSize (by decide) (by decide) (by decide) rfl rfl rfl) (ma_cons (me_isXp (l := [false, false, false, false, false, false, false, false, false, false, false, false, true, false, false, false]) (k := k) (i := 0) (List.mem_singleton.mpr rfl) (ecc T k hk) hz hfd (fun b hb => kit_NoSlot T k b hb) rfl (Or.inl rfl) rfl T.z_isinstance rfl T.g_NoSlot (by decide) (by decide) (by decide) rfl rfl rfl) (ma_cons (me_isXp (l := [false, false, false, false, false, false, false, false, false, false, false, false, false, true, false, false]) (k := k) (i := 0) (List.mem_singleton.mpr rfl) (ecc T k hk) hz hfd (fun b hb => kit_NoSteps T k b hb) rfl (Or.inl rfl) rfl T.z_isinstance rfl T.g_NoSteps (by decide) (by decide) (by decide) rfl rfl rfl) (ma_nil))))))))
    (mss_one (ms_ret (me_add (me_var 1) (me_lst (ma_cons (me_isXp (l := [false, false, false, false, false, false, true, false, false, false, false, false, false, false, false, false]) (k := k) (i := 0) (List.mem_singleton.mpr rfl) (ecc T k hk) hz hfd (fun b hb => kit_NoValue T k b hb) rfl (Or.inl rfl) rfl T.z_isinstance rfl T.g_NoValue (by decide) (by decide) (by decide) rfl rfl rfl) (ma_cons (me_isXp (l := [false, false, false, false, false, false, false, true, false, false, false, false, false, false, false, false]) (k := k) (i := 0) (List.mem_singleton.mpr rfl) (ecc T k hk) hz hfd (fun b hb => kit_NoWay T k b hb) rfl (Or.inl rfl) rfl T.z_isinstance rfl T.g_NoWay (by decide) (by decide) (by decide) rfl rfl rfl) (ma_nil)))))))))
theorem ok__law_bad (T : Txt K mg wl) {fd : FuncData} (F : FunD K "_law_bad" "_law_bad" (defArgs st__law_bad) (defBody st__law_bad) (defScope st__law_bad) [] [] (He.ga K "_law_bad") fd) : FnOk P wl K mg base (L2.CX P wl) 1 (He.ga K "_law_bad") fd ["picture", "cell"] (spOf ⟨K, acls K, none⟩ 2 f__law_bad) := by
  refine fn_ok (k := 0) F sc__law_bad (by decide) fun cdv Ar outer s H E hr tk po => ?_
  exact mss_cons (ms_setT (mg_tp rfl (mgs_cons 2 sc__law_bad.nd (mgs_cons 3 sc__law_bad.nd (mgs_nil)))) (me_var 0))
    (mss_cons (ms_setF 4 sc__law_bad.nd (me_mod (me_var 1) (me_int)))
    (mss_cons (ms_if (mt_eq hr.units (me_var 4) (me_int)) (mss_one (ms_sub 2 (me_tup (ma_cons (me_str) (ma_cons (me_add (me_int) (me_mod (me_div (me_var 1) (me_int)) (me_pow (me_int) (me_int)))) (ma_nil)))) (me_mod (me_div (me_var 1) (me_int)) (me_int)))) (mss_one (ms_if (mt_eq hr.units (me_var 4) (me_int)) (mss_one (ms_ex (me_pop (me_var 2)))) (mss_one (ms_if (mt_eq hr.units (me_var 4) (me_int)) (mss_one (ms_app 2 (me_non))) (mss_one (ms_if (mt_eq hr.units (me_var 4) (me_int)) (mss_one (ms_app 3 (me_tup (ma_cons (me_int) (ma_cons (me_mul (me_lst (ma_cons (me_non) (ma_nil))) (me_int)) (ma_nil)))))) (mss_one (ms_if (mt_eq hr.units (me_var 4) (me_int)) (mss_one (ms_ex (me_ins (me_var 3) (me_int) (me_tup (ma_cons (me_sub (me_neg (me_int)) (me_mod (me_div (me_var 1) (me_int)) (me_pow (me_int) (me_int)))) (ma_cons (me_ad (me_lst (ma_nil))) (ma_nil))))))) (mss_one (ms_ext 3 (me_lst (ma_cons (me_tup (ma_cons (me_int) (ma_cons (me_ad (me_lst (ma_nil))) (ma_nil)))) (ma_cons (me_tup (ma_cons (me_int) (ma_cons (me_ad (me_lst (ma_nil))) (ma_nil)))) (ma_nil)))))))))))))))
    (mss_one (ms_pre (quiet_fz 2) (ms_pre (quiet_fz 3) (ms_ret (me_tup (ma_cons (me_var 2) (ma_cons (me_var 3) (ma_nil))))))))))
theorem ok__law_value (T : Txt K mg wl) {fd : FuncData} (F : FunD K "_law_value" "_law_value" (defArgs st__law_value) (defBody st__law_value) (defScope st__law_value) [] [] (He.ga K "_law_value") fd) : FnOk P wl K mg base (L2.CX P wl) 1 (He.ga K "_law_value") fd ["draw", "names"] (spOf ⟨K, acls K, none⟩ 2 f__law_value) := by
  refine fn_ok (k := 0) F sc__law_value (by decide) fun cdv Ar outer s H E hr tk po => ?_
  exact mss_cons (ms_if (mt_eq hr.units (me_mod (me_var 0) (me_int)) (me_int)) (mss_one (ms_ret (me_tup (ma_cons (me_str) (ma_cons (me_sub (me_div (me_var 0) (me_int)) (me_int)) (ma_nil)))))) (mss_nil))
    (mss_cons (ms_if (mw_pt (mw_or (mt_eq hr.units (me_mod (me_var 0) (me_int)) (me_int)) (mw_or1 (mt_eq hr.units (me_len rfl T.z_len (me_var 1)) (me_int))))) (mss_one (ms_ret (me_non))) (mss_nil))
    (mss_one (ms_ret (me_tup (ma_cons (me_str) (ma_cons (me_ix (me_var 1) (me_mod (me_div (me_var 0) (me_int)) (me_len rfl T.z_len (me_var 1)))) (ma_nil)))))))
theorem ok__law_draw (T : Txt K mg wl) {fd : FuncData} (F : FunD K "_law_draw" "_law_draw" (defArgs st__law_draw) (defBody st__law_draw) (defScope st__law_draw) [] [] (He.ga K "_law_draw") fd) : FnOk P wl K mg base (L2.CX P wl) 1 (He.ga K "_law_draw") fd ["cell", "k", "bound"] (spOf ⟨K, acls K, none⟩ 3 f__law_draw) := by
  refine fn_ok (k := 0) F sc__law_draw (by decide) fun cdv Ar outer s H E hr tk po => ?_
  exact mss_cons (ms_if (mt_eq hr.units (me_mod (me_var 0) (me_int)) (me_int)) (mss_cons (ms_setF 3 sc__law_draw.nd (me_div (me_var 0) (me_int)))
    (mss_cons (ms_for po rfl (mi_rng1 (by exact rfl) T.z_range (me_var 1)) (mg_nm 4 sc__law_draw.nd) (mss_one (ms_setF 3 sc__law_draw.nd (me_div (me_var 3) (me_var 2)))))
    (mss_one (ms_ret (me_mod (me_var 3) (me_var 2)))))) (mss_nil))
    (mss_cons (ms_setF 5 sc__law_draw.nd (me_mod (me_mul (me_add (me_add (me_mod (me_var 0) (me_int)) (me_mul (me_int) (me_var 1))) (me_int)) (me_int)) (me_int)))
    (mss_cons (ms_setF 5 sc__law_draw.nd (me_mod (me_add (me_add (me_mul (me_var 5) (me_var 5)) (me_mul (me_int) (me_var 1))) (me_int)) (me_int)))
    (mss_one (ms_ret (me_mod (me_div (me_mod (me_mul (me_var 5) (me_int)) (me_int)) (me_int)) (me_var 2))))))
theorem ok__law_drawn (T : Txt K mg wl) {fd : FuncData} (F : FunD K "_law_drawn" "_law_drawn" (defArgs st__law_drawn) (defBody st__law_drawn) (defScope st__law_drawn) [] [] (He.ga K "_law_drawn") fd) : FnOk P wl K mg base (L2.CX P wl) 2 (He.ga K "_law_drawn") fd ["script", "at"] (spOf ⟨K, acls K, none⟩ 2 f__law_drawn) := by
  obtain ⟨fd__law_cell_at, F__law_cell_at⟩ := T.f__law_cell_at
  have G__law_cell_at := ok__law_cell_at (P := P) (wl := wl) (base := base) T F__law_cell_at
  have b__law_cell_at : Binds K fd__law_cell_at ["script", "k"] [] := F__law_cell_at.bindsN (fun _ _ _ _ _ _ us hl => match us, hl with | [_, _], _ => rfl)
  have k__law_cell_at := F__law_cell_at.kp
  obtain ⟨fd__law_draw, F__law_draw⟩ := T.f__law_draw
  have G__law_draw := ok__law_draw (P := P) (wl := wl) (base := base) T F__law_draw
  have b__law_draw : Binds K fd__law_draw ["cell", "k", "bound"] [] := F__law_draw.bindsN (fun _ _ _ _ _ _ us hl => match us, hl with | [_, _, _], _ => rfl)
  have k__law_draw := F__law_draw.kp
  obtain ⟨fd__law_value, F__law_value⟩ := T.f__law_value
  have G__law_value := ok__law_value (P := P) (wl := wl) (base := base) T F__law_value
  have b__law_value : Binds K fd__law_value ["draw", "names"] [] := F__law_value.bindsN (fun _ _ _ _ _ _ us hl => match us, hl with | [_, _], _ => rfl)
  have k__law_value := F__law_value.kp
  refine fn_ok (k := 1) F sc__law_drawn (by decide) fun cdv Ar outer s H E hr tk po => ?_
  exact mss_cons (ms_set 2 sc__law_drawn.nd (me_lst (ma_nil)))
    (mss_cons (ms_for po rfl (mi_rng1 (by exact rfl) T.z_range (me_mod (me_call G__law_cell_at ar__law_cell_at (hr.mono (by decide)) tk rfl T.g__law_cell_at k__law_cell_at b__law_cell_at (ma_cons (me_var 0) (ma_cons (me_var 1) (ma_nil)))) (me_int))) (mg_nm 3 sc__law_drawn.nd) (mss_one (ms_app 2 (me_add (me_add (me_if (mt_gt (me_len rfl T.z_len (me_var 2)) (me_int)) (me_ix (me_var 2) (me_neg (me_int))) (me_neg (me_int))) (me_int)) (me_call G__law_draw ar__law_draw (hr.mono (by decide)) tk rfl T.g__law_draw k__law_draw b__law_draw (ma_cons (me_call G__law_cell_at ar__law_cell_at (hr.mono (by decide)) tk rfl T.g__law_cell_at k__law_cell_at b__law_cell_at (ma_cons (me_var 0) (ma_cons (me_add (me_var 1) (me_int)) (ma_nil)))) (ma_cons (me_var 3) (ma_cons (me_int) (ma_nil)))))))))
    (mss_cons (ms_ad 4 (ms_set 4 sc__law_drawn.nd (me_lst (ma_nil))))
    (mss_cons (ms_for po rfl (mi_rng1 (by exact rfl) T.z_range (me_len rfl T.z_len (me_var 2))) (mg_nm 3 sc__law_drawn.nd) (mss_cons (ms_setF 5 sc__law_drawn.nd (me_call G__law_cell_at ar__law_cell_at (hr.mono (by decide)) tk rfl T.g__law_cell_at k__law_cell_at b__law_cell_at (ma_cons (me_var 0) (ma_cons (me_add (me_add (me_var 1) (me_int)) (me_var 3)) (ma_nil)))))
    (mss_cons (ms_setF 6 sc__law_drawn.nd (me_call G__law_draw ar__law_draw (hr.mono (by decide)) tk rfl T.g__law_draw k__law_draw b__law_draw (ma_cons (me_var 5) (ma_cons (me_int) (ma_cons (me_int) (ma_nil))))))
    (mss_one (ms_pre (quiet_fz 2) (ms_app 4 (me_tup (ma_cons (me_ix (me_var 2) (me_var 3)) (ma_cons (me_ad (me_lc rfl sc__law_drawn.nd (mi_rng1 (by exact rfl) T.z_range (me_var 6)) (blkOk_by (N := n__law_drawn) (sc := defScope st__law_drawn) (own := [("j", 7)]) (by decide +kernel)) rfl (by decide) (fun _ _ _ _ _ => mg_nm 7 sc__law_drawn.nd) (fun _ _ _ _ _ => mpt_nil) (fun _ _ _ _ _ tk2 => me_call G__law_value ar__law_value (hr.mono (by decide)) tk2 rfl T.g__law_value k__law_value b__law_value (ma_cons (me_call G__law_draw ar__law_draw (hr.mono (by decide)) tk2 rfl T.g__law_draw k__law_draw b__law_draw (ma_cons (me_var 5) (ma_cons (me_add (me_int) (me_var 7)) (ma_cons (me_int) (ma_nil))))) (ma_cons (me_var 2) (ma_nil)))))) (ma_nil))))))))))
    (mss_cons (ms_setF 5 sc__law_drawn.nd (me_call G__law_cell_at ar__law_cell_at (hr.mono (by decide)) tk rfl T.g__law_cell_at k__law_cell_at b__law_cell_at (ma_cons (me_var 0) (ma_cons (me_add (me_var 1) (me_int)) (ma_nil)))))
    (mss_one (ms_pre (quiet_fz 4) (ms_pre (quiet_fz 2) (ms_ret (me_tup (ma_cons (me_ad (me_lc rfl sc__law_drawn.nd (mi_rng1 (by exact rfl) T.z_range (me_int)) (blkOk_by (N := n__law_drawn) (sc := defScope st__law_drawn) (own := [("j", 7)]) (by decide +kernel)) rfl (by decide) (fun _ _ _ _ _ => mg_nm 7 sc__law_drawn.nd) (fun _ _ _ _ _ => mpt_nil) (fun _ _ _ _ _ tk1 => me_call G__law_value ar__law_value (hr.mono (by decide)) tk1 rfl T.g__law_value k__law_value b__law_value (ma_cons (me_call G__law_draw ar__law_draw (hr.mono (by decide)) tk1 rfl T.g__law_draw k__law_draw b__law_draw (ma_cons (me_var 5) (ma_cons (me_var 7) (ma_cons (me_int) (ma_nil))))) (ma_cons (me_var 2) (ma_nil)))))) (ma_cons (me_var 4) (ma_nil))))))))))))
theorem ok_law (T : Txt K mg wl) {fd : FuncData} (F : FunD K "law" "law" (defArgs st_law) (defBody st_law) (defScope st_law) [] [] (He.ga K "law") fd) : FnOk P wl K mg base (L2.CX P wl) 7 (He.ga K "law") fd ["script"] (spOf ⟨K, acls K, none⟩ 1 f_law) := by
  obtain ⟨fd__law_bad, F__law_bad⟩ := T.f__law_bad
  have G__law_bad := ok__law_bad (P := P) (wl := wl) (base := base) T F__law_bad
  have b__law_bad : Binds K fd__law_bad ["picture", "cell"] [] := F__law_bad.bindsN (fun _ _ _ _ _ _ us hl => match us, hl with | [_, _], _ => rfl)
  have k__law_bad := F__law_bad.kp
  obtain ⟨fd__law_cell_at, F__law_cell_at⟩ := T.f__law_cell_at
  have G__law_cell_at := ok__law_cell_at (P := P) (wl := wl) (base := base) T F__law_cell_at
  have b__law_cell_at : Binds K fd__law_cell_at ["script", "k"] [] := F__law_cell_at.bindsN (fun _ _ _ _ _ _ us hl => match us, hl with | [_, _], _ => rfl)
  have k__law_cell_at := F__law_cell_at.kp
  obtain ⟨fd__law_done, F__law_done⟩ := T.f__law_done
  have G__law_done := ok__law_done (P := P) (wl := wl) (base := base) T F__law_done
  have b__law_done : Binds K fd__law_done ["way", "picture", "cell"] [] := F__law_done.bindsN (fun _ _ _ _ _ _ us hl => match us, hl with | [_, _, _], _ => rfl)
  have k__law_done := F__law_done.kp
  obtain ⟨fd__law_drawn, F__law_drawn⟩ := T.f__law_drawn
  have G__law_drawn := ok__law_drawn (P := P) (wl := wl) (base := base) T F__law_drawn
  have b__law_drawn : Binds K fd__law_drawn ["script", "at"] [] := F__law_drawn.bindsN (fun _ _ _ _ _ _ us hl => match us, hl with | [_, _], _ => rfl)
  have k__law_drawn := F__law_drawn.kp
  obtain ⟨fd__law_others_X, F__law_others_X⟩ := T.f__law_others_X
  have b__law_others_X : Binds K fd__law_others_X ["e"] [] := F__law_others_X.bindsN (fun _ _ _ _ _ _ us hl => match us, hl with | [_], _ => rfl)
  have k__law_others_X := F__law_others_X.kp
  refine fn_ok (k := 6) F sc_law (by decide) fun cdv Ar outer s H E hr tk po => ?_
  exact mss_cons (ms_setF 1 sc_law.nd (me_call G__law_bad ar__law_bad (hr.mono (by decide)) tk rfl T.g__law_bad k__law_bad b__law_bad (ma_cons (me_call G__law_drawn ar__law_drawn (hr.mono (by decide)) tk rfl T.g__law_drawn k__law_drawn b__law_drawn (ma_cons (me_var 0) (ma_cons (me_int) (ma_nil)))) (ma_cons (me_call G__law_cell_at ar__law_cell_at (hr.mono (by decide)) tk rfl T.g__law_cell_at k__law_cell_at b__law_cell_at (ma_cons (me_var 0) (ma_cons (me_int) (ma_nil)))) (ma_nil)))))
    (mss_cons (ms_for po rfl (mi_rng1 (by exact rfl) T.z_range (me_int)) (mg_nm 2 sc_law.nd) (mss_cons (ms_setF 3 sc_law.nd (me_non))
    (mss_cons (ms_tryAs (i := 4) (ct := [true, true, true, true, true, true, true, true, true, true, true, true, true, true, true, true]) rfl rfl sc_law.nd rfl rfl ⟨rfl, by decide, .inl T.g_YardError⟩ tk (exm_YardError T) (fun _ _ _ tk po => mss_one (ms_ex (me_call G__law_done ar__law_done (hr.mono (by decide)) tk rfl T.g__law_done k__law_done b__law_done (ma_cons (me_var 2) (ma_cons (me_var 1) (ma_cons (me_call G__law_cell_at ar__law_cell_at (hr.mono (by decide)) tk rfl T.g__law_cell_at k__law_cell_at b__law_cell_at (ma_cons (me_var 0) (ma_cons (me_int) (ma_nil)))) (ma_nil))))))) (fun k hk _ _ _ hz hfd => mss_one (ms_setF 3 sc_law.nd (me_and (me_isX (l := [false, false, false, false, false, true, false, false, false, false, false, false, false, false, false, false]) (k := k) (i := 4) (ecc T k (lt_of hk)) hz hfd (fun b hb => kit_NoPicture T k b hb) rfl (Or.inl rfl) rfl T.z_isinstance rfl T.g_NoPicture (by decide) (by decide) (by decide) rfl rfl rfl) (me_and (me_isT (l := [true, true, true, true, true, true, true, true, true, true, true, true, true, true, true, true]) (k := k) (i := 4) (T := "ValueError") (ecc T k (lt_of hk)) hz hfd (fun b hb => kit_ValueError T k b hb) rfl (Or.inl rfl) rfl T.z_isinstance rfl T.z_ValueError (by decide +kernel) (by decide) (by decide) (by decide) (by decide) rfl rfl rfl) (me_one (me_eq hr.units (me_callX (i := 4) (okX__law_others_X T F__law_others_X (lt_of hk) hz hfd) (hr.mono (by decide)) rfl T.g__law_others k__law_others_X b__law_others_X rfl (Or.inl rfl) (by decide) (by decide) (by decide) rfl rfl) (me_mul (me_lst (ma_cons (me_bl) (ma_nil))) (me_int)))))))))
    (mss_one (ms_if (mt_notB (me_var 3) (me_bl)) (mss_one (ms_ret (me_bl))) (mss_nil))))))
    (mss_one (ms_ret (me_bl))))
end
def fn : List He.DefD := [d_led_to, d_ways_in, d_is_value, d_is_picture, d_ask_picture, d_live, d_live_part, d_way_to, d_leads, d_words_of, d_is_closed, d_reasons, d_reason_holds, d_reasons_hold, d_is_paper, d_paper_of, d__law_done, d__law_cell_at, d__law_others_X, d__law_bad, d__law_value, d__law_draw, d__law_drawn, d_law]
def fa : List He.Fa := [.glo "led_to", .glo "ways_in", .glo "is_value", .glo "is_picture", .glo "ask_picture", .glo "live", .glo "live_part", .glo "way_to", .glo "leads", .glo "words_of", .glo "is_closed", .glo "reasons", .glo "reason_holds", .glo "reasons_hold", .glo "is_paper", .glo "paper_of", .glo "_law_done", .glo "_law_cell_at", .glo "_law_others", .glo "_law_bad", .glo "_law_value", .glo "_law_draw", .glo "_law_drawn", .glo "law", .glo "YardError", .exc "YardError", .glo "NoKind", .exc "NoKind", .glo "NoRoom", .exc "NoRoom", .glo "NoDeed", .exc "NoDeed", .glo "NoProgram", .exc "NoProgram", .glo "NoPicture", .exc "NoPicture", .glo "NoValue", .exc "NoValue", .glo "NoWay", .exc "NoWay", .glo "NoRoot", .exc "NoRoot", .glo "NoSize", .exc "NoSize", .glo "NoNumber", .exc "NoNumber", .glo "NoCell", .exc "NoCell", .glo "NoSlot", .exc "NoSlot", .glo "NoSteps", .exc "NoSteps", .glo "Full", .exc "Full", .glo "NoNote", .exc "NoNote", .int "GREATEST" 1000000, .int "MOST_SIZE" 4, .int "ROOTS" 8, .free "ValueError", .free "all", .free "dict", .free "isinstance", .free "len", .free "list", .free "range", .free "set", .free "sorted", .free "sum", .exm "YardError" "YardError" true, .exm "NoKind" "YardError" true, .exm "NoRoom" "YardError" true, .exm "NoDeed" "YardError" true, .exm "NoProgram" "YardError" true, .exm "NoPicture" "YardError" true, .exm "NoValue" "YardError" true, .exm "NoWay" "YardError" true, .exm "NoRoot" "YardError" true, .exm "NoSize" "YardError" true, .exm "NoNumber" "YardError" true, .exm "NoCell" "YardError" true, .exm "NoSlot" "YardError" true, .exm "NoSteps" "YardError" true, .exm "Full" "YardError" true, .exm "NoNote" "YardError" true]
def exs : Exs := [fun K => eccB K (He.ga K "YardError"), fun K => eccB K (He.ga K "NoKind"), fun K => eccB K (He.ga K "NoRoom"), fun K => eccB K (He.ga K "NoDeed"), fun K => eccB K (He.ga K "NoProgram"), fun K => eccB K (He.ga K "NoPicture"), fun K => eccB K (He.ga K "NoValue"), fun K => eccB K (He.ga K "NoWay"), fun K => eccB K (He.ga K "NoRoot"), fun K => eccB K (He.ga K "NoSize"), fun K => eccB K (He.ga K "NoNumber"), fun K => eccB K (He.ga K "NoCell"), fun K => eccB K (He.ga K "NoSlot"), fun K => eccB K (He.ga K "NoSteps"), fun K => eccB K (He.ga K "Full"), fun K => eccB K (He.ga K "NoNote"), fun K => decide (PySem.W.kitOne K (.ref (He.ga K "YardError")) (.ref (He.ga K "Full")) = some false), fun K => decide (PySem.W.kitOne K (.ref (He.ga K "NoKind")) (.ref (He.ga K "Full")) = some false), fun K => decide (PySem.W.kitOne K (.ref (He.ga K "NoRoom")) (.ref (He.ga K "Full")) = some false), fun K => decide (PySem.W.kitOne K (.ref (He.ga K "NoDeed")) (.ref (He.ga K "Full")) = some false), fun K => decide (PySem.W.kitOne K (.ref (He.ga K "NoProgram")) (.ref (He.ga K "Full")) = some false), fun K => decide (PySem.W.kitOne K (.ref (He.ga K "NoPicture")) (.ref (He.ga K "Full")) = some false), fun K => decide (PySem.W.kitOne K (.ref (He.ga K "NoValue")) (.ref (He.ga K "Full")) = some false), fun K => decide (PySem.W.kitOne K (.ref (He.ga K "NoWay")) (.ref (He.ga K "Full")) = some false), fun K => decide (PySem.W.kitOne K (.ref (He.ga K "NoRoot")) (.ref (He.ga K "Full")) = some false), fun K => decide (PySem.W.kitOne K (.ref (He.ga K "NoSize")) (.ref (He.ga K "Full")) = some false), fun K => decide (PySem.W.kitOne K (.ref (He.ga K "NoNumber")) (.ref (He.ga K "Full")) = some false), fun K => decide (PySem.W.kitOne K (.ref (He.ga K "NoCell")) (.ref (He.ga K "Full")) = some false), fun K => decide (PySem.W.kitOne K (.ref (He.ga K "NoSlot")) (.ref (He.ga K "Full")) = some false), fun K => decide (PySem.W.kitOne K (.ref (He.ga K "NoSteps")) (.ref (He.ga K "Full")) = some false), fun K => decide (PySem.W.kitOne K (.ref (He.ga K "Full")) (.ref (He.ga K "Full")) = some true), fun K => decide (PySem.W.kitOne K (.ref (He.ga K "NoNote")) (.ref (He.ga K "Full")) = some false), fun K => decide (PySem.W.kitOne K (.ref (He.ga K "YardError")) (.ref (He.ga K "NoCell")) = some false), fun K => decide (PySem.W.kitOne K (.ref (He.ga K "NoKind")) (.ref (He.ga K "NoCell")) = some false), fun K => decide (PySem.W.kitOne K (.ref (He.ga K "NoRoom")) (.ref (He.ga K "NoCell")) = some false), fun K => decide (PySem.W.kitOne K (.ref (He.ga K "NoDeed")) (.ref (He.ga K "NoCell")) = some false), fun K => decide (PySem.W.kitOne K (.ref (He.ga K "NoProgram")) (.ref (He.ga K "NoCell")) = some false), fun K => decide (PySem.W.kitOne K (.ref (He.ga K "NoPicture")) (.ref (He.ga K "NoCell")) = some false), fun K => decide (PySem.W.kitOne K (.ref (He.ga K "NoValue")) (.ref (He.ga K "NoCell")) = some false), fun K => decide (PySem.W.kitOne K (.ref (He.ga K "NoWay")) (.ref (He.ga K "NoCell")) = some false), fun K => decide (PySem.W.kitOne K (.ref (He.ga K "NoRoot")) (.ref (He.ga K "NoCell")) = some false), fun K => decide (PySem.W.kitOne K (.ref (He.ga K "NoSize")) (.ref (He.ga K "NoCell")) = some false), fun K => decide (PySem.W.kitOne K (.ref (He.ga K "NoNumber")) (.ref (He.ga K "NoCell")) = some false), fun K => decide (PySem.W.kitOne K (.ref (He.ga K "NoCell")) (.ref (He.ga K "NoCell")) = some true), fun K => decide (PySem.W.kitOne K (.ref (He.ga K "NoSlot")) (.ref (He.ga K "NoCell")) = some false), fun K => decide (PySem.W.kitOne K (.ref (He.ga K "NoSteps")) (.ref (He.ga K "NoCell")) = some false), fun K => decide (PySem.W.kitOne K (.ref (He.ga K "Full")) (.ref (He.ga K "NoCell")) = some false), fun K => decide (PySem.W.kitOne K (.ref (He.ga K "NoNote")) (.ref (He.ga K "NoCell")) = some false), fun K => decide (PySem.W.kitOne K (.ref (He.ga K "YardError")) (.ref (He.ga K "NoDeed")) = some false), fun K => decide (PySem.W.kitOne K (.ref (He.ga K "NoKind")) (.ref (He.ga K "NoDeed")) = some false), fun K => decide (PySem.W.kitOne K (.ref (He.ga K "NoRoom")) (.ref (He.ga K "NoDeed")) = some false), fun K => decide (PySem.W.kitOne K (.ref (He.ga K "NoDeed")) (.ref (He.ga K "NoDeed")) = some true), fun K => decide (PySem.W.kitOne K (.ref (He.ga K "NoProgram")) (.ref (He.ga K "NoDeed")) = some false), fun K => decide (PySem.W.kitOne K (.ref (He.ga K "NoPicture")) (.ref (He.ga K "NoDeed")) = some false), fun K => decide (PySem.W.kitOne K (.ref (He.ga K "NoValue")) (.ref (He.ga K "NoDeed")) = some false), fun K => decide (PySem.W.kitOne K (.ref (He.ga K "NoWay")) (.ref (He.ga K "NoDeed")) = some false), fun K => decide (PySem.W.kitOne K (.ref (He.ga K "NoRoot")) (.ref (He.ga K "NoDeed")) = some false), fun K => decide (PySem.W.kitOne K (.ref (He.ga K "NoSize")) (.ref (He.ga K "NoDeed")) = some false), fun K => decide (PySem.W.kitOne K (.ref (He.ga K "NoNumber")) (.ref (He.ga K "NoDeed")) = some false), fun K => decide (PySem.W.kitOne K (.ref (He.ga K "NoCell")) (.ref (He.ga K "NoDeed")) = some false), fun K => decide (PySem.W.kitOne K (.ref (He.ga K "NoSlot")) (.ref (He.ga K "NoDeed")) = some false), fun K => decide (PySem.W.kitOne K (.ref (He.ga K "NoSteps")) (.ref (He.ga K "NoDeed")) = some false), fun K => decide (PySem.W.kitOne K (.ref (He.ga K "Full")) (.ref (He.ga K "NoDeed")) = some false), fun K => decide (PySem.W.kitOne K (.ref (He.ga K "NoNote")) (.ref (He.ga K "NoDeed")) = some false), fun K => decide (PySem.W.kitOne K (.ref (He.ga K "YardError")) (.ref (He.ga K "NoKind")) = some false), fun K => decide (PySem.W.kitOne K (.ref (He.ga K "NoKind")) (.ref (He.ga K "NoKind")) = some true), fun K => decide (PySem.W.kitOne K (.ref (He.ga K "NoRoom")) (.ref (He.ga K "NoKind")) = some false), fun K => decide (PySem.W.kitOne K (.ref (He.ga K "NoDeed")) (.ref (He.ga K "NoKind")) = some false), fun K => decide (PySem.W.kitOne K (.ref (He.ga K "NoProgram")) (.ref (He.ga K "NoKind")) = some false), fun K => decide (PySem.W.kitOne K (.ref (He.ga K "NoPicture")) (.ref (He.ga K "NoKind")) = some false), fun K => decide (PySem.W.kitOne K (.ref (He.ga K "NoValue")) (.ref (He.ga K "NoKind")) = some false), fun K => decide (PySem.W.kitOne K (.ref (He.ga K "NoWay")) (.ref (He.ga K "NoKind")) = some false), fun K => decide (PySem.W.kitOne K (.ref (He.ga K "NoRoot")) (.ref (He.ga K "NoKind")) = some false), fun K => decide (PySem.W.kitOne K (.ref (He.ga K "NoSize")) (.ref (He.ga K "NoKind")) = some false), fun K => decide (PySem.W.kitOne K (.ref (He.ga K "NoNumber")) (.ref (He.ga K "NoKind")) = some false), fun K => decide (PySem.W.kitOne K (.ref (He.ga K "NoCell")) (.ref (He.ga K "NoKind")) = some false), fun K => decide (PySem.W.kitOne K (.ref (He.ga K "NoSlot")) (.ref (He.ga K "NoKind")) = some false), fun K => decide (PySem.W.kitOne K (.ref (He.ga K "NoSteps")) (.ref (He.ga K "NoKind")) = some false), fun K => decide (PySem.W.kitOne K (.ref (He.ga K "Full")) (.ref (He.ga K "NoKind")) = some false), fun K => decide (PySem.W.kitOne K (.ref (He.ga K "NoNote")) (.ref (He.ga K "NoKind")) = some false), fun K => decide (PySem.W.kitOne K (.ref (He.ga K "YardError")) (.ref (He.ga K "NoNote")) = some false), fun K => decide (PySem.W.kitOne K (.ref (He.ga K "NoKind")) (.ref (He.ga K "NoNote")) = some false), fun K => decide (PySem.W.kitOne K (.ref (He.ga K "NoRoom")) (.ref (He.ga K "NoNote")) = some false), fun K => decide (PySem.W.kitOne K (.ref (He.ga K "NoDeed")) (.ref (He.ga K "NoNote")) = some false), fun K => decide (PySem.W.kitOne K (.ref (He.ga K "NoProgram")) (.ref (He.ga K "NoNote")) = some false), fun K => decide (PySem.W.kitOne K (.ref (He.ga K "NoPicture")) (.ref (He.ga K "NoNote")) = some false), fun K => decide (PySem.W.kitOne K (.ref (He.ga K "NoValue")) (.ref (He.ga K "NoNote")) = some false), fun K => decide (PySem.W.kitOne K (.ref (He.ga K "NoWay")) (.ref (He.ga K "NoNote")) = some false), fun K => decide (PySem.W.kitOne K (.ref (He.ga K "NoRoot")) (.ref (He.ga K "NoNote")) = some false), fun K => decide (PySem.W.kitOne K (.ref (He.ga K "NoSize")) (.ref (He.ga K "NoNote")) = some false), fun K => decide (PySem.W.kitOne K (.ref (He.ga K "NoNumber")) (.ref (He.ga K "NoNote")) = some false), fun K => decide (PySem.W.kitOne K (.ref (He.ga K "NoCell")) (.ref (He.ga K "NoNote")) = some false), fun K => decide (PySem.W.kitOne K (.ref (He.ga K "NoSlot")) (.ref (He.ga K "NoNote")) = some false), fun K => decide (PySem.W.kitOne K (.ref (He.ga K "NoSteps")) (.ref (He.ga K "NoNote")) = some false), fun K => decide (PySem.W.kitOne K (.ref (He.ga K "Full")) (.ref (He.ga K "NoNote")) = some false), fun K => decide (PySem.W.kitOne K (.ref (He.ga K "NoNote")) (.ref (He.ga K "NoNote")) = some true), fun K => decide (PySem.W.kitOne K (.ref (He.ga K "YardError")) (.ref (He.ga K "NoNumber")) = some false), fun K => decide (PySem.W.kitOne K (.ref (He.ga K "NoKind")) (.ref (He.ga K "NoNumber")) = some false), fun K => decide (PySem.W.kitOne K (.ref (He.ga K "NoRoom")) (.ref (He.ga K "NoNumber")) = some false), fun K => decide (PySem.W.kitOne K (.ref (He.ga K "NoDeed")) (.ref (He.ga K "NoNumber")) = some false), fun K => decide (PySem.W.kitOne K (.ref (He.ga K "NoProgram")) (.ref (He.ga K "NoNumber")) = some false), fun K => decide (PySem.W.kitOne K (.ref (He.ga K "NoPicture")) (.ref (He.ga K "NoNumber")) = some false), fun K => decide (PySem.W.kitOne K (.ref (He.ga K "NoValue")) (.ref (He.ga K "NoNumber")) = some false), fun K => decide (PySem.W.kitOne K (.ref (He.ga K "NoWay")) (.ref (He.ga K "NoNumber")) = some false), fun K => decide (PySem.W.kitOne K (.ref (He.ga K "NoRoot")) (.ref (He.ga K "NoNumber")) = some false), fun K => decide (PySem.W.kitOne K (.ref (He.ga K "NoSize")) (.ref (He.ga K "NoNumber")) = some false), fun K => decide (PySem.W.kitOne K (.ref (He.ga K "NoNumber")) (.ref (He.ga K "NoNumber")) = some true), fun K => decide (PySem.W.kitOne K (.ref (He.ga K "NoCell")) (.ref (He.ga K "NoNumber")) = some false), fun K => decide (PySem.W.kitOne K (.ref (He.ga K "NoSlot")) (.ref (He.ga K "NoNumber")) = some false), fun K => decide (PySem.W.kitOne K (.ref (He.ga K "NoSteps")) (.ref (He.ga K "NoNumber")) = some false), fun K => decide (PySem.W.kitOne K (.ref (He.ga K "Full")) (.ref (He.ga K "NoNumber")) = some false), fun K => decide (PySem.W.kitOne K (.ref (He.ga K "NoNote")) (.ref (He.ga K "NoNumber")) = some false), fun K => decide (PySem.W.kitOne K (.ref (He.ga K "YardError")) (.ref (He.ga K "NoPicture")) = some false), fun K => decide (PySem.W.kitOne K (.ref (He.ga K "NoKind")) (.ref (He.ga K "NoPicture")) = some false), fun K => decide (PySem.W.kitOne K (.ref (He.ga K "NoRoom")) (.ref (He.ga K "NoPicture")) = some false), fun K => decide (PySem.W.kitOne K (.ref (He.ga K "NoDeed")) (.ref (He.ga K "NoPicture")) = some false), fun K => decide (PySem.W.kitOne K (.ref (He.ga K "NoProgram")) (.ref (He.ga K "NoPicture")) = some false), fun K => decide (PySem.W.kitOne K (.ref (He.ga K "NoPicture")) (.ref (He.ga K "NoPicture")) = some true), fun K => decide (PySem.W.kitOne K (.ref (He.ga K "NoValue")) (.ref (He.ga K "NoPicture")) = some false), fun K => decide (PySem.W.kitOne K (.ref (He.ga K "NoWay")) (.ref (He.ga K "NoPicture")) = some false), fun K => decide (PySem.W.kitOne K (.ref (He.ga K "NoRoot")) (.ref (He.ga K "NoPicture")) = some false), fun K => decide (PySem.W.kitOne K (.ref (He.ga K "NoSize")) (.ref (He.ga K "NoPicture")) = some false), fun K => decide (PySem.W.kitOne K (.ref (He.ga K "NoNumber")) (.ref (He.ga K "NoPicture")) = some false), fun K => decide (PySem.W.kitOne K (.ref (He.ga K "NoCell")) (.ref (He.ga K "NoPicture")) = some false), fun K => decide (PySem.W.kitOne K (.ref (He.ga K "NoSlot")) (.ref (He.ga K "NoPicture")) = some false), fun K => decide (PySem.W.kitOne K (.ref (He.ga K "NoSteps")) (.ref (He.ga K "NoPicture")) = some false), fun K => decide (PySem.W.kitOne K (.ref (He.ga K "Full")) (.ref (He.ga K "NoPicture")) = some false), fun K => decide (PySem.W.kitOne K (.ref (He.ga K "NoNote")) (.ref (He.ga K "NoPicture")) = some false), fun K => decide (PySem.W.kitOne K (.ref (He.ga K "YardError")) (.ref (He.ga K "NoProgram")) = some false), fun K => decide (PySem.W.kitOne K (.ref (He.ga K "NoKind")) (.ref (He.ga K "NoProgram")) = some false), fun K => decide (PySem.W.kitOne K (.ref (He.ga K "NoRoom")) (.ref (He.ga K "NoProgram")) = some false), fun K => decide (PySem.W.kitOne K (.ref (He.ga K "NoDeed")) (.ref (He.ga K "NoProgram")) = some false), fun K => decide (PySem.W.kitOne K (.ref (He.ga K "NoProgram")) (.ref (He.ga K "NoProgram")) = some true), fun K => decide (PySem.W.kitOne K (.ref (He.ga K "NoPicture")) (.ref (He.ga K "NoProgram")) = some false), fun K => decide (PySem.W.kitOne K (.ref (He.ga K "NoValue")) (.ref (He.ga K "NoProgram")) = some false), fun K => decide (PySem.W.kitOne K (.ref (He.ga K "NoWay")) (.ref (He.ga K "NoProgram")) = some false), fun K => decide (PySem.W.kitOne K (.ref (He.ga K "NoRoot")) (.ref (He.ga K "NoProgram")) = some false), fun K => decide (PySem.W.kitOne K (.ref (He.ga K "NoSize")) (.ref (He.ga K "NoProgram")) = some false), fun K => decide (PySem.W.kitOne K (.ref (He.ga K "NoNumber")) (.ref (He.ga K "NoProgram")) = some false), fun K => decide (PySem.W.kitOne K (.ref (He.ga K "NoCell")) (.ref (He.ga K "NoProgram")) = some false), fun K => decide (PySem.W.kitOne K (.ref (He.ga K "NoSlot")) (.ref (He.ga K "NoProgram")) = some false), fun K => decide (PySem.W.kitOne K (.ref (He.ga K "NoSteps")) (.ref (He.ga K "NoProgram")) = some false), fun K => decide (PySem.W.kitOne K (.ref (He.ga K "Full")) (.ref (He.ga K "NoProgram")) = some false), fun K => decide (PySem.W.kitOne K (.ref (He.ga K "NoNote")) (.ref (He.ga K "NoProgram")) = some false), fun K => decide (PySem.W.kitOne K (.ref (He.ga K "YardError")) (.ref (He.ga K "NoRoom")) = some false), fun K => decide (PySem.W.kitOne K (.ref (He.ga K "NoKind")) (.ref (He.ga K "NoRoom")) = some false), fun K => decide (PySem.W.kitOne K (.ref (He.ga K "NoRoom")) (.ref (He.ga K "NoRoom")) = some true), fun K => decide (PySem.W.kitOne K (.ref (He.ga K "NoDeed")) (.ref (He.ga K "NoRoom")) = some false), fun K => decide (PySem.W.kitOne K (.ref (He.ga K "NoProgram")) (.ref (He.ga K "NoRoom")) = some false), fun K => decide (PySem.W.kitOne K (.ref (He.ga K "NoPicture")) (.ref (He.ga K "NoRoom")) = some false), fun K => decide (PySem.W.kitOne K (.ref (He.ga K "NoValue")) (.ref (He.ga K "NoRoom")) = some false), fun K => decide (PySem.W.kitOne K (.ref (He.ga K "NoWay")) (.ref (He.ga K "NoRoom")) = some false), fun K => decide (PySem.W.kitOne K (.ref (He.ga K "NoRoot")) (.ref (He.ga K "NoRoom")) = some false), fun K => decide (PySem.W.kitOne K (.ref (He.ga K "NoSize")) (.ref (He.ga K "NoRoom")) = some false), fun K => decide (PySem.W.kitOne K (.ref (He.ga K "NoNumber")) (.ref (He.ga K "NoRoom")) = some false), fun K => decide (PySem.W.kitOne K (.ref (He.ga K "NoCell")) (.ref (He.ga K "NoRoom")) = some false), fun K => decide (PySem.W.kitOne K (.ref (He.ga K "NoSlot")) (.ref (He.ga K "NoRoom")) = some false), fun K => decide (PySem.W.kitOne K (.ref (He.ga K "NoSteps")) (.ref (He.ga K "NoRoom")) = some false), fun K => decide (PySem.W.kitOne K (.ref (He.ga K "Full")) (.ref (He.ga K "NoRoom")) = some false), fun K => decide (PySem.W.kitOne K (.ref (He.ga K "NoNote")) (.ref (He.ga K "NoRoom")) = some false), fun K => decide (PySem.W.kitOne K (.ref (He.ga K "YardError")) (.ref (He.ga K "NoRoot")) = some false), fun K => decide (PySem.W.kitOne K (.ref (He.ga K "NoKind")) (.ref (He.ga K "NoRoot")) = some false), fun K => decide (PySem.W.kitOne K (.ref (He.ga K "NoRoom")) (.ref (He.ga K "NoRoot")) = some false), fun K => decide (PySem.W.kitOne K (.ref (He.ga K "NoDeed")) (.ref (He.ga K "NoRoot")) = some false), fun K => decide (PySem.W.kitOne K (.ref (He.ga K "NoProgram")) (.ref (He.ga K "NoRoot")) = some false), fun K => decide (PySem.W.kitOne K (.ref (He.ga K "NoPicture")) (.ref (He.ga K "NoRoot")) = some false), fun K => decide (PySem.W.kitOne K (.ref (He.ga K "NoValue")) (.ref (He.ga K "NoRoot")) = some false), fun K => decide (PySem.W.kitOne K (.ref (He.ga K "NoWay")) (.ref (He.ga K "NoRoot")) = some false), fun K => decide (PySem.W.kitOne K (.ref (He.ga K "NoRoot")) (.ref (He.ga K "NoRoot")) = some true), fun K => decide (PySem.W.kitOne K (.ref (He.ga K "NoSize")) (.ref (He.ga K "NoRoot")) = some false), fun K => decide (PySem.W.kitOne K (.ref (He.ga K "NoNumber")) (.ref (He.ga K "NoRoot")) = some false), fun K => decide (PySem.W.kitOne K (.ref (He.ga K "NoCell")) (.ref (He.ga K "NoRoot")) = some false), fun K => decide (PySem.W.kitOne K (.ref (He.ga K "NoSlot")) (.ref (He.ga K "NoRoot")) = some false), fun K => decide (PySem.W.kitOne K (.ref (He.ga K "NoSteps")) (.ref (He.ga K "NoRoot")) = some false), fun K => decide (PySem.W.kitOne K (.ref (He.ga K "Full")) (.ref (He.ga K "NoRoot")) = some false), fun K => decide (PySem.W.kitOne K (.ref (He.ga K "NoNote")) (.ref (He.ga K "NoRoot")) = some false), fun K => decide (PySem.W.kitOne K (.ref (He.ga K "YardError")) (.ref (He.ga K "NoSize")) = some false), fun K => decide (PySem.W.kitOne K (.ref (He.ga K "NoKind")) (.ref (He.ga K "NoSize")) = some false), fun K => decide (PySem.W.kitOne K (.ref (He.ga K "NoRoom")) (.ref (He.ga K "NoSize")) = some false), fun K => decide (PySem.W.kitOne K (.ref (He.ga K "NoDeed")) (.ref (He.ga K "NoSize")) = some false), fun K => decide (PySem.W.kitOne K (.ref (He.ga K "NoProgram")) (.ref (He.ga K "NoSize")) = some false), fun K => decide (PySem.W.kitOne K (.ref (He.ga K "NoPicture")) (.ref (He.ga K "NoSize")) = some false), fun K => decide (PySem.W.kitOne K (.ref (He.ga K "NoValue")) (.ref (He.ga K "NoSize")) = some false), fun K => decide (PySem.W.kitOne K (.ref (He.ga K "NoWay")) (.ref (He.ga K "NoSize")) = some false), fun K => decide (PySem.W.kitOne K (.ref (He.ga K "NoRoot")) (.ref (He.ga K "NoSize")) = some false), fun K => decide (PySem.W.kitOne K (.ref (He.ga K "NoSize")) (.ref (He.ga K "NoSize")) = some true), fun K => decide (PySem.W.kitOne K (.ref (He.ga K "NoNumber")) (.ref (He.ga K "NoSize")) = some false), fun K => decide (PySem.W.kitOne K (.ref (He.ga K "NoCell")) (.ref (He.ga K "NoSize")) = some false), fun K => decide (PySem.W.kitOne K (.ref (He.ga K "NoSlot")) (.ref (He.ga K "NoSize")) = some false), fun K => decide (PySem.W.kitOne K (.ref (He.ga K "NoSteps")) (.ref (He.ga K "NoSize")) = some false), fun K => decide (PySem.W.kitOne K (.ref (He.ga K "Full")) (.ref (He.ga K "NoSize")) = some false), fun K => decide (PySem.W.kitOne K (.ref (He.ga K "NoNote")) (.ref (He.ga K "NoSize")) = some false), fun K => decide (PySem.W.kitOne K (.ref (He.ga K "YardError")) (.ref (He.ga K "NoSlot")) = some false), fun K => decide (PySem.W.kitOne K (.ref (He.ga K "NoKind")) (.ref (He.ga K "NoSlot")) = some false), fun K => decide (PySem.W.kitOne K (.ref (He.ga K "NoRoom")) (.ref (He.ga K "NoSlot")) = some false), fun K => decide (PySem.W.kitOne K (.ref (He.ga K "NoDeed")) (.ref (He.ga K "NoSlot")) = some false), fun K => decide (PySem.W.kitOne K (.ref (He.ga K "NoProgram")) (.ref (He.ga K "NoSlot")) = some false), fun K => decide (PySem.W.kitOne K (.ref (He.ga K "NoPicture")) (.ref (He.ga K "NoSlot")) = some false), fun K => decide (PySem.W.kitOne K (.ref (He.ga K "NoValue")) (.ref (He.ga K "NoSlot")) = some false), fun K => decide (PySem.W.kitOne K (.ref (He.ga K "NoWay")) (.ref (He.ga K "NoSlot")) = some false), fun K => decide (PySem.W.kitOne K (.ref (He.ga K "NoRoot")) (.ref (He.ga K "NoSlot")) = some false), fun K => decide (PySem.W.kitOne K (.ref (He.ga K "NoSize")) (.ref (He.ga K "NoSlot")) = some false), fun K => decide (PySem.W.kitOne K (.ref (He.ga K "NoNumber")) (.ref (He.ga K "NoSlot")) = some false), fun K => decide (PySem.W.kitOne K (.ref (He.ga K "NoCell")) (.ref (He.ga K "NoSlot")) = some false), fun K => decide (PySem.W.kitOne K (.ref (He.ga K "NoSlot")) (.ref (He.ga K "NoSlot")) = some true), fun K => decide (PySem.W.kitOne K (.ref (He.ga K "NoSteps")) (.ref (He.ga K "NoSlot")) = some false), fun K => decide (PySem.W.kitOne K (.ref (He.ga K "Full")) (.ref (He.ga K "NoSlot")) = some false), fun K => decide (PySem.W.kitOne K (.ref (He.ga K "NoNote")) (.ref (He.ga K "NoSlot")) = some false), fun K => decide (PySem.W.kitOne K (.ref (He.ga K "YardError")) (.ref (He.ga K "NoSteps")) = some false), fun K => decide (PySem.W.kitOne K (.ref (He.ga K "NoKind")) (.ref (He.ga K "NoSteps")) = some false), fun K => decide (PySem.W.kitOne K (.ref (He.ga K "NoRoom")) (.ref (He.ga K "NoSteps")) = some false), fun K => decide (PySem.W.kitOne K (.ref (He.ga K "NoDeed")) (.ref (He.ga K "NoSteps")) = some false), fun K => decide (PySem.W.kitOne K (.ref (He.ga K "NoProgram")) (.ref (He.ga K "NoSteps")) = some false), fun K => decide (PySem.W.kitOne K (.ref (He.ga K "NoPicture")) (.ref (He.ga K "NoSteps")) = some false), fun K => decide (PySem.W.kitOne K (.ref (He.ga K "NoValue")) (.ref (He.ga K "NoSteps")) = some false), fun K => decide (PySem.W.kitOne K (.ref (He.ga K "NoWay")) (.ref (He.ga K "NoSteps")) = some false), fun K => decide (PySem.W.kitOne K (.ref (He.ga K "NoRoot")) (.ref (He.ga K "NoSteps")) = some false), fun K => decide (PySem.W.kitOne K (.ref (He.ga K "NoSize")) (.ref (He.ga K "NoSteps")) = some false), fun K => decide (PySem.W.kitOne K (.ref (He.ga K "NoNumber")) (.ref (He.ga K "NoSteps")) = some false), fun K => decide (PySem.W.kitOne K (.ref (He.ga K "NoCell")) (.ref (He.ga K "NoSteps")) = some false), fun K => decide (PySem.W.kitOne K (.ref (He.ga K "NoSlot")) (.ref (He.ga K "NoSteps")) = some false), fun K => decide (PySem.W.kitOne K (.ref (He.ga K "NoSteps")) (.ref (He.ga K "NoSteps")) = some true), fun K => decide (PySem.W.kitOne K (.ref (He.ga K "Full")) (.ref (He.ga K "NoSteps")) = some false), fun K => decide (PySem.W.kitOne K (.ref (He.ga K "NoNote")) (.ref (He.ga K "NoSteps")) = some false), fun K => decide (PySem.W.kitOne K (.ref (He.ga K "YardError")) (.ref (He.ga K "NoValue")) = some false), fun K => decide (PySem.W.kitOne K (.ref (He.ga K "NoKind")) (.ref (He.ga K "NoValue")) = some false), fun K => decide (PySem.W.kitOne K (.ref (He.ga K "NoRoom")) (.ref (He.ga K "NoValue")) = some false), fun K => decide (PySem.W.kitOne K (.ref (He.ga K "NoDeed")) (.ref (He.ga K "NoValue")) = some false), fun K => decide (PySem.W.kitOne K (.ref (He.ga K "NoProgram")) (.ref (He.ga K "NoValue")) = some false), fun K => decide (PySem.W.kitOne K (.ref (He.ga K "NoPicture")) (.ref (He.ga K "NoValue")) = some false), fun K => decide (PySem.W.kitOne K (.ref (He.ga K "NoValue")) (.ref (He.ga K "NoValue")) = some true), fun K => decide (PySem.W.kitOne K (.ref (He.ga K "NoWay")) (.ref (He.ga K "NoValue")) = some false), fun K => decide (PySem.W.kitOne K (.ref (He.ga K "NoRoot")) (.ref (He.ga K "NoValue")) = some false), fun K => decide (PySem.W.kitOne K (.ref (He.ga K "NoSize")) (.ref (He.ga K "NoValue")) = some false), fun K => decide (PySem.W.kitOne K (.ref (He.ga K "NoNumber")) (.ref (He.ga K "NoValue")) = some false), fun K => decide (PySem.W.kitOne K (.ref (He.ga K "NoCell")) (.ref (He.ga K "NoValue")) = some false), fun K => decide (PySem.W.kitOne K (.ref (He.ga K "NoSlot")) (.ref (He.ga K "NoValue")) = some false), fun K => decide (PySem.W.kitOne K (.ref (He.ga K "NoSteps")) (.ref (He.ga K "NoValue")) = some false), fun K => decide (PySem.W.kitOne K (.ref (He.ga K "Full")) (.ref (He.ga K "NoValue")) = some false), fun K => decide (PySem.W.kitOne K (.ref (He.ga K "NoNote")) (.ref (He.ga K "NoValue")) = some false), fun K => decide (PySem.W.kitOne K (.ref (He.ga K "YardError")) (.ref (He.ga K "NoWay")) = some false), fun K => decide (PySem.W.kitOne K (.ref (He.ga K "NoKind")) (.ref (He.ga K "NoWay")) = some false), fun K => decide (PySem.W.kitOne K (.ref (He.ga K "NoRoom")) (.ref (He.ga K "NoWay")) = some false), fun K => decide (PySem.W.kitOne K (.ref (He.ga K "NoDeed")) (.ref (He.ga K "NoWay")) = some false), fun K => decide (PySem.W.kitOne K (.ref (He.ga K "NoProgram")) (.ref (He.ga K "NoWay")) = some false), fun K => decide (PySem.W.kitOne K (.ref (He.ga K "NoPicture")) (.ref (He.ga K "NoWay")) = some false), fun K => decide (PySem.W.kitOne K (.ref (He.ga K "NoValue")) (.ref (He.ga K "NoWay")) = some false), fun K => decide (PySem.W.kitOne K (.ref (He.ga K "NoWay")) (.ref (He.ga K "NoWay")) = some true), fun K => decide (PySem.W.kitOne K (.ref (He.ga K "NoRoot")) (.ref (He.ga K "NoWay")) = some false), fun K => decide (PySem.W.kitOne K (.ref (He.ga K "NoSize")) (.ref (He.ga K "NoWay")) = some false), fun K => decide (PySem.W.kitOne K (.ref (He.ga K "NoNumber")) (.ref (He.ga K "NoWay")) = some false), fun K => decide (PySem.W.kitOne K (.ref (He.ga K "NoCell")) (.ref (He.ga K "NoWay")) = some false), fun K => decide (PySem.W.kitOne K (.ref (He.ga K "NoSlot")) (.ref (He.ga K "NoWay")) = some false), fun K => decide (PySem.W.kitOne K (.ref (He.ga K "NoSteps")) (.ref (He.ga K "NoWay")) = some false), fun K => decide (PySem.W.kitOne K (.ref (He.ga K "Full")) (.ref (He.ga K "NoWay")) = some false), fun K => decide (PySem.W.kitOne K (.ref (He.ga K "NoNote")) (.ref (He.ga K "NoWay")) = some false), fun K => decide (PySem.W.kitOne K (.ref (He.ga K "YardError")) (.type "ValueError") = some true), fun K => decide (PySem.W.kitOne K (.ref (He.ga K "NoKind")) (.type "ValueError") = some true), fun K => decide (PySem.W.kitOne K (.ref (He.ga K "NoRoom")) (.type "ValueError") = some true), fun K => decide (PySem.W.kitOne K (.ref (He.ga K "NoDeed")) (.type "ValueError") = some true), fun K => decide (PySem.W.kitOne K (.ref (He.ga K "NoProgram")) (.type "ValueError") = some true), fun K => decide (PySem.W.kitOne K (.ref (He.ga K "NoPicture")) (.type "ValueError") = some true), fun K => decide (PySem.W.kitOne K (.ref (He.ga K "NoValue")) (.type "ValueError") = some true), fun K => decide (PySem.W.kitOne K (.ref (He.ga K "NoWay")) (.type "ValueError") = some true), fun K => decide (PySem.W.kitOne K (.ref (He.ga K "NoRoot")) (.type "ValueError") = some true), fun K => decide (PySem.W.kitOne K (.ref (He.ga K "NoSize")) (.type "ValueError") = some true), fun K => decide (PySem.W.kitOne K (.ref (He.ga K "NoNumber")) (.type "ValueError") = some true), fun K => decide (PySem.W.kitOne K (.ref (He.ga K "NoCell")) (.type "ValueError") = some true), fun K => decide (PySem.W.kitOne K (.ref (He.ga K "NoSlot")) (.type "ValueError") = some true), fun K => decide (PySem.W.kitOne K (.ref (He.ga K "NoSteps")) (.type "ValueError") = some true), fun K => decide (PySem.W.kitOne K (.ref (He.ga K "Full")) (.type "ValueError") = some true), fun K => decide (PySem.W.kitOne K (.ref (He.ga K "NoNote")) (.type "ValueError") = some true)]
def nm0 : List Str := ["YardError", "NoKind", "NoRoom", "NoDeed", "NoProgram", "NoPicture", "NoValue", "NoWay", "NoRoot", "NoSize", "NoNumber", "NoCell", "NoSlot", "NoSteps", "Full", "NoNote", "ROOTS", "MOST_SIZE", "GREATEST", "is_value", "is_picture", "ask_picture", "led_to", "ways_in", "live", "live_part", "way_to", "leads", "words_of", "is_closed"]
def nm1 : List Str := ["reason_holds", "reasons_hold", "is_paper", "reasons", "paper_of", "_law_cell_at", "_law_draw", "_law_value", "_law_drawn", "_law_others", "_law_bad", "_law_done"]
def ts : List He.Tab := []
theorem facts {K : PySem.W.Frag} {h : Heap} {mg : Str → Option Value} {wl : World} (X : K.In h) (G : h.Ns mainGlobals mg) (c : He.SaysD fa fn K) (ce : exK exs K = true) (ct : ∀ t ∈ ts, ∃ es n, KDict K wl (t.1 K) es n) : Txt K mg wl :=
  ⟨He.glo_ok X G (c.fact 0 rfl),
   He.glo_ok X G (c.fact 1 rfl),
   He.glo_ok X G (c.fact 2 rfl),
   He.glo_ok X G (c.fact 3 rfl),
   He.glo_ok X G (c.fact 4 rfl),
   He.glo_ok X G (c.fact 5 rfl),
   He.glo_ok X G (c.fact 6 rfl),
   He.glo_ok X G (c.fact 7 rfl),
   He.glo_ok X G (c.fact 8 rfl),
   He.glo_ok X G (c.fact 9 rfl),
   He.glo_ok X G (c.fact 10 rfl),
   He.glo_ok X G (c.fact 11 rfl),
   He.glo_ok X G (c.fact 12 rfl),
   He.glo_ok X G (c.fact 13 rfl),
   He.glo_ok X G (c.fact 14 rfl),
   He.glo_ok X G (c.fact 15 rfl),
   He.glo_ok X G (c.fact 16 rfl),
   He.glo_ok X G (c.fact 17 rfl),
   He.glo_ok X G (c.fact 18 rfl),
   He.glo_ok X G (c.fact 19 rfl),
   He.glo_ok X G (c.fact 20 rfl),
   He.glo_ok X G (c.fact 21 rfl),
   He.glo_ok X G (c.fact 22 rfl),
   He.glo_ok X G (c.fact 23 rfl),
   He.glo_ok X G (c.fact 24 rfl),
   He.exc_ok (c.fact 25 rfl),
   He.glo_ok X G (c.fact 26 rfl),
   He.exc_ok (c.fact 27 rfl),
   He.glo_ok X G (c.fact 28 rfl),
   He.exc_ok (c.fact 29 rfl),
   He.glo_ok X G (c.fact 30 rfl),
   He.exc_ok (c.fact 31 rfl),
   He.glo_ok X G (c.fact 32 rfl),
   He.exc_ok (c.fact 33 rfl),
   He.glo_ok X G (c.fact 34 rfl),
   He.exc_ok (c.fact 35 rfl),
   He.glo_ok X G (c.fact 36 rfl),
   He.exc_ok (c.fact 37 rfl),
   He.glo_ok X G (c.fact 38 rfl),
   He.exc_ok (c.fact 39 rfl),
   He.glo_ok X G (c.fact 40 rfl),
   He.exc_ok (c.fact 41 rfl),
   He.glo_ok X G (c.fact 42 rfl),
   He.exc_ok (c.fact 43 rfl),
   He.glo_ok X G (c.fact 44 rfl),
   He.exc_ok (c.fact 45 rfl),
   He.glo_ok X G (c.fact 46 rfl),
   He.exc_ok (c.fact 47 rfl),
   He.glo_ok X G (c.fact 48 rfl),
   He.exc_ok (c.fact 49 rfl),
   He.glo_ok X G (c.fact 50 rfl),
   He.exc_ok (c.fact 51 rfl),
   He.glo_ok X G (c.fact 52 rfl),
   He.exc_ok (c.fact 53 rfl),
   He.glo_ok X G (c.fact 54 rfl),
   He.exc_ok (c.fact 55 rfl),
   He.int_ok X G (c.fact 56 rfl),
   He.int_ok X G (c.fact 57 rfl),
   He.int_ok X G (c.fact 58 rfl),
   He.free_ok X G (c.fact 59 rfl),
   He.free_ok X G (c.fact 60 rfl),
   He.free_ok X G (c.fact 61 rfl),
   He.free_ok X G (c.fact 62 rfl),
   He.free_ok X G (c.fact 63 rfl),
   He.free_ok X G (c.fact 64 rfl),
   He.free_ok X G (c.fact 65 rfl),
   He.free_ok X G (c.fact 66 rfl),
   He.free_ok X G (c.fact 67 rfl),
   He.free_ok X G (c.fact 68 rfl),
   He.exm_ok (c.fact 69 rfl),
   He.exm_ok (c.fact 70 rfl),
   He.exm_ok (c.fact 71 rfl),
   He.exm_ok (c.fact 72 rfl),
   He.exm_ok (c.fact 73 rfl),
   He.exm_ok (c.fact 74 rfl),
   He.exm_ok (c.fact 75 rfl),
   He.exm_ok (c.fact 76 rfl),
   He.exm_ok (c.fact 77 rfl),
   He.exm_ok (c.fact 78 rfl),
   He.exm_ok (c.fact 79 rfl),
   He.exm_ok (c.fact 80 rfl),
   He.exm_ok (c.fact 81 rfl),
   He.exm_ok (c.fact 82 rfl),
   He.exm_ok (c.fact 83 rfl),
   He.exm_ok (c.fact 84 rfl),
   eccB_ok (exK_at ce 0 rfl),
   eccB_ok (exK_at ce 1 rfl),
   eccB_ok (exK_at ce 2 rfl),
   eccB_ok (exK_at ce 3 rfl),
   eccB_ok (exK_at ce 4 rfl),
   eccB_ok (exK_at ce 5 rfl),
   eccB_ok (exK_at ce 6 rfl),
   eccB_ok (exK_at ce 7 rfl),
   eccB_ok (exK_at ce 8 rfl),
   eccB_ok (exK_at ce 9 rfl),
   eccB_ok (exK_at ce 10 rfl),
   eccB_ok (exK_at ce 11 rfl),
   eccB_ok (exK_at ce 12 rfl),
   eccB_ok (exK_at ce 13 rfl),
   eccB_ok (exK_at ce 14 rfl),
   eccB_ok (exK_at ce 15 rfl),
   of_decide_eq_true (exK_at ce 16 rfl),
   of_decide_eq_true (exK_at ce 17 rfl),
   of_decide_eq_true (exK_at ce 18 rfl),
   of_decide_eq_true (exK_at ce 19 rfl),
   of_decide_eq_true (exK_at ce 20 rfl),
   of_decide_eq_true (exK_at ce 21 rfl),
   of_decide_eq_true (exK_at ce 22 rfl),
   of_decide_eq_true (exK_at ce 23 rfl),
   of_decide_eq_true (exK_at ce 24 rfl),
   of_decide_eq_true (exK_at ce 25 rfl),
   of_decide_eq_true (exK_at ce 26 rfl),
   of_decide_eq_true (exK_at ce 27 rfl),
   of_decide_eq_true (exK_at ce 28 rfl),
   of_decide_eq_true (exK_at ce 29 rfl),
   of_decide_eq_true (exK_at ce 30 rfl),
   of_decide_eq_true (exK_at ce 31 rfl),
   of_decide_eq_true (exK_at ce 32 rfl),
   of_decide_eq_true (exK_at ce 33 rfl),
   of_decide_eq_true (exK_at ce 34 rfl),
   of_decide_eq_true (exK_at ce 35 rfl),
   of_decide_eq_true (exK_at ce 36 rfl),
   of_decide_eq_true (exK_at ce 37 rfl),
   of_decide_eq_true (exK_at ce 38 rfl),
   of_decide_eq_true (exK_at ce 39 rfl),
   of_decide_eq_true (exK_at ce 40 rfl),
   of_decide_eq_true (exK_at ce 41 rfl),
   of_decide_eq_true (exK_at ce 42 rfl),
   of_decide_eq_true (exK_at ce 43 rfl),
   of_decide_eq_true (exK_at ce 44 rfl),
   of_decide_eq_true (exK_at ce 45 rfl),
   of_decide_eq_true (exK_at ce 46 rfl),
   of_decide_eq_true (exK_at ce 47 rfl),
   of_decide_eq_true (exK_at ce 48 rfl),
   of_decide_eq_true (exK_at ce 49 rfl),
   of_decide_eq_true (exK_at ce 50 rfl),
   of_decide_eq_true (exK_at ce 51 rfl),
   of_decide_eq_true (exK_at ce 52 rfl),
   of_decide_eq_true (exK_at ce 53 rfl),
   of_decide_eq_true (exK_at ce 54 rfl),
   of_decide_eq_true (exK_at ce 55 rfl),
   of_decide_eq_true (exK_at ce 56 rfl),
   of_decide_eq_true (exK_at ce 57 rfl),
   of_decide_eq_true (exK_at ce 58 rfl),
   of_decide_eq_true (exK_at ce 59 rfl),
   of_decide_eq_true (exK_at ce 60 rfl),
   of_decide_eq_true (exK_at ce 61 rfl),
   of_decide_eq_true (exK_at ce 62 rfl),
   of_decide_eq_true (exK_at ce 63 rfl),
   of_decide_eq_true (exK_at ce 64 rfl),
   of_decide_eq_true (exK_at ce 65 rfl),
   of_decide_eq_true (exK_at ce 66 rfl),
   of_decide_eq_true (exK_at ce 67 rfl),
   of_decide_eq_true (exK_at ce 68 rfl),
   of_decide_eq_true (exK_at ce 69 rfl),
   of_decide_eq_true (exK_at ce 70 rfl),
   of_decide_eq_true (exK_at ce 71 rfl),
   of_decide_eq_true (exK_at ce 72 rfl),
   of_decide_eq_true (exK_at ce 73 rfl),
   of_decide_eq_true (exK_at ce 74 rfl),
   of_decide_eq_true (exK_at ce 75 rfl),
   of_decide_eq_true (exK_at ce 76 rfl),
   of_decide_eq_true (exK_at ce 77 rfl),
   of_decide_eq_true (exK_at ce 78 rfl),
   of_decide_eq_true (exK_at ce 79 rfl),
   of_decide_eq_true (exK_at ce 80 rfl),
   of_decide_eq_true (exK_at ce 81 rfl),
   of_decide_eq_true (exK_at ce 82 rfl),
   of_decide_eq_true (exK_at ce 83 rfl),
   of_decide_eq_true (exK_at ce 84 rfl),
   of_decide_eq_true (exK_at ce 85 rfl),
   of_decide_eq_true (exK_at ce 86 rfl),
   of_decide_eq_true (exK_at ce 87 rfl),
   of_decide_eq_true (exK_at ce 88 rfl),
   of_decide_eq_true (exK_at ce 89 rfl),
   of_decide_eq_true (exK_at ce 90 rfl),
   of_decide_eq_true (exK_at ce 91 rfl),
   of_decide_eq_true (exK_at ce 92 rfl),
   of_decide_eq_true (exK_at ce 93 rfl),
   of_decide_eq_true (exK_at ce 94 rfl),
   of_decide_eq_true (exK_at ce 95 rfl),
   of_decide_eq_true (exK_at ce 96 rfl),
   of_decide_eq_true (exK_at ce 97 rfl),
   of_decide_eq_true (exK_at ce 98 rfl),
   of_decide_eq_true (exK_at ce 99 rfl),
   of_decide_eq_true (exK_at ce 100 rfl),
   of_decide_eq_true (exK_at ce 101 rfl),
   of_decide_eq_true (exK_at ce 102 rfl),
   of_decide_eq_true (exK_at ce 103 rfl),
   of_decide_eq_true (exK_at ce 104 rfl),
   of_decide_eq_true (exK_at ce 105 rfl),
   of_decide_eq_true (exK_at ce 106 rfl),
   of_decide_eq_true (exK_at ce 107 rfl),
   of_decide_eq_true (exK_at ce 108 rfl),
   of_decide_eq_true (exK_at ce 109 rfl),
   of_decide_eq_true (exK_at ce 110 rfl),
   of_decide_eq_true (exK_at ce 111 rfl),
   of_decide_eq_true (exK_at ce 112 rfl),
   of_decide_eq_true (exK_at ce 113 rfl),
   of_decide_eq_true (exK_at ce 114 rfl),
   of_decide_eq_true (exK_at ce 115 rfl),
   of_decide_eq_true (exK_at ce 116 rfl),
   of_decide_eq_true (exK_at ce 117 rfl),
   of_decide_eq_true (exK_at ce 118 rfl),
   of_decide_eq_true (exK_at ce 119 rfl),
   of_decide_eq_true (exK_at ce 120 rfl),
   of_decide_eq_true (exK_at ce 121 rfl),
   of_decide_eq_true (exK_at ce 122 rfl),
   of_decide_eq_true (exK_at ce 123 rfl),
   of_decide_eq_true (exK_at ce 124 rfl),
   of_decide_eq_true (exK_at ce 125 rfl),
   of_decide_eq_true (exK_at ce 126 rfl),
   of_decide_eq_true (exK_at ce 127 rfl),
   of_decide_eq_true (exK_at ce 128 rfl),
   of_decide_eq_true (exK_at ce 129 rfl),
   of_decide_eq_true (exK_at ce 130 rfl),
   of_decide_eq_true (exK_at ce 131 rfl),
   of_decide_eq_true (exK_at ce 132 rfl),
   of_decide_eq_true (exK_at ce 133 rfl),
   of_decide_eq_true (exK_at ce 134 rfl),
   of_decide_eq_true (exK_at ce 135 rfl),
   of_decide_eq_true (exK_at ce 136 rfl),
   of_decide_eq_true (exK_at ce 137 rfl),
   of_decide_eq_true (exK_at ce 138 rfl),
   of_decide_eq_true (exK_at ce 139 rfl),
   of_decide_eq_true (exK_at ce 140 rfl),
   of_decide_eq_true (exK_at ce 141 rfl),
   of_decide_eq_true (exK_at ce 142 rfl),
   of_decide_eq_true (exK_at ce 143 rfl),
   of_decide_eq_true (exK_at ce 144 rfl),
   of_decide_eq_true (exK_at ce 145 rfl),
   of_decide_eq_true (exK_at ce 146 rfl),
   of_decide_eq_true (exK_at ce 147 rfl),
   of_decide_eq_true (exK_at ce 148 rfl),
   of_decide_eq_true (exK_at ce 149 rfl),
   of_decide_eq_true (exK_at ce 150 rfl),
   of_decide_eq_true (exK_at ce 151 rfl),
   of_decide_eq_true (exK_at ce 152 rfl),
   of_decide_eq_true (exK_at ce 153 rfl),
   of_decide_eq_true (exK_at ce 154 rfl),
   of_decide_eq_true (exK_at ce 155 rfl),
   of_decide_eq_true (exK_at ce 156 rfl),
   of_decide_eq_true (exK_at ce 157 rfl),
   of_decide_eq_true (exK_at ce 158 rfl),
   of_decide_eq_true (exK_at ce 159 rfl),
   of_decide_eq_true (exK_at ce 160 rfl),
   of_decide_eq_true (exK_at ce 161 rfl),
   of_decide_eq_true (exK_at ce 162 rfl),
   of_decide_eq_true (exK_at ce 163 rfl),
   of_decide_eq_true (exK_at ce 164 rfl),
   of_decide_eq_true (exK_at ce 165 rfl),
   of_decide_eq_true (exK_at ce 166 rfl),
   of_decide_eq_true (exK_at ce 167 rfl),
   of_decide_eq_true (exK_at ce 168 rfl),
   of_decide_eq_true (exK_at ce 169 rfl),
   of_decide_eq_true (exK_at ce 170 rfl),
   of_decide_eq_true (exK_at ce 171 rfl),
   of_decide_eq_true (exK_at ce 172 rfl),
   of_decide_eq_true (exK_at ce 173 rfl),
   of_decide_eq_true (exK_at ce 174 rfl),
   of_decide_eq_true (exK_at ce 175 rfl),
   of_decide_eq_true (exK_at ce 176 rfl),
   of_decide_eq_true (exK_at ce 177 rfl),
   of_decide_eq_true (exK_at ce 178 rfl),
   of_decide_eq_true (exK_at ce 179 rfl),
   of_decide_eq_true (exK_at ce 180 rfl),
   of_decide_eq_true (exK_at ce 181 rfl),
   of_decide_eq_true (exK_at ce 182 rfl),
   of_decide_eq_true (exK_at ce 183 rfl),
   of_decide_eq_true (exK_at ce 184 rfl),
   of_decide_eq_true (exK_at ce 185 rfl),
   of_decide_eq_true (exK_at ce 186 rfl),
   of_decide_eq_true (exK_at ce 187 rfl),
   of_decide_eq_true (exK_at ce 188 rfl),
   of_decide_eq_true (exK_at ce 189 rfl),
   of_decide_eq_true (exK_at ce 190 rfl),
   of_decide_eq_true (exK_at ce 191 rfl),
   of_decide_eq_true (exK_at ce 192 rfl),
   of_decide_eq_true (exK_at ce 193 rfl),
   of_decide_eq_true (exK_at ce 194 rfl),
   of_decide_eq_true (exK_at ce 195 rfl),
   of_decide_eq_true (exK_at ce 196 rfl),
   of_decide_eq_true (exK_at ce 197 rfl),
   of_decide_eq_true (exK_at ce 198 rfl),
   of_decide_eq_true (exK_at ce 199 rfl),
   of_decide_eq_true (exK_at ce 200 rfl),
   of_decide_eq_true (exK_at ce 201 rfl),
   of_decide_eq_true (exK_at ce 202 rfl),
   of_decide_eq_true (exK_at ce 203 rfl),
   of_decide_eq_true (exK_at ce 204 rfl),
   of_decide_eq_true (exK_at ce 205 rfl),
   of_decide_eq_true (exK_at ce 206 rfl),
   of_decide_eq_true (exK_at ce 207 rfl),
   of_decide_eq_true (exK_at ce 208 rfl),
   of_decide_eq_true (exK_at ce 209 rfl),
   of_decide_eq_true (exK_at ce 210 rfl),
   of_decide_eq_true (exK_at ce 211 rfl),
   of_decide_eq_true (exK_at ce 212 rfl),
   of_decide_eq_true (exK_at ce 213 rfl),
   of_decide_eq_true (exK_at ce 214 rfl),
   of_decide_eq_true (exK_at ce 215 rfl),
   of_decide_eq_true (exK_at ce 216 rfl),
   of_decide_eq_true (exK_at ce 217 rfl),
   of_decide_eq_true (exK_at ce 218 rfl),
   of_decide_eq_true (exK_at ce 219 rfl),
   of_decide_eq_true (exK_at ce 220 rfl),
   of_decide_eq_true (exK_at ce 221 rfl),
   of_decide_eq_true (exK_at ce 222 rfl),
   of_decide_eq_true (exK_at ce 223 rfl),
   of_decide_eq_true (exK_at ce 224 rfl),
   of_decide_eq_true (exK_at ce 225 rfl),
   of_decide_eq_true (exK_at ce 226 rfl),
   of_decide_eq_true (exK_at ce 227 rfl),
   of_decide_eq_true (exK_at ce 228 rfl),
   of_decide_eq_true (exK_at ce 229 rfl),
   of_decide_eq_true (exK_at ce 230 rfl),
   of_decide_eq_true (exK_at ce 231 rfl),
   of_decide_eq_true (exK_at ce 232 rfl),
   of_decide_eq_true (exK_at ce 233 rfl),
   of_decide_eq_true (exK_at ce 234 rfl),
   of_decide_eq_true (exK_at ce 235 rfl),
   of_decide_eq_true (exK_at ce 236 rfl),
   of_decide_eq_true (exK_at ce 237 rfl),
   of_decide_eq_true (exK_at ce 238 rfl),
   of_decide_eq_true (exK_at ce 239 rfl),
   of_decide_eq_true (exK_at ce 240 rfl),
   of_decide_eq_true (exK_at ce 241 rfl),
   of_decide_eq_true (exK_at ce 242 rfl),
   of_decide_eq_true (exK_at ce 243 rfl),
   of_decide_eq_true (exK_at ce 244 rfl),
   of_decide_eq_true (exK_at ce 245 rfl),
   of_decide_eq_true (exK_at ce 246 rfl),
   of_decide_eq_true (exK_at ce 247 rfl),
   of_decide_eq_true (exK_at ce 248 rfl),
   of_decide_eq_true (exK_at ce 249 rfl),
   of_decide_eq_true (exK_at ce 250 rfl),
   of_decide_eq_true (exK_at ce 251 rfl),
   of_decide_eq_true (exK_at ce 252 rfl),
   of_decide_eq_true (exK_at ce 253 rfl),
   of_decide_eq_true (exK_at ce 254 rfl),
   of_decide_eq_true (exK_at ce 255 rfl),
   of_decide_eq_true (exK_at ce 256 rfl),
   of_decide_eq_true (exK_at ce 257 rfl),
   of_decide_eq_true (exK_at ce 258 rfl),
   of_decide_eq_true (exK_at ce 259 rfl),
   of_decide_eq_true (exK_at ce 260 rfl),
   of_decide_eq_true (exK_at ce 261 rfl),
   of_decide_eq_true (exK_at ce 262 rfl),
   of_decide_eq_true (exK_at ce 263 rfl),
   of_decide_eq_true (exK_at ce 264 rfl),
   of_decide_eq_true (exK_at ce 265 rfl),
   of_decide_eq_true (exK_at ce 266 rfl),
   of_decide_eq_true (exK_at ce 267 rfl),
   of_decide_eq_true (exK_at ce 268 rfl),
   of_decide_eq_true (exK_at ce 269 rfl),
   of_decide_eq_true (exK_at ce 270 rfl),
   of_decide_eq_true (exK_at ce 271 rfl),
   c.def_ 0 (d := d_led_to) rfl,
   c.def_ 1 (d := d_ways_in) rfl,
   c.def_ 2 (d := d_is_value) rfl,
   c.def_ 3 (d := d_is_picture) rfl,
   c.def_ 4 (d := d_ask_picture) rfl,
   c.def_ 5 (d := d_live) rfl,
   c.def_ 6 (d := d_live_part) rfl,
   c.def_ 7 (d := d_way_to) rfl,
   c.def_ 8 (d := d_leads) rfl,
   c.def_ 9 (d := d_words_of) rfl,
   c.def_ 10 (d := d_is_closed) rfl,
   c.def_ 11 (d := d_reasons) rfl,
   c.def_ 12 (d := d_reason_holds) rfl,
   c.def_ 13 (d := d_reasons_hold) rfl,
   c.def_ 14 (d := d_is_paper) rfl,
   c.def_ 15 (d := d_paper_of) rfl,
   c.def_ 16 (d := d__law_done) rfl,
   c.def_ 17 (d := d__law_cell_at) rfl,
   c.def_ 18 (d := d__law_others_X) rfl,
   c.def_ 19 (d := d__law_bad) rfl,
   c.def_ 20 (d := d__law_value) rfl,
   c.def_ 21 (d := d__law_draw) rfl,
   c.def_ 22 (d := d__law_drawn) rfl,
   c.def_ 23 (d := d_law) rfl⟩
abbrev Rw : PySem.W.OpenRow := PySem.W.OpenLaw.row PySem.Challenge.rw_gleanyard_k09_pictures_refused
abbrev hk : PySem.W.Hook := hookX 4 fa fn exs ts
def ob (s : PySem.W.SharedT) : AlX := obsX 4 fa fn exs ts (HandSHeadRun.getT s)
theorem ob_eq (s : PySem.W.SharedT) : ob s = hk.obs s.abs := obsX_eq (HandSHeadRun.getT_eq s)
def names : List Str := nm0 ++ nm1
abbrev RunP (w : World) : Prop := HandSHeadRun.RunEq Rw (PySem.W.view Rw.prog [46]) hk ob 20000 names w
theorem run (w : World) : RunP w := by intro os; kernel_rfl
end Lw

open PySem PySem.W PySem.Calls PyProof.Rows
set_option maxRecDepth 100000 in
set_option maxHeartbeats 0 in
theorem PySem.Challenge.cw_gleanyard_k09_pictures_refused_holds : PySem.Challenge.rw_gleanyard_k09_pictures_refused.Holds := by
  w_on; o_law
  refine HandSHeadRun.head_any (r := OpenLaw.row PySem.Challenge.rw_gleanyard_k09_pictures_refused) (q := view (OpenLaw.row PySem.Challenge.rw_gleanyard_k09_pictures_refused).prog [46]) (H := Lw.hk) (ob := Lw.ob) (M := 20000) (loose := Lw.names) (d := HandSHeadRun.topDef (OpenLaw.row PySem.Challenge.rw_gleanyard_k09_pictures_refused).prog 46) (kwd := []) Lw.ob_eq
    (by kernel_rfl) (fun s => by kernel_rfl) Lw.run (by kernel_rfl) (by kernel_rfl) (by kernel_rfl) (by rfl) (by first | assumption | decide +kernel) (by decide +kernel) ⟨rfl, rfl, rfl, rfl, rfl, by decide +kernel⟩ ?hw ?hc
  case hw => w_witness2
  case hc =>
    refine Gm.walk_w (l := PySem.Challenge.rw_gleanyard_k09_pictures_refused) (n := 63) (k := 7) (x := "script") (CX := fun w => L2.CX (PySem.Challenge.rw_gleanyard_k09_pictures_refused).prog w) rfl (by decide) (by kernel_rfl) ⟨rfl, by decide, by decide⟩ ?F (fun w H s e s' z => Gm.cx_false H s e s' z)
    intro w mg fa h Y G hmg0
    obtain ⟨K, KX, c, ce, ct⟩ := Y
    have hmg : mg ("law" : PySem.Str) = some (.ref fa) := by
      have e : (HandSHeadRun.topDef (OpenLaw.row PySem.Challenge.rw_gleanyard_k09_pictures_refused).prog 46).name = ("law" : PySem.Str) := by kernel_rfl
      rw [← e]
      exact hmg0
    have T := Lw.facts KX G c ce ct
    have ea := hmg.symm.trans T.g_law
    cases ea
    obtain ⟨fd, F⟩ := T.f_law
    have b := L2.FunD.bindsA (ps := ["script"]) F fun _ _ _ _ _ _ us hl => match us, hl with | [_], _ => rfl
    refine ⟨K, fd, Gm.spOf ⟨K, Lw.acls K, none⟩ 1 Lw.f_law, KX, fun s v => b s [v] rfl, Gm.law_in Lw.main, fun base _ _ => ?_⟩
    exact Lw.ok_law T F
