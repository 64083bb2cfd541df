import PyProof.Rows.All
import Wide.All
import OpenK.AllK
import Wide.FinOn
import HandS.ForMost
import HandS.ForExc
import HandS.HeadEnd
import HandS.HeadHook1
import HandS.HeadHook2
import HandS.HeadHook3
import HandS.Head0
import HandS.Head1
import HandS.Head2
import HandS.IsInst
import HandS.TryMany
import HandS.Defaults
import HandS.Style
import HandS.ExcIs
import HandS.Dict
import HandS.SortInts
import HandS.More
import HandS.Conv
import HandS.SetFor
import HandS.Strs
import PyProof.Rows.SetFrom
import HandS.TupAny
import HandS.ClsMeth
import HandS.SortRule
import HandS.Zip
import HandS.HotCalls
import KE.SortKeyHeap
import HandS.SortKw
import KE.DataFind
import HandS.TupSets
import HandS.DictTup
import HandS.Text
import HandS.RaiseMore
import HandS.NoneIn
import HandS.Comp
import HandS.Exc
import KE.GoesRaise
import KE.KAsSuite
import Wide.Once
import HandS.Words
import PySem.Challenge.RW_gleanyard_k17_texts_read_or_refused
set_option Elab.async false
set_option linter.all false
set_option maxRecDepth 100000
set_option autoImplicit false
namespace Gm
open PySem PySem.Spec PyProof.Rows L2
/-! ## values and stores of the mirror -/
mutual
inductive D where
  | non | bl (b : Bool) | int (i : Int) | str (x : Str)
  | tup (xs : List D) | lst (xs : List D) | scr (ns : List Int) | dct (kv : List (Key × D)) | ref (n : Nat) | own (o : O) | bor (o : O) | exn
inductive O where
  | lst (xs : List D) | dK (kv : List (Key × D)) | ins (c : Nat) (fs : List (Str × D)) | dead | dT (ks : List (Int × Int))
end
abbrev Store := List O
abbrev Sl := L2.St
abbrev Env := List (Option D)
inductive R (t : Type) where
  | ok (a : t) (s : Store) | exc (c : Nat) (s : Store) | no
inductive SR where
  | nx (e : Env) (s : Store) | rt (d : D) (s : Store) | bk (e : Env) (s : Store) | ct (e : Env) (s : Store) | exc (c : Nat) (e : Env) (s : Store) | no
abbrev Ex := Env → Store → R D
abbrev Tx := Env → Store → R Bool
abbrev Ax := Env → Store → R (List D)
abbrev Sx := Env → Store → SR
abbrev Fx := List D → Store → R D

/-! ## the ground: the written part, the classes -/
structure Gc where
  K : PySem.W.Frag
  A : Nat → Addr
  x : Option Addr
structure Wd where
  m : List Addr
  s : Store
  H : Hp
  T : List Addr
def Wd.Live (w : Wd) (p : Addr) : Prop := ∃ (n : Nat) (o : O), w.m[n]? = some p ∧ w.s[n]? = some o ∧ o ≠ O.dead
def KL (K : PySem.W.Frag) (a : Addr) (xs : List V) : Prop :=
  ∃ (o : Obj) (its : Array Value) (n : Nat), K.lookup a = some o ∧ o.cls = .type "list" ∧ o.dict = none ∧ o.data = .seq its n ∧ its.size ≤ sizeLine ∧ Vals xs its.toList
/-- a tuple that stands: tracked, or (never of numbers alone) a written one -/
def allI (xs : List D) : Bool := xs.all fun | .int _ => true | _ => false
def TuT (K : PySem.W.Frag) (H : Hp) (p : Addr) (xs : List D) (ys : List V) : Prop := H p = some (.tup ys) ∨ (allI xs = false ∧ SqT K H p ys)
theorem TuT.sq {K : PySem.W.Frag} {H : Hp} {p : Addr} {xs : List D} {ys : List V} (h : TuT K H p xs ys) : SqT K H p ys := h.elim (fun e => .inl (.inl e)) (·.2)
section
variable (g : Gc)
mutual
def Rv (w : Wd) : D → V → Prop
  | .non, v => v = .non
  | .bl b, v => v = .bl b
  | .int i, v => v = .int i
  | .str x, v => v = .str x
  | .tup xs, v => ∃ p ys, v = .ref p ∧ TuT g.K w.H p xs ys ∧ RvL w xs ys
  | .lst xs, v => ∃ p ys, v = .ref p ∧ w.H p = some (.lst ys) ∧ ¬ w.Live p ∧ p ∉ w.T ∧ RvL w xs ys
  | .scr ns, v => ∃ p, v = .ref p ∧ ((∃ o, w.H p = some (.frz o (.lst (ns.map V.int)))) ∨ KL g.K p (ns.map V.int))
  | .dct kv, v => ∃ p ys, v = .ref p ∧ w.H p = some (.dK ys) ∧ ¬ w.Live p ∧ p ∉ w.T ∧ RvK w kv ys
  | .ref n, v => ∃ p, v = .ref p ∧ w.m[n]? = some p
  | .own _, _ => False
  | .bor _, _ => False
  | .exn, _ => False
def RvL (w : Wd) : List D → List V → Prop
  | [], ys => ys = []
  | d :: r, ys => ∃ y t, ys = y :: t ∧ Rv w d y ∧ RvL w r t
def RvK (w : Wd) : List (Key × D) → List (Key × V) → Prop
  | [], ys => ys = []
  | (k, d) :: r, ys => ∃ y t, ys = (k, y) :: t ∧ Rv w d y ∧ RvK w r t
end
def RvF (w : Wd) : List (Str × D) → List (Str × V) → Prop
  | [], ys => ys = []
  | (k, d) :: r, ys => ∃ y t, ys = (k, y) :: t ∧ Rv g w d y ∧ RvF w r t
/-- a dict of pairs of numbers, all True -/
def entP (k : Int × Int) : List L2.Key × V := ([.inl k.1, .inl k.2], .bl true)
/-- an object that may be written, at its address -/
def Ro (w : Wd) (p : Addr) : O → Prop
  | .lst xs => ∃ ys, w.H p = some (.lst ys) ∧ RvL g w xs ys
  | .dK kv => ∃ ys, w.H p = some (.dK ys) ∧ RvK g w kv ys
  | .ins c fs => ∃ dx ys, w.H p = some (.ins (g.A c) dx ys) ∧ RvF g w fs ys
  | .dead => ∃ o, w.H p = some o
  | .dT ks => w.H p = some (.dT (ks.map entP))
/-- the store stands -/
structure Rst (w : Wd) : Prop where
  len : w.m.length = w.s.length
  nd : w.m.Nodup
  tt : ∀ p ∈ w.T, p ∉ w.m ∧ ∃ o, w.H p = some o
  ce : ∀ (n : Nat) (p : Addr) (o : O), w.m[n]? = some p → w.s[n]? = some o → Ro g w p o
/-- what is passed on: ex may be written -/
structure Ext (ex : List Addr) (w w' : Wd) : Prop where
  pre : ∃ t, w'.m = w.m ++ t
  keep : ∀ (p : Addr) (o : HO), w.H p = some o → ¬ w.Live p → p ∉ ex → w'.H p = some o
  new : ∀ p, w'.Live p → w.Live p ∨ w.H p = none ∨ p ∈ ex
  nm : ∀ p, p ∈ w'.m → p ∈ w.m ∨ w.H p = none ∨ p ∈ ex
end
section
variable {g : Gc} {w w' : Wd} {ex : List Addr}
theorem Rst.trk (r : Rst g w) {p : Addr} (h : p ∈ w.m) : ∃ o, w.H p = some o := by
  obtain ⟨n, hn, e⟩ := List.mem_iff_getElem.mp h
  have h1 : w.m[n]? = some p := by rw [List.getElem?_eq_getElem hn, e]
  have h2 : n < w.s.length := by rw [← r.len]; exact hn
  have c := r.ce n p _ h1 (List.getElem?_eq_getElem h2)
  cases q : w.s[n] with
  | lst xs => rw [q] at c; obtain ⟨ys, e, _⟩ := c; exact ⟨_, e⟩
  | dK xs => rw [q] at c; obtain ⟨ys, e, _⟩ := c; exact ⟨_, e⟩
  | ins a xs => rw [q] at c; obtain ⟨_, ys, e, _⟩ := c; exact ⟨_, e⟩
  | dead => rw [q] at c; exact c
  | dT xs => rw [q] at c; exact ⟨_, c⟩
theorem Wd.Live.mem {p : Addr} (h : w.Live p) : p ∈ w.m := by
  obtain ⟨n, o, h1, _⟩ := h
  exact List.mem_of_getElem? h1
theorem Rst.fresh (r : Rst g w) {p : Addr} (h : w.H p = none) : p ∉ w.m := fun hm => by
  obtain ⟨o, e⟩ := r.trk hm
  rw [h] at e; cases e
theorem Rst.mut (r : Rst g w) {p : Addr} (h : w.Live p) : Mut (w.H p) := by
  obtain ⟨n, o, h1, h2, h3⟩ := h
  have c := r.ce n p o h1 h2
  cases o with
  | lst xs => obtain ⟨ys, e, _⟩ := c; rw [e]; trivial
  | dK xs => obtain ⟨ys, e, _⟩ := c; rw [e]; trivial
  | ins a xs => obtain ⟨_, ys, e, _⟩ := c; rw [e]; trivial
  | dead => exact absurd rfl h3
  | dT xs => have e : w.H p = _ := c; rw [e]; trivial
theorem Ext.refl : Ext ex w w := ⟨⟨[], by simp⟩, fun _ _ h _ _ => h, fun _ h => .inl h, fun _ h => .inl h⟩
theorem Ext.get (e : Ext ex w w') {n : Nat} {p : Addr} (h : w.m[n]? = some p) : w'.m[n]? = some p := by
  obtain ⟨t, q⟩ := e.pre
  rw [q, List.getElem?_append_left (List.getElem?_eq_some_iff.mp h).1]
  exact h
/-- when a value is carried on -/
structure Cy (g : Gc) (ex : List Addr) (w w' : Wd) : Prop where
  r : Rst g w
  e : Ext ex w w'
  mx : ∀ p ∈ ex, Mut (w.H p)
  xt : ∀ p ∈ ex, p ∈ w.T
  nt : ∀ p ∈ w'.T, p ∈ w.T ∨ w.H p = none
theorem Cy.of (r : Rst g w) (e : Ext [] w w') (t : w'.T = w.T) : Cy g [] w w' := ⟨r, e, by simp, by simp, fun p h => .inl (t ▸ h)⟩
theorem Cy.keepT (c : Cy g ex w w') {p : Addr} {o : HO} (h : w.H p = some o) (nm : ¬ Mut (some o)) : w'.H p = some o := by
  refine c.e.keep p o h (fun l => ?_) (fun x => ?_)
  · have := c.r.mut l; rw [h] at this; exact nm this
  · have := c.mx p x; rw [h] at this; exact nm this
theorem Cy.rdT (c : Cy g ex w w') {p : Addr} {ys : List V} (h : SqT g.K w.H p ys) : SqT g.K w'.H p ys := by
  rcases h with (h | ⟨o, h⟩) | h
  · exact .inl (.inl (c.keepT h fun z => z))
  · exact .inl (.inr ⟨o, c.keepT h fun z => z⟩)
  · exact .inr h
theorem Cy.tuT (c : Cy g ex w w') {p : Addr} {xs : List D} {ys : List V} (h : TuT g.K w.H p xs ys) : TuT g.K w'.H p xs ys := h.elim (fun e => .inl (c.keepT e fun z => z)) fun e => .inr ⟨e.1, c.rdT e.2⟩
theorem Cy.keepN (c : Cy g ex w w') {p : Addr} {o : HO} (h : w.H p = some o) (nl : ¬ w.Live p) (nt : p ∉ w.T) : w'.H p = some o ∧ ¬ w'.Live p ∧ p ∉ w'.T := by
  refine ⟨c.e.keep p o h nl (fun x => nt (c.xt p x)), fun l => ?_, fun x => ?_⟩
  · rcases c.e.new p l with l | l | l
    · exact nl l
    · rw [h] at l; cases l
    · exact nt (c.xt p l)
  · rcases c.nt p x with l | l
    · exact nt l
    · rw [h] at l; cases l
mutual
theorem Rv.mono (c : Cy g ex w w') : ∀ (d : D) (v : V), Rv g w d v → Rv g w' d v
  | .non, v, h => by unfold Rv at *; exact h
  | .bl b, v, h => by unfold Rv at *; exact h
  | .int i, v, h => by unfold Rv at *; exact h
  | .str x, v, h => by unfold Rv at *; exact h
  | .tup xs, v, h => by
    unfold Rv at *
    obtain ⟨p, ys, e, q, r⟩ := h
    exact ⟨p, ys, e, c.tuT q, RvL.mono c xs ys r⟩
  | .lst xs, v, h => by
    unfold Rv at *
    obtain ⟨p, ys, e, q, n1, n2, r⟩ := h
    obtain ⟨a, b, d⟩ := c.keepN q n1 n2
    exact ⟨p, ys, e, a, b, d, RvL.mono c xs ys r⟩
  | .scr ns, v, h => by
    unfold Rv at *
    obtain ⟨p, e, q⟩ := h
    refine ⟨p, e, ?_⟩
    rcases q with ⟨o, q⟩ | q
    · exact .inl ⟨o, c.keepT q fun z => z⟩
    · exact .inr q
  | .dct kv, v, h => by
    unfold Rv at *
    obtain ⟨p, ys, e, q, n1, n2, r⟩ := h
    obtain ⟨a, b, d⟩ := c.keepN q n1 n2
    exact ⟨p, ys, e, a, b, d, RvK.mono c kv ys r⟩
  | .ref n, v, h => by
    unfold Rv at *
    obtain ⟨p, e, q⟩ := h
    exact ⟨p, e, c.e.get q⟩
  | .own _, v, h => by unfold Rv at h; exact h.elim
  | .bor _, v, h => by unfold Rv at h; exact h.elim
  | .exn, v, h => by unfold Rv at h; exact h.elim
theorem RvL.mono (c : Cy g ex w w') : ∀ (ds : List D) (ys : List V), RvL g w ds ys → RvL g w' ds ys
  | [], ys, h => by unfold RvL at *; exact h
  | d :: r, ys, h => by
    unfold RvL at *
    obtain ⟨y, t, e, a, b⟩ := h
    exact ⟨y, t, e, Rv.mono c d y a, RvL.mono c r t b⟩
theorem RvK.mono (c : Cy g ex w w') : ∀ (ds : List (Key × D)) (ys : List (Key × V)), RvK g w ds ys → RvK g w' ds ys
  | [], ys, h => by unfold RvK at *; exact h
  | (k, d) :: r, ys, h => by
    unfold RvK at *
    obtain ⟨y, t, e, a, b⟩ := h
    exact ⟨y, t, e, Rv.mono c d y a, RvK.mono c r t b⟩
end
theorem RvF.mono (c : Cy g ex w w') : ∀ (ds : List (Str × D)) (ys : List (Str × V)), RvF g w ds ys → RvF g w' ds ys
  | [], ys, h => by unfold RvF at *; exact h
  | (k, d) :: r, ys, h => by
    unfold RvF at *
    obtain ⟨y, t, e, a, b⟩ := h
    exact ⟨y, t, e, Rv.mono c d y a, RvF.mono c r t b⟩
end
end Gm

set_option Elab.async false
set_option linter.all false
set_option maxRecDepth 100000
set_option autoImplicit false
set_option maxHeartbeats 1000000
/-! what is looked at behind a text's head -/
namespace Gm
open PySem PySem.Spec PyProof.Rows L2
def eccB (K : PySem.W.Frag) (C : Addr) : Bool :=
  decide (PySem.W.findIn K (.ref C) "__getattribute__" = some (some (.builtin "BaseException.__getattribute__"))) && (decide (PySem.W.findIn K (.ref C) "__getattr__" = some none) && (decide (PySem.W.subIn K (.ref C) (.type "BaseException") = some true) && (PySem.W.hasDictIn K C && (decide (PySem.W.findIn K (.ref C) "__class__" = some (some (.builtin "object.__class__"))) &&
    (decide (PySem.W.specialIn K (.builtin "object.__class__") "__get__" = some (some (.builtin "getset_descriptor.__get__"))) && (decide (PySem.W.takesIn K (.builtin "object.__class__") = some true) && decide (PySem.W.mroIn K C (.type "object") = some true)))))))
abbrev Exs := List (PySem.W.Frag → Bool)
def exK (ex : Exs) (K : PySem.W.Frag) : Bool := ex.all fun f => f K
def isiB (K : PySem.W.Frag) (C : Addr) : Bool := He.eqO (PySem.W.findIn K (.ref C) "__class__") (some (some (.builtin "object.__class__"))) && (He.eqO (PySem.W.specialIn K (.builtin "object.__class__") "__get__") (some (some (.builtin "getset_descriptor.__get__"))) &&
  (decide (PySem.W.takesIn K (.builtin "object.__class__") = some true) && decide (PySem.W.mroIn K C (.type "object") = some true)))
def tabB (K : PySem.W.Frag) (a : Addr) (t : List (Str × Option Int)) : Bool := t.all fun q => match PySem.W.nsIn K a q.1, q.2 with
  | some none, none => true
  | some (some (.int i _)), some j => decide (i = j)
  | _, _ => false
def dvK : D → He.Dv
  | .int i => .int i
  | .str x => .str x
  | _ => .non
def tupK (K : PySem.W.Frag) (x : Str) (xs : List D) : Bool := !allI xs && (xs.all (fun d => match d with
  | .int _ => true
  | .str _ => true
  | _ => false) && He.tupB K x (xs.map dvK))
abbrev AlX : Type := He.AlD × Bool × List (Option (List (Option (Str × Int))))
def cfnB (K : PySem.W.Frag) (C : Addr) (m : Str) (f : Addr) : Bool := PySem.W.readsIn K C (.type "type") && (He.eqO (PySem.W.specialIn K (.ref C) "__getattribute__") (some (some (.builtin "type.__getattribute__"))) && ((match PySem.W.findCls K (.ref C) (.type "type") m with
  | some (.val v) => decide (v = .ref f)
  | _ => false) && PySem.W.keepIn K (.ref f)))
/-! ### what is looked at: objects at places that are told -/
def obsL (as : List Addr) (fa : List He.Fa) (fn : List He.DefD) (ex : Exs) (ts : List He.Tab) (g : Addr → Option Obj) : AlX :=
  (He.obsD fa fn (He.frG g as), exK ex (He.frG g as), ts.map fun t => He.dicW (He.frG g as) (t.1 (He.frG g as)))
def hookL (as : List Addr) (fa : List He.Fa) (fn : List He.DefD) (ex : Exs) (ts : List He.Tab) : PySem.W.Hook where
  α := AlX
  obs := fun s => obsL as fa fn ex ts s.heap.get?
  val := fun w => (He.valD fn, true, ts.map fun t => some (He.keysIn w.params t.2))
  says := fun w h => ∃ K : PySem.W.Frag, K.In h ∧ He.SaysD fa fn K ∧ exK ex K = true ∧ ∀ t ∈ ts, ∃ es n, KDict K w (t.1 K) es n
  of := fun w s e => ⟨_, He.frG_in, congrArg (fun z : AlX => z.1) e, congrArg (fun z : AlX => z.2.1) e, fun t ht => by
    have e2 := congrArg (fun z : AlX => z.2.2) e
    obtain ⟨i, hi, rfl⟩ := List.getElem_of_mem ht
    have e3 := congrArg (fun z => z[i]?) e2
    simp only [obsL, List.getElem?_map, List.getElem?_eq_getElem hi, Option.map_some, Option.some.injEq] at e3
    exact He.dicW_ok e3⟩
  keeps := fun _ _ _ ⟨K, hK, c⟩ k => ⟨K, PySem.W.Frag.In.keeps hK k, c⟩
def mkM : List (Str × Str × Str) → List He.Fa
  | [] => []
  | (c, m, _) :: r => .meth c m :: mkM r
def mkN : List (Str × Str) → List He.Fa
  | [] => []
  | (c, f) :: r => .noat c f :: mkN r
def eqAll (K : PySem.W.Frag) : List (Str × Str × Str) → Bool
  | [] => true
  | (c, m, o) :: r => decide (He.ma K (He.ga K c) m = He.ma K (He.ga K o) m) && eqAll K r
def mkD (o : Str) (m : Option Str) (name qual : Str) (st : Stmt) : He.DefD := ⟨(o, m), name, qual, defArgs st, defBody st, defScope st, [], []⟩
end Gm

set_option Elab.async false
set_option linter.all false
set_option maxRecDepth 100000
set_option autoImplicit false
namespace Gm
open PySem PySem.Spec PyProof.Rows L2
def Fzo : O → Prop
  | .lst _ => True
  | .dK _ => True
  | _ => False
section
variable (g : Gc)
/-- an operand: a value, or a list of the frame's own that is read -/
def Po (w : Wd) : D → V → Prop
  | .bor o, v => ∃ p, v = .ref p ∧ Ro g w p o ∧ p ∉ w.m
  | .exn, v => ∃ a, g.x = some a ∧ v = .ref a
  | d, v => Rv g w d v
/-- what a slot holds -/
def Sv (w : Wd) : D → V → Prop
  | .own o, v => ∃ p, v = .ref p ∧ Fzo o ∧ Ro g w p o ∧ p ∉ w.m ∧ p ∈ w.T
  | .exn, v => ∃ a, g.x = some a ∧ v = .ref a
  | d, v => Rv g w d v
structure Re (w : Wd) (env : Env) (σ : Sl) : Prop where
  st : Rst g w
  len : env.length = σ.length
  sl : ∀ (i : Nat) (d : D), env[i]? = some (some d) → ∃ v, σ[i]? = some (some v) ∧ Sv g w d v
def fz : D → D
  | .own (.lst xs) => .lst xs
  | .own (.dK kv) => .dct kv
  | d => d
/-- a result: a value; a new list that nothing else leads to -/
def Px (H0 : Hp) (w : Wd) : D → V → Prop
  | .own o, v => ∃ p, v = .ref p ∧ H0 p = none ∧ p ∉ w.T ∧ Fzo o ∧ Rst g { w with T := p :: w.T } ∧ Ro g { w with T := p :: w.T } p o
  | .bor o, v => Rst g w ∧ ∃ p, v = .ref p ∧ Ro g w p o ∧ p ∉ w.m
  | .exn, v => Rst g w ∧ ∃ a, g.x = some a ∧ v = .ref a
  | d, v => Rst g w ∧ Rv g w d v
/-- the wish of a mirror's answer -/
def Post {α β : Type} (Pr : Hp → Wd → α → β → Prop) (W : WX) (w : Wd) (σ : Sl) (Q : β → Hp → Prop) : R α → Prop
  | .ok a s' => ∀ (w' : Wd) (b : β), w'.s = s' → w'.T = w.T → Ext [] w w' → Pr w.H w' a b → Q b w'.H
  | .exc c s' => ∀ (w' : Wd), w'.s = s' → w'.T = w.T → Ext [] w w' → Rst g w' → W (.ref (g.A c)) none σ w'.H
  | .no => False
def tEv (W : WX) (e : Ex) : TE := fun σ H Q => ∃ (w : Wd) (env : Env), w.H = H ∧ Re g w env σ ∧ Post g (Px g) W w σ Q (e env w.s)
def Pb (_ : Hp) (w : Wd) (a b : Bool) : Prop := Rst g w ∧ a = b
def tTe (W : WX) (e : Tx) : TT := fun σ H Q => ∃ (w : Wd) (env : Env), w.H = H ∧ Re g w env σ ∧ Post g (Pb g) W w σ Q (e env w.s)
def Pl (_ : Hp) (w : Wd) (ds : List D) (vs : List V) : Prop := Rst g w ∧ RvL g w ds vs
def tAe (W : WX) (e : Ax) : TA := fun σ H Q => ∃ (w : Wd) (env : Env), w.H = H ∧ Re g w env σ ∧ Post g (Pl g) W w σ Q (e env w.s)
end
/-! ### what is read -/
def dr (s : Store) : D → Option O
  | .ref n => s[n]?
  | .lst xs => some (.lst xs)
  | .scr ns => some (.lst (ns.map D.int))
  | .dct kv => some (.dK kv)
  | .bor o => some o
  | _ => none
/-- .. where it may stand beside a list of one's own -/
def drM (s : Store) : D → Option O
  | .scr _ => none
  | d => dr s d
section
variable {g : Gc} {w w' : Wd} {env : Env} {σ : Sl} {W : WX} {H0 : Hp}
theorem Ext.trans {w1 w2 w3 : Wd} (a : Ext [] w1 w2) (b : Ext [] w2 w3) : Ext [] w1 w3 := by
  have back : ∀ p, w2.H p = none → w1.Live p ∨ w1.H p = none := fun p l => by
    by_cases q : w1.Live p
    · exact .inl q
    · refine .inr ?_
      cases e : w1.H p with
      | none => rfl
      | some o => rw [a.keep p o e q (by simp)] at l; cases l
  refine ⟨?_, fun p o h nl _ => ?_, fun p l => ?_, fun p l => ?_⟩
  · obtain ⟨t, e⟩ := a.pre
    obtain ⟨u, f⟩ := b.pre
    exact ⟨t ++ u, by rw [f, e, List.append_assoc]⟩
  · have h1 := a.keep p o h nl (by simp)
    refine b.keep p o h1 (fun l => ?_) (by simp)
    rcases a.new p l with l | l | l
    · exact nl l
    · rw [h] at l; cases l
    · cases l
  · rcases b.new p l with l | l | l
    · exact a.new p l
    · rcases back p l with q | q
      · exact .inl q
      · exact .inr (.inl q)
    · cases l
  · rcases b.nm p l with l | l | l
    · exact a.nm p l
    · rcases back p l with q | q
      · exact .inl q.mem
      · exact .inr (.inl q)
    · cases l
theorem Rst.inT (r : Rst g w) {T : List Addr} (h : ∀ p ∈ T, p ∈ w.T) : Rst g { w with T := T } := by
  have c : Cy g [] w { w with T := T } := ⟨r, ⟨⟨[], by simp⟩, fun _ _ e _ _ => e, fun _ l => .inl l, fun _ l => .inl l⟩, by simp, by simp, fun p q => .inl (h p q)⟩
  refine ⟨r.len, r.nd, fun p q => r.tt p (h p q), fun n p o a b => ?_⟩
  have q := r.ce n p o a b
  cases o with
  | lst xs => obtain ⟨ys, e, z⟩ := q; exact ⟨ys, e, RvL.mono c _ _ z⟩
  | dK xs => obtain ⟨ys, e, z⟩ := q; exact ⟨ys, e, RvK.mono c _ _ z⟩
  | ins a xs => obtain ⟨dx, ys, e, z⟩ := q; exact ⟨dx, ys, e, RvF.mono c _ _ z⟩
  | dead => exact q
  | dT xs => exact q
theorem Cy.sub (r : Rst g w) {T : List Addr} (h : ∀ p ∈ T, p ∈ w.T) : Cy g [] w { w with T := T } :=
  ⟨r, ⟨⟨[], by simp⟩, fun _ _ e _ _ => e, fun _ l => .inl l, fun _ l => .inl l⟩, by simp, by simp, fun p q => .inl (h p q)⟩
theorem Ro.mono {p : Addr} {o : O} {ex : List Addr} (c : Cy g ex w w') (h : Ro g w p o) (nl : ¬ w.Live p) (nx : p ∉ ex) : Ro g w' p o := by
  cases o with
  | lst xs => obtain ⟨ys, e, z⟩ := h; exact ⟨ys, c.e.keep _ _ e nl nx, RvL.mono c _ _ z⟩
  | dK xs => obtain ⟨ys, e, z⟩ := h; exact ⟨ys, c.e.keep _ _ e nl nx, RvK.mono c _ _ z⟩
  | ins a xs => obtain ⟨dx, ys, e, z⟩ := h; exact ⟨dx, ys, c.e.keep _ _ e nl nx, RvF.mono c _ _ z⟩
  | dead => obtain ⟨o, e⟩ := h; exact ⟨o, c.e.keep _ _ e nl nx⟩
  | dT xs => exact c.e.keep _ _ h nl nx
theorem Ro.trk {p : Addr} {o : O} (h : Ro g w p o) : ∃ u, w.H p = some u := by
  cases o with
  | lst xs => obtain ⟨ys, e, z⟩ := h; exact ⟨_, e⟩
  | dK xs => obtain ⟨ys, e, z⟩ := h; exact ⟨_, e⟩
  | ins a xs => obtain ⟨dx, ys, e, z⟩ := h; exact ⟨_, e⟩
  | dead => exact h
  | dT xs => exact ⟨_, h⟩
theorem Ext.out (e : Ext [] w w') {p : Addr} (h : ∃ u, w.H p = some u) (n : p ∉ w.m) : p ∉ w'.m := fun q => by
  rcases e.nm p q with l | l | l
  · exact n l
  · obtain ⟨u, h⟩ := h; rw [h] at l; cases l
  · cases l
theorem nolive {p : Addr} (n : p ∉ w.m) : ¬ w.Live p := fun l => n l.mem
theorem Po.mono {d : D} {v : V} (c : Cy g [] w w') (h : Po g w d v) : Po g w' d v := by
  cases d with
  | bor o =>
    obtain ⟨p, e, r, n⟩ := h
    exact ⟨p, e, r.mono c (nolive n) (by simp), c.e.out r.trk n⟩
  | own o => exact Rv.mono c _ _ h
  | non => exact Rv.mono c _ _ h
  | bl b => exact Rv.mono c _ _ h
  | int i => exact Rv.mono c _ _ h
  | str x => exact Rv.mono c _ _ h
  | tup xs => exact Rv.mono c _ _ h
  | lst xs => exact Rv.mono c _ _ h
  | scr xs => exact Rv.mono c _ _ h
  | dct xs => exact Rv.mono c _ _ h
  | ref n => exact Rv.mono c _ _ h
  | exn => exact h
theorem Sv.mono {d : D} {v : V} (c : Cy g [] w w') (hT : ∀ p ∈ w.T, p ∈ w'.T) (h : Sv g w d v) : Sv g w' d v := by
  cases d with
  | own o =>
    obtain ⟨p, e, fo, r, n, t⟩ := h
    exact ⟨p, e, fo, r.mono c (nolive n) (by simp), c.e.out r.trk n, hT p t⟩
  | bor o => exact Rv.mono c _ _ h
  | non => exact Rv.mono c _ _ h
  | bl b => exact Rv.mono c _ _ h
  | int i => exact Rv.mono c _ _ h
  | str x => exact Rv.mono c _ _ h
  | tup xs => exact Rv.mono c _ _ h
  | lst xs => exact Rv.mono c _ _ h
  | scr xs => exact Rv.mono c _ _ h
  | dct xs => exact Rv.mono c _ _ h
  | ref n => exact Rv.mono c _ _ h
  | exn => exact h
theorem Re.mono (c : Cy g [] w w') (r' : Rst g w') (hT : ∀ p ∈ w.T, p ∈ w'.T) (h : Re g w env σ) : Re g w' env σ :=
  ⟨r', h.len, fun i d e => let ⟨v, a, b⟩ := h.sl i d e; ⟨v, a, b.mono c hT⟩⟩
theorem Rv.po {d : D} {v : V} (h : Rv g w d v) : Po g w d v := by
  cases d with
  | bor o => unfold Rv at h; exact h.elim
  | exn => unfold Rv at h; exact h.elim
  | _ => exact h
/-- a result as an operand -/
theorem Px.fz {d : D} {v : V} (h : Px g H0 w d v) : Rst g w ∧ Po g w (fz d) v := by
  cases d with
  | own o =>
    obtain ⟨p, e, h0, nt, fo, r, q⟩ := h
    have c : Cy g [] { w with T := p :: w.T } w := Cy.sub (w := { w with T := p :: w.T }) r (T := w.T) (fun x hx => List.mem_cons_of_mem _ hx)
    have r' : Rst g w := r.inT (w := { w with T := p :: w.T }) (T := w.T) (fun x hx => List.mem_cons_of_mem _ hx)
    have nm : p ∉ w.m := (r.tt p (List.mem_cons_self)).1
    refine ⟨r', ?_⟩
    cases o with
    | lst xs =>
      obtain ⟨ys, e1, z⟩ := q
      show Rv g w (.lst xs) v
      unfold Rv
      exact ⟨p, ys, e, e1, nolive nm, nt, RvL.mono c _ _ z⟩
    | dK kv =>
      obtain ⟨ys, e1, z⟩ := q
      show Rv g w (.dct kv) v
      unfold Rv
      exact ⟨p, ys, e, e1, nolive nm, nt, RvK.mono c _ _ z⟩
    | ins a b => exact fo.elim
    | dead => exact fo.elim
    | dT a => exact fo.elim
  | bor o => exact h
  | non => exact h
  | bl b => exact h
  | int i => exact h
  | str x => exact h
  | tup xs => exact h
  | lst xs => exact h
  | scr xs => exact h
  | dct xs => exact h
  | ref n => exact h
  | exn => exact h
theorem Px.of {d : D} {v : V} (r : Rst g w) (h : Rv g w d v) : Px g H0 w d v := by
  cases d with
  | own o => unfold Rv at h; exact h.elim
  | bor o => unfold Rv at h; exact h.elim
  | exn => unfold Rv at h; exact h.elim
  | _ => exact ⟨r, h⟩
theorem RvL.length : ∀ {ds : List D} {vs : List V}, RvL g w ds vs → vs.length = ds.length
  | [], vs, h => by unfold RvL at h; subst h; rfl
  | d :: r, vs, h => by
    unfold RvL at h
    obtain ⟨y, t, e, _, b⟩ := h
    subst e
    simp [RvL.length b]
theorem RvL.get : ∀ {ds : List D} {vs : List V} {i : Nat} {d : D}, RvL g w ds vs → ds[i]? = some d → ∃ v, vs[i]? = some v ∧ Rv g w d v
  | [], vs, i, d, h, e => by simp at e
  | a :: r, vs, i, d, h, e => by
    unfold RvL at h
    obtain ⟨y, t, e1, h1, h2⟩ := h
    subst e1
    cases i with
    | zero => simp at e; subst e; exact ⟨y, rfl, h1⟩
    | succ j => simp at e; obtain ⟨v, a, b⟩ := RvL.get h2 e; exact ⟨v, by simpa using a, b⟩
theorem RvL.ints : ∀ {ns : List Int}, RvL g w (ns.map D.int) (ns.map V.int)
  | [] => by unfold RvL; rfl
  | a :: r => by
    show RvL g w (D.int a :: r.map D.int) (V.int a :: r.map V.int)
    unfold RvL
    exact ⟨_, _, rfl, by unfold Rv; rfl, RvL.ints⟩
theorem RvL.app : ∀ {ds es : List D} {vs us : List V}, RvL g w ds vs → RvL g w es us → RvL g w (ds ++ es) (vs ++ us)
  | [], es, vs, us, h, k => by unfold RvL at h; subst h; exact k
  | a :: r, es, vs, us, h, k => by
    unfold RvL at h
    obtain ⟨y, t, e1, h1, h2⟩ := h
    subst e1
    show RvL g w (a :: (r ++ es)) (y :: (t ++ us))
    unfold RvL
    exact ⟨_, _, rfl, h1, RvL.app h2 k⟩
theorem RvL.one {d : D} {v : V} (h : Rv g w d v) : RvL g w [d] [v] := by
  unfold RvL; exact ⟨_, _, rfl, h, by unfold RvL; rfl⟩
theorem RvL.take : ∀ (n : Nat) {ds : List D} {vs : List V}, RvL g w ds vs → RvL g w (ds.take n) (vs.take n)
  | 0, ds, vs, _ => by simp [RvL]
  | n + 1, [], vs, h => by unfold RvL at h; subst h; simp [RvL]
  | n + 1, a :: r, vs, h => by
    unfold RvL at h
    obtain ⟨y, t, e1, h1, h2⟩ := h
    subst e1
    simp only [List.take_succ_cons]
    unfold RvL
    exact ⟨_, _, rfl, h1, RvL.take n h2⟩
theorem RvL.drop : ∀ (n : Nat) {ds : List D} {vs : List V}, RvL g w ds vs → RvL g w (ds.drop n) (vs.drop n)
  | 0, ds, vs, h => by simpa using h
  | n + 1, [], vs, h => by unfold RvL at h; subst h; simp [RvL]
  | n + 1, a :: r, vs, h => by
    unfold RvL at h
    obtain ⟨y, t, e1, h1, h2⟩ := h
    subst e1
    simpa using RvL.drop n h2
theorem RvL.set {d : D} {v : V} (k : Rv g w d v) : ∀ {ds : List D} {vs : List V} (n : Nat), RvL g w ds vs → RvL g w (ds.set n d) (vs.set n v)
  | [], vs, n, h => by unfold RvL at h; subst h; simp [RvL]
  | a :: r, vs, n, h => by
    unfold RvL at h
    obtain ⟨y, t, e1, h1, h2⟩ := h
    subst e1
    cases n with
    | zero => simp only [List.set_cons_zero]; unfold RvL; exact ⟨_, _, rfl, k, h2⟩
    | succ n => simp only [List.set_cons_succ]; unfold RvL; exact ⟨_, _, rfl, h1, RvL.set k n h2⟩
theorem RvL.none {ds : List D} {vs : List V} {i : Nat} (h : RvL g w ds vs) (e : ds[i]? = Option.none) : vs[i]? = Option.none := by
  rw [List.getElem?_eq_none_iff] at *
  rw [h.length]; exact e
/-- what may be read at an address -/
def RoR (g : Gc) (w : Wd) (p : Addr) : O → Prop
  | .lst xs => ∃ ys, SqL g.K w.H p ys ∧ RvL g w xs ys
  | o => Ro g w p o
theorem Ro.r {p : Addr} {o : O} (h : Ro g w p o) : RoR g w p o := by
  cases o with
  | lst xs => obtain ⟨ys, e, z⟩ := h; exact ⟨ys, SqL.of e, z⟩
  | _ => exact h
theorem drM_ok {d : D} {v : V} {o : O} (r : Rst g w) (h : Po g w d v) (e : drM w.s d = some o) : ∃ p, v = .ref p ∧ Ro g w p o := by
  cases d with
  | ref n =>
    have h : Rv g w (.ref n) v := h
    unfold Rv at h
    obtain ⟨p, e1, e2⟩ := h
    exact ⟨p, e1, r.ce n p o e2 e⟩
  | lst xs =>
    have h : Rv g w (.lst xs) v := h
    unfold Rv at h
    obtain ⟨p, ys, e1, e2, _, _, e3⟩ := h
    cases e
    exact ⟨p, e1, ys, e2, e3⟩
  | dct xs =>
    have h : Rv g w (.dct xs) v := h
    unfold Rv at h
    obtain ⟨p, ys, e1, e2, _, _, e3⟩ := h
    cases e
    exact ⟨p, e1, ys, e2, e3⟩
  | bor o' =>
    obtain ⟨p, e1, q, _⟩ := h
    cases e
    exact ⟨p, e1, q⟩
  | scr ns => cases e
  | own o => cases e
  | non => cases e
  | bl b => cases e
  | int i => cases e
  | str x => cases e
  | tup xs => cases e
  | exn => cases e
theorem dr_ok {d : D} {v : V} {o : O} (r : Rst g w) (h : Po g w d v) (e : dr w.s d = some o) : ∃ p, v = .ref p ∧ RoR g w p o := by
  cases d with
  | scr ns =>
    have h : Rv g w (.scr ns) v := h
    unfold Rv at h
    obtain ⟨p, e1, q⟩ := h
    cases e
    refine ⟨p, e1, ns.map V.int, ?_, RvL.ints⟩
    rcases q with ⟨b, q⟩ | q
    · exact .inl (.inr ⟨b, q⟩)
    · exact .inr q
  | _ => obtain ⟨p, a, b⟩ := drM_ok r h e; exact ⟨p, a, b.r⟩
/-! ### a new thing -/
theorem upd_old {H : Hp} {p q : Addr} {u x : HO} (hp : H p = Option.none) (e : H q = some x) : upd H p u q = some x := by
  rw [upd_ne (ne_of_none e hp)]; exact e
theorem new_ext {p : Addr} {u : HO} {T : List Addr} (hp : w.H p = Option.none) : Ext [] w { w with H := upd w.H p u, T := T } :=
  ⟨⟨[], by simp⟩, fun q o e _ _ => upd_old hp e, fun _ l => .inl l, fun _ l => .inl l⟩
theorem new_cy (r : Rst g w) {p : Addr} {u : HO} (hp : w.H p = Option.none) {T : List Addr} (hT : ∀ q ∈ T, q ∈ w.T ∨ q = p) : Cy g [] w { w with H := upd w.H p u, T := T } :=
  ⟨r, new_ext hp, by simp, by simp, fun q h => (hT q h).imp id (fun e => by rw [e]; exact hp)⟩
theorem Rst.new (r : Rst g w) {p : Addr} {u : HO} (hp : w.H p = Option.none) {T : List Addr} (hT : ∀ q ∈ T, q ∈ w.T ∨ q = p) : Rst g { w with H := upd w.H p u, T := T } := by
  have c : Cy g [] w { w with H := upd w.H p u, T := T } := new_cy r hp hT
  refine ⟨r.len, r.nd, fun q hq => ?_, fun n q o a b => ?_⟩
  · rcases hT q hq with h | h
    · obtain ⟨o, e⟩ := (r.tt q h).2
      exact ⟨(r.tt q h).1, o, upd_old hp e⟩
    · subst h
      exact ⟨r.fresh hp, u, upd_same⟩
  · have h := r.ce n q o a b
    cases o with
    | lst xs => obtain ⟨ys, e, z⟩ := h; exact ⟨ys, upd_old hp e, RvL.mono c _ _ z⟩
    | dK xs => obtain ⟨ys, e, z⟩ := h; exact ⟨ys, upd_old hp e, RvK.mono c _ _ z⟩
    | ins a xs => obtain ⟨dx, ys, e, z⟩ := h; exact ⟨dx, ys, upd_old hp e, RvF.mono c _ _ z⟩
    | dead => obtain ⟨o, e⟩ := h; exact ⟨o, upd_old hp e⟩
    | dT xs => exact upd_old hp h
theorem Rst.ntT (r : Rst g w) {p : Addr} (hp : w.H p = Option.none) : p ∉ w.T := fun h => by
  obtain ⟨o, e⟩ := (r.tt p h).2
  rw [hp] at e; cases e
/-- a new list of related items, as a result -/
theorem Px.newL (r : Rst g w) {p : Addr} {ds : List D} {vs : List V} (hp : w.H p = Option.none) (h : RvL g w ds vs) : Px g w.H { w with H := upd w.H p (.lst vs) } (.own (.lst ds)) (.ref p) := by
  have hT : ∀ q ∈ p :: w.T, q ∈ w.T ∨ q = p := fun q hq => by
    rcases List.mem_cons.mp hq with e | e
    · exact .inr e
    · exact .inl e
  exact ⟨p, rfl, hp, r.ntT hp, trivial, r.new hp hT, vs, upd_same, RvL.mono (new_cy r hp hT) _ _ h⟩
theorem Px.newD (r : Rst g w) {p : Addr} {ds : List (Key × D)} {vs : List (Key × V)} (hp : w.H p = Option.none) (h : RvK g w ds vs) : Px g w.H { w with H := upd w.H p (.dK vs) } (.own (.dK ds)) (.ref p) := by
  have hT : ∀ q ∈ p :: w.T, q ∈ w.T ∨ q = p := fun q hq => by
    rcases List.mem_cons.mp hq with e | e
    · exact .inr e
    · exact .inl e
  exact ⟨p, rfl, hp, r.ntT hp, trivial, r.new hp hT, vs, upd_same, RvK.mono (new_cy r hp hT) _ _ h⟩
theorem Px.newT (r : Rst g w) {p : Addr} {ds : List D} {vs : List V} (hp : w.H p = Option.none) (h : RvL g w ds vs) : Px g w.H { w with H := upd w.H p (.tup vs) } (.tup ds) (.ref p) := by
  have hT : ∀ q ∈ w.T, q ∈ w.T ∨ q = p := fun q hq => .inl hq
  refine ⟨r.new hp hT, ?_⟩
  unfold Rv
  exact ⟨p, vs, rfl, .inl upd_same, RvL.mono (new_cy r hp hT) _ _ h⟩
end
end Gm

set_option Elab.async false
set_option linter.all false
set_option maxRecDepth 100000
set_option autoImplicit false
set_option maxHeartbeats 1000000
namespace Gm
open PySem PySem.Spec PyProof.Rows L2
/-- the classes; the caught error within a suite -/
structure Ga where
  cl : Nat → Addr
  x : Option Addr
abbrev gx (X : Cx) (A : Ga) : Gc := ⟨X.K, A.cl, A.x⟩
section
variable {X : Cx} {e : Expr}
theorem peW {t t' : TE} (h : PE X e t) (k : ∀ σ H Q, t' σ H Q → t σ H Q) : PE X e t' := ⟨fun pins s σ H Q I q => h.run pins s σ H Q I (k σ H Q q)⟩
theorem ptW {t t' : TT} (h : PT X e t) (k : ∀ σ H Q, t' σ H Q → t σ H Q) : PT X e t' := ⟨fun pins s σ H Q I q => h.run pins s σ H Q I (k σ H Q q)⟩
theorem pwW {t t' : TT} (h : PW X e t) (k : ∀ σ H Q, t' σ H Q → t σ H Q) : PW X e t' := ⟨fun wh pins s σ H Q I q => h.run wh pins s σ H Q I (k σ H Q q)⟩
theorem paW {es : List Expr} {t t' : TA} (h : PA X es t) (k : ∀ σ H Q, t' σ H Q → t σ H Q) : PA X es t' := ⟨fun pos pins s σ H Q I q => h.run pos pins s σ H Q I (k σ H Q q)⟩
end
/-! ### the mirror's words for expressions -/
def eVar (i : Nat) : Ex := fun env s => match env[i]? with
  | some (some (.own o)) => .ok (.bor o) s
  | some (some d) => .ok d s
  | _ => .no
def eC (d : D) : Ex := fun _ s => .ok d s
def eOp2 (f : Store → D → D → R D) (a b : Ex) : Ex := fun env s => match a env s with
  | .ok x s1 => (match b env s1 with
    | .ok y s2 => f s2 (fz x) (fz y)
    | .exc c s2 => .exc c s2
    | .no => .no)
  | .exc c s1 => .exc c s1
  | .no => .no
def eOp1 (f : Store → D → R D) (a : Ex) : Ex := fun env s => match a env s with
  | .ok x s1 => f s1 (fz x)
  | .exc c s1 => .exc c s1
  | .no => .no
section
variable {g : Gc} {w w' : Wd} {env : Env} {σ : Sl} {W : WX} {H0 : Hp}
/-- what a step on operands asks: no exception -/
def PostV (g : Gc) (w : Wd) (Q : VK) : R D → Prop
  | .ok d s' => ∀ (w' : Wd) (v : V), w'.s = s' → w'.T = w.T → Ext [] w w' → Px g w.H w' d v → Q v w'.H
  | _ => False
def Snd2 (g : Gc) (f : Store → D → D → R D) (r : R2) : Prop := ∀ (w : Wd) (a b : D) (x y : V) (Q : VK), Rst g w → Po g w a x → Po g w b y → PostV g w Q (f w.s a b) → r x y w.H Q
def Snd1 (g : Gc) (f : Store → D → R D) (r : V → Hp → VK → Prop) : Prop := ∀ (w : Wd) (a : D) (x : V) (Q : VK), Rst g w → Po g w a x → PostV g w Q (f w.s a) → r x w.H Q
theorem PostV.pure {Q : VK} {d : D} {v : V} (h : PostV g w Q (.ok d w.s)) (r : Rst g w) (q : Rv g w d v) : Q v w.H := h w v rfl rfl Ext.refl (.of r q)
/-- a run's first step -/
theorem Post.step {α β γ δ : Type} {Pr : Hp → Wd → α → β → Prop} {Pr' : Hp → Wd → γ → δ → Prop} {Q : β → Hp → Prop} {Q' : δ → Hp → Prop} {m : R α} {m' : R γ} (h : Post g Pr' W w σ Q' m')
    (he : ∀ c s, m = .exc c s → m' = .exc c s) (hn : m = .no → m' = .no)
    (hk : ∀ (a : α) (s' : Store) (w' : Wd) (b : β), m = .ok a s' → w'.s = s' → w'.T = w.T → Ext [] w w' → Pr w.H w' a b → Q b w'.H) : Post g Pr W w σ Q m := by
  cases e : m with
  | ok a s' => exact fun w' b h1 h2 h3 h4 => hk a s' w' b e h1 h2 h3 h4
  | exc c s' => rw [he c s' e] at h; exact h
  | no => rw [hn e] at h; exact h
theorem Re.next (re : Re g w env σ) (r' : Rst g w') (e : Ext [] w w') (t : w'.T = w.T) : Re g w' env σ := re.mono (Cy.of re.st e t) r' (fun p h => by rw [t]; exact h)
/-- behind a first step -/
theorem Post.next {α β : Type} {Pr : Hp → Wd → α → β → Prop} {Q : β → Hp → Prop} {m : R α} (h : Post g Pr W w σ Q m) (e : Ext [] w w') (t : w'.T = w.T) (hPr : ∀ (a : α) (b : β) (w'' : Wd), Ext [] w w' → Pr w'.H w'' a b → Pr w.H w'' a b) : Post g Pr W w' σ Q m := by
  cases m with
  | ok a s' => exact fun w2 b h1 h2 h3 h4 => h w2 b h1 (h2.trans t) (e.trans h3) (hPr a b w2 e h4)
  | exc c s' => exact fun w2 h1 h2 h3 h4 => h w2 h1 (h2.trans t) (e.trans h3) h4
  | no => exact h
theorem back {p : Addr} (r : Rst g w) (r' : Rst g w') (e : Ext [] w w') (h : w'.H p = Option.none) : w.H p = Option.none := by
  cases q : w.H p with
  | none => rfl
  | some o =>
    by_cases l : w.Live p
    · have hm : p ∈ w'.m := by
        obtain ⟨t, q⟩ := e.pre
        rw [q]; exact List.mem_append_left _ l.mem
      obtain ⟨u, z⟩ := r'.trk hm
      rw [h] at z; cases z
    · have := e.keep p o q l (by simp)
      rw [h] at this; cases this
theorem Px.back {d : D} {v : V} {w2 : Wd} (r : Rst g w) (r' : Rst g w') (e : Ext [] w w') (h : Px g w'.H w2 d v) : Px g w.H w2 d v := by
  cases d with
  | own o => obtain ⟨p, a, b, c⟩ := h; exact ⟨p, a, Gm.back r r' e b, c⟩
  | bor o => exact h
  | non => exact h
  | bl b => exact h
  | int i => exact h
  | str x => exact h
  | tup xs => exact h
  | lst xs => exact h
  | scr xs => exact h
  | dct xs => exact h
  | ref n => exact h
  | exn => exact h
theorem PostV.next {Q : VK} {m : R D} (r : Rst g w) (r' : Rst g w') (e : Ext [] w w') (t : w'.T = w.T) (h : Post g (Px g) W w σ Q m) (hne : ∀ c s, m ≠ .exc c s) : PostV g w' Q m := by
  cases m with
  | ok a s' => exact fun w2 b h1 h2 h3 h4 => h w2 b h1 (h2.trans t) (e.trans h3) (h4.back r r' e)
  | exc c s' => exact absurd rfl (hne c s')
  | no => exact h
theorem tOp_snd {f : Store → D → D → R D} {r : R2} {a b : Ex} (hf : Snd2 g f r) (hne : ∀ s x y c s', f s x y ≠ .exc c s') {H : Hp} {Q : VK} (h : tEv g W (eOp2 f a b) σ H Q) : tOp r (tEv g W a) (tEv g W b) σ H Q := by
  obtain ⟨w, env, rfl, re, h⟩ := h
  refine ⟨w, env, rfl, re, ?_⟩
  refine Post.step (m' := eOp2 f a b env w.s) h (fun c s e => by simp only [eOp2, e]) (fun e => by simp only [eOp2, e]) fun x s1 w1 v ea hs1 ht1 e1 p1 => ?_
  obtain ⟨r1, o1⟩ := p1.fz
  refine ⟨w1, env, rfl, re.next r1 e1 ht1, ?_⟩
  refine Post.step (m' := eOp2 f a b env w.s) (h.next e1 ht1 fun _ _ w2 _ q => q.back re.st r1 e1) (fun c s e => by rw [hs1] at e; simp only [eOp2, ea, e]) (fun e => by rw [hs1] at e; simp only [eOp2, ea, e]) fun y s2 w2 u eb hs2 ht2 e2 p2 => ?_
  obtain ⟨r2, o2⟩ := p2.fz
  have em : eOp2 f a b env w.s = f w2.s (fz x) (fz y) := by
    rw [hs1] at eb
    simp only [eOp2, ea, eb, hs2]
  rw [em] at h
  exact hf w2 (fz x) (fz y) v u Q r2 (o1.mono (Cy.of r1 e2 ht2)) o2 (PostV.next re.st r2 (e1.trans e2) (ht2.trans ht1) h fun c s => hne _ _ _ _ _)
theorem tUn_snd {f : Store → D → R D} {r : V → Hp → VK → Prop} {a : Ex} (hf : Snd1 g f r) (hne : ∀ s x c s', f s x ≠ .exc c s') {H : Hp} {Q : VK} (h : tEv g W (eOp1 f a) σ H Q) : tEv g W a σ H fun x H1 => r x H1 Q := by
  obtain ⟨w, env, rfl, re, h⟩ := h
  refine ⟨w, env, rfl, re, ?_⟩
  refine Post.step (m' := eOp1 f a env w.s) h (fun c s e => by simp only [eOp1, e]) (fun e => by simp only [eOp1, e]) fun x s1 w1 v ea hs1 ht1 e1 p1 => ?_
  obtain ⟨r1, o1⟩ := p1.fz
  have em : eOp1 f a env w.s = f w1.s (fz x) := by simp only [eOp1, ea, hs1]
  rw [em] at h
  exact hf w1 (fz x) v Q r1 o1 (PostV.next re.st r1 e1 ht1 h fun c s => hne _ _ _ _)
end
section
variable {X : Cx} {A : Ga} {W : WX} {a b : Expr} {ma mb : Ex} {pos : Pos}
theorem meG_var {g : Gc} (hg : g.K = X.K) (i : Nat) {x : Str} (hN : X.N[i]? = some x := by rfl) (hv : Vis X.env.scope x := by first | exact Or.inl rfl | exact Or.inr (Or.inl rfl) | exact Or.inr (Or.inr rfl)) (hd : (x == ("__debug__" : Str)) = false := by decide)
    (hcd : (x == ("__classdict__" : Str)) = false := by decide) : PE X (.Name x pos) (tEv g W (eVar i)) := by
  refine peW (pe_var hN hv hd hcd) fun σ H Q h => ?_
  obtain ⟨w, env, rfl, re, h⟩ := h
  cases e : env[i]? with
  | none => simp only [eVar, e] at h; exact h.elim
  | some o =>
    cases o with
    | none => simp only [eVar, e] at h; exact h.elim
    | some d =>
      obtain ⟨v, hv, sv⟩ := re.sl i d e
      refine ⟨v, hv, ?_⟩
      cases d with
      | own o =>
        simp only [eVar, e] at h
        obtain ⟨p, e1, _, ro, nm, _⟩ := sv
        exact h w v rfl rfl Ext.refl ⟨re.st, p, e1, ro, nm⟩
      | bor o => exact (show False by simpa [Sv, Rv] using sv).elim
      | non => simp only [eVar, e] at h; exact h w v rfl rfl Ext.refl (.of re.st sv)
      | bl b => simp only [eVar, e] at h; exact h w v rfl rfl Ext.refl (.of re.st sv)
      | int n => simp only [eVar, e] at h; exact h w v rfl rfl Ext.refl (.of re.st sv)
      | str n => simp only [eVar, e] at h; exact h w v rfl rfl Ext.refl (.of re.st sv)
      | tup n => simp only [eVar, e] at h; exact h w v rfl rfl Ext.refl (.of re.st sv)
      | lst n => simp only [eVar, e] at h; exact h w v rfl rfl Ext.refl (.of re.st sv)
      | scr n => simp only [eVar, e] at h; exact h w v rfl rfl Ext.refl (.of re.st sv)
      | dct n => simp only [eVar, e] at h; exact h w v rfl rfl Ext.refl (.of re.st sv)
      | ref n => simp only [eVar, e] at h; exact h w v rfl rfl Ext.refl (.of re.st sv)
      | exn => simp only [eVar, e] at h; exact h w v rfl rfl Ext.refl ⟨re.st, sv⟩
theorem me_var (i : Nat) {x : Str} (hN : X.N[i]? = some x := by rfl) (hv : Vis X.env.scope x := by first | exact Or.inl rfl | exact Or.inr (Or.inl rfl) | exact Or.inr (Or.inr rfl)) (hd : (x == ("__debug__" : Str)) = false := by decide)
    (hcd : (x == ("__classdict__" : Str)) = false := by decide) : PE X (.Name x pos) (tEv (gx X A) W (eVar i)) := meG_var rfl i hN hv hd hcd
theorem tC_snd {g : Gc} {d : D} {v : V} (hr : ∀ w, Rv g w d v) {σ : Sl} {H : Hp} {Q : VK} (h : tEv g W (eC d) σ H Q) : tC v σ H Q := by
  obtain ⟨w, env, rfl, re, h⟩ := h
  exact h w v rfl rfl Ext.refl (.of re.st (hr w))
theorem me_int {i : Int} {j} : PE X (.Constant (.int i) j pos) (tEv (gx X A) W (eC (.int i))) := peW pe_int fun _ _ _ h => tC_snd (fun w => by unfold Rv; rfl) h
theorem me_bl {i : Bool} {j} : PE X (.Constant (.bool i) j pos) (tEv (gx X A) W (eC (.bl i))) := peW pe_bl fun _ _ _ h => tC_snd (fun w => by unfold Rv; rfl) h
theorem me_non {j} : PE X (.Constant .none j pos) (tEv (gx X A) W (eC .non)) := peW pe_non fun _ _ _ h => tC_snd (fun w => by unfold Rv; rfl) h
theorem me_str {x : Str} {j} : PE X (.Constant (.str x) j pos) (tEv (gx X A) W (eC (.str x))) := peW pe_str fun _ _ _ h => tC_snd (fun w => by unfold Rv; rfl) h
/-- a number of the module's top -/
theorem me_num {x : Str} {i : Int} (hg : Gl X x) (hm : ∃ t, X.mg x = some (.int i t)) (hd : (x == ("__debug__" : Str)) = false := by decide) : PE X (.Name x pos) (tEv (gx X A) W (eC (.int i))) := by
  obtain ⟨t, hm⟩ := hm
  exact peW (pe_glob (v := .int i) hg hm ⟨t, rfl⟩ hd) fun _ _ _ h => tC_snd (fun w => by unfold Rv; rfl) h
theorem me_op {op : Operator} {f : Store → D → D → R D} {r : R2} (ho : OpR X (binaryOp op) r) (hf : Snd2 (gx X A) f r) (hne : ∀ s x y c s', f s x y ≠ .exc c s') (ha : PE X a (tEv (gx X A) W ma)) (hb : PE X b (tEv (gx X A) W mb)) :
    PE X (.BinOp a op b pos) (tEv (gx X A) W (eOp2 f ma mb)) := peW (pe_op ho ha hb) fun _ _ _ h => tOp_snd hf hne h
theorem me_cmp {op : CmpOp} {f : Store → D → D → R D} {r : R2} (ho : OpR X (compareOp op) r) (hf : Snd2 (gx X A) f r) (hne : ∀ s x y c s', f s x y ≠ .exc c s') (hm : behindInMarks op b = false) (ha : PE X a (tEv (gx X A) W ma)) (hb : PE X b (tEv (gx X A) W mb)) :
    PE X (.Compare a [op] [b] pos) (tEv (gx X A) W (eOp2 f ma mb)) := peW (pe_cmpR ho ha hb hm) fun _ _ _ h => tOp_snd hf hne h
theorem me_ix0 {f : Store → D → D → R D} {r : R2} (ho : IxR X r) (hf : Snd2 (gx X A) f r) (hne : ∀ s x y c s', f s x y ≠ .exc c s') (hs : PlainIx b) (ha : PE X a (tEv (gx X A) W ma)) (hb : PE X b (tEv (gx X A) W mb)) :
    PE X (.Subscript a b pos) (tEv (gx X A) W (eOp2 f ma mb)) := peW (pe_ix ho ha hb hs) fun _ _ _ h => tOp_snd hf hne h
theorem me_un {op : UnaryOp} {f : Store → D → R D} {r : V → Hp → VK → Prop} (ho : UnR X (unaryOp op) r) (hf : Snd1 (gx X A) f r) (hne : ∀ s x c s', f s x ≠ .exc c s') (ha : PE X a (tEv (gx X A) W ma)) :
    PE X (.UnaryOp op a pos) (tEv (gx X A) W (eOp1 f ma)) := peW (pe_un ho ha) fun _ _ _ h => tUn_snd hf hne h
end
end Gm

set_option Elab.async false
set_option linter.all false
set_option maxRecDepth 100000
set_option autoImplicit false
set_option maxHeartbeats 1000000
namespace Gm
open PySem PySem.Spec PyProof.Rows L2
/-! ### steps on numbers -/
def fI (c : Int → Int → Bool) (f : Int → Int → D) : Store → D → D → R D := fun s a b => match a, b with
  | .int i, .int j => if c i j = true then .ok (f i j) s else .no
  | _, _ => .no
abbrev cT : Int → Int → Bool := fun _ _ => true
def fSub := fI cT fun i j => .int (i - j)
def fDiv := fI (fun _ j => decide (0 < j) && decide (j < 1073741824)) fun i j => .int (i / j)
def fMod := fI (fun _ j => decide (0 < j)) fun i j => .int (i % j)
def fPow := fI (fun i j => decide (0 ≤ j) && decide (j ≤ 1000000) && decide (i.natAbs < 18446744073709551616)) fun i j => .int (i ^ j.toNat)
def fLt := fI cT fun i j => .bl (decide (i < j))
def fLe := fI cT fun i j => .bl (decide (i ≤ j))
def fGt := fI cT fun i j => .bl (decide (j < i))
def fGe := fI cT fun i j => .bl (decide (j ≤ i))
def fCat : Store → D → D → R D := fun s a b => match drM s a, drM s b with
  | some (.lst xs), some (.lst ys) => if xs.length + ys.length ≤ 16777216 then .ok (.own (.lst (xs ++ ys))) s else .no
  | _, _ => .no
def fAdd : Store → D → D → R D := fun s a b => match a, b with
  | .int i, .int j => .ok (.int (i + j)) s
  | .str x, .str y => if x.length + y.length ≤ 16777216 then .ok (.str (x ++ y)) s else .no
  | _, _ => fCat s a b
def fRep : Store → D → D → R D := fun s a b => match drM s a, b with
  | some (.lst xs), .int k => if k < 9223372036854775808 ∧ -9223372036854775808 ≤ k ∧ xs.length * k.toNat ≤ 16777216 then .ok (.own (.lst (List.replicate k.toNat xs).flatten)) s else .no
  | _, _ => .no
def cMul (i j : Int) : Bool := (decide (-(18446744073709551616) < i) && decide (i < 18446744073709551616)) || (decide (-(18446744073709551616) < j) && decide (j < 18446744073709551616))
def fMul : Store → D → D → R D := fun s a b => match a, b with
  | .int i, .int j => if cMul i j = true then .ok (.int (i * j)) s else .no
  | _, _ => fRep s a b
def fIx : Store → D → D → R D := fun s a b => match b with
  | .int i => (match a with
    | .tup xs => (match atI xs i with
      | some d => .ok d s
      | none => .no)
    | _ => (match dr s a with
      | some (.lst xs) => (match atI xs i with
        | some d => .ok d s
        | none => .no)
      | _ => .no))
  | _ => .no
/-! ### == -/
def toPy (s : Store) : Nat → D → Option PyData
  | 0, _ => none
  | n + 1, d => match d with
    | .non => some .none
    | .bl b => some (.bool b)
    | .int i => some (.int i)
    | .str x => some (.str x)
    | .tup xs => (xs.mapM (toPy s n)).map PyData.tuple
    | d => (match dr s d with
      | some (.lst xs) => (xs.mapM (toPy s n)).map PyData.list
      | _ => none)
def fEq : Store → D → D → R D := fun s a b => match toPy s 9 a, toPy s 9 b with
  | some d, some e => if d.canLay0 = true ∧ e.canLay0 = true then .ok (.bl (PyData.eqv d e)) s else .no
  | _, _ => .no
def fNe : Store → D → D → R D := fun s a b => match toPy s 9 a, toPy s 9 b with
  | some d, some e => if d.canLay0 = true ∧ e.canLay0 = true then .ok (.bl (!PyData.eqv d e)) s else .no
  | _, _ => .no
/-! ### in -/
def flD : D → Option V
  | .non => some .non
  | .bl b => some (.bl b)
  | .int i => some (.int i)
  | .str x => some (.str x)
  | _ => none
def seqD (s : Store) : D → Option (List D)
  | .tup xs => some xs
  | d => match dr s d with
    | some (.lst xs) => some xs
    | _ => none
def fIn (neg : Bool) : Store → D → D → R D := fun s a b => match flD a, (seqD s b).bind fun xs => xs.mapM flD with
  | some x, some ys => .ok (.bl (if neg then !inV x ys else inV x ys)) s
  | _, _ => .no
def fIsN : Store → D → D → R D := fun s a b => match b with
  | .non => (match a with
    | .non => .ok (.bl true) s
    | .bor _ => .ok (.bl false) s
    | .own _ => .no
    | _ => .ok (.bl false) s)
  | _ => .no
def fNotN : Store → D → D → R D := fun s a b => match b with
  | .non => (match a with
    | .non => .ok (.bl false) s
    | .bor _ => .ok (.bl true) s
    | .own _ => .no
    | _ => .ok (.bl true) s)
  | _ => .no
def fNeg : Store → D → R D := fun s a => match a with
  | .int i => .ok (.int (-i)) s
  | _ => .no
def fLen : Store → D → R D := fun s a => match a with
  | .tup xs => .ok (.int xs.length) s
  | .str x => if x.length ≤ 16777216 then .ok (.int x.length) s else .no
  | _ => (match dr s a with
    | some (.lst xs) => .ok (.int xs.length) s
    | _ => .no)
section
variable {g : Gc} {w : Wd}
theorem po_int {i : Int} {x : V} (h : Po g w (.int i) x) : x = .int i := by
  have h : Rv g w (.int i) x := h
  unfold Rv at h; exact h
theorem po_str {i : Str} {x : V} (h : Po g w (.str i) x) : x = .str i := by
  have h : Rv g w (.str i) x := h
  unfold Rv at h; exact h
theorem rv_int {i : Int} : Rv g w (.int i) (.int i) := by unfold Rv; rfl
theorem rv_bl {i : Bool} : Rv g w (.bl i) (.bl i) := by unfold Rv; rfl
theorem rv_str {i : Str} : Rv g w (.str i) (.str i) := by unfold Rv; rfl
theorem rv_non : Rv g w .non .non := by unfold Rv; rfl
theorem snd_I {c : Int → Int → Bool} {f : Int → Int → D} {C : Int → Int → Prop} {k : Int → Int → V} (hc : ∀ i j, c i j = true → C i j) (hr : ∀ (w : Wd) i j, Rv g w (f i j) (k i j)) : Snd2 g (fI c f) (rI C k) := by
  intro w a b x y Q r pa pb h
  unfold fI at h
  split at h
  · rename_i i j
    split at h
    · rename_i hcc
      exact ⟨i, j, po_int pa, po_int pb, hc i j hcc, h.pure r (hr w i j)⟩
    · exact h.elim
  · exact h.elim
theorem snd_I0 {f : Int → Int → D} {k : Int → Int → V} (hr : ∀ (w : Wd) i j, Rv g w (f i j) (k i j)) : Snd2 g (fI cT f) (rI0 k) := by
  intro w a b x y Q r pa pb h
  obtain ⟨i, j, h1, h2, _, h3⟩ := snd_I (C := fun _ _ => True) (fun _ _ _ => trivial) hr w a b x y Q r pa pb h
  exact ⟨i, j, h1, h2, h3⟩
theorem ne_I {c : Int → Int → Bool} {f : Int → Int → D} : ∀ s x y k s', fI c f s x y ≠ .exc k s' := by
  intro s x y k s'
  unfold fI
  split
  · split <;> exact fun z => nomatch z
  · exact fun z => nomatch z
theorem drM_lst {a : D} {x : V} {xs : List D} (r : Rst g w) (h : Po g w a x) (e : drM w.s a = some (.lst xs)) : ∃ p ys, x = .ref p ∧ w.H p = some (.lst ys) ∧ RvL g w xs ys := by
  obtain ⟨p, e1, ys, e2, e3⟩ := drM_ok r h e
  exact ⟨p, ys, e1, e2, e3⟩
theorem dr_lst {a : D} {x : V} {xs : List D} (r : Rst g w) (h : Po g w a x) (e : dr w.s a = some (.lst xs)) : ∃ p ys, x = .ref p ∧ SqL g.K w.H p ys ∧ RvL g w xs ys := by
  obtain ⟨p, e1, ys, e2, e3⟩ := dr_ok r h e
  exact ⟨p, ys, e1, e2, e3⟩
theorem snd_cat : Snd2 g fCat rCat := by
  intro w a b x y Q r pa pb h
  unfold fCat at h
  split at h
  · rename_i xs ys ea eb
    split at h
    · rename_i hl
      obtain ⟨p, us, e1, e2, e3⟩ := drM_lst r pa ea
      obtain ⟨q, vs, k1, k2, k3⟩ := drM_lst r pb eb
      refine ⟨p, q, us, vs, e1, k1, e2, k2, ?_, fun l hl' => ?_⟩
      · rw [e3.length, k3.length, sizeLine_eq]; exact hl
      · exact h { w with H := upd w.H l (.lst (us ++ vs)) } _ rfl rfl (new_ext hl') (Px.newL r hl' (e3.app k3))
    · exact h.elim
  · exact h.elim
theorem snd_add : Snd2 g fAdd (fun x y H Q => rI0 (fun i j => .int (i + j)) x y H Q ∨ (∃ i j, x = .str i ∧ y = .str j ∧ i.length + j.length ≤ sizeLine ∧ Q (.str (i ++ j)) H) ∨ rCat x y H Q) := by
  intro w a b x y Q r pa pb h
  unfold fAdd at h
  split at h
  · rename_i i j
    exact .inl ⟨i, j, po_int pa, po_int pb, h.pure r rv_int⟩
  · rename_i i j
    split at h
    · rename_i hl
      exact .inr (.inl ⟨i, j, po_str pa, po_str pb, by rw [sizeLine_eq]; exact hl, h.pure r rv_str⟩)
    · exact h.elim
  · exact .inr (.inr (snd_cat w a b x y Q r pa pb h))
theorem ne_cat : ∀ s x y k s', fCat s x y ≠ .exc k s' := by
  intro s x y k s'
  unfold fCat
  split
  · split <;> exact fun z => nomatch z
  · exact fun z => nomatch z
theorem ne_add : ∀ s x y k s', fAdd s x y ≠ .exc k s' := by
  intro s x y k s'
  unfold fAdd
  split
  · exact fun z => nomatch z
  · split <;> exact fun z => nomatch z
  · exact ne_cat _ _ _ _ _
theorem RvL.flat : ∀ {n : Nat} {xs : List D} {ys : List V}, RvL g w xs ys → RvL g w (List.replicate n xs).flatten (List.replicate n ys).flatten
  | 0, _, _, _ => by simp [RvL]
  | n + 1, xs, ys, h => by
    rw [List.replicate_succ, List.replicate_succ, List.flatten_cons, List.flatten_cons]
    exact h.app (RvL.flat h)
theorem snd_rep : Snd2 g fRep rRep := by
  intro w a b x y Q r pa pb h
  unfold fRep at h
  split at h
  · rename_i xs k ea
    split at h
    · rename_i hl
      obtain ⟨p, us, e1, e2, e3⟩ := drM_lst r pa ea
      refine ⟨p, k, us, e1, po_int pb, e2, by omega, by omega, ?_, fun l hl' => ?_⟩
      · rw [e3.length, sizeLine_eq]; exact hl.2.2
      · exact h { w with H := upd w.H l (.lst (List.replicate k.toNat us).flatten) } _ rfl rfl (new_ext hl') (Px.newL r hl' e3.flat)
    · exact h.elim
  · exact h.elim
theorem cMul_ok {i j : Int} (h : cMul i j = true) : CMul i j := by
  unfold cMul at h
  simp only [Bool.or_eq_true, Bool.and_eq_true, decide_eq_true_eq] at h
  unfold CMul
  omega
theorem snd_mul : Snd2 g fMul (fun x y H Q => rI CMul (fun i j => .int (i * j)) x y H Q ∨ rRep x y H Q) := by
  intro w a b x y Q r pa pb h
  unfold fMul at h
  split at h
  · rename_i i j
    split at h
    · rename_i hc
      exact .inl ⟨i, j, po_int pa, po_int pb, cMul_ok hc, h.pure r rv_int⟩
    · exact h.elim
  · exact .inr (snd_rep w a b x y Q r pa pb h)
theorem ne_mul : ∀ s x y k s', fMul s x y ≠ .exc k s' := by
  intro s x y k s'
  unfold fMul fRep
  split
  · split <;> exact fun z => nomatch z
  · split
    · split <;> exact fun z => nomatch z
    · exact fun z => nomatch z
theorem RvL.atI {xs : List D} {ys : List V} {i : Int} {d : D} (h : RvL g w xs ys) (e : L2.atI xs i = some d) : ∃ v, L2.atI ys i = some v ∧ Rv g w d v := by
  unfold L2.atI at *
  rw [h.length]
  cases q : ixN xs.length i with
  | none => rw [q] at e; cases e
  | some j =>
    rw [q] at e
    exact h.get e
theorem snd_ix : Snd2 g fIx (rIx g.K) := by
  intro w a b x y Q r pa pb h
  unfold fIx at h
  split at h
  · rename_i i
    split at h
    · rename_i xs
      split at h
      · rename_i d e
        have pa' : Rv g w (.tup xs) x := pa
        unfold Rv at pa'
        obtain ⟨p, ys, e1, e2, e3⟩ := pa'
        obtain ⟨v, k1, k2⟩ := e3.atI e
        exact .inr (.inl ⟨p, ys, i, v, e1, po_int pb, e2.sq, k1, h.pure r k2⟩)
      · exact h.elim
    · split at h
      · rename_i xs ed
        split at h
        · rename_i d e
          obtain ⟨p, ys, e1, e2, e3⟩ := dr_lst r pa ed
          obtain ⟨v, k1, k2⟩ := e3.atI e
          exact .inl ⟨p, ys, i, v, e1, po_int pb, e2, k1, h.pure r k2⟩
        · exact h.elim
      · exact h.elim
  · exact h.elim
theorem ne_ix : ∀ s x y k s', fIx s x y ≠ .exc k s' := by
  intro s x y k s'
  unfold fIx
  repeat' split
  all_goals exact fun z => nomatch z
/-! ### == -/
theorem mapM_ok {f : D → Option PyData} {K : PySem.W.Frag} {H : Hp} (hf : ∀ (d : D) (v : V) (p : PyData), Rv g w d v → f d = some p → Dp K H v p) : ∀ (xs : List D) (ys : List V) (ps : List PyData), RvL g w xs ys → xs.mapM f = some ps → DpAll K H ys ps
  | [], ys, ps, h, e => by
    unfold RvL at h; subst h
    simp at e; subst e; exact .nil
  | d :: r, ys, ps, h, e => by
    unfold RvL at h
    obtain ⟨y, t, e1, h1, h2⟩ := h
    subst e1
    rw [List.mapM_cons] at e
    cases q : f d with
    | none => rw [q] at e; cases e
    | some p =>
      rw [q] at e
      cases q2 : r.mapM f with
      | none => rw [q2] at e; cases e
      | some ps' =>
        rw [q2] at e
        cases e
        exact .cons (hf d y p h1 q) (mapM_ok hf r t ps' h2 q2)
theorem mapM_dp {f : D → Option PyData} {n : Nat} (hf : ∀ (d : D) (p : PyData), f d = some p → p.depth ≤ n) : ∀ (xs : List D) (ps : List PyData), xs.mapM f = some ps → PyData.depthAll ps ≤ n
  | [], ps, e => by simp at e; subst e; simp [PyData.depthAll]
  | d :: r, ps, e => by
    rw [List.mapM_cons] at e
    cases q : f d with
    | none => rw [q] at e; cases e
    | some p =>
      rw [q] at e
      cases q2 : r.mapM f with
      | none => rw [q2] at e; cases e
      | some ps' =>
        rw [q2] at e
        cases e
        have h1 := hf d p q
        have h2 := mapM_dp hf r ps' q2
        simp only [PyData.depthAll]
        omega
theorem toPy_depth (s : Store) : ∀ (n : Nat) (d : D) (p : PyData), toPy s n d = some p → p.depth ≤ n
  | 0, _, _, e => by cases e
  | n + 1, d, p, e => by
    unfold toPy at e
    split at e
    · cases e; simp [PyData.depth]
    · cases e; simp [PyData.depth]
    · cases e; simp [PyData.depth]
    · cases e; simp [PyData.depth]
    · rename_i xs
      cases q : xs.mapM (toPy s n) with
      | none => rw [q] at e; cases e
      | some ps =>
        rw [q] at e; cases e
        have := mapM_dp (toPy_depth s n) xs ps q
        simp only [PyData.depth]; omega
    · split at e
      · rename_i xs _
        cases q : xs.mapM (toPy s n) with
        | none => rw [q] at e; cases e
        | some ps =>
          rw [q] at e; cases e
          have := mapM_dp (toPy_depth s n) xs ps q
          simp only [PyData.depth]; omega
      · cases e
theorem toPy_ok (r : Rst g w) : ∀ (n : Nat) (d : D) (v : V) (p : PyData), Po g w d v → toPy w.s n d = some p → Dp g.K w.H v p
  | 0, _, _, _, _, e => by cases e
  | n + 1, d, v, p, h, e => by
    have ih : ∀ (d : D) (v : V) (p : PyData), Rv g w d v → toPy w.s n d = some p → Dp g.K w.H v p := fun d v p h e => toPy_ok r n d v p h.po e
    unfold toPy at e
    split at e
    · have h : Rv g w .non v := h
      unfold Rv at h; subst h; cases e; exact .non
    · rename_i b
      have h : Rv g w (.bl b) v := h
      unfold Rv at h; subst h; cases e; exact .bl _
    · rename_i b
      have h : Rv g w (.int b) v := h
      unfold Rv at h; subst h; cases e; exact .int _
    · rename_i b
      have h : Rv g w (.str b) v := h
      unfold Rv at h; subst h; cases e; exact .str _
    · rename_i xs
      have h : Rv g w (.tup xs) v := h
      unfold Rv at h
      obtain ⟨q, ys, e1, e2, e3⟩ := h
      subst e1
      cases q2 : xs.mapM (toPy w.s n) with
      | none => rw [q2] at e; cases e
      | some ps => rw [q2] at e; cases e; exact .tup e2.sq (mapM_ok ih xs ys ps e3 q2)
    · split at e
      · rename_i xs ed
        obtain ⟨q, ys, e1, e2, e3⟩ := dr_lst r h ed
        subst e1
        cases q2 : xs.mapM (toPy w.s n) with
        | none => rw [q2] at e; cases e
        | some ps => rw [q2] at e; cases e; exact .lst e2 (mapM_ok ih xs ys ps e3 q2)
      · cases e
theorem shaped_of {s : Store} {d : D} {p : PyData} (e : toPy s 9 d = some p) (h : p.canLay0 = true) : SeqAt.shaped p = true := by
  unfold SeqAt.shaped
  have := toPy_depth s 9 d p e
  rw [h]
  simp only [Bool.true_and, decide_eq_true_eq]
  omega
theorem snd_eq : Snd2 g fEq (rEqD g.K) := by
  intro w a b x y Q r pa pb h
  unfold fEq at h
  split at h
  · rename_i d e ea eb
    split at h
    · rename_i hs
      exact ⟨d, e, toPy_ok r _ _ _ _ pa ea, toPy_ok r _ _ _ _ pb eb, shaped_of ea hs.1, shaped_of eb hs.2, h.pure r rv_bl⟩
    · exact h.elim
  · exact h.elim
theorem snd_ne : Snd2 g fNe (rNeD g.K) := by
  intro w a b x y Q r pa pb h
  unfold fNe at h
  split at h
  · rename_i d e ea eb
    split at h
    · rename_i hs
      exact ⟨d, e, toPy_ok r _ _ _ _ pa ea, toPy_ok r _ _ _ _ pb eb, shaped_of ea hs.1, shaped_of eb hs.2, h.pure r rv_bl⟩
    · exact h.elim
  · exact h.elim
theorem ne_eq : ∀ s x y k s', fEq s x y ≠ .exc k s' := by
  intro s x y k s'
  unfold fEq
  repeat' split
  all_goals exact fun z => nomatch z
theorem ne_ne : ∀ s x y k s', fNe s x y ≠ .exc k s' := by
  intro s x y k s'
  unfold fNe
  repeat' split
  all_goals exact fun z => nomatch z
/-! ### in -/
theorem flD_ok {d : D} {v x : V} (h : Po g w d v) (e : flD d = some x) : v = x ∧ flatV x = true := by
  cases d with
  | non => cases e; have h : Rv g w .non v := h; unfold Rv at h; exact ⟨h, rfl⟩
  | bl b => cases e; have h : Rv g w (.bl b) v := h; unfold Rv at h; exact ⟨h, rfl⟩
  | int b => cases e; have h : Rv g w (.int b) v := h; unfold Rv at h; exact ⟨h, rfl⟩
  | str b => cases e; have h : Rv g w (.str b) v := h; unfold Rv at h; exact ⟨h, rfl⟩
  | _ => cases e
theorem flL_ok : ∀ {xs : List D} {ys zs : List V}, RvL g w xs ys → xs.mapM flD = some zs → ys = zs ∧ zs.all flatV = true
  | [], ys, zs, h, e => by
    unfold RvL at h; subst h
    simp at e; subst e; exact ⟨rfl, rfl⟩
  | d :: r, ys, zs, h, e => by
    unfold RvL at h
    obtain ⟨y, t, e1, h1, h2⟩ := h
    subst e1
    rw [List.mapM_cons] at e
    cases q : flD d with
    | none => rw [q] at e; cases e
    | some p =>
      rw [q] at e
      cases q2 : r.mapM flD with
      | none => rw [q2] at e; cases e
      | some ps' =>
        rw [q2] at e
        cases e
        obtain ⟨a, b⟩ := flD_ok h1.po q
        obtain ⟨a2, b2⟩ := flL_ok h2 q2
        subst a; subst a2
        exact ⟨rfl, by simp [b, b2]⟩
theorem seqD_ok {d : D} {v : V} {xs : List D} (r : Rst g w) (h : Po g w d v) (e : seqD w.s d = some xs) : ∃ p ys, v = .ref p ∧ (SqL g.K w.H p ys ∨ SqT g.K w.H p ys) ∧ RvL g w xs ys := by
  unfold seqD at e
  split at e
  · rename_i zs
    cases e
    have h : Rv g w (.tup xs) v := h
    unfold Rv at h
    obtain ⟨q, ys, e1, e2, e3⟩ := h
    exact ⟨q, ys, e1, .inr e2.sq, e3⟩
  · split at e
    · rename_i zs ed
      cases e
      obtain ⟨q, ys, e1, e2, e3⟩ := dr_lst r h ed
      exact ⟨q, ys, e1, .inl e2, e3⟩
    · cases e
theorem snd_in {neg : Bool} : Snd2 g (fIn neg) (rIn g.K neg) := by
  intro w a b x y Q r pa pb h
  unfold fIn at h
  split at h
  · rename_i u zs e1 e2
    cases q : seqD w.s b with
    | none => rw [q] at e2; cases e2
    | some ds =>
      rw [q] at e2
      obtain ⟨p, ys, k1, k2, k3⟩ := seqD_ok r pb q
      obtain ⟨a1, a2⟩ := flD_ok pa e1
      obtain ⟨b1, b2⟩ := flL_ok k3 e2
      subst a1; subst b1
      exact ⟨p, ys, k1, k2, a2, b2, h.pure r rv_bl⟩
  · exact h.elim
theorem ne_in {neg : Bool} : ∀ s x y k s', fIn neg s x y ≠ .exc k s' := by
  intro s x y k s'
  unfold fIn
  repeat' split
  all_goals exact fun z => nomatch z
theorem po_nn {d : D} {x : V} (h : Po g w d x) (hd : d ≠ .non) : x ≠ .non := by
  cases d with
  | non => exact absurd rfl hd
  | bl b => have h : Rv g w (.bl b) x := h; unfold Rv at h; subst h; exact fun z => nomatch z
  | int b => have h : Rv g w (.int b) x := h; unfold Rv at h; subst h; exact fun z => nomatch z
  | str b => have h : Rv g w (.str b) x := h; unfold Rv at h; subst h; exact fun z => nomatch z
  | tup b => have h : Rv g w (.tup b) x := h; unfold Rv at h; obtain ⟨p, _, rfl, _⟩ := h; exact fun z => nomatch z
  | lst b => have h : Rv g w (.lst b) x := h; unfold Rv at h; obtain ⟨p, _, rfl, _⟩ := h; exact fun z => nomatch z
  | scr b => have h : Rv g w (.scr b) x := h; unfold Rv at h; obtain ⟨p, rfl, _⟩ := h; exact fun z => nomatch z
  | dct b => have h : Rv g w (.dct b) x := h; unfold Rv at h; obtain ⟨p, _, rfl, _⟩ := h; exact fun z => nomatch z
  | ref b => have h : Rv g w (.ref b) x := h; unfold Rv at h; obtain ⟨p, rfl, _⟩ := h; exact fun z => nomatch z
  | own b => have h : Rv g w (.own b) x := h; unfold Rv at h; exact h.elim
  | bor b => obtain ⟨p, rfl, _⟩ := h; exact fun z => nomatch z
  | exn => obtain ⟨a, _, rfl⟩ := h; exact fun z => nomatch z
theorem po_non {x : V} (h : Po g w .non x) : x = .non := by
  have h : Rv g w .non x := h
  unfold Rv at h; exact h
theorem snd_isN : Snd2 g fIsN (fun x y H Q => y = .non ∧ Q (.bl (decide (x = .non))) H) := by
  intro w a b x y Q r pa pb h
  unfold fIsN at h
  split at h
  · refine ⟨po_non pb, ?_⟩
    split at h
    · rw [po_non pa]; exact h.pure r rv_bl
    · rw [decide_eq_false (po_nn pa fun z => nomatch z)]; exact h.pure r rv_bl
    · exact h.elim
    · rename_i n1 n2 n3
      rw [decide_eq_false (po_nn pa n1)]; exact h.pure r rv_bl
  · exact h.elim
theorem ne_isN : ∀ s x y k s', fIsN s x y ≠ .exc k s' := by
  intro s x y k s'
  unfold fIsN
  repeat' split
  all_goals exact fun z => nomatch z
theorem snd_neg : Snd1 g fNeg (rU fun i => .int (-i)) := by
  intro w a x Q r pa h
  unfold fNeg at h
  split at h
  · rename_i i; exact ⟨i, po_int pa, h.pure r rv_int⟩
  · exact h.elim
theorem ne_neg : ∀ s x k s', fNeg s x ≠ .exc k s' := by
  intro s x k s'
  unfold fNeg
  split
  all_goals exact fun z => nomatch z
theorem snd_len : Snd1 g fLen (fun x H Q => ∃ z n, [x] = [z] ∧ LenV g.K z H n ∧ Q (.int n) H) := by
  intro w a x Q r pa h
  unfold fLen at h
  split at h
  · rename_i xs
    have pa' : Rv g w (.tup xs) x := pa
    unfold Rv at pa'
    obtain ⟨p, ys, e1, e2, e3⟩ := pa'
    subst e1
    exact ⟨_, xs.length, rfl, .inr ⟨ys, e2.sq, e3.length.symm⟩, h.pure r rv_int⟩
  · rename_i z
    split at h
    · rename_i hl
      rw [po_str pa]
      exact ⟨_, z.length, rfl, ⟨by rw [sizeLine_eq]; exact hl, rfl⟩, h.pure r rv_int⟩
    · exact h.elim
  · split at h
    · rename_i xs ed
      obtain ⟨p, ys, e1, e2, e3⟩ := dr_lst r pa ed
      subst e1
      exact ⟨_, xs.length, rfl, .inl ⟨ys, e2, e3.length.symm⟩, h.pure r rv_int⟩
    · exact h.elim
theorem ne_len : ∀ s x k s', fLen s x ≠ .exc k s' := by
  intro s x k s'
  unfold fLen
  repeat' split
  all_goals exact fun z => nomatch z
end
end Gm

set_option Elab.async false
set_option linter.all false
set_option maxRecDepth 100000
set_option autoImplicit false
set_option maxHeartbeats 1000000
namespace Gm
open PySem PySem.Spec PyProof.Rows L2
/-! ### tests -/
def tq (e : Ex) : Tx := fun env s => match e env s with
  | .ok (.bl b) s' => .ok b s'
  | .ok _ _ => .no
  | .exc c s' => .exc c s'
  | .no => .no
def tNotX (t : Tx) : Tx := fun env s => match t env s with
  | .ok b s' => .ok (!b) s'
  | .exc c s' => .exc c s'
  | .no => .no
def tAndX (t u : Tx) : Tx := fun env s => match t env s with
  | .ok true s' => u env s'
  | .ok false s' => .ok false s'
  | .exc c s' => .exc c s'
  | .no => .no
def tOrX (t u : Tx) : Tx := fun env s => match t env s with
  | .ok true s' => .ok true s'
  | .ok false s' => u env s'
  | .exc c s' => .exc c s'
  | .no => .no
def eAnd (a b : Ex) : Ex := fun env s => match tq a env s with
  | .ok true s' => b env s'
  | .ok false s' => .ok (.bl false) s'
  | .exc c s' => .exc c s'
  | .no => .no
def eOr (a b : Ex) : Ex := fun env s => match tq a env s with
  | .ok true s' => .ok (.bl true) s'
  | .ok false s' => b env s'
  | .exc c s' => .exc c s'
  | .no => .no
def eNot (a : Ex) : Ex := fun env s => match tq a env s with
  | .ok b s' => .ok (.bl (!b)) s'
  | .exc c s' => .exc c s'
  | .no => .no
def eIf (t : Tx) (a b : Ex) : Ex := fun env s => match t env s with
  | .ok true s' => a env s'
  | .ok false s' => b env s'
  | .exc c s' => .exc c s'
  | .no => .no
/-! ### argument lists, displays -/
def snk : D → Option D
  | .own _ => none
  | .bor _ => none
  | .exn => none
  | d => some d
def aNil : Ax := fun _ s => .ok [] s
def aCons (e : Ex) (r : Ax) : Ax := fun env s => match e env s with
  | .ok x s1 => (match snk (fz x) with
    | some d => (match r env s1 with
      | .ok ds s2 => .ok (d :: ds) s2
      | .exc c s2 => .exc c s2
      | .no => .no)
    | none => .no)
  | .exc c s1 => .exc c s1
  | .no => .no
def eTup (a : Ax) : Ex := fun env s => match a env s with
  | .ok ds s' => if ds.length ≤ 16777216 then .ok (.tup ds) s' else .no
  | .exc c s' => .exc c s'
  | .no => .no
def eLst (a : Ax) : Ex := fun env s => match a env s with
  | .ok ds s' => if ds.length ≤ 16777216 then .ok (.own (.lst ds)) s' else .no
  | .exc c s' => .exc c s'
  | .no => .no
/-! ### slices -/
def cutD (xs : List D) (lo hi : Option Int) : List D := (xs.drop (HT.sIx xs.length 0 lo)).take (HT.sIx xs.length xs.length hi - HT.sIx xs.length 0 lo)
abbrev Ox := Env → Store → R (Option Int)
def oNo : Ox := fun _ s => .ok none s
def oSo (e : Ex) : Ox := fun env s => match e env s with
  | .ok (.int i) s' => .ok (some i) s'
  | .ok _ _ => .no
  | .exc c s' => .exc c s'
  | .no => .no
def fSl (s : Store) (a : D) (lo hi : Option Int) : R D := match dr s a with
  | some (.lst xs) => .ok (.own (.lst (cutD xs lo hi))) s
  | _ => .no
def eSl (a : Ex) (lo hi : Ox) : Ex := fun env s => match a env s with
  | .ok x s1 => (match lo env s1 with
    | .ok l s2 => (match hi env s2 with
      | .ok h s3 => fSl s3 (fz x) l h
      | .exc c s' => .exc c s'
      | .no => .no)
    | .exc c s' => .exc c s'
    | .no => .no)
  | .exc c s' => .exc c s'
  | .no => .no
/-! ### kinds -/
def tyD (s : Store) : D → Option String
  | .non => some "NoneType"
  | .bl _ => some "bool"
  | .int _ => some "int"
  | .str _ => some "str"
  | .tup _ => some "tuple"
  | d => (match dr s d with
    | some (.lst _) => some "list"
    | some (.dK _) => some "dict"
    | _ => none)
def fIsi (T : String) : Store → D → R D := fun s a => match tyD s a with
  | some t => (match kitB t T with
    | some b => .ok (.bl b) s
    | none => .no)
  | none => .no
section
variable {g : Gc} {w w' : Wd} {env : Env} {σ : Sl} {W : WX} {H : Hp} {a b : Ex} {Q : VK}
theorem Px.rst {H0 : Hp} {d : D} {v : V} (h : Px g H0 w d v) : Rst g w := h.fz.1
theorem tq_ok {Q : Bool → Hp → Prop} (h : tTe g W (tq a) σ H Q) : tEv g W a σ H fun x H1 => ∃ k, x = .bl k ∧ Q k H1 := by
  obtain ⟨w, env, rfl, re, h⟩ := h
  refine ⟨w, env, rfl, re, ?_⟩
  refine Post.step (m' := tq a env w.s) h (fun c s e => by simp only [tq, e]) (fun e => by simp only [tq, e]) fun x s1 w1 v ea hs1 ht1 e1 p1 => ?_
  cases x with
  | bl k =>
    simp only [tq, ea] at h
    obtain ⟨r1, q⟩ : Rst g w1 ∧ Rv g w1 (.bl k) v := p1
    unfold Rv at q
    exact ⟨k, q, h w1 k hs1 ht1 e1 ⟨r1, rfl⟩⟩
  | _ => simp only [tq, ea] at h; exact h.elim
theorem Pb.back {w1 w2 : Wd} {x y : Bool} {H1 H2 : Hp} (h : Pb g H1 w2 x y) : Pb g H2 w2 x y := h
theorem tNot_ok {t : Tx} {Q : Bool → Hp → Prop} (h : tTe g W (tNotX t) σ H Q) : tNot (tTe g W t) σ H Q := by
  obtain ⟨w, env, rfl, re, h⟩ := h
  refine ⟨w, env, rfl, re, ?_⟩
  refine Post.step (m' := tNotX t env w.s) h (fun c s e => by simp only [tNotX, e]) (fun e => by simp only [tNotX, e]) fun x s1 w1 v ea hs1 ht1 e1 p1 => ?_
  obtain ⟨r1, rfl⟩ := p1
  simp only [tNotX, ea] at h
  exact h w1 _ hs1 ht1 e1 ⟨r1, rfl⟩
theorem tAnd_ok {t u : Tx} {Q : Bool → Hp → Prop} (h : tTe g W (tAndX t u) σ H Q) : tAnd (tTe g W t) (tTe g W u) σ H Q := by
  obtain ⟨w, env, rfl, re, h⟩ := h
  refine ⟨w, env, rfl, re, ?_⟩
  refine Post.step (m' := tAndX t u env w.s) h (fun c s e => by simp only [tAndX, e]) (fun e => by simp only [tAndX, e]) fun x s1 w1 v ea hs1 ht1 e1 p1 => ?_
  obtain ⟨r1, rfl⟩ := p1
  cases x with
  | true =>
    simp only [tAndX, ea, ← hs1] at h
    exact iteT ⟨w1, env, rfl, re.next r1 e1 ht1, h.next e1 ht1 fun _ _ _ _ q => q⟩
  | false =>
    simp only [tAndX, ea] at h
    exact iteF (h w1 _ hs1 ht1 e1 ⟨r1, rfl⟩)
theorem tOr_ok {t u : Tx} {Q : Bool → Hp → Prop} (h : tTe g W (tOrX t u) σ H Q) : tOr (tTe g W t) (tTe g W u) σ H Q := by
  obtain ⟨w, env, rfl, re, h⟩ := h
  refine ⟨w, env, rfl, re, ?_⟩
  refine Post.step (m' := tOrX t u env w.s) h (fun c s e => by simp only [tOrX, e]) (fun e => by simp only [tOrX, e]) fun x s1 w1 v ea hs1 ht1 e1 p1 => ?_
  obtain ⟨r1, rfl⟩ := p1
  cases x with
  | false =>
    simp only [tOrX, ea, ← hs1] at h
    exact iteF ⟨w1, env, rfl, re.next r1 e1 ht1, h.next e1 ht1 fun _ _ _ _ q => q⟩
  | true =>
    simp only [tOrX, ea] at h
    exact iteT (h w1 _ hs1 ht1 e1 ⟨r1, rfl⟩)
theorem eIf_ok {t : Tx} (h : tEv g W (eIf t a b) σ H Q) : tIf (tTe g W t) (tEv g W a) (tEv g W b) σ H Q := by
  obtain ⟨w, env, rfl, re, h⟩ := h
  refine ⟨w, env, rfl, re, ?_⟩
  refine Post.step (m' := eIf t a b env w.s) h (fun c s e => by simp only [eIf, e]) (fun e => by simp only [eIf, e]) fun x s1 w1 v ea hs1 ht1 e1 p1 => ?_
  obtain ⟨r1, rfl⟩ := p1
  cases x with
  | true =>
    simp only [eIf, ea, ← hs1] at h
    exact iteT ⟨w1, env, rfl, re.next r1 e1 ht1, h.next e1 ht1 fun _ _ _ _ q => q.back re.st r1 e1⟩
  | false =>
    simp only [eIf, ea, ← hs1] at h
    exact iteF ⟨w1, env, rfl, re.next r1 e1 ht1, h.next e1 ht1 fun _ _ _ _ q => q.back re.st r1 e1⟩
theorem snk_ok {x d : D} {v : V} (h : Po g w (fz x) v) (e : snk (fz x) = some d) : Rv g w d v := by
  generalize fz x = y at h e
  cases y with
  | own o => cases e
  | bor o => cases e
  | exn => cases e
  | _ => cases e; exact h
theorem aNil_ok {Q : List V → Hp → Prop} (h : tAe g W aNil σ H Q) : tNil σ H Q := by
  obtain ⟨w, env, rfl, re, h⟩ := h
  exact h w [] rfl rfl Ext.refl ⟨re.st, by unfold RvL; rfl⟩
theorem aCons_ok {r : Ax} {Q : List V → Hp → Prop} (h : tAe g W (aCons a r) σ H Q) : tCons (tEv g W a) (tAe g W r) σ H Q := by
  obtain ⟨w, env, rfl, re, h⟩ := h
  refine ⟨w, env, rfl, re, ?_⟩
  refine Post.step (m' := aCons a r env w.s) h (fun c s e => by simp only [aCons, e]) (fun e => by simp only [aCons, e]) fun x s1 w1 v ea hs1 ht1 e1 p1 => ?_
  obtain ⟨r1, o1⟩ := p1.fz
  cases es : snk (fz x) with
  | none => simp only [aCons, ea, es] at h; exact h.elim
  | some d =>
    have rd := snk_ok o1 es
    refine ⟨w1, env, rfl, re.next r1 e1 ht1, ?_⟩
    refine Post.step (m' := aCons a r env w.s) (h.next e1 ht1 fun _ _ _ _ q => q) (fun c s e => by rw [hs1] at e; simp only [aCons, ea, es, e]) (fun e => by rw [hs1] at e; simp only [aCons, ea, es, e]) fun ds s2 w2 vs eb hs2 ht2 e2 p2 => ?_
    obtain ⟨r2, q2⟩ := p2
    rw [hs1] at eb
    simp only [aCons, ea, es, eb] at h
    refine h w2 (v :: vs) hs2 (ht2.trans ht1) (e1.trans e2) ⟨r2, ?_⟩
    unfold RvL
    exact ⟨v, vs, rfl, Rv.mono (Cy.of r1 e2 ht2) _ _ rd, q2⟩
theorem eTup_ok {r : Ax} (h : tEv g W (eTup r) σ H Q) : tTup (tAe g W r) σ H Q := by
  obtain ⟨w, env, rfl, re, h⟩ := h
  refine ⟨w, env, rfl, re, ?_⟩
  refine Post.step (m' := eTup r env w.s) h (fun c s e => by simp only [eTup, e]) (fun e => by simp only [eTup, e]) fun ds s1 w1 vs ea hs1 ht1 e1 p1 => ?_
  obtain ⟨r1, q1⟩ := p1
  simp only [eTup, ea] at h
  split at h
  · rename_i hl
    refine ⟨by rw [q1.length, sizeLine_eq]; exact hl, fun p hp => ?_⟩
    exact h { w1 with H := upd w1.H p (.tup vs) } _ hs1 ht1 (e1.trans (new_ext hp)) ((Px.newT r1 hp q1).back re.st r1 e1)
  · exact h.elim
theorem eLst_ok {r : Ax} (h : tEv g W (eLst r) σ H Q) : tLst (tAe g W r) σ H Q := by
  obtain ⟨w, env, rfl, re, h⟩ := h
  refine ⟨w, env, rfl, re, ?_⟩
  refine Post.step (m' := eLst r env w.s) h (fun c s e => by simp only [eLst, e]) (fun e => by simp only [eLst, e]) fun ds s1 w1 vs ea hs1 ht1 e1 p1 => ?_
  obtain ⟨r1, q1⟩ := p1
  simp only [eLst, ea] at h
  split at h
  · rename_i hl
    refine ⟨by rw [q1.length, sizeLine_eq]; exact hl, fun p hp => ?_⟩
    exact h { w1 with H := upd w1.H p (.lst vs) } _ hs1 ht1 (e1.trans (new_ext hp)) ((Px.newL r1 hp q1).back re.st r1 e1)
  · exact h.elim
/-! slices -/
def Pp (_ : Hp) (w : Wd) (a b : Option Int) : Prop := Rst g w ∧ a = b
def tOe (g : Gc) (W : WX) (e : Ox) : TO := fun σ H Q => ∃ (w : Wd) (env : Env), w.H = H ∧ Re g w env σ ∧ Post g (Pp (g := g)) W w σ Q (e env w.s)
theorem oNo_ok {Q : Option Int → Hp → Prop} (h : tOe g W oNo σ H Q) : tNoPart σ H Q := by
  obtain ⟨w, env, rfl, re, h⟩ := h
  exact h w none rfl rfl Ext.refl ⟨re.st, rfl⟩
theorem oSo_ok {Q : Option Int → Hp → Prop} (h : tOe g W (oSo a) σ H Q) : tPart (tEv g W a) σ H Q := by
  obtain ⟨w, env, rfl, re, h⟩ := h
  refine ⟨w, env, rfl, re, ?_⟩
  refine Post.step (m' := oSo a env w.s) h (fun c s e => by simp only [oSo, e]) (fun e => by simp only [oSo, e]) fun x s1 w1 v ea hs1 ht1 e1 p1 => ?_
  cases x with
  | int k =>
    simp only [oSo, ea] at h
    obtain ⟨r1, q⟩ : Rst g w1 ∧ Rv g w1 (.int k) v := p1
    unfold Rv at q
    exact ⟨k, q, h w1 _ hs1 ht1 e1 ⟨r1, rfl⟩⟩
  | _ => simp only [oSo, ea] at h; exact h.elim
theorem RvL.cut {xs : List D} {ys : List V} (h : RvL g w xs ys) (lo hi : Option Int) : RvL g w (cutD xs lo hi) (cutV ys lo hi) := by
  unfold cutD cutV
  rw [h.length]
  exact (h.drop _).take _
theorem eSl_ok {lo hi : Ox} (h : tEv g W (eSl a lo hi) σ H Q) : tSl (rSlL g.K) (tEv g W a) (tOe g W lo) (tOe g W hi) σ H Q := by
  obtain ⟨w, env, rfl, re, h⟩ := h
  refine ⟨w, env, rfl, re, ?_⟩
  refine Post.step (m' := eSl a lo hi env w.s) h (fun c s e => by simp only [eSl, e]) (fun e => by simp only [eSl, e]) fun x s1 w1 v ea hs1 ht1 e1 p1 => ?_
  obtain ⟨r1, o1⟩ := p1.fz
  refine ⟨w1, env, rfl, re.next r1 e1 ht1, ?_⟩
  refine Post.step (m' := eSl a lo hi env w.s) (h.next e1 ht1 fun _ _ _ _ q => q.back re.st r1 e1) (fun c s e => by rw [hs1] at e; simp only [eSl, ea, e]) (fun e => by rw [hs1] at e; simp only [eSl, ea, e]) fun l s2 w2 l' eb hs2 ht2 e2 p2 => ?_
  obtain ⟨r2, rfl⟩ := p2
  rw [hs1] at eb
  refine ⟨w2, env, rfl, (re.next r1 e1 ht1).next r2 e2 ht2, ?_⟩
  have h2 := (h.next e1 ht1 fun _ _ _ _ q => q.back re.st r1 e1)
  refine Post.step (m' := eSl a lo hi env w.s) (h2.next e2 ht2 fun _ _ _ _ q => q.back r1 r2 e2) (fun c s e => by rw [hs2] at e; simp only [eSl, ea, eb, e]) (fun e => by rw [hs2] at e; simp only [eSl, ea, eb, e]) fun u s3 w3 u' ec hs3 ht3 e3 p3 => ?_
  obtain ⟨r3, rfl⟩ := p3
  rw [hs2] at ec
  have o3 := (o1.mono (Cy.of r1 e2 ht2)).mono (Cy.of r2 e3 ht3)
  have e13 := (e1.trans e2).trans e3
  simp only [eSl, ea, eb, ec, ← hs3, fSl] at h
  split at h
  · rename_i xs ed
    obtain ⟨p, ys, k1, k2, k3⟩ := dr_lst r3 o3 ed
    exact ⟨p, ys, k1, k2, fun q hq => h { w3 with H := upd w3.H q (.lst (cutV ys l u)) } _ rfl (ht3.trans (ht2.trans ht1)) (e13.trans (new_ext hq)) ((Px.newL r3 hq (k3.cut l u)).back re.st r3 e13)⟩
  · exact h.elim
/-! kinds -/
end
/-! ### the derivations -/
section
variable {X : Cx} {A : Ga} {W : WX} {a b c : Expr} {ma mb : Ex} {mt mu : Tx} {pos : Pos} {rest : List Expr}
abbrev ME (X : Cx) (A : Ga) (W : WX) (e : Expr) (m : Ex) : Prop := PE X e (tEv (gx X A) W m)
abbrev MT (X : Cx) (A : Ga) (W : WX) (e : Expr) (m : Tx) : Prop := PT X e (tTe (gx X A) W m)
abbrev MW (X : Cx) (A : Ga) (W : WX) (e : Expr) (m : Tx) : Prop := PW X e (tTe (gx X A) W m)
abbrev MA (X : Cx) (A : Ga) (W : WX) (es : List Expr) (m : Ax) : Prop := PA X es (tAe (gx X A) W m)
abbrev MO (X : Cx) (A : Ga) (W : WX) (e : Option Expr) (m : Ox) : Prop := PO X e (tOe (gx X A) W m)
theorem mt_cmp {op : CmpOp} {f : Store → D → D → R D} {r : R2} (ho : OpR X (compareOp op) r) (hf : Snd2 (gx X A) f r) (hne : ∀ s x y c s', f s x y ≠ .exc c s') (hm : behindInMarks op b = false) (ha : ME X A W a ma) (hb : ME X A W b mb) :
    MT X A W (.Compare a [op] [b] pos) (tq (eOp2 f ma mb)) := ptW (pt_cmpR ho ha hb hm) fun _ _ _ h => tOp_snd hf hne (tq_ok h)
theorem mt_not (h : MT X A W a mt) : MT X A W (.UnaryOp .Not a pos) (tNotX mt) := ptW (pt_not h) fun _ _ _ h => tNot_ok h
theorem mw_and1 (h : MT X A W a mt) : MW X A W (.BoolOp .And [a] pos) mt := pw_and1 h
theorem mw_or1 (h : MT X A W a mt) : MW X A W (.BoolOp .Or [a] pos) mt := pw_or1 h
theorem mw_and (h : MT X A W a mt) (k : MW X A W (.BoolOp .And (b :: rest) pos) mu) : MW X A W (.BoolOp .And (a :: b :: rest) pos) (tAndX mt mu) := pwW (pw_and h k) fun _ _ _ h => tAnd_ok h
theorem mw_or (h : MT X A W a mt) (k : MW X A W (.BoolOp .Or (b :: rest) pos) mu) : MW X A W (.BoolOp .Or (a :: b :: rest) pos) (tOrX mt mu) := pwW (pw_or h k) fun _ _ _ h => tOr_ok h
theorem mw_pt (h : MW X A W a mt) : MT X A W a mt := h.pt
theorem me_if (h : MT X A W c mt) (ha : ME X A W a ma) (hb : ME X A W b mb) : ME X A W (.IfExp c a b pos) (eIf mt ma mb) := peW (pe_ifExp h ha hb) fun _ _ _ h => eIf_ok h
theorem ma_nil : MA X A W [] aNil := paW pa_nil fun _ _ _ h => aNil_ok h
theorem ma_cons {es : List Expr} {mr : Ax} (h : ME X A W a ma) (k : MA X A W es mr) (hs : starEach (a :: es) X.env = (false, eval a X.env) :: starEach es X.env := by rfl) : MA X A W (a :: es) (aCons ma mr) := paW (pa_cons h k hs) fun _ _ _ h => aCons_ok h
theorem me_tup {es : List Expr} {mr : Ax} {x1} (h : MA X A W es mr) : ME X A W (.Tuple es x1 pos) (eTup mr) := peW (pe_tup h) fun _ _ _ h => eTup_ok h
theorem me_lst {es : List Expr} {mr : Ax} (h : MA X A W es mr) : ME X A W (.List es pos) (eLst mr) := peW (pe_lst h) fun _ _ _ h => eLst_ok h
theorem mo_no : MO X A W none oNo := ⟨fun pins s σ H Q I h => po_none.run pins s σ H Q I (oNo_ok h)⟩
theorem mo_so (h : ME X A W a ma) : MO X A W (some a) (oSo ma) := ⟨fun pins s σ H Q I q => (po_some h).run pins s σ H Q I (oSo_ok q)⟩
theorem me_sl {lo hi : Option Expr} {ml mh : Ox} {p2 : Pos} (h : ME X A W a ma) (hl : MO X A W lo ml) (hh : MO X A W hi mh) : ME X A W (.Subscript a (.Slice lo hi none p2) pos) (eSl ma ml mh) := peW (pe_slice sl_list h hl hh) fun _ _ _ h => eSl_ok h
theorem me_call1 {id : String} {x : Str} {p : Pos} {f : Store → D → R D} {r : List V → Hp → VK → Prop} (hc : CallR X (.builtin id) r) (hf : Snd1 (gx X A) f fun x H Q => r [x] H Q) (hne : ∀ s x c s', f s x ≠ .exc c s') (hg : Gl X x) (hm : X.mg x = none) (hv : bootBuiltins x = some (.builtin id)) (h : ME X A W a ma)
    (hn : x ≠ "__name__" := by decide) (hdb : (x == ("__debug__" : Str)) = false := by decide) (hs : starEach [a] X.env = (false, eval a X.env) :: starEach [] X.env := by rfl) (hpl : (backTo pos (starEach [] X.env)).any (·.1) = false := by rfl) : ME X A W (.Call (.Name x p) [a] [] pos) (eOp1 f ma) :=
  peW (pe_callB hc hg hm hv (pa_cons h pa_nil hs) hn hdb hs hpl) fun _ _ _ h => tUn_snd hf hne h
theorem me_callT1 {T : String} {x : Str} {p : Pos} {f : Store → D → R D} {r : List V → Hp → VK → Prop} (hc : CallR X (.type T) r) (hf : Snd1 (gx X A) f fun x H Q => r [x] H Q) (hne : ∀ s x c s', f s x ≠ .exc c s') (hg : Gl X x) (hm : X.mg x = none) (hv : bootBuiltins x = some (.type T)) (h : ME X A W a ma)
    (hn : x ≠ "__name__" := by decide) (hdb : (x == ("__debug__" : Str)) = false := by decide) (hs : starEach [a] X.env = (false, eval a X.env) :: starEach [] X.env := by rfl) (hpl : (backTo pos (starEach [] X.env)).any (·.1) = false := by rfl) : ME X A W (.Call (.Name x p) [a] [] pos) (eOp1 f ma) :=
  peW (pe_callTy hc hg hm hv (pa_cons h pa_nil hs) hn hdb hs hpl) fun _ _ _ h => tUn_snd hf hne h
theorem me_call2 {id : String} {x : Str} {p : Pos} {f : Store → D → D → R D} {r : List V → Hp → VK → Prop} (hc : CallR X (.builtin id) r) (hf : Snd2 (gx X A) f fun x y H Q => r [x, y] H Q) (hne : ∀ s x y c s', f s x y ≠ .exc c s') (hg : Gl X x) (hm : X.mg x = none) (hv : bootBuiltins x = some (.builtin id)) (ha : ME X A W a ma) (hb : ME X A W b mb)
    (hn : x ≠ "__name__" := by decide) (hdb : (x == ("__debug__" : Str)) = false := by decide) (hs : starEach [a, b] X.env = (false, eval a X.env) :: starEach [b] X.env := by rfl) (hs2 : starEach [b] X.env = (false, eval b X.env) :: starEach [] X.env := by rfl) (hpl : (backTo pos (starEach [b] X.env)).any (·.1) = false := by rfl) : ME X A W (.Call (.Name x p) [a, b] [] pos) (eOp2 f ma mb) :=
  peW (pe_callB hc hg hm hv (pa_cons ha (pa_cons hb pa_nil hs2) hs) hn hdb hs hpl) fun _ _ _ h => tOp_snd hf hne h
end
end Gm

set_option Elab.async false
set_option linter.all false
set_option maxRecDepth 100000
set_option autoImplicit false
set_option maxHeartbeats 1000000
namespace Gm
open PySem PySem.Spec PyProof.Rows L2
/-! ### the frame's own lists -/
def OwnAt (env : Env) (σ : Sl) (i : Nat) (p : Addr) : Prop := ∃ o, env[i]? = some (some (.own o)) ∧ σ[i]? = some (some (.ref p))
def owns (env : Env) (σ : Sl) : List Addr := (List.range env.length).filterMap fun (i : Nat) => match (env[i]? : Option (Option D)), (σ[i]? : Option (Option V)) with
  | some (some (D.own _)), some (some (V.ref p)) => some p
  | _, _ => none
theorem mem_owns {env : Env} {σ : Sl} {p : Addr} : p ∈ owns env σ ↔ ∃ i, OwnAt env σ i p := by
  unfold owns
  rw [List.mem_filterMap]
  constructor
  · rintro ⟨i, _, e⟩
    refine ⟨i, ?_⟩
    split at e
    · rename_i o q a b
      cases e
      exact ⟨o, a, b⟩
    · cases e
  · rintro ⟨i, o, a, b⟩
    refine ⟨i, List.mem_range.mpr ?_, ?_⟩
    · exact (List.getElem?_eq_some_iff.mp a).1
    · rw [a, b]
structure Rm (g : Gc) (tb : List Addr) (w : Wd) (env : Env) (σ : Sl) : Prop where
  re : Re g w env σ
  T : ∀ p, p ∈ w.T ↔ p ∈ owns env σ ∨ p ∈ tb
  inj : ∀ i j p, OwnAt env σ i p → OwnAt env σ j p → i = j
  dj : ∀ p ∈ owns env σ, p ∉ tb
structure Xs (w : Wd) (env : Env) (σ : Sl) (w' : Wd) (env' : Env) (σ' : Sl) : Prop where
  e : Ext (owns env σ) w w'
  ow : ∀ p ∈ owns env' σ', p ∈ owns env σ ∨ w.H p = none
/-- what is handed back -/
def Pt (g : Gc) (ow : List Addr) (H0 : Hp) (w : Wd) : D → V → Prop
  | .own o, v => ∃ p, v = .ref p ∧ (H0 p = none ∨ p ∈ ow) ∧ p ∉ w.T ∧ Fzo o ∧ Rst g { w with T := p :: w.T } ∧ Ro g { w with T := p :: w.T } p o
  | d, v => Rst g w ∧ Rv g w d v
def PostS (g : Gc) (tb : List Addr) (W : WX) (w : Wd) (env : Env) (σ : Sl) (Dn : Ends) : SR → Prop
  | .nx env' s' => ∀ (w' : Wd) (σ' : Sl), w'.s = s' → Rm g tb w' env' σ' → Xs w env σ w' env' σ' → Dn.nx σ' w'.H
  | .bk env' s' => ∀ (w' : Wd) (σ' : Sl), w'.s = s' → Rm g tb w' env' σ' → Xs w env σ w' env' σ' → Dn.bk σ' w'.H
  | .ct env' s' => ∀ (w' : Wd) (σ' : Sl), w'.s = s' → Rm g tb w' env' σ' → Xs w env σ w' env' σ' → Dn.ct σ' w'.H
  | .exc c env' s' => ∀ (w' : Wd) (σ' : Sl), w'.s = s' → Rm g tb w' env' σ' → Xs w env σ w' env' σ' → W (.ref (g.A c)) none σ' w'.H
  | .rt d s' => ∀ (w' : Wd) (v : V), w'.s = s' → w'.T = tb → Ext (owns env σ) w w' → Pt g (owns env σ) w.H w' d v → Dn.rt v w'.H
  | .no => False
def tSt (g : Gc) (W : WX) (m : Sx) : TS := fun Dn σ H => ∃ (w : Wd) (env : Env) (tb : List Addr), w.H = H ∧ Rm g tb w env σ ∧ PostS g tb W w env σ Dn (m env w.s)
section
variable {g : Gc} {tb : List Addr} {w w' w1 w2 w3 : Wd} {env env1 env2 : Env} {σ σ1 σ2 : Sl} {W : WX} {Dn : Ends}
theorem Ro.mut {p : Addr} {o : O} (f : Fzo o) (h : Ro g w p o) : Mut (w.H p) := by
  cases o with
  | lst xs => obtain ⟨ys, e, _⟩ := h; rw [e]; trivial
  | dK xs => obtain ⟨ys, e, _⟩ := h; rw [e]; trivial
  | ins c xs => exact f.elim
  | dead => exact f.elim
  | dT a => exact f.elim
theorem Rm.own (r : Rm g tb w env σ) {p : Addr} (h : p ∈ owns env σ) : Mut (w.H p) ∧ p ∈ w.T := by
  obtain ⟨i, o, a, b⟩ := mem_owns.mp h
  obtain ⟨v, e, s⟩ := r.re.sl i _ a
  rw [b] at e
  cases e
  obtain ⟨q, e1, fo, ro, nm, t⟩ := s
  cases e1
  exact ⟨ro.mut fo, t⟩
theorem Xs.refl : Xs w env σ w env σ := ⟨Ext.refl, fun _ h => .inl h⟩
theorem Ext.toS {ex : List Addr} (e : Ext [] w w') : Ext ex w w' :=
  ⟨e.pre, fun p o h n _ => e.keep p o h n (by simp), fun p l => (e.new p l).imp id (Or.imp id fun z => nomatch z), fun p l => (e.nm p l).imp id (Or.imp id fun z => nomatch z)⟩
theorem Ext.transS {x1 x2 : List Addr} (a : Ext x1 w1 w2) (b : Ext x2 w2 w3) (hx : ∀ p ∈ x2, p ∈ x1 ∨ w1.H p = Option.none) : Ext x1 w1 w3 := by
  have bk : ∀ p, w2.H p = Option.none → w1.Live p ∨ w1.H p = Option.none ∨ p ∈ x1 := fun p l => by
    by_cases q : w1.Live p
    · exact .inl q
    · by_cases q2 : p ∈ x1
      · exact .inr (.inr q2)
      · refine .inr (.inl ?_)
        cases e : w1.H p with
        | none => rfl
        | some o => rw [a.keep p o e q q2] at l; cases l
  refine ⟨?_, fun p o h nl nx => ?_, fun p l => ?_, fun p l => ?_⟩
  · obtain ⟨t, e⟩ := a.pre
    obtain ⟨u, f⟩ := b.pre
    exact ⟨t ++ u, by rw [f, e, List.append_assoc]⟩
  · have h1 := a.keep p o h nl nx
    refine b.keep p o h1 (fun l => ?_) (fun l => ?_)
    · rcases a.new p l with l | l | l
      · exact nl l
      · rw [h] at l; cases l
      · exact nx l
    · rcases hx p l with l | l
      · exact nx l
      · rw [h] at l; cases l
  · rcases b.new p l with l | l | l
    · exact a.new p l
    · rcases bk p l with q | q | q
      · exact .inl q
      · exact .inr (.inl q)
      · exact .inr (.inr q)
    · rcases hx p l with l | l
      · exact .inr (.inr l)
      · exact .inr (.inl l)
  · rcases b.nm p l with l | l | l
    · exact a.nm p l
    · rcases bk p l with q | q | q
      · exact .inl q.mem
      · exact .inr (.inl q)
      · exact .inr (.inr q)
    · rcases hx p l with l | l
      · exact .inr (.inr l)
      · exact .inr (.inl l)
theorem backS (r : Rm g tb w env σ) (r' : Rst g w') (e : Ext (owns env σ) w w') {p : Addr} (h : w'.H p = Option.none) : w.H p = Option.none ∨ p ∈ owns env σ := by
  by_cases q2 : p ∈ owns env σ
  · exact .inr q2
  · refine .inl ?_
    cases q : w.H p with
    | none => rfl
    | some o =>
      by_cases l : w.Live p
      · have hm : p ∈ w'.m := by
          obtain ⟨t, q⟩ := e.pre
          rw [q]; exact List.mem_append_left _ l.mem
        obtain ⟨u, z⟩ := r'.trk hm
        rw [h] at z; cases z
      · have := e.keep p o q l q2
        rw [h] at this; cases this
theorem Xs.trans (r : Rm g tb w1 env σ) (r' : Rst g w2) (a : Xs w1 env σ w2 env1 σ1) (b : Xs w2 env1 σ1 w3 env2 σ2) : Xs w1 env σ w3 env2 σ2 := by
  refine ⟨a.e.transS b.e a.ow, fun p h => ?_⟩
  rcases b.ow p h with l | l
  · exact a.ow p l
  · rcases backS r r' a.e l with q | q
    · exact .inr q
    · exact .inl q
theorem Pt.imp {ow1 ow2 : List Addr} {H1 H2 : Hp} {d : D} {v : V} (h : Pt g ow1 H1 w d v) (k : ∀ p, (H1 p = Option.none ∨ p ∈ ow1) → H2 p = Option.none ∨ p ∈ ow2) : Pt g ow2 H2 w d v := by
  cases d with
  | own o => obtain ⟨p, a, b, c⟩ := h; exact ⟨p, a, k p b, c⟩
  | _ => exact h
theorem Pt.of {ow : List Addr} {H0 : Hp} {d : D} {v : V} (r : Rst g w) (h : Rv g w d v) : Pt g ow H0 w d v := by
  cases d with
  | own o => unfold Rv at h; exact h.elim
  | _ => exact ⟨r, h⟩
/-- behind a first statement -/
theorem PostS.next {m : SR} (r : Rm g tb w env σ) (r' : Rst g w1) (a : Xs w env σ w1 env1 σ1) (h : PostS g tb W w env σ Dn m) : PostS g tb W w1 env1 σ1 Dn m := by
  cases m with
  | nx e s => exact fun w' σ' h1 h2 h3 => h w' σ' h1 h2 (a.trans r r' h3)
  | bk e s => exact fun w' σ' h1 h2 h3 => h w' σ' h1 h2 (a.trans r r' h3)
  | ct e s => exact fun w' σ' h1 h2 h3 => h w' σ' h1 h2 (a.trans r r' h3)
  | exc c e s => exact fun w' σ' h1 h2 h3 => h w' σ' h1 h2 (a.trans r r' h3)
  | rt d s => exact fun w' v h1 h2 h3 h4 => h w' v h1 h2 (a.e.transS h3 a.ow) (h4.imp fun p z => by
      rcases z with z | z
      · exact backS r r' a.e z
      · rcases a.ow p z with q | q
        · exact .inr q
        · exact .inl q)
  | no => exact h
/-- behind an expression of a statement -/
theorem Rm.ev (r : Rm g tb w env σ) (r' : Rst g w') (e : Ext [] w w') (t : w'.T = w.T) : Rm g tb w' env σ :=
  ⟨r.re.next r' e t, fun p => by rw [t]; exact r.T p, r.inj, r.dj⟩
theorem Xs.ev (e : Ext [] w w') : Xs w env σ w' env σ := ⟨e.toS, fun _ h => .inl h⟩
/-- an expression's run within a statement -/
theorem ev_in {e : Ex} {Q : VK} {m : SR} (r : Rm g tb w env σ) (h : PostS g tb W w env σ Dn m) (he : ∀ c s, e env w.s = .exc c s → m = .exc c env s) (hn : e env w.s = .no → m = .no)
    (hk : ∀ (d : D) (s' : Store) (w' : Wd) (v : V), e env w.s = .ok d s' → w'.s = s' → w'.T = w.T → Ext [] w w' → Px g w.H w' d v → Q v w'.H) : tEv g W e σ w.H Q := by
  refine ⟨w, env, rfl, r.re, ?_⟩
  cases q : e env w.s with
  | ok d s' => exact fun w' v h1 h2 h3 h4 => hk d s' w' v q h1 h2 h3 h4
  | exc c s' =>
    rw [he c s' q] at h
    exact fun w' h1 h2 h3 h4 => h w' σ h1 (r.ev h4 h3 h2) (Xs.ev h3)
  | no => rw [hn q] at h; exact h
theorem ev_inT {e : Tx} {Q : Bool → Hp → Prop} {m : SR} (r : Rm g tb w env σ) (h : PostS g tb W w env σ Dn m) (he : ∀ c s, e env w.s = .exc c s → m = .exc c env s) (hn : e env w.s = .no → m = .no)
    (hk : ∀ (d : Bool) (s' : Store) (w' : Wd), e env w.s = .ok d s' → w'.s = s' → w'.T = w.T → Ext [] w w' → Rst g w' → Q d w'.H) : tTe g W e σ w.H Q := by
  refine ⟨w, env, rfl, r.re, ?_⟩
  cases q : e env w.s with
  | ok d s' => exact fun w' v h1 h2 h3 h4 => h4.2 ▸ hk d s' w' q h1 h2 h3 h4.1
  | exc c s' =>
    rw [he c s' q] at h
    exact fun w' h1 h2 h3 h4 => h w' σ h1 (r.ev h4 h3 h2) (Xs.ev h3)
  | no => rw [hn q] at h; exact h
end
/-! ### the mirror's words for statements -/
def sNil : Sx := fun env s => .nx env s
def sSeq (a b : Sx) : Sx := fun env s => match a env s with
  | .nx e s' => b e s'
  | r => r
def sEx (e : Ex) : Sx := fun env s => match e env s with
  | .ok _ s' => .nx env s'
  | .exc c s' => .exc c env s'
  | .no => .no
def putE (i : Nat) (d : D) (env : Env) : Option Env := match d with
  | .bor _ => none
  | .exn => none
  | d => some (env.set i (some d))
def sSet (i : Nat) (e : Ex) : Sx := fun env s => match e env s with
  | .ok d s' => (match putE i d env with
    | some env' => .nx env' s'
    | none => .no)
  | .exc c s' => .exc c env s'
  | .no => .no
def sIf (t : Tx) (a b : Sx) : Sx := fun env s => match t env s with
  | .ok true s' => a env s'
  | .ok false s' => b env s'
  | .exc c s' => .exc c env s'
  | .no => .no
def sRet (e : Ex) : Sx := fun env s => match e env s with
  | .ok (.bor _) _ => .no
  | .ok .exn _ => .no
  | .ok d s' => .rt d s'
  | .exc c s' => .exc c env s'
  | .no => .no
def sRetN : Sx := fun _ s => .rt .non s
/-- a name is handed back: a list of the frame's own goes along -/
def sRetV (i : Nat) : Sx := fun env s => match env[i]? with
  | some (some .exn) => .no
  | some (some d) => .rt d s
  | _ => .no
def sRaise (c : Nat) : Sx := fun env s => .exc c env s
def sBk : Sx := fun env s => .bk env s
def sCt : Sx := fun env s => .ct env s
section
variable {g : Gc} {tb : List Addr} {w w' w1 w2 w3 : Wd} {env env1 env2 : Env} {σ σ1 σ2 : Sl} {W : WX} {Dn : Ends} {H : Hp}
theorem sNil_ok (h : tSt g W sNil Dn σ H) : tNext Dn σ H := by
  obtain ⟨w, env, tb, rfl, r, h⟩ := h
  exact h w σ rfl r Xs.refl
theorem sSeq_ok {a b : Sx} (h : tSt g W (sSeq a b) Dn σ H) : tSeq (tSt g W a) (tSt g W b) Dn σ H := by
  obtain ⟨w, env, tb, rfl, r, h⟩ := h
  refine ⟨w, env, tb, rfl, r, ?_⟩
  cases q : a env w.s with
  | nx e s =>
    simp only [sSeq, q] at h
    intro w1 σ1 h1 r1 x1
    refine ⟨w1, e, tb, rfl, r1, ?_⟩
    rw [h1]
    exact h.next r r1.re.st x1
  | bk e s => simp only [sSeq, q] at h; exact h
  | ct e s => simp only [sSeq, q] at h; exact h
  | exc c e s => simp only [sSeq, q] at h; exact h
  | rt d s => simp only [sSeq, q] at h; exact h
  | no => simp only [sSeq, q] at h; exact h
theorem sIf_ok {t : Tx} {a b : Sx} (h : tSt g W (sIf t a b) Dn σ H) : tIfS (tTe g W t) (tSt g W a) (tSt g W b) Dn σ H := by
  obtain ⟨w, env, tb, rfl, r, h⟩ := h
  refine ev_inT (m := sIf t a b env w.s) r h (fun c s q => by simp only [sIf, q]) (fun q => by simp only [sIf, q]) fun d s' w' q h1 h2 h3 h4 => ?_
  have r' := r.ev h4 h3 h2
  cases d with
  | true =>
    simp only [sIf, q, ← h1] at h
    exact iteT ⟨w', env, tb, rfl, r', h.next r h4 (Xs.ev h3)⟩
  | false =>
    simp only [sIf, q, ← h1] at h
    exact iteF ⟨w', env, tb, rfl, r', h.next r h4 (Xs.ev h3)⟩
theorem Rv.T {T : List Addr} {d : D} {v : V} (r : Rst g w) (h : Rv g w d v) (hT : ∀ p ∈ T, p ∈ w.T) : Rv g { w with T := T } d v := Rv.mono (Cy.sub r hT) _ _ h
theorem sRet_ok {e : Ex} (h : tSt g W (sRet e) Dn σ H) : tRet (tEv g W e) Dn σ H := by
  obtain ⟨w, env, tb, rfl, r, h⟩ := h
  refine ev_in (m := sRet e env w.s) r h (fun c s q => by simp only [sRet, q]) (fun q => by simp only [sRet, q]) fun d s' w' v q h1 h2 h3 h4 => ?_
  have hT : ∀ p ∈ tb, p ∈ w'.T := fun p hp => by rw [h2]; exact (r.T p).mpr (.inr hp)
  have e' : Ext (owns env σ) w { w' with T := tb } := ⟨h3.pre, (h3.toS (ex := owns env σ)).keep, (h3.toS (ex := owns env σ)).new, (h3.toS (ex := owns env σ)).nm⟩
  cases d with
  | bor o => simp only [sRet, q] at h; exact h.elim
  | exn => simp only [sRet, q] at h; exact h.elim
  | own o =>
    simp only [sRet, q] at h
    obtain ⟨p, k1, k2, k3, k4, k5, k6⟩ := h4
    have hT2 : ∀ x ∈ p :: tb, x ∈ p :: w'.T := fun x hx => by
      rcases List.mem_cons.mp hx with e | e
      · rw [e]; exact List.mem_cons_self
      · exact List.mem_cons_of_mem _ (hT x e)
    refine h { w' with T := tb } v h1 rfl e' ⟨p, k1, .inl k2, fun z => k3 (hT p z), k4, k5.inT (w := { w' with T := p :: w'.T }) hT2, ?_⟩
    exact k6.mono (ex := []) (Cy.sub (w := { w' with T := p :: w'.T }) k5 hT2) (nolive (k5.tt p List.mem_cons_self).1) (by simp)
  | non => simp only [sRet, q] at h; exact h { w' with T := tb } v h1 rfl e' (.of (h4.rst.inT hT) (Rv.T h4.1 h4.2 hT))
  | bl b => simp only [sRet, q] at h; exact h { w' with T := tb } v h1 rfl e' (.of (h4.rst.inT hT) (Rv.T h4.1 h4.2 hT))
  | int b => simp only [sRet, q] at h; exact h { w' with T := tb } v h1 rfl e' (.of (h4.rst.inT hT) (Rv.T h4.1 h4.2 hT))
  | str b => simp only [sRet, q] at h; exact h { w' with T := tb } v h1 rfl e' (.of (h4.rst.inT hT) (Rv.T h4.1 h4.2 hT))
  | tup b => simp only [sRet, q] at h; exact h { w' with T := tb } v h1 rfl e' (.of (h4.rst.inT hT) (Rv.T h4.1 h4.2 hT))
  | lst b => simp only [sRet, q] at h; exact h { w' with T := tb } v h1 rfl e' (.of (h4.rst.inT hT) (Rv.T h4.1 h4.2 hT))
  | scr b => simp only [sRet, q] at h; exact h { w' with T := tb } v h1 rfl e' (.of (h4.rst.inT hT) (Rv.T h4.1 h4.2 hT))
  | dct b => simp only [sRet, q] at h; exact h { w' with T := tb } v h1 rfl e' (.of (h4.rst.inT hT) (Rv.T h4.1 h4.2 hT))
  | ref b => simp only [sRet, q] at h; exact h { w' with T := tb } v h1 rfl e' (.of (h4.rst.inT hT) (Rv.T h4.1 h4.2 hT))
/-! ### a slot is stored -/
theorem ownAt_set {i j : Nat} {p : Addr} {d : D} {v : V} (h : OwnAt (env.set i (some d)) (σ.set i (some v)) j p) : (j = i ∧ (∃ o, d = .own o) ∧ v = .ref p) ∨ (j ≠ i ∧ OwnAt env σ j p) := by
  obtain ⟨o, a, b⟩ := h
  by_cases e : j = i
  · subst e
    have h1 : j < env.length := by
      have := (List.getElem?_eq_some_iff.mp a).1
      rwa [List.length_set] at this
    have h2 : j < σ.length := by
      have := (List.getElem?_eq_some_iff.mp b).1
      rwa [List.length_set] at this
    rw [List.getElem?_set_self h1] at a
    rw [List.getElem?_set_self h2] at b
    refine .inl ⟨rfl, ⟨o, by simpa using a⟩, by simpa using b⟩
  · rw [List.getElem?_set_ne (Ne.symm e)] at a b
    exact .inr ⟨e, o, a, b⟩
/-- the world with other taboos -/
abbrev Wd.wT (w : Wd) (T : List Addr) : Wd := { w with T := T }
theorem Rm.set {i : Nat} {d : D} {v : V} {H0 : Hp} (r : Rm g tb w env σ) (e : Ext [] w w') (t : w'.T = w.T) (h : Px g w.H w' d v) (nb : ∀ o, d ≠ .bor o) :
    Rm g tb (w'.wT (owns (env.set i (some d)) (σ.set i (some v)) ++ tb)) (env.set i (some d)) (σ.set i (some v)) ∧ Xs w env σ (w'.wT (owns (env.set i (some d)) (σ.set i (some v)) ++ tb)) (env.set i (some d)) (σ.set i (some v)) := by
  generalize hT : owns (env.set i (some d)) (σ.set i (some v)) ++ tb = T
  have mT : ∀ p, p ∈ T ↔ p ∈ owns (env.set i (some d)) (σ.set i (some v)) ∨ p ∈ tb := fun p => by rw [← hT, List.mem_append]
  -- a wider world in which the new list is taboo
  obtain ⟨T2, hT2, rT2, sT2, cT2⟩ : ∃ T2 : List Addr, (∀ p ∈ w'.T, p ∈ T2) ∧ Rst g (w'.wT T2) ∧ Sv g (w'.wT T2) d v ∧ (∀ p ∈ T2, p ∈ w'.T ∨ (∃ o, d = .own o) ∧ v = .ref p ∧ w.H p = Option.none) := by
    cases d with
    | own o =>
      obtain ⟨p, k1, k2, k3, k4, k5, k6⟩ := h
      refine ⟨p :: w'.T, fun q hq => List.mem_cons_of_mem _ hq, k5, ⟨p, k1, k4, k6, (k5.tt p List.mem_cons_self).1, List.mem_cons_self⟩, fun q hq => ?_⟩
      rcases List.mem_cons.mp hq with z | z
      · subst z; exact .inr ⟨⟨o, rfl⟩, k1, k2⟩
      · exact .inl z
    | bor o => exact absurd rfl (nb o)
    | non => exact ⟨w'.T, fun _ z => z, h.1, h.2, fun _ z => .inl z⟩
    | bl b => exact ⟨w'.T, fun _ z => z, h.1, h.2, fun _ z => .inl z⟩
    | int b => exact ⟨w'.T, fun _ z => z, h.1, h.2, fun _ z => .inl z⟩
    | str b => exact ⟨w'.T, fun _ z => z, h.1, h.2, fun _ z => .inl z⟩
    | tup b => exact ⟨w'.T, fun _ z => z, h.1, h.2, fun _ z => .inl z⟩
    | lst b => exact ⟨w'.T, fun _ z => z, h.1, h.2, fun _ z => .inl z⟩
    | scr b => exact ⟨w'.T, fun _ z => z, h.1, h.2, fun _ z => .inl z⟩
    | dct b => exact ⟨w'.T, fun _ z => z, h.1, h.2, fun _ z => .inl z⟩
    | ref b => exact ⟨w'.T, fun _ z => z, h.1, h.2, fun _ z => .inl z⟩
    | exn => exact ⟨w'.T, fun _ z => z, h.1, h.2, fun _ z => .inl z⟩
  -- every slot in that world
  have c2 : Cy g [] w (w'.wT T2) := ⟨r.re.st, ⟨e.pre, e.keep, e.new, e.nm⟩, by simp, by simp, fun p hp => by
    rcases cT2 p hp with z | ⟨_, _, z⟩
    · exact .inl (t ▸ z)
    · exact .inr z⟩
  have ownT : ∀ j p, OwnAt (env.set i (some d)) (σ.set i (some v)) j p → p ∈ T2 := fun j p q => by
    rcases ownAt_set q with ⟨rfl, ⟨o, rfl⟩, rfl⟩ | ⟨_, q⟩
    · obtain ⟨p', e1, _, _, _, z⟩ := sT2; cases e1; exact z
    · exact hT2 p (by rw [t]; exact (r.T p).mpr (.inl (mem_owns.mpr ⟨j, q⟩)))
  have subT : ∀ p ∈ T, p ∈ (w'.wT T2).T := fun p hp => by
    rcases (mT p).mp hp with z | z
    · obtain ⟨j, z⟩ := mem_owns.mp z
      exact ownT j p z
    · exact hT2 p (by rw [t]; exact (r.T p).mpr (.inr z))
  have c3 : Cy g [] (w'.wT T2) (w'.wT T) := Cy.sub rT2 subT
  have fin : ∀ (j : Nat) (d' : D) (v' : V), (env.set i (some d))[j]? = some (some d') → (σ.set i (some v))[j]? = some (some v') → Sv g (w'.wT T2) d' v' → Sv g (w'.wT T) d' v' := fun j d' v' ea eb z => by
    cases d' with
    | own o =>
      obtain ⟨p, e1, k2, k3, k4, k5⟩ := z
      subst e1
      exact ⟨p, rfl, k2, k3.mono c3 (nolive k4) (by simp), k4, (mT p).mpr (.inl (mem_owns.mpr ⟨j, o, ea, eb⟩))⟩
    | bor o => exact Rv.mono c3 _ _ z
    | non => exact Rv.mono c3 _ _ z
    | bl b => exact Rv.mono c3 _ _ z
    | int b => exact Rv.mono c3 _ _ z
    | str b => exact Rv.mono c3 _ _ z
    | tup b => exact Rv.mono c3 _ _ z
    | lst b => exact Rv.mono c3 _ _ z
    | scr b => exact Rv.mono c3 _ _ z
    | dct b => exact Rv.mono c3 _ _ z
    | ref b => exact Rv.mono c3 _ _ z
    | exn => exact z
  have fresh : ∀ j p, j ≠ i → OwnAt env σ j p → ∀ o, d = .own o → v = .ref p → False := fun j p _ q o ed ev => by
    subst ed
    obtain ⟨p', e1, k2, _⟩ := h
    rw [ev] at e1; cases e1
    obtain ⟨m, _⟩ := r.own (mem_owns.mpr ⟨j, q⟩)
    rw [k2] at m; exact m
  refine ⟨⟨⟨rT2.inT subT, by rw [List.length_set, List.length_set]; exact r.re.len, fun j d' ej => ?_⟩, mT, fun a b p qa qb => ?_, fun p hp => ?_⟩, ⟨⟨e.pre, (e.toS (ex := owns env σ)).keep, (e.toS (ex := owns env σ)).new, (e.toS (ex := owns env σ)).nm⟩, fun p hp => ?_⟩⟩
  · by_cases q : j = i
    · subst q
      have h1 : j < env.length := by
        have := (List.getElem?_eq_some_iff.mp ej).1
        rwa [List.length_set] at this
      have h2 : (σ.set j (some v))[j]? = some (some v) := by rw [List.getElem?_set_self (r.re.len ▸ h1)]
      have ej' := ej
      rw [List.getElem?_set_self h1] at ej'
      cases ej'
      exact ⟨v, h2, fin j d v ej h2 sT2⟩
    · have ej' := ej
      rw [List.getElem?_set_ne (Ne.symm q)] at ej'
      obtain ⟨v', a, b⟩ := r.re.sl j d' ej'
      have h2 : (σ.set i (some v))[j]? = some (some v') := by rw [List.getElem?_set_ne (Ne.symm q)]; exact a
      exact ⟨v', h2, fin j d' v' ej h2 (b.mono c2 fun p hp => hT2 p (by rw [t]; exact hp))⟩
  · rcases ownAt_set qa with ⟨ea, ⟨o, eo⟩, ev⟩ | ⟨na, qa2⟩
    · rcases ownAt_set qb with ⟨eb, _, _⟩ | ⟨nb', qb2⟩
      · rw [ea, eb]
      · exact (fresh b p nb' qb2 o eo ev).elim
    · rcases ownAt_set qb with ⟨eb, ⟨o, eo⟩, ev⟩ | ⟨nb', qb2⟩
      · exact (fresh a p na qa2 o eo ev).elim
      · exact r.inj a b p qa2 qb2
  · obtain ⟨j, q⟩ := mem_owns.mp hp
    rcases ownAt_set q with ⟨rfl, ⟨o, rfl⟩, rfl⟩ | ⟨_, q⟩
    · obtain ⟨p', e1, _, k3, _⟩ := h
      cases e1
      exact fun z => k3 (by rw [t]; exact (r.T p).mpr (.inr z))
    · exact r.dj p (mem_owns.mpr ⟨j, q⟩)
  · obtain ⟨j, q⟩ := mem_owns.mp hp
    rcases ownAt_set q with ⟨rfl, ⟨o, rfl⟩, rfl⟩ | ⟨_, q⟩
    · obtain ⟨p', e1, k2, _⟩ := h
      cases e1
      exact .inr k2
    · exact .inl (mem_owns.mpr ⟨j, q⟩)
theorem sSet_ok {i : Nat} {e : Ex} (h : tSt g W (sSet i e) Dn σ H) : tAsg (tEv g W e) (gName i) Dn σ H := by
  obtain ⟨w, env, tb, rfl, r, h⟩ := h
  refine ev_in (m := sSet i e env w.s) r h (fun c s q => by simp only [sSet, q]) (fun q => by simp only [sSet, q]) fun d s' w' v q h1 h2 h3 h4 => ?_
  simp only [sSet, q] at h
  by_cases hx : d = .exn
  · subst hx; simp only [putE] at h; exact h.elim
  have key : (∀ o, d ≠ .bor o) → putE i d env = some (env.set i (some d)) := fun nb => by
    cases d with
    | bor o => exact absurd rfl (nb o)
    | exn => exact absurd rfl hx
    | _ => rfl
  by_cases nb : ∀ o, d ≠ .bor o
  · rw [key nb] at h
    obtain ⟨a, b⟩ := r.set (i := i) (H0 := w.H) h3 h2 h4 nb
    exact h (w'.wT (owns (env.set i (some d)) (σ.set i (some v)) ++ tb)) (σ.set i (some v)) h1 a b
  · cases d with
    | bor o => simp only [putE] at h; exact h.elim
    | _ => exact absurd (fun o z => nomatch z) nb
end
section
variable {X : Cx} {A : Ga} {W : WX} {a b c : Expr} {ma mb : Ex} {mt mu : Tx} {st : Stmt} {ss : List Stmt} {m n : Sx} {pos : Pos}
theorem psW {t t' : TS} (h : PS X st t) (k : ∀ D σ H, t' D σ H → t D σ H) : PS X st t' := ⟨fun pins s σ H D I q => h.run pins s σ H D I (k D σ H q)⟩
theorem pssW {t t' : TS} (h : PSs X ss t) (k : ∀ D σ H, t' D σ H → t D σ H) : PSs X ss t' := ⟨fun pins s σ H D I q => h.run pins s σ H D I (k D σ H q)⟩
abbrev MS (X : Cx) (A : Ga) (W : WX) (st : Stmt) (m : Sx) : Prop := PS X st (tSt (gx X A) W m)
abbrev MSs (X : Cx) (A : Ga) (W : WX) (ss : List Stmt) (m : Sx) : Prop := PSs X ss (tSt (gx X A) W m)
theorem mss_nil : MSs X A W [] sNil := pssW pss_nil fun _ _ _ h => sNil_ok h
theorem mss_one (h : MS X A W st m) : MSs X A W [st] m := pss_one h
theorem mss_cons (h : MS X A W st m) (k : MSs X A W ss n) : MSs X A W (st :: ss) (sSeq m n) := pssW (pss_cons h k) fun _ _ _ h => sSeq_ok h
theorem ms_if {x y : List Stmt} (h : MT X A W c mt) (k : MSs X A W x m) (l : MSs X A W y n) : MS X A W (.If c x y pos) (sIf mt m n) := psW (ps_if h k l) fun _ _ _ h => sIf_ok h
theorem ms_ret (h : ME X A W a ma) : MS X A W (.Return (some a) pos) (sRet ma) := psW (ps_ret h) fun _ _ _ h => sRet_ok h
theorem ms_set (i : Nat) {x : Str} {p : Pos} (hN : X.N.Nodup) (h : ME X A W a ma) (hi : X.N[i]? = some x := by rfl) (hx : Loc X.env.scope x := by first | exact Or.inl rfl | exact Or.inr rfl) (hs : swapsWith a (some (.Name x p)) pos.line X.env = pure false := by rfl) (hf : X.fn x = true ∨ X.env.scope.names.lookup x = some .local := by first | exact .inl rfl | exact .inr rfl | assumption) :
    MS X A W (.Assign [.Name x p] a pos) (sSet i ma) := psW (ps_set hN hi hx h hs hf) fun _ _ _ h => sSet_ok h
theorem ms_raise {k : Nat} (hc : X.calm = true) (tk : Takes X W) (he : PMk X a (fun _ H Q => Q (.ref (A.cl k)) none H)) : MS X A W (.Raise (some a) none pos) (sRaise k) := psW (ps_raise hc tk he) fun D σ H h => by
  obtain ⟨w, env, tb, rfl, r, h⟩ := h
  exact h w σ rfl r Xs.refl
end
end Gm

set_option Elab.async false
set_option linter.all false
set_option maxRecDepth 100000
set_option autoImplicit false
set_option maxHeartbeats 1000000
namespace Gm
open PySem PySem.Spec PyProof.Rows L2
/-! ### targets -/
inductive Tg where
  | nm (i : Nat) | tp (is : List Nat)
def setsE : List Nat → List D → Env → Option Env
  | [], [], env => some env
  | i :: is, d :: ds, env => setsE is ds (env.set i (some d))
  | _, _, _ => none
def setsV : List Nat → List V → Sl → Sl
  | i :: is, v :: vs, σ => setsV is vs (σ.set i (some v))
  | _, _, σ => σ
def tgE : Tg → D → Env → Option Env
  | .nm i, d, env => (snk d).map fun d => env.set i (some d)
  | .tp is, .tup ds, env => setsE is ds env
  | .tp _, _, _ => none
def gNames : List Nat → TGs
  | [] => gNil
  | i :: r => gCons (gName i) (gNames r)
def tgT (K : PySem.W.Frag) : Tg → TG
  | .nm i => gName i
  | .tp is => gTup K is.length (gNames is)
section
variable {g : Gc} {tb : List Addr} {w w' w1 w2 w3 : Wd} {env env' env1 env2 : Env} {σ σ' σ1 σ2 : Sl} {W : WX} {Dn : Ends} {H : Hp}
theorem Rm.cy (r : Rm g tb w env σ) (r' : Rm g tb w' env' σ') (x : Xs w env σ w' env' σ') : Cy g (owns env σ) w w' :=
  ⟨r.re.st, x.e, fun p h => (r.own h).1, fun p h => (r.own h).2, fun p h => by
    rcases (r'.T p).mp h with z | z
    · exact (x.ow p z).imp (fun q => (r.own q).2) id
    · exact .inl ((r.T p).mpr (.inr z))⟩
theorem Rv.nb {d : D} {v : V} (h : Rv g w d v) : ∀ o, d ≠ .bor o := fun o e => by subst e; unfold Rv at h; exact h
theorem Rm.setP {i : Nat} {d : D} {v : V} (r : Rm g tb w env σ) (h : Rv g w d v) :
    ∃ w', w'.s = w.s ∧ w'.H = w.H ∧ Rm g tb w' (env.set i (some d)) (σ.set i (some v)) ∧ Xs w env σ w' (env.set i (some d)) (σ.set i (some v)) := by
  obtain ⟨a, b⟩ := r.set (i := i) (H0 := w.H) Ext.refl rfl (Px.of (H0 := w.H) r.re.st h) h.nb
  exact ⟨w.wT (owns (env.set i (some d)) (σ.set i (some v)) ++ tb), rfl, rfl, a, b⟩
theorem sets_ok : ∀ (is : List Nat) (ds : List D) (vs : List V) (w : Wd) (env env' : Env) (σ : Sl), Rm g tb w env σ → RvL g w ds vs → setsE is ds env = some env' →
    vs.length = is.length ∧ ∃ w', w'.s = w.s ∧ w'.H = w.H ∧ Rm g tb w' env' (setsV is vs σ) ∧ Xs w env σ w' env' (setsV is vs σ)
  | [], [], vs, w, env, env', σ, r, h, e => by
    unfold RvL at h; subst h
    cases e
    exact ⟨rfl, w, rfl, rfl, r, Xs.refl⟩
  | i :: is, d :: ds, vs, w, env, env', σ, r, h, e => by
    unfold RvL at h
    obtain ⟨v, t, rfl, h1, h2⟩ := h
    obtain ⟨w1, e1, e2, r1, x1⟩ := r.setP (i := i) h1
    obtain ⟨hl, w2, e3, e4, r2, x2⟩ := sets_ok is ds t w1 _ env' _ r1 (RvL.mono (r.cy r1 x1) _ _ h2) e
    exact ⟨by simp [hl], w2, e3.trans e1, e4.trans e2, r2, x1.trans r r1.re.st x2⟩
  | [], _ :: _, _, _, _, _, _, _, _, e => by cases e
  | _ :: _, [], _, _, _, _, _, _, _, e => by cases e
theorem gNames_ok {H : Hp} {Q : Sl → Hp → Prop} : ∀ {is : List Nat} {vs : List V} {σ : Sl}, vs.length = is.length → Q (setsV is vs σ) H → gNames is vs σ H Q
  | [], [], σ, _, h => ⟨rfl, h⟩
  | [], _ :: _, _, e, _ => by cases e
  | _ :: _, [], _, e, _ => by cases e
  | i :: is, v :: vs, σ, e, h => ⟨v, vs, rfl, gNames_ok (by simpa using e) h⟩
theorem tg_ok {tg : Tg} {d : D} {v : V} {Q : Sl → Hp → Prop} (r : Rm g tb w env σ) (h : Rv g w d v) (e : tgE tg d env = some env')
    (k : ∀ (w' : Wd) (σ' : Sl), w'.s = w.s → w'.H = w.H → Rm g tb w' env' σ' → Xs w env σ w' env' σ' → Q σ' w'.H) : tgT g.K tg v σ w.H Q := by
  cases tg with
  | nm i =>
    have e' : env' = env.set i (some d) := by
      cases d with
      | own o => unfold Rv at h; exact h.elim
      | bor o => unfold Rv at h; exact h.elim
      | exn => unfold Rv at h; exact h.elim
      | _ => simp only [tgE, snk, Option.map_some, Option.some.injEq] at e; exact e.symm
    subst e'
    obtain ⟨w1, e1, e2, r1, x1⟩ := r.setP (i := i) h
    show Q (σ.set i (some v)) w.H
    rw [← e2]
    exact k w1 _ e1 e2 r1 x1
  | tp is =>
    cases d with
    | tup ds =>
      unfold Rv at h
      obtain ⟨p, ys, rfl, hp, hl⟩ := h
      obtain ⟨l, w1, e1, e2, r1, x1⟩ := sets_ok is ds ys w env env' σ r hl e
      refine ⟨p, ys, rfl, hp.sq, l, gNames_ok l ?_⟩
      rw [← e2]
      exact k w1 _ e1 e2 r1 x1
    | _ => cases e
end
def sSetT (is : List Nat) (e : Ex) : Sx := fun env s => match e env s with
  | .ok d s' => (match tgE (.tp is) d env with
    | some env' => .nx env' s'
    | none => .no)
  | .exc c s' => .exc c env s'
  | .no => .no
/-! ### what is walked -/
inductive Itr where
  | seq (d : D) | rng (lo : Int) (n : Nat)
def Itr.at (s : Store) : Itr → Nat → Option (Option D)
  | .seq d, i => (seqD s d).map fun xs => xs[i]?
  | .rng lo n, i => some (if i < n then some (.int (lo + (i : Nat))) else none)
def Itr.fuel (s : Store) : Itr → Nat
  | .seq d => ((seqD s d).getD []).length + 1
  | .rng _ n => n + 1
abbrev Ix := Env → Store → R Itr
def iSeq (e : Ex) : Ix := fun env s => match e env s with
  | .ok d s' => (match snk (fz d) with
    | some d => (match seqD s' d with
      | some _ => .ok (.seq d) s'
      | none => .no)
    | none => .no)
  | .exc c s' => .exc c s'
  | .no => .no
def rOk (i : Int) : Bool := decide (-4611686018427387904 ≤ i) && decide (i < 4611686018427387904)
def xRng1 (e : Ex) : Ix := fun env s => match e env s with
  | .ok (.int j) s' => if rOk j = true then .ok (.rng 0 j.toNat) s' else .no
  | .ok _ _ => .no
  | .exc c s' => .exc c s'
  | .no => .no
def xRng2 (a b : Ex) : Ix := fun env s => match a env s with
  | .ok (.int i) s1 => (match b env s1 with
    | .ok (.int j) s2 => if rOk i = true ∧ rOk j = true then .ok (.rng i (j - i).toNat) s2 else .no
    | .ok _ _ => .no
    | .exc c s' => .exc c s'
    | .no => .no)
  | .ok _ _ => .no
  | .exc c s' => .exc c s'
  | .no => .no
def forX (body : Sx) (tg : Tg) (it : Itr) : Nat → Nat → Env → Store → SR
  | 0, _, _, _ => .no
  | f + 1, i, env, s => match it.at s i with
    | none => .no
    | some none => .nx env s
    | some (some d) => match tgE tg d env with
      | none => .no
      | some env1 => match body env1 s with
        | .nx e s' => forX body tg it f (i + 1) e s'
        | .ct e s' => forX body tg it f (i + 1) e s'
        | .bk e s' => .nx e s'
        | r => r
def sFor (tg : Tg) (ix : Ix) (body : Sx) : Sx := fun env s => match ix env s with
  | .ok it s' => forX body tg it (it.fuel s') 0 env s'
  | .exc c s' => .exc c env s'
  | .no => .no
def whileX (t : Tx) (body : Sx) : Nat → Env → Store → SR
  | 0, _, _ => .no
  | f + 1, env, s => match t env s with
    | .ok true s1 => (match body env s1 with
      | .nx e s' => whileX t body f e s'
      | .ct e s' => whileX t body f e s'
      | .bk e s' => .nx e s'
      | r => r)
    | .ok false s1 => .nx env s1
    | .exc c s' => .exc c env s'
    | .no => .no
def sWhile (n : Nat) (t : Tx) (body : Sx) : Sx := whileX t body n
section
variable {g : Gc} {tb : List Addr} {w w' w1 w2 w3 : Wd} {env env' env1 env2 : Env} {σ σ' σ1 σ2 : Sl} {W : WX} {Dn : Ends} {H : Hp}
theorem sSetT_ok {is : List Nat} {e : Ex} (h : tSt g W (sSetT is e) Dn σ H) : tAsg (tEv g W e) (tgT g.K (.tp is)) Dn σ H := by
  obtain ⟨w, env, tb, rfl, r, h⟩ := h
  refine ev_in (m := sSetT is e env w.s) r h (fun c s q => by simp only [sSetT, q]) (fun q => by simp only [sSetT, q]) fun d s' w' v q h1 h2 h3 h4 => ?_
  cases k : tgE (.tp is) d env with
  | none => simp only [sSetT, q, k] at h; exact h.elim
  | some env' =>
    simp only [sSetT, q, k] at h
    have rv : Rv g w' d v := by
      cases d with
      | tup ds => exact h4.2
      | _ => cases k
    have r' := r.ev h4.rst h3 h2
    exact tg_ok r' rv k fun w2 σ2 e1 e2 r2 x2 => h w2 σ2 (e1.trans h1) r2 ((Xs.ev h3).trans r r'.re.st x2)
/-- the signs of a text, each a text -/
def sgD (x : Str) : List D := x.cps.toList.map fun c => D.str ⟨#[c]⟩
def ItR (g : Gc) (w : Wd) : Itr → L2.It → Prop
  | .seq d, J => (∃ p, Rv g w d (.ref p) ∧ ((J = Itl g.K p ∧ ∀ xs, d ≠ .tup xs) ∨ (J = Itt g.K p ∧ ∃ xs, d = .tup xs))) ∨ ∃ x, d = .tup (sgD x) ∧ J = Its x
  | .rng lo n, J => J = L2.Itr lo n
theorem ItR.mono {it : Itr} {J : L2.It} {ex : List Addr} (c : Cy g ex w w') (h : ItR g w it J) : ItR g w' it J := by
  cases it with
  | seq d =>
    rcases h with ⟨p, a, b⟩ | h
    · exact .inl ⟨p, Rv.mono c _ _ a, b⟩
    · exact .inr h
  | rng lo n => exact h
theorem seqD_l {d : D} {xs : List D} (n : ∀ zs, d ≠ .tup zs) (e : seqD w.s d = some xs) : dr w.s d = some (.lst xs) := by
  unfold seqD at e
  split at e
  · rename_i zs; exact absurd rfl (n zs)
  · split at e
    · rename_i ed; cases e; exact ed
    · cases e
theorem ItR.stop {it : Itr} {J : L2.It} {i : Nat} (r : Rst g w) (h : ItR g w it J) (e : it.at w.s i = some none) : J.stop i w.H := by
  cases it with
  | rng lo n =>
    cases h
    simp only [Itr.at, Option.some.injEq] at e
    show n ≤ i
    split at e
    · cases e
    · omega
  | seq d =>
    rcases h with ⟨p, rv, z⟩ | ⟨x, rfl, rfl⟩
    case inr =>
      simp only [Itr.at, seqD, Option.map_some, Option.some.injEq, sgD] at e
      have hl := List.getElem?_eq_none_iff.mp e
      rw [List.length_map, Array.length_toList] at hl
      exact hl
    simp only [Itr.at] at e
    cases q : seqD w.s d with
    | none => rw [q] at e; cases e
    | some xs =>
      rw [q] at e
      simp only [Option.map_some, Option.some.injEq] at e
      have hl : xs.length ≤ i := List.getElem?_eq_none_iff.mp e
      rcases z with ⟨rfl, n⟩ | ⟨rfl, zs, rfl⟩
      · obtain ⟨p', ys, e1, e2, e3⟩ := dr_lst r rv.po (seqD_l n q)
        cases e1
        exact ⟨ys, e2, by rw [e3.length]; exact hl⟩
      · cases q
        unfold Rv at rv
        obtain ⟨p', ys, e1, e2, e3⟩ := rv
        cases e1
        exact ⟨ys, e2.sq, by rw [e3.length]; exact hl⟩
theorem ItR.go {it : Itr} {J : L2.It} {i : Nat} {d : D} (r : Rst g w) (h : ItR g w it J) (e : it.at w.s i = some (some d)) : J.go i w.H ∧ ∀ x H', J.yld i w.H x H' → H' = w.H ∧ Rv g w d x := by
  cases it with
  | rng lo n =>
    cases h
    simp only [Itr.at, Option.some.injEq] at e
    split at e
    · rename_i hi
      cases e
      refine ⟨hi, fun x H' y => ⟨y.1, ?_⟩⟩
      obtain ⟨_, y⟩ := y
      subst y
      exact rv_int
    · cases e
  | seq c =>
    rcases h with ⟨p, rv, z⟩ | ⟨x, rfl, rfl⟩
    case inr =>
      simp only [Itr.at, seqD, Option.map_some, Option.some.injEq, sgD] at e
      rw [List.getElem?_map] at e
      obtain ⟨k, e1, rfl⟩ := Option.map_eq_some_iff.mp e
      rw [Array.getElem?_toList] at e1
      refine ⟨(Array.getElem?_eq_some_iff.mp e1).1, fun y H' z => ?_⟩
      obtain ⟨rfl, k', z1, rfl⟩ := z
      rw [e1] at z1; cases z1
      exact ⟨rfl, rv_str⟩
    simp only [Itr.at] at e
    cases q : seqD w.s c with
    | none => rw [q] at e; cases e
    | some xs =>
      rw [q] at e
      simp only [Option.map_some, Option.some.injEq] at e
      rcases z with ⟨rfl, n⟩ | ⟨rfl, zs, rfl⟩
      · obtain ⟨p', ys, e1, e2, e3⟩ := dr_lst r rv.po (seqD_l n q)
        cases e1
        obtain ⟨v, k1, k2⟩ := e3.get e
        refine ⟨⟨ys, v, e2, k1⟩, fun x H' y => ⟨y.1, ?_⟩⟩
        have := y.2 ys e2
        rw [k1] at this; cases this
        exact k2
      · cases q
        unfold Rv at rv
        obtain ⟨p', ys, e1, e2, e3⟩ := rv
        cases e1
        obtain ⟨v, k1, k2⟩ := e3.get e
        refine ⟨⟨ys, v, e2.sq, k1⟩, fun x H' y => ⟨y.1, ?_⟩⟩
        have := y.2 ys e2.sq
        rw [k1] at this; cases this
        exact k2
def Pi (g : Gc) (_ : Hp) (w : Wd) (a : Itr) (J : L2.It) : Prop := Rst g w ∧ ItR g w a J
def tIe (g : Gc) (W : WX) (e : Ix) : TI := fun σ H Q => ∃ (w : Wd) (env : Env), w.H = H ∧ Re g w env σ ∧ Post g (Pi g) W w σ Q (e env w.s)
theorem iRng1_ok {e : Ex} {Q : L2.It → Hp → Prop} (h : tIe g W (xRng1 e) σ H Q) : L2.iRng1 (tCons (tEv g W e) tNil) σ H Q := by
  obtain ⟨w, env, rfl, re, h⟩ := h
  refine ⟨w, env, rfl, re, ?_⟩
  refine Post.step (m' := xRng1 e env w.s) h (fun c s q => by simp only [xRng1, q]) (fun q => by simp only [xRng1, q]) fun x s1 w1 v ea hs1 ht1 e1 p1 => ?_
  cases x with
  | int j =>
    simp only [xRng1, ea] at h
    split at h
    · rename_i hj
      unfold rOk at hj
      simp only [Bool.and_eq_true, decide_eq_true_eq] at hj
      have rv : Rv g w1 (.int j) v := p1.2
      unfold Rv at rv
      subst rv
      exact ⟨j, rfl, by omega, by omega, h w1 _ hs1 ht1 e1 ⟨p1.1, rfl⟩⟩
    · exact h.elim
  | _ => simp only [xRng1, ea] at h; exact h.elim
theorem iSeq_ok {e : Ex} {Q : L2.It → Hp → Prop} (h : tIe g W (iSeq e) σ H Q) : L2.iList g.K (tEv g W e) σ H Q ∨ L2.iTup g.K (tEv g W e) σ H Q := by
  obtain ⟨w, env, rfl, re, h⟩ := h
  by_cases ht : ∃ xs s1, e env w.s = .ok (.tup xs) s1
  · obtain ⟨xs, s1, ht⟩ := ht
    refine .inr ⟨w, env, rfl, re, ?_⟩
    refine Post.step (m' := iSeq e env w.s) h (fun c s q => by simp only [iSeq, q]) (fun q => by simp only [iSeq, q]) fun x s1 w1 v ea hs1 ht1 e1 p1 => ?_
    rw [ht] at ea
    cases ea
    simp only [iSeq, ht] at h
    have rv : Rv g w1 (.tup xs) v := p1.2
    have rv0 := rv
    unfold Rv at rv
    obtain ⟨p, ys, rfl, e2, e3⟩ := rv
    exact ⟨p, rfl, ⟨ys, e2.sq⟩, h w1 _ hs1 ht1 e1 ⟨p1.1, .inl ⟨p, rv0, .inr ⟨rfl, xs, rfl⟩⟩⟩⟩
  · refine .inl ⟨w, env, rfl, re, ?_⟩
    refine Post.step (m' := iSeq e env w.s) h (fun c s q => by simp only [iSeq, q]) (fun q => by simp only [iSeq, q]) fun x s1 w1 v ea hs1 ht1 e1 p1 => ?_
    obtain ⟨r1, o1⟩ := p1.fz
    cases es : snk (fz x) with
    | none => simp only [iSeq, ea, es] at h; exact h.elim
    | some d =>
      have rd := snk_ok o1 es
      cases q : seqD s1 d with
      | none => simp only [iSeq, ea, es, q] at h; exact h.elim
      | some xs =>
        simp only [iSeq, ea, es, q] at h
        have nt : ∀ zs, d ≠ .tup zs := fun zs ez => by
          subst ez
          apply ht
          refine ⟨zs, s1, ?_⟩
          rw [ea]
          cases x with
          | own o => cases o <;> simp [fz, snk] at es
          | bor o => simp [fz, snk] at es
          | exn => simp [fz, snk] at es
          | _ => simp [fz, snk] at es; try rw [es]
        rw [← hs1] at q
        obtain ⟨p, ys, rfl, e2, e3⟩ := dr_lst r1 rd.po (seqD_l nt q)
        exact ⟨p, rfl, ⟨ys, e2⟩, h w1 _ hs1 ht1 e1 ⟨r1, .inl ⟨p, rd, .inl ⟨rfl, nt⟩⟩⟩⟩
def iTxt (e : Ex) : Ix := fun env s => match e env s with
  | .ok (.str x) s' => .ok (.seq (.tup (sgD x))) s'
  | .ok _ _ => .no
  | .exc c s' => .exc c s'
  | .no => .no
theorem iTxt_ok {e : Ex} {Q : L2.It → Hp → Prop} (h : tIe g W (iTxt e) σ H Q) : L2.iStr (tEv g W e) σ H Q := by
  obtain ⟨w, env, rfl, re, h⟩ := h
  refine ⟨w, env, rfl, re, ?_⟩
  refine Post.step (m' := iTxt e env w.s) h (fun c s q => by simp only [iTxt, q]) (fun q => by simp only [iTxt, q]) fun x s1 w1 v ea hs1 ht1 e1 p1 => ?_
  cases x with
  | str z =>
    simp only [iTxt, ea] at h
    have rv : Rv g w1 (.str z) v := p1.2
    unfold Rv at rv
    exact ⟨z, rv, h w1 _ hs1 ht1 e1 ⟨p1.1, .inr ⟨z, rfl, rfl⟩⟩⟩
  | _ => simp only [iTxt, ea] at h; exact h.elim
theorem sFor_ok {tg : Tg} {ix : Ix} {body : Sx} (h : tSt g W (sFor tg ix body) Dn σ H) : tFor (tIe g W ix) (tgT g.K tg) (tSt g W body) Dn σ H := by
  obtain ⟨w, env, tb, rfl, r, h⟩ := h
  refine ⟨w, env, rfl, r.re, ?_⟩
  cases q : ix env w.s with
  | no => simp only [sFor, q] at h; exact h
  | exc c s' =>
    simp only [sFor, q] at h
    exact fun w' h1 h2 h3 h4 => h w' σ h1 (r.ev h4 h3 h2) (Xs.ev h3)
  | ok it s1 =>
    simp only [sFor, q] at h
    intro w1 J h1 h2 h3 h4
    have r1 := r.ev h4.1 h3 h2
    refine ⟨fun i m σ H => ∃ (w2 : Wd) (env2 : Env), w2.H = H ∧ Rm g tb w2 env2 σ ∧ ItR g w2 it J ∧ PostS g tb W w2 env2 σ Dn (forX body tg it m i env2 w2.s), ⟨it.fuel s1, w1, env, rfl, r1, h4.2, ?_⟩, ?_⟩
    · rw [h1]; exact h.next r r1.re.st (Xs.ev h3)
    · rintro i m σ H ⟨w2, env2, rfl, r2, j2, p2⟩
      cases m with
      | zero => exact p2.elim
      | succ m =>
        cases ei : it.at w2.s i with
        | none => simp only [forX, ei] at p2; exact p2.elim
        | some o =>
          cases o with
          | none =>
            simp only [forX, ei] at p2
            exact .inl ⟨j2.stop r2.re.st ei, p2 w2 σ rfl r2 Xs.refl⟩
          | some d =>
            obtain ⟨g1, g2⟩ := j2.go r2.re.st ei
            refine .inr ⟨g1, fun σ' H' => ∃ (w3 : Wd) (env3 : Env), w3.H = H' ∧ Rm g tb w3 env3 σ' ∧ ItR g w3 it J ∧ PostS g tb W w3 env3 σ' Dn (forX body tg it m (i + 1) env3 w3.s), fun σ' H' z => ⟨m, Nat.lt_succ_self m, z⟩, fun x H' y => ?_⟩
            obtain ⟨rfl, rv⟩ := g2 x H' y
            cases et : tgE tg d env2 with
            | none => simp only [forX, ei, et] at p2; exact p2.elim
            | some env3 =>
              refine tg_ok r2 rv et fun w3 σ3 e1 e2 r3 x3 => ⟨w3, env3, tb, rfl, r3, ?_⟩
              have j3 := j2.mono (r2.cy r3 x3)
              have p3 := p2.next r2 r3.re.st x3
              cases eb : body env3 w3.s with
              | nx e s' =>
                rw [e1] at eb
                simp only [forX, ei, et, eb] at p3
                exact fun w4 σ4 k1 r4 x4 => ⟨w4, e, rfl, r4, j3.mono (r3.cy r4 x4), by rw [k1]; exact p3.next r3 r4.re.st x4⟩
              | ct e s' =>
                rw [e1] at eb
                simp only [forX, ei, et, eb] at p3
                exact fun w4 σ4 k1 r4 x4 => ⟨w4, e, rfl, r4, j3.mono (r3.cy r4 x4), by rw [k1]; exact p3.next r3 r4.re.st x4⟩
              | bk e s' =>
                rw [e1] at eb
                simp only [forX, ei, et, eb] at p3
                exact p3
              | rt d s' =>
                rw [e1] at eb
                simp only [forX, ei, et, eb] at p3
                exact p3
              | exc c e s' =>
                rw [e1] at eb
                simp only [forX, ei, et, eb] at p3
                exact p3
              | no =>
                rw [e1] at eb
                simp only [forX, ei, et, eb] at p3
                exact p3
end
section
variable {X : Cx} {A : Ga} {W : WX} {a b c : Expr} {ma mb : Ex} {mt mu : Tx} {st : Stmt} {ss : List Stmt} {m n : Sx} {mi : Ix} {pos : Pos} {tx : Expr} {tg : Tg}
abbrev MI (X : Cx) (A : Ga) (W : WX) (tx it : Expr) (mi : Ix) : Prop := PI X tx it (tIe (gx X A) W mi)
theorem piW {t t' : TI} (h : PI X tx a t) (k : ∀ σ H Q, t' σ H Q → t σ H Q) : PI X tx a t' := ⟨fun pins s σ H Q I q => h.run pins s σ H Q I (k σ H Q q)⟩
theorem mi_rng1 {p : Pos} (hg : Gl X "range") (hm : X.mg "range" = none) (h : ME X A W a ma) (hs : starEach [a] X.env = [(false, eval a X.env)] := by rfl) (hs2 : starEach [a] X.env = (false, eval a X.env) :: starEach [] X.env := by rfl) : MI X A W tx (.Call (.Name "range" p) [a] [] pos) (xRng1 ma) :=
  piW (pi_range1 hg hm (pa_cons h pa_nil hs2) hs) fun _ _ _ h => iRng1_ok h
theorem mi_seq (h : ME X A W a ma) : MI X A W tx a (iSeq ma) := ⟨fun pins s σ H Q I q => by
  rcases iSeq_ok q with z | z
  · exact (pi_list h).run pins s σ H Q I z
  · exact (pi_tup h).run pins s σ H Q I z⟩
theorem mi_txt (h : ME X A W a ma) : MI X A W tx a (iTxt ma) := piW (pi_str h) fun _ _ _ h => iTxt_ok h
abbrev MG (X : Cx) (tx : Expr) (tg : Tg) : Prop := PG X tx (tgT X.K tg)
abbrev MGs (X : Cx) (tx : List Expr) (is : List Nat) : Prop := PGs X tx (gNames is)
theorem mg_nm (i : Nat) {x : Str} (hN : X.N.Nodup) (hi : X.N[i]? = some x := by rfl) (hx : Loc X.env.scope x := by first | exact Or.inl rfl | exact Or.inr rfl) (hf : X.fn x = true ∨ X.env.scope.names.lookup x = some .local := by first | exact .inl rfl | exact .inr rfl | assumption) : MG X (.Name x pos) (.nm i) := pg_name hN hi hx hf
theorem mgs_nil : MGs X [] [] := pgs_nil
theorem mgs_cons (i : Nat) {x : Str} {es : List Expr} {is : List Nat} (hN : X.N.Nodup) (k : MGs X es is) (hi : X.N[i]? = some x := by rfl) (hx : Loc X.env.scope x := by first | exact Or.inl rfl | exact Or.inr rfl) (hf : X.fn x = true ∨ X.env.scope.names.lookup x = some .local := by first | exact .inl rfl | exact .inr rfl | assumption)
    (hs : (assignEach (.Name x pos :: es) X.env).map (·.2) = assign (.Name x pos) X.env :: (assignEach es X.env).map (·.2) := by rfl) : MGs X (.Name x pos :: es) (i :: is) := pgs_cons (pg_name hN hi hx hf) k hs
theorem mg_tp {es : List Expr} {is : List Nat} {k : Nat} (hc : X.calm = true) (h : MGs X es is) (hn : (assignEach es X.env).length = is.length := by rfl) (hst : (assignEach es X.env).findIdx? (·.1) = none := by rfl) : MG X (.Tuple es k pos) (.tp is) := pg_tup hc h hn hst
theorem ms_setT {is : List Nat} (hg : MG X tx (.tp is)) (h : ME X A W a ma) (hs : swapsWithSole [tx] a pos.line X.env = pure false := by rfl) (hw : swappedStores [tx] a X.env = pure none := by rfl) (h1 : (assignEach [tx] X.env).map (·.2) = [assign tx X.env] := by rfl) : MS X A W (.Assign [tx] a pos) (sSetT is ma) :=
  psW (ps_asg h hg hs hw h1) fun _ _ _ h => sSetT_ok h
theorem ms_for (hp : PassesOwn (model X.prog X.w) X.A X.env X.xe) (hc : X.calm = true) (hi : MI X A W tx a mi) (hg : MG X tx tg) (hb : MSs X A W ss m) (hs : ∀ x, foldedSetIterable a X.env x = pure x := by intro _; rfl) : MS X A W (.For tx a ss [] pos) (sFor tg mi m) :=
  psW (ps_for hp hc hi hg hb hs) fun _ _ _ h => sFor_ok h
end
end Gm

set_option Elab.async false
set_option linter.all false
set_option maxRecDepth 100000
set_option autoImplicit false
set_option maxHeartbeats 1000000
namespace Gm
open PySem PySem.Spec PyProof.Rows L2
/-! ### calls -/
def PostF (g : Gc) (w : Wd) (Q : VK) (E : XK) : R D → Prop
  | .ok d s' => ∀ (w' : Wd) (v : V), w'.s = s' → w'.T = w.T → Ext [] w w' → Px g w.H w' d v → Q v w'.H
  | .exc c s' => ∀ (w' : Wd), w'.s = s' → w'.T = w.T → Ext [] w w' → Rst g w' → E (.ref (g.A c)) none w'.H
  | .no => False
def spOf (g : Gc) (n : Nat) (F : Fx) : Sp := fun vs H Q E => vs.length = n ∧ ∃ (w : Wd) (args : List D), w.H = H ∧ Rst g w ∧ RvL g w args vs ∧ PostF g w Q E (F args w.s)
def fnX (n N : Nat) (body : Sx) : Fx := fun args s => if args.length = n then (match body (args.map some ++ List.replicate (N - n) none) s with
  | .rt d s' => .ok d s'
  | .nx _ s' => .ok .non s'
  | .exc c _ s' => .exc c s'
  | _ => .no) else .no
def Ar (n : Nat) (F : Fx) : Prop := ∀ (args : List D) (s : Store), args.length ≠ n → F args s = .no
theorem fnX_ar {n N : Nat} {body : Sx} : Ar n (fnX n N body) := fun args s h => by unfold fnX; rw [if_neg h]
def eCall (F : Fx) (a : Ax) : Ex := fun env s => match a env s with
  | .ok ds s' => F ds s'
  | .exc c s' => .exc c s'
  | .no => .no
section
variable {g : Gc} {tb : List Addr} {w w' w1 w2 w3 : Wd} {env env' env1 env2 : Env} {σ σ' σ1 σ2 : Sl} {W : WX} {Dn : Ends} {H : Hp}
theorem call_ok {n : Nat} {F : Fx} {a : Ax} {Q : VK} (hF : Ar n F) (h : tEv g W (eCall F a) σ H Q) : tAe g W a σ H fun vs H1 => spOf g n F vs H1 Q (WE W σ) := by
  obtain ⟨w, env, rfl, re, h⟩ := h
  refine ⟨w, env, rfl, re, ?_⟩
  refine Post.step (m' := eCall F a env w.s) h (fun c s q => by simp only [eCall, q]) (fun q => by simp only [eCall, q]) fun ds s1 w1 vs ea hs1 ht1 e1 p1 => ?_
  obtain ⟨r1, q1⟩ := p1
  have em : eCall F a env w.s = F ds w1.s := by simp only [eCall, ea, hs1]
  rw [em] at h
  have hn : ds.length = n := by
    by_cases z : ds.length = n
    · exact z
    · rw [hF ds w1.s z] at h; exact h.elim
  refine ⟨by rw [q1.length]; exact hn, w1, ds, rfl, r1, q1, ?_⟩
  cases q : F ds w1.s with
  | ok d s' =>
    rw [q] at h
    exact fun w2 v h1 h2 h3 h4 => h w2 v h1 (h2.trans ht1) (e1.trans h3) (h4.back re.st r1 e1)
  | exc c s' =>
    rw [q] at h
    exact fun w2 h1 h2 h3 h4 => h w2 h1 (h2.trans ht1) (e1.trans h3) h4
  | no => rw [q] at h; exact h
theorem RvL.plain : ∀ {ds : List D} {vs : List V}, RvL g w ds vs → ∀ (i : Nat) (o : O), ds[i]? ≠ some (.own o)
  | ds, vs, h, i, o, e => by
    obtain ⟨v, _, z⟩ := h.get e
    unfold Rv at z; exact z
theorem start_owns {args : List D} {vs : List V} {k : Nat} {σ : Sl} (h : RvL g w args vs) : owns (args.map some ++ List.replicate k none) σ = [] := by
  cases e : owns (args.map some ++ List.replicate k none) σ with
  | nil => rfl
  | cons p r =>
    have hp : p ∈ owns (args.map some ++ List.replicate k none) σ := by rw [e]; exact List.mem_cons_self
    obtain ⟨i, o, a, b⟩ := mem_owns.mp hp
    exfalso
    by_cases l : i < args.length
    · rw [List.getElem?_append_left (by simpa using l), List.getElem?_map] at a
      cases q : args[i]? with
      | none => rw [q] at a; cases a
      | some d => rw [q] at a; simp at a; subst a; exact h.plain i o q
    · rw [List.getElem?_append_right (by simpa using l)] at a
      have := List.mem_of_getElem? a
      rw [List.mem_replicate] at this
      exact nomatch this.2
theorem body_ok {N ps : List Str} {m : Sx} {vs : List V} {Q : VK} {E : XK} (hl : ps.length ≤ N.length) (h : spOf g ps.length (fnX ps.length N.length m) vs H Q E) :
    tSt g (fun cls d _ H => E cls d H) m { nx := fun _ H' => Q .non H', rt := Q } (L2.start N vs) H := by
  obtain ⟨hv, w, args, rfl, r, ra, h⟩ := h
  have ha : args.length = ps.length := by rw [← ra.length]; exact hv
  refine ⟨w, args.map some ++ List.replicate (N.length - ps.length) none, w.T, rfl, ?_, ?_⟩
  · refine ⟨⟨r, ?_, fun i d e => ?_⟩, fun p => by rw [start_owns ra]; simp, fun i j p a _ => ?_, fun p hp => ?_⟩
    · unfold L2.start
      rw [List.length_append, List.length_append, List.length_map, List.length_map, List.length_replicate, List.length_replicate, hv, ha]
    · by_cases l : i < args.length
      · rw [List.getElem?_append_left (by simpa using l), List.getElem?_map] at e
        cases q : args[i]? with
        | none => rw [q] at e; cases e
        | some d' =>
          rw [q] at e; simp at e; subst e
          obtain ⟨v, k1, k2⟩ := ra.get q
          refine ⟨v, ?_, ?_⟩
          · unfold L2.start
            rw [List.getElem?_append_left (by rw [List.length_map, hv, ← ha]; exact l), List.getElem?_map, k1]
            rfl
          · cases d' with
            | own o => unfold Rv at k2; exact k2.elim
            | exn => unfold Rv at k2; exact k2.elim
            | _ => exact k2
      · rw [List.getElem?_append_right (by simpa using l)] at e
        have := List.mem_of_getElem? e
        rw [List.mem_replicate] at this
        exact nomatch this.2
    · have := mem_owns.mpr ⟨i, a⟩
      rw [start_owns ra] at this; cases this
    · rw [start_owns ra] at hp; cases hp
  · have ow : owns (args.map some ++ List.replicate (N.length - ps.length) none) (L2.start N vs) = [] := start_owns ra
    unfold fnX at h
    rw [if_pos ha] at h
    have tT : ∀ (w' : Wd) (env' : Env) (σ' : Sl), Rm g w.T w' env' σ' → ∀ p ∈ w.T, p ∈ w'.T := fun w' env' σ' r' p hp => (r'.T p).mpr (.inr hp)
    cases q : m (args.map some ++ List.replicate (N.length - ps.length) none) w.s with
    | nx e s =>
      rw [q] at h
      intro w' σ' h1 r' x'
      have e' := x'.e
      rw [ow] at e'
      exact h (w'.wT w.T) .non h1 rfl ⟨e'.pre, e'.keep, e'.new, e'.nm⟩ (.of (r'.re.st.inT (tT w' e σ' r')) rv_non)
    | rt d s =>
      rw [q] at h
      intro w' v h1 h2 e' p'
      rw [ow] at e' p'
      refine h w' v h1 h2 e' ?_
      cases d with
      | own o =>
        obtain ⟨p, a, b, c⟩ := p'
        rcases b with b | b
        · exact ⟨p, a, b, c⟩
        · cases b
      | bor o => exact (show False by obtain ⟨_, z⟩ := p'; unfold Rv at z; exact z).elim
      | exn => exact (show False by obtain ⟨_, z⟩ := p'; unfold Rv at z; exact z).elim
      | _ => exact p'
    | exc c e s =>
      rw [q] at h
      intro w' σ' h1 r' x'
      have e' := x'.e
      rw [ow] at e'
      exact h (w'.wT w.T) h1 rfl ⟨e'.pre, e'.keep, e'.new, e'.nm⟩ (r'.re.st.inT (tT w' e σ' r'))
    | bk e s => rw [q] at h; exact h.elim
    | ct e s => rw [q] at h; exact h.elim
    | no => rw [q] at h; exact h.elim
end
section
variable {P : Program} {wl : World} {K : PySem.W.Frag} {mg : Str → Option Value} {base : Heap} {A : Nat → Addr}
abbrev xOf (P : Program) (wl : World) (K : PySem.W.Frag) (mg : Str → Option Value) (base : Heap) (N : List Str) (qual : Str) (scope : Scope) (f : Addr) (cdv : Value) (Ar : Around) (outer : List PySem.Env) (s : Shared) (H : Hp) (E : XK) : Cx := cxOf (L2.CX P wl) P wl K mg base N qual scope f cdv Ar outer s H E
abbrev wOf (E : XK) : WX := fun cls d _ H => E cls d H
theorem fn_ok {x qual : Str} {params : Arguments} {body : List Stmt} {scope : Scope} {f : Addr} {fd : FuncData} {N ps : List Str} {k : Nat} {m : Sx} (F : FunD K x qual params body scope [] [] f fd) (S : FnScope N ps scope) (hl : ps.length ≤ N.length)
    (hb : ∀ (cdv : Value) (Ar : Around) (outer : List PySem.Env) (s : Shared) (H : Hp) (E : XK), Room k (Ar.deeper (envOfC qual scope s.heap.objs.size f cdv)) → Takes (xOf P wl K mg base N qual scope f cdv Ar outer s H E) (wOf E) →
      PassesOwn (model P wl) (xOf P wl K mg base N qual scope f cdv Ar outer s H E).A (xOf P wl K mg base N qual scope f cdv Ar outer s H E).env (xOf P wl K mg base N qual scope f cdv Ar outer s H E).xe →
      MSs (xOf P wl K mg base N qual scope f cdv Ar outer s H E) ⟨A, none⟩ (wOf E) body m) :
    FnOk P wl K mg base (L2.CX P wl) (k + 1) f fd ps (spOf ⟨K, A, none⟩ ps.length (fnX ps.length N.length m)) := by
  refine F.ok S (fun vs H Q E h => h.1) fun cdv Ar outer s H vs Q E hr h => ?_
  exact ⟨_, hb cdv Ar outer s H E hr (takes_of rfl rfl rfl rfl) (passes_of rfl), body_ok hl h⟩
end
section
variable {X : Cx} {A : Ga} {W : WX} {a b c e : Expr} {es : List Expr} {ma mb : Ex} {mt mu : Tx} {st : Stmt} {ss : List Stmt} {m : Sx} {mr : Ax} {pos p : Pos} {k n : Nat} {f : Addr} {fd : FuncData} {ps : List Str} {F : Fx} {x : Str}
theorem me_call (G : FnOk X.prog X.w X.K X.mg X.base (L2.CX X.prog X.w) k f fd ps (spOf (gx X A) n F)) (hF : Ar n F) (hr : Room k X.A) (tk : Takes X W) (hg : Gl X x) (hm : X.mg x = some (.ref f)) (hk : PySem.W.keepIn X.K (.ref f) = true) (hb : Binds X.K fd ps [])
    (ha : MA X A W (e :: es) mr) (hdb : (x == ("__debug__" : Str)) = false := by decide) (he : starEach (e :: es) X.env = (false, eval e X.env) :: starEach es X.env := by rfl) (hpl : (backTo pos (starEach es X.env)).any (·.1) = false := by rfl) :
    ME X A W (.Call (.Name x p) (e :: es) [] pos) (eCall F mr) := peW (pe_callS G hr hg hm hk hb (fun σ => passAt tk σ) ha hdb he hpl) fun _ _ _ h => call_ok hF h
end
end Gm

set_option Elab.async false
set_option linter.all false
set_option maxRecDepth 100000
set_option autoImplicit false
set_option maxHeartbeats 1000000
namespace Gm
open PySem PySem.Spec PyProof.Rows L2
/-! ### lists that are changed -/
def mutL (i : Nat) (f : List D → Option (List D)) (env : Env) (s : Store) : Option (Env × Store) := match env[i]? with
  | some (some (.own (.lst xs))) => (f xs).map fun ys => (env.set i (some (.own (.lst ys))), s)
  | some (some (.ref n)) => (match s[n]? with
    | some (.lst xs) => (f xs).map fun ys => (env, s.set n (.lst ys))
    | _ => none)
  | _ => none
/-- a list that a place of the store holds -/
def mutR (d : D) (f : List D → Option (List D)) (s : Store) : Option Store := match d with
  | .ref n => (match s[n]? with
    | some (.lst xs) => (f xs).map fun ys => s.set n (.lst ys)
    | _ => none)
  | _ => none
def fApp (d : D) : List D → Option (List D) := fun xs => if xs.length < 16777216 then some (xs ++ [d]) else none
def fExt (zs : List D) : List D → Option (List D) := fun xs => if xs.length + zs.length ≤ 16777216 then some (xs ++ zs) else none
def fSetI (k : Int) (d : D) : List D → Option (List D) := fun xs => (ixN xs.length k).map fun j => xs.set j d
/-- x.append(e) and its like, x a name -/
def isL (i : Nat) (env : Env) (s : Store) : Bool := match env[i]? with
  | some (some (.own (.lst _))) => true
  | some (some (.ref n)) => (match s[n]? with
    | some (.lst _) => true
    | _ => false)
  | _ => false
def sMut (i : Nat) (f : Store → D → Option (List D → Option (List D))) (e : Ex) : Sx := fun env s => if isL i env s = true then (match e env s with
  | .ok d s1 => (match f s1 (fz d) with
    | some h => (match mutL i h env s1 with
      | some (env', s2) => .nx env' s2
      | none => .no)
    | none => .no)
  | .exc c s1 => .exc c env s1
  | .no => .no) else .no
def gApp : Store → D → Option (List D → Option (List D)) := fun _ d => (snk d).map fApp
def gExt : Store → D → Option (List D → Option (List D)) := fun s d => match drM s d with
  | some (.lst zs) => some (fExt zs)
  | _ => none
/-- x[j] = e, x a name -/
def sSub (i : Nat) (j : Ex) (e : Ex) : Sx := fun env s => match e env s with
  | .ok d s1 => (match snk (fz d) with
    | some d => if isL i env s1 = true then (match j env s1 with
      | .ok (.int k) s2 => (match mutL i (fSetI k d) env s2 with
        | some (env', s3) => .nx env' s3
        | none => .no)
      | .ok _ _ => .no
      | .exc c s' => .exc c env s'
      | .no => .no) else .no
    | none => .no)
  | .exc c s' => .exc c env s'
  | .no => .no
/-! ### what is told of the frame's own lists, nothing done -/
def gFz (i : Nat) (env : Env) (s : Store) : Env × Store := match env[i]? with
  | some (some (.own o)) => (env.set i (some (fz (.own o))), s)
  | _ => (env, s)
def gAd (i : Nat) (env : Env) (s : Store) : Env × Store := match env[i]? with
  | some (some (.own o)) => (env.set i (some (.ref s.length)), s ++ [o])
  | _ => (env, s)
def sPre (q : Env → Store → Env × Store) (m : Sx) : Sx := fun env s => m (q env s).1 (q env s).2
section
variable {g : Gc} {tb : List Addr} {w w' w1 w2 w3 : Wd} {env env' env1 env2 : Env} {σ σ' σ1 σ2 : Sl} {W : WX} {Dn : Ends} {H : Hp}
theorem Ro.same {p : Addr} {o : O} {ex : List Addr} (c : Cy g ex w w') (e : w'.H p = w.H p) (h : Ro g w p o) : Ro g w' p o := by
  cases o with
  | lst xs => obtain ⟨ys, k, z⟩ := h; exact ⟨ys, e.trans k, RvL.mono c _ _ z⟩
  | dK xs => obtain ⟨ys, k, z⟩ := h; exact ⟨ys, e.trans k, RvK.mono c _ _ z⟩
  | ins a xs => obtain ⟨dx, ys, k, z⟩ := h; exact ⟨dx, ys, e.trans k, RvF.mono c _ _ z⟩
  | dead => obtain ⟨u, k⟩ := h; exact ⟨u, e.trans k⟩
  | dT xs => exact e.trans h
abbrev Wd.wr (w : Wd) (p : Addr) (u : HO) : Wd := { w with H := upd w.H p u }
theorem wr_ext {p : Addr} {u : HO} : Ext [p] w (w.wr p u) :=
  ⟨⟨[], by simp⟩, fun q o e _ n => by
    show upd w.H p u q = some o
    rw [upd_ne (fun z => n (by rw [z]; exact List.mem_cons_self))]; exact e, fun _ h => .inl h, fun _ h => .inl h⟩
theorem wr_cy {p : Addr} {u : HO} (r : Rst g w) (hm : Mut (w.H p)) (hT : p ∈ w.T) : Cy g [p] w (w.wr p u) :=
  ⟨r, wr_ext, fun q h => by rw [List.mem_singleton.mp h]; exact hm, fun q h => by rw [List.mem_singleton.mp h]; exact hT, fun q h => .inl h⟩
theorem wr_rst {p : Addr} {u : HO} (r : Rst g w) (hm : Mut (w.H p)) (hT : p ∈ w.T) : Rst g (w.wr p u) := by
  have c := wr_cy (u := u) r hm hT
  have np : p ∉ w.m := (r.tt p hT).1
  refine ⟨r.len, r.nd, fun q hq => ⟨(r.tt q hq).1, ?_⟩, fun n q o a b => ?_⟩
  · by_cases e : q = p
    · subst e; exact ⟨u, upd_same⟩
    · obtain ⟨o, z⟩ := (r.tt q hq).2
      exact ⟨o, by show upd w.H p u q = some o; rw [upd_ne e]; exact z⟩
  · refine (r.ce n q o a b).same c ?_
    show upd w.H p u q = w.H q
    refine upd_ne fun z => np ?_
    rw [← z]
    exact List.mem_of_getElem? a
theorem ownAt_upd {i j : Nat} {p : Addr} {o o' : O} (hi : env[i]? = some (some (.own o))) : OwnAt (env.set i (some (.own o'))) σ j p ↔ OwnAt env σ j p := by
  have hl : i < env.length := (List.getElem?_eq_some_iff.mp hi).1
  constructor
  · rintro ⟨q, a, b⟩
    by_cases e : j = i
    · subst e; exact ⟨o, hi, b⟩
    · rw [List.getElem?_set_ne (Ne.symm e)] at a
      exact ⟨q, a, b⟩
  · rintro ⟨q, a, b⟩
    by_cases e : j = i
    · subst e
      exact ⟨o', by rw [List.getElem?_set_self hl], b⟩
    · exact ⟨q, by rw [List.getElem?_set_ne (Ne.symm e)]; exact a, b⟩
theorem owns_upd {i : Nat} {o o' : O} (hi : env[i]? = some (some (.own o))) (p : Addr) : p ∈ owns (env.set i (some (.own o'))) σ ↔ p ∈ owns env σ := by
  rw [mem_owns, mem_owns]
  exact ⟨fun ⟨j, h⟩ => ⟨j, (ownAt_upd hi).mp h⟩, fun ⟨j, h⟩ => ⟨j, (ownAt_upd hi).mpr h⟩⟩
/-- a list of the frame's own is changed -/
theorem Rm.upd {i : Nat} {p : Addr} {o o' : O} {u : HO} (r : Rm g tb w env σ) (hi : env[i]? = some (some (.own o))) (hs : σ[i]? = some (some (.ref p))) (fo : Fzo o') (ho : Cy g [p] w (w.wr p u) → Ro g (w.wr p u) p o') :
    Rm g tb (w.wr p u) (env.set i (some (.own o'))) σ ∧ Xs w env σ (w.wr p u) (env.set i (some (.own o'))) σ := by
  have hp : p ∈ owns env σ := mem_owns.mpr ⟨i, o, hi, hs⟩
  obtain ⟨hm, hT⟩ := r.own hp
  have c := wr_cy (u := u) r.re.st hm hT
  have r' := wr_rst (u := u) r.re.st hm hT
  have hl : i < env.length := (List.getElem?_eq_some_iff.mp hi).1
  have np : p ∉ w.m := (r.re.st.tt p hT).1
  refine ⟨⟨⟨r', by rw [List.length_set]; exact r.re.len, fun j d ej => ?_⟩, fun q => by rw [owns_upd hi]; exact r.T q, fun a b q qa qb => r.inj a b q ((ownAt_upd hi).mp qa) ((ownAt_upd hi).mp qb), fun q hq => r.dj q ((owns_upd hi q).mp hq)⟩, ⟨?_, fun q hq => .inl ((owns_upd hi q).mp hq)⟩⟩
  · by_cases e : j = i
    · subst e
      rw [List.getElem?_set_self hl] at ej
      cases ej
      exact ⟨.ref p, hs, p, rfl, fo, ho c, np, hT⟩
    · rw [List.getElem?_set_ne (Ne.symm e)] at ej
      obtain ⟨v, a, z⟩ := r.re.sl j d ej
      refine ⟨v, a, ?_⟩
      cases d with
      | own o2 =>
        obtain ⟨q, rfl, k2, k3, k4, k5⟩ := z
        refine ⟨q, rfl, k2, k3.same c ?_, k4, k5⟩
        show L2.upd w.H p u q = w.H q
        refine upd_ne fun z => e ?_
        subst z
        exact r.inj j i q ⟨o2, ej, a⟩ ⟨o, hi, hs⟩
      | bor o => exact Rv.mono c _ _ z
      | non => exact Rv.mono c _ _ z
      | bl b => exact Rv.mono c _ _ z
      | int b => exact Rv.mono c _ _ z
      | str b => exact Rv.mono c _ _ z
      | tup b => exact Rv.mono c _ _ z
      | lst b => exact Rv.mono c _ _ z
      | scr b => exact Rv.mono c _ _ z
      | dct b => exact Rv.mono c _ _ z
      | ref b => exact Rv.mono c _ _ z
      | exn => exact z
  · exact ⟨⟨[], by simp⟩, fun q o e nl nx => wr_ext.keep q o e nl fun z => nx (by rw [List.mem_singleton.mp z]; exact hp), fun q h => .inl h, fun q h => .inl h⟩
/-- a place of the store is written -/
abbrev Wd.ws (w : Wd) (n : Nat) (o : O) (p : Addr) (u : HO) : Wd := { w with s := w.s.set n o, H := L2.upd w.H p u }
theorem ws_ext {n : Nat} {o o' : O} {p : Addr} {u : HO} (hm : w.m[n]? = some p) (hs : w.s[n]? = some o) (ho : o ≠ .dead) : Ext [] w (w.ws n o' p u) := by
  have lv : w.Live p := ⟨n, o, hm, hs, ho⟩
  have bk : ∀ q, (w.ws n o' p u).Live q → w.Live q := fun q ⟨k, x, a, b, d⟩ => by
    by_cases e : k = n
    · subst e
      have a : w.m[k]? = some q := a
      rw [hm] at a; cases a; exact lv
    · have b : (w.s.set n o')[k]? = some x := b
      rw [List.getElem?_set_ne (Ne.symm e)] at b
      exact ⟨k, x, a, b, d⟩
  refine ⟨⟨[], by simp⟩, fun q x e nl _ => ?_, fun q l => .inl (bk q l), fun q l => .inl l⟩
  show L2.upd w.H p u q = some x
  rw [upd_ne (fun z => nl (by rw [z]; exact lv))]
  exact e
theorem ws_rst {n : Nat} {o o' : O} {p : Addr} {u : HO} (r : Rst g w) (hm : w.m[n]? = some p) (hs : w.s[n]? = some o) (ho : o ≠ .dead) (h : Cy g [] w (w.ws n o' p u) → Ro g (w.ws n o' p u) p o') : Rst g (w.ws n o' p u) := by
  have c : Cy g [] w (w.ws n o' p u) := Cy.of r (ws_ext hm hs ho) rfl
  have hn : n < w.s.length := (List.getElem?_eq_some_iff.mp hs).1
  have uniq : ∀ k q, w.m[k]? = some q → k ≠ n → q ≠ p := fun k q a ne e => by
    subst e
    obtain ⟨l1, e1⟩ := List.getElem?_eq_some_iff.mp a
    obtain ⟨l2, e2⟩ := List.getElem?_eq_some_iff.mp hm
    exact ne ((List.getElem_inj r.nd).mp (e1.trans e2.symm))
  refine ⟨by show w.m.length = (w.s.set n o').length; rw [List.length_set]; exact r.len, r.nd, fun q hq => ⟨(r.tt q hq).1, ?_⟩, fun k q x a b => ?_⟩
  · obtain ⟨x, z⟩ := (r.tt q hq).2
    refine ⟨x, ?_⟩
    show L2.upd w.H p u q = some x
    rw [upd_ne fun e => (r.tt q hq).1 (by rw [e]; exact List.mem_of_getElem? hm)]
    exact z
  · by_cases e : k = n
    · subst e
      have a : w.m[k]? = some q := a
      rw [hm] at a; cases a
      have b : (w.s.set k o')[k]? = some x := b
      rw [List.getElem?_set_self hn] at b; cases b
      exact h c
    · have b : (w.s.set n o')[k]? = some x := b
      rw [List.getElem?_set_ne (Ne.symm e)] at b
      refine (r.ce k q x a b).same c ?_
      show L2.upd w.H p u q = w.H q
      exact upd_ne (uniq k q a e)
theorem lst_nd {xs : List D} : O.lst xs ≠ O.dead := fun z => nomatch z
/-- what a change of a name's list asks and gives -/
theorem mutL_ok {i : Nat} {f : List D → Option (List D)} {env' : Env} {s' : Store} (r : Rm g tb w env σ) (h : mutL i f env w.s = some (env', s')) :
    ∃ (p : Addr) (xs ys : List D) (vs : List V), σ[i]? = some (some (.ref p)) ∧ w.H p = some (.lst vs) ∧ RvL g w xs vs ∧ f xs = some ys ∧
      ∀ us, RvL g w ys us → ∃ w2, w2.s = s' ∧ w2.H = L2.upd w.H p (.lst us) ∧ Rm g tb w2 env' σ ∧ Xs w env σ w2 env' σ := by
  unfold mutL at h
  split at h
  · rename_i xs ei
    cases q : f xs with
    | none => rw [q] at h; cases h
    | some ys =>
      rw [q] at h
      cases h
      obtain ⟨v, a, z⟩ := r.re.sl i _ ei
      obtain ⟨p, rfl, fo, ⟨vs, e1, e2⟩, nm, t⟩ := z
      refine ⟨p, xs, ys, vs, a, e1, e2, q, fun us hu => ?_⟩
      obtain ⟨k1, k2⟩ := r.upd (o' := .lst ys) (u := .lst us) ei a trivial fun c => ⟨us, upd_same, RvL.mono c _ _ hu⟩
      exact ⟨w.wr p (.lst us), rfl, rfl, k1, k2⟩
  · rename_i n ei
    split at h
    · rename_i xs en
      cases q : f xs with
      | none => rw [q] at h; cases h
      | some ys =>
        rw [q] at h
        cases h
        obtain ⟨v, a, z⟩ := r.re.sl i _ ei
        have z : Rv g w (.ref n) v := z
        unfold Rv at z
        obtain ⟨p, rfl, hm⟩ := z
        obtain ⟨vs, e1, e2⟩ := r.re.st.ce n p _ hm en
        refine ⟨p, xs, ys, vs, a, e1, e2, q, fun us hu => ?_⟩
        have ex := ws_ext (o' := .lst ys) (u := .lst us) hm en lst_nd
        have rs := ws_rst (o' := .lst ys) (u := .lst us) r.re.st hm en lst_nd fun c => ⟨us, upd_same, RvL.mono c _ _ hu⟩
        exact ⟨w.ws n (.lst ys) p (.lst us), rfl, rfl, r.ev rs ex rfl, Xs.ev ex⟩
    · cases h
  · cases h
theorem isL_ok {i : Nat} (r : Rm g tb w env σ) (h : isL i env w.s = true) : ∃ (p : Addr) (vs : List V), σ[i]? = some (some (.ref p)) ∧ SqL g.K w.H p vs := by
  unfold isL at h
  split at h
  · rename_i xs ei
    obtain ⟨v, a, z⟩ := r.re.sl i _ ei
    obtain ⟨p, rfl, fo, ⟨vs, e1, e2⟩, nm, t⟩ := z
    exact ⟨p, vs, a, SqL.of e1⟩
  · rename_i n ei
    split at h
    · rename_i xs en
      obtain ⟨v, a, z⟩ := r.re.sl i _ ei
      have z : Rv g w (.ref n) v := z
      unfold Rv at z
      obtain ⟨p, rfl, hm⟩ := z
      obtain ⟨vs, e1, e2⟩ := r.re.st.ce n p _ hm en
      exact ⟨p, vs, a, SqL.of e1⟩
    · cases h
  · cases h
theorem sMut_ok {i : Nat} {f : Store → D → Option (List D → Option (List D))} {e : Ex} {rl : V → List V → Hp → VK → Prop}
    (hr : ∀ (w : Wd) (d : D) (v : V) (hh : List D → Option (List D)) (p : Addr) (xs ys : List D) (vs : List V) (Q : VK), Rst g w → Po g w d v → f w.s d = some hh → w.H p = some (.lst vs) → RvL g w xs vs → hh xs = some ys →
      (∀ us, RvL g w ys us → Q .non (L2.upd w.H p (.lst us))) → rl (.ref p) [v] w.H Q)
    (h : tSt g W (sMut i f e) Dn σ H) : tDrop (tBM g.K "list" rl (tVar i) (tCons (tEv g W e) tNil)) Dn σ H := by
  obtain ⟨w, env, tb, rfl, r, h⟩ := h
  cases il : isL i env w.s with
  | false => simp only [sMut, il] at h; exact h.elim
  | true =>
    obtain ⟨p, vs, e1, e2⟩ := isL_ok r il
    refine ⟨.ref p, e1, .inl ⟨rfl, vs, e2⟩, ?_⟩
    refine ev_in (m := sMut i f e env w.s) r h (fun c s q => by simp only [sMut, il, q, if_true]) (fun q => by simp only [sMut, il, q, if_true]) fun d s' w' v q h1 h2 h3 h4 => ?_
    obtain ⟨r1, o1⟩ := h4.fz
    have r' := r.ev r1 h3 h2
    simp only [sMut, il, q, if_true] at h
    cases ef : f s' (fz d) with
    | none => simp only [ef] at h; exact h.elim
    | some hh =>
      cases em : mutL i hh env s' with
      | none => simp only [ef, em] at h; exact h.elim
      | some z =>
        obtain ⟨env', s2⟩ := z
        simp only [ef, em] at h
        rw [← h1] at em ef
        obtain ⟨p', xs, ys, vs', k1, k2, k3, k4, k5⟩ := mutL_ok r' em
        rw [e1] at k1
        cases k1
        refine hr w' (fz d) v hh p xs ys vs' _ r1 o1 ef k2 k3 k4 fun us hu => ?_
        obtain ⟨w2, a1, a2, a3, a4⟩ := k5 us hu
        rw [← a2]
        exact h w2 σ a1 a3 ((Xs.ev h3).trans r r1 a4)
theorem rd_app (w : Wd) (d : D) (v : V) (hh : List D → Option (List D)) (p : Addr) (xs ys : List D) (vs : List V) (Q : VK) (r : Rst g w) (po : Po g w d v) (e : gApp w.s d = some hh) (hp : w.H p = some (.lst vs)) (hx : RvL g w xs vs) (hy : hh xs = some ys)
    (q : ∀ us, RvL g w ys us → Q .non (L2.upd w.H p (.lst us))) : rAppend (.ref p) [v] w.H Q := by
  unfold gApp at e
  cases es : snk d with
  | none => rw [es] at e; cases e
  | some d' =>
    rw [es] at e
    cases e
    unfold fApp at hy
    split at hy
    · rename_i hl
      cases hy
      have rv : Rv g w d' v := by
        cases d with
        | own o => cases es
        | bor o => cases es
        | exn => cases es
        | _ => cases es; exact po
      exact ⟨p, vs, v, rfl, rfl, hp, by rw [hx.length, sizeLine_eq]; exact hl, q _ (hx.app (RvL.one rv))⟩
    · cases hy
/-! nothing done -/
theorem Fzo.fz {o : O} {p : Addr} (r : Rst g w) (f : Fzo o) (h : Ro g w p o) (nm : p ∉ w.m) (nT : p ∉ w.T) : Rv g w (Gm.fz (.own o)) (.ref p) := by
  cases o with
  | lst xs =>
    obtain ⟨ys, e1, z⟩ := h
    show Rv g w (.lst xs) (.ref p)
    unfold Rv
    exact ⟨p, ys, rfl, e1, nolive nm, nT, z⟩
  | dK kv =>
    obtain ⟨ys, e1, z⟩ := h
    show Rv g w (.dct kv) (.ref p)
    unfold Rv
    exact ⟨p, ys, rfl, e1, nolive nm, nT, z⟩
  | ins a b => exact f.elim
  | dead => exact f.elim
  | dT a => exact f.elim
def Quiet (q : Env → Store → Env × Store) : Prop := ∀ (g : Gc) (tb : List Addr) (w : Wd) (env : Env) (σ : Sl), Rm g tb w env σ → ∃ w', w'.s = (q env w.s).2 ∧ w'.H = w.H ∧ Rm g tb w' (q env w.s).1 σ ∧ Xs w env σ w' (q env w.s).1 σ
theorem fz_no {o : O} (f : Fzo o) : ∀ o', Gm.fz (.own o) ≠ .own o' := by
  intro o'
  cases o with
  | lst xs => exact fun z => nomatch z
  | dK kv => exact fun z => nomatch z
  | ins a b => exact f.elim
  | dead => exact f.elim
  | dT a => exact f.elim
theorem ownAt_off {i j : Nat} {p : Addr} {d : D} (hd : ∀ o, d ≠ .own o) (h : OwnAt (env.set i (some d)) σ j p) : j ≠ i ∧ OwnAt env σ j p := by
  obtain ⟨q, a, b⟩ := h
  by_cases e : j = i
  · subst e
    have hl : j < env.length := by
      have := (List.getElem?_eq_some_iff.mp a).1
      rwa [List.length_set] at this
    rw [List.getElem?_set_self hl] at a
    exact absurd (by simpa using a) (hd q)
  · rw [List.getElem?_set_ne (Ne.symm e)] at a
    exact ⟨e, q, a, b⟩
theorem quiet_fz (i : Nat) : Quiet (gFz i) := by
  intro g tb w env σ r
  unfold gFz
  split
  · rename_i o ei
    obtain ⟨v, a, z⟩ := r.re.sl i _ ei
    obtain ⟨p, rfl, fo, ro, nm, t⟩ := z
    have hd := fz_no fo
    generalize hE : env.set i (some (Gm.fz (.own o))) = env'
    have sub : ∀ q ∈ owns env' σ, q ∈ owns env σ ∧ q ≠ p := fun q hq => by
      rw [← hE] at hq
      obtain ⟨j, hj⟩ := mem_owns.mp hq
      obtain ⟨n, hj⟩ := ownAt_off hd hj
      refine ⟨mem_owns.mpr ⟨j, hj⟩, fun e => n ?_⟩
      subst e
      exact r.inj j i q hj ⟨o, ei, a⟩
    have pT : p ∉ owns env' σ ++ tb := fun hq => by
      rcases List.mem_append.mp hq with z | z
      · exact (sub p z).2 rfl
      · exact r.dj p (mem_owns.mpr ⟨i, o, ei, a⟩) z
    have hT : ∀ q ∈ owns env' σ ++ tb, q ∈ w.T := fun q hq => by
      rcases List.mem_append.mp hq with z | z
      · exact (r.T q).mpr (.inl (sub q z).1)
      · exact (r.T q).mpr (.inr z)
    have c : Cy g [] w (w.wT (owns env' σ ++ tb)) := Cy.sub r.re.st hT
    have r' : Rst g (w.wT (owns env' σ ++ tb)) := r.re.st.inT hT
    refine ⟨w.wT (owns env' σ ++ tb), rfl, rfl, ⟨⟨r', by rw [← hE, List.length_set]; exact r.re.len, fun j d ej => ?_⟩, fun q => List.mem_append, fun x y q hx hy => ?_, fun q hq => r.dj q (sub q hq).1⟩, ⟨⟨⟨[], by simp⟩, fun _ _ e _ _ => e, fun _ h => .inl h, fun _ h => .inl h⟩, fun q hq => .inl (sub q hq).1⟩⟩
    · by_cases e : j = i
      · subst e
        have hl : j < env.length := (List.getElem?_eq_some_iff.mp ei).1
        have ej' := ej
        rw [← hE, List.getElem?_set_self hl] at ej'
        cases ej'
        refine ⟨.ref p, a, ?_⟩
        have k := fo.fz r' (ro.mono c (nolive nm) (by simp)) nm pT
        generalize Gm.fz (.own o) = d' at k hd
        cases d' with
        | own o' => exact absurd rfl (hd o')
        | exn => unfold Rv at k; exact k.elim
        | _ => exact k
      · have ej' := ej
        rw [← hE, List.getElem?_set_ne (Ne.symm e)] at ej'
        obtain ⟨v, k1, k2⟩ := r.re.sl j d ej'
        refine ⟨v, k1, ?_⟩
        cases d with
        | own o2 =>
          obtain ⟨q, rfl, f2, r2, n2, t2⟩ := k2
          exact ⟨q, rfl, f2, r2.mono c (nolive n2) (by simp), n2, List.mem_append.mpr (.inl (mem_owns.mpr ⟨j, o2, ej, k1⟩))⟩
        | bor o => exact Rv.mono c _ _ k2
        | non => exact Rv.mono c _ _ k2
        | bl b => exact Rv.mono c _ _ k2
        | int b => exact Rv.mono c _ _ k2
        | str b => exact Rv.mono c _ _ k2
        | tup b => exact Rv.mono c _ _ k2
        | lst b => exact Rv.mono c _ _ k2
        | scr b => exact Rv.mono c _ _ k2
        | dct b => exact Rv.mono c _ _ k2
        | ref b => exact Rv.mono c _ _ k2
        | exn => exact k2
    · rw [← hE] at hx hy
      exact r.inj x y q (ownAt_off hd hx).2 (ownAt_off hd hy).2
  · exact ⟨w, rfl, rfl, r, Xs.refl⟩
theorem sPre_ok {q : Env → Store → Env × Store} {m : Sx} (hq : Quiet q) (h : tSt g W (sPre q m) Dn σ H) : tSt g W m Dn σ H := by
  obtain ⟨w, env, tb, rfl, r, h⟩ := h
  obtain ⟨w', e1, e2, r', x'⟩ := hq g tb w env σ r
  refine ⟨w', (q env w.s).1, tb, e2, r', ?_⟩
  rw [e1]
  exact h.next r r'.re.st x'
end
section
variable {X : Cx} {A : Ga} {W : WX} {a b c e : Expr} {es : List Expr} {ma mb : Ex} {mt mu : Tx} {st : Stmt} {ss : List Stmt} {m : Sx} {mr : Ax} {pos p apos : Pos} {x : Str}
theorem ms_pre {q : Env → Store → Env × Store} (hq : Quiet q) (h : MS X A W st m) : MS X A W st (sPre q m) := psW h fun _ _ _ h => sPre_ok hq h
theorem ms_app (i : Nat) {cpos : Pos} (h : ME X A W e ma) (hN : X.N[i]? = some x := by rfl) (hv : Vis X.env.scope x := by first | exact Or.inl rfl | exact Or.inr (Or.inl rfl) | exact Or.inr (Or.inr rfl)) (hd : (x == ("__debug__" : Str)) = false := by decide)
    (hcd : (x == ("__classdict__" : Str)) = false := by decide)
    (hbase : attributeBase (.Name x p) "append" X.env (eval (.Name x p) X.env) = eval (.Name x p) X.env := by rfl)
    (hfew : ((backTo cpos (starEach [e] X.env)).all (fun x => !x.1) && (backToKw cpos (keywordEach [] X.env)).all (fun x => x.1.isSome)
      && decide ([e].length + ([] : List Keyword).length + (if ([] : List Keyword).isEmpty then 0 else 1) < 30)) = true := by rfl)
    (hline : (apos.endLine == cpos.line) = true := by rfl) (hs : starEach [e] X.env = (false, eval e X.env) :: starEach [] X.env := by rfl) (hplain : (backTo cpos (starEach [] X.env)).any (·.1) = false := by rfl)
    (hs2 : swapsWith (.Call (.Attribute (.Name x p) "append" apos) [e] [] cpos) none pos.line X.env = pure false := by rfl) :
    MS X A W (.Expr (.Call (.Attribute (.Name x p) "append" apos) [e] [] cpos) pos) (sMut i gApp ma) :=
  psW (ps_expr (pe_bm PySem.F.plainAttrs_list PySem.F.slot_list_append PySem.F.type_list_append mt_append (pe_var hN hv hd hcd) (pa_cons h pa_nil hs) hbase hfew hline hs hplain) hs2) fun _ _ _ h => sMut_ok rd_app h
end
end Gm

set_option Elab.async false
set_option linter.all false
set_option maxRecDepth 100000
set_option autoImplicit false
set_option maxHeartbeats 1000000
namespace Gm
open PySem PySem.Spec PyProof.Rows L2
/-! ### comprehensions -/
def wipeE (env : Env) : List Nat → Env
  | [] => env
  | v :: vs => (wipeE env vs).set v none
def Tg.ix : Tg → List Nat
  | .nm i => [i]
  | .tp is => is
def lcX (tg : Tg) (tt : Tx) (el : Ex) (vs : List Nat) (it : Itr) : Nat → Nat → List D → Env → Store → R D
  | 0, _, _, _, _ => .no
  | f + 1, i, acc, env, s => match it.at s i with
    | none => .no
    | some none => .ok (.own (.lst acc)) s
    | some (some d) => match tgE tg d (wipeE env vs) with
      | none => .no
      | some env1 => match tt env1 s with
        | .ok true s1 => (match el env1 s1 with
          | .ok x s2 => (match snk (fz x) with
            | some y => if acc.length < 16777216 then lcX tg tt el vs it f (i + 1) (acc ++ [y]) env s2 else .no
            | none => .no)
          | _ => .no)
        | .ok false s1 => lcX tg tt el vs it f (i + 1) acc env s1
        | _ => .no
def eLc (tg : Tg) (ix : Ix) (tt : Tx) (el : Ex) (vs : List Nat) : Ex := fun env s => match ix env s with
  | .ok it s' => lcX tg tt el vs it (it.fuel s') 0 [] env s'
  | .exc c s' => .exc c s'
  | .no => .no
def tY : Tx := fun _ s => .ok true s
abbrev W0 : WX := fun _ _ _ _ => False
section
variable {g : Gc} {tb : List Addr} {w w' w1 w2 w3 : Wd} {env env' env1 env2 : Env} {σ σ' σ1 σ2 : Sl} {W : WX} {Dn : Ends} {H : Hp}
theorem wipeE_len : ∀ {vs : List Nat}, (wipeE env vs).length = env.length
  | [] => rfl
  | v :: vs => by unfold wipeE; rw [List.length_set]; exact wipeE_len
theorem wipeE_some {i : Nat} {d : D} : ∀ {vs : List Nat}, (wipeE env vs)[i]? = some (some d) → env[i]? = some (some d) ∧ i ∉ vs
  | [], h => ⟨h, by simp⟩
  | v :: vs, h => by
    unfold wipeE at h
    by_cases e : v = i
    · subst e
      rw [List.getElem?_set] at h
      simp at h
    · rw [List.getElem?_set_ne e] at h
      obtain ⟨a, b⟩ := wipeE_some h
      exact ⟨a, fun z => (List.mem_cons.mp z).elim (fun q => e q.symm) b⟩
theorem wipe_in {i : Nat} : ∀ {vs : List Nat}, i ∈ vs → (wipe σ vs)[i]? = if i < σ.length then some none else none
  | v :: vs, h => by
    unfold wipe
    by_cases e : v = i
    · subst e
      rw [List.getElem?_set]
      simp only [if_pos]
      rw [wipe_length]
    · rw [List.getElem?_set_ne e]
      exact wipe_in ((List.mem_cons.mp h).resolve_left fun q => e q.symm)
theorem wipe_ext {vs : List Nat} {σ σ' : Sl} (hl : σ'.length = σ.length) (h : ∀ i, i ∉ vs → σ'[i]? = σ[i]?) : wipe σ' vs = wipe σ vs := by
  apply List.ext_getElem?
  intro i
  by_cases e : i ∈ vs
  · rw [wipe_in e, wipe_in e, hl]
  · rw [wipe_out e, wipe_out e, h i e]
theorem Re.wipe {vs : List Nat} (re : Re g w env σ) : Re g w (wipeE env vs) (L2.wipe σ vs) :=
  ⟨re.st, by rw [wipeE_len, wipe_length]; exact re.len, fun i d e => by
    obtain ⟨a, b⟩ := wipeE_some e
    obtain ⟨v, k1, k2⟩ := re.sl i d a
    exact ⟨v, by rw [wipe_out b]; exact k1, k2⟩⟩
theorem Re.setP {i : Nat} {d : D} {v : V} (re : Re g w env σ) (h : Rv g w d v) : Re g w (env.set i (some d)) (σ.set i (some v)) := by
  refine ⟨re.st, by rw [List.length_set, List.length_set]; exact re.len, fun j d' e => ?_⟩
  by_cases q : j = i
  · subst q
    have hl : j < env.length := by
      have := (List.getElem?_eq_some_iff.mp e).1
      rwa [List.length_set] at this
    rw [List.getElem?_set_self hl] at e
    cases e
    refine ⟨v, by rw [List.getElem?_set_self (re.len ▸ hl)], ?_⟩
    cases d with
    | own o => unfold Rv at h; exact h.elim
    | exn => unfold Rv at h; exact h.elim
    | _ => exact h
  · rw [List.getElem?_set_ne (Ne.symm q)] at e
    obtain ⟨v', a, b⟩ := re.sl j d' e
    exact ⟨v', by rw [List.getElem?_set_ne (Ne.symm q)]; exact a, b⟩
theorem setsR_ok : ∀ (is : List Nat) (ds : List D) (vs : List V) (env env' : Env) (σ : Sl), Re g w env σ → RvL g w ds vs → setsE is ds env = some env' →
    vs.length = is.length ∧ Re g w env' (setsV is vs σ) ∧ (setsV is vs σ).length = σ.length ∧ ∀ j, j ∉ is → (setsV is vs σ)[j]? = σ[j]?
  | [], [], vs, env, env', σ, r, h, e => by
    unfold RvL at h; subst h
    cases e
    exact ⟨rfl, r, rfl, fun _ _ => rfl⟩
  | i :: is, d :: ds, vs, env, env', σ, r, h, e => by
    unfold RvL at h
    obtain ⟨v, t, rfl, h1, h2⟩ := h
    obtain ⟨hl, r2, l2, k2⟩ := setsR_ok is ds t _ env' _ (r.setP (i := i) h1) h2 e
    refine ⟨by simp [hl], r2, by show (setsV is t (σ.set i (some v))).length = _; rw [l2, List.length_set], fun j hj => ?_⟩
    show (setsV is t (σ.set i (some v)))[j]? = _
    rw [k2 j (fun z => hj (List.mem_cons_of_mem _ z)), List.getElem?_set_ne (fun z => hj (by rw [z]; exact List.mem_cons_self))]
  | [], _ :: _, _, _, _, _, _, _, e => by cases e
  | _ :: _, [], _, _, _, _, _, _, e => by cases e
theorem tg_re {tg : Tg} {d : D} {v : V} {Q : Sl → Hp → Prop} (r : Re g w env σ) (h : Rv g w d v) (e : tgE tg d env = some env')
    (k : ∀ σ' : Sl, Re g w env' σ' → σ'.length = σ.length → (∀ j, j ∉ tg.ix → σ'[j]? = σ[j]?) → Q σ' w.H) : tgT g.K tg v σ w.H Q := by
  cases tg with
  | nm i =>
    have e' : env' = env.set i (some d) := by
      cases d with
      | own o => unfold Rv at h; exact h.elim
      | bor o => unfold Rv at h; exact h.elim
      | exn => unfold Rv at h; exact h.elim
      | _ => simp only [tgE, snk, Option.map_some, Option.some.injEq] at e; exact e.symm
    subst e'
    exact k (σ.set i (some v)) (r.setP h) (by rw [List.length_set]) fun j hj => by rw [List.getElem?_set_ne (fun z => hj (by rw [z]; exact List.mem_cons_self))]
  | tp is =>
    cases d with
    | tup ds =>
      unfold Rv at h
      obtain ⟨p, ys, rfl, hp, hl⟩ := h
      obtain ⟨l, r2, l2, k2⟩ := setsR_ok is ds ys env env' σ r hl e
      exact ⟨p, ys, rfl, hp.sq, l, gNames_ok l (k _ r2 l2 k2)⟩
    | _ => cases e
theorem wipe_idem {vs : List Nat} : wipe (wipe σ vs) vs = wipe σ vs := wipe_ext (wipe_length _ _) fun i h => wipe_out h
theorem lc_ok {tg : Tg} {ix : Ix} {tt : Tx} {el : Ex} {vs : List Nat} {Q : VK} (hv : ∀ i ∈ tg.ix, i ∈ vs) (h : tEv g W (eLc tg ix tt el vs) σ H Q) :
    tLc (tIe g W ix) (tgT g.K tg) (tTe g W0 tt) (tEv g W0 el) vs σ H Q := by
  obtain ⟨w, env, rfl, re, h⟩ := h
  refine ⟨w, env, rfl, re, ?_⟩
  refine Post.step (m' := eLc tg ix tt el vs env w.s) h (fun c s e => by simp only [eLc, e]) (fun e => by simp only [eLc, e]) fun it s1 w1 J ei hs1 ht1 e1 p1 => ?_
  obtain ⟨r1, j1⟩ := p1
  intro A hA
  have em : eLc tg ix tt el vs env w.s = lcX tg tt el vs it (it.fuel s1) 0 [] env s1 := by simp only [eLc, ei]
  rw [em] at h
  generalize hm : lcX tg tt el vs it (it.fuel s1) 0 [] env s1 = m' at h
  have hA0 : w.H A = none := back re.st r1 e1 hA
  have nT : A ∉ w.T := re.st.ntT hA0
  have hT0 : ∀ q ∈ A :: w1.T, q ∈ w1.T ∨ q = A := fun q hq => by
    rcases List.mem_cons.mp hq with e | e
    · exact .inr e
    · exact .inl e
  -- the invariant
  refine ⟨fun i m H => ∃ (w2 : Wd) (acc : List D) (ys : List V), w2.H = H ∧ w2.T = A :: w.T ∧ Re g w2 env σ ∧ ItR g w2 it J ∧ w2.H A = some (.lst ys) ∧ RvL g w2 acc ys ∧ Ext [] w w2 ∧ lcX tg tt el vs it m i acc env w2.s = m', ⟨it.fuel s1, ?_⟩, ?_⟩
  · obtain ⟨w2, hw2⟩ : ∃ w2 : Wd, w2 = { w1 with H := upd w1.H A (.lst []), T := A :: w1.T } := ⟨_, rfl⟩
    have c : Cy g [] w1 w2 := by rw [hw2]; exact new_cy r1 hA hT0
    have r2 : Rst g w2 := by rw [hw2]; exact r1.new hA hT0
    refine ⟨w2, [], [], by rw [hw2], by rw [hw2, ht1], (re.next r1 e1 ht1).mono c r2 (fun p hp => by rw [hw2]; exact List.mem_cons_of_mem _ hp), j1.mono c, by rw [hw2]; exact upd_same, by unfold RvL; rfl, e1.trans c.e, ?_⟩
    rw [show w2.s = s1 by rw [hw2]; exact hs1]
    exact hm
  · rintro i m H ⟨w2, acc, ys, rfl, t2, re2, j2, hA2, ra2, x2, q2⟩
    have At : A ∈ w2.T := by rw [t2]; exact List.mem_cons_self
    have An : A ∉ w2.m := (re2.st.tt A At).1
    cases m with
    | zero => rw [show m' = .no from q2.symm] at h; exact h.elim
    | succ m =>
      cases ea : it.at w2.s i with
      | none => simp only [lcX, ea] at q2; rw [← q2] at h; exact h.elim
      | some o =>
        cases o with
        | none =>
          simp only [lcX, ea] at q2
          rw [← q2] at h
          refine .inl ⟨j2.stop re2.st ea, ?_⟩
          refine h (w2.wT w.T) (.ref A) rfl rfl ⟨x2.pre, x2.keep, x2.new, x2.nm⟩ ⟨A, rfl, hA0, nT, trivial, ?_, ?_⟩
          · have : ({ w2.wT w.T with T := A :: (w2.wT w.T).T } : Wd) = w2 := by
              show ({ w2 with T := A :: w.T } : Wd) = w2
              rw [← t2]
            rw [this]; exact re2.st
          · have : ({ w2.wT w.T with T := A :: (w2.wT w.T).T } : Wd) = w2 := by
              show ({ w2 with T := A :: w.T } : Wd) = w2
              rw [← t2]
            rw [this]; exact ⟨ys, hA2, ra2⟩
        | some d =>
          obtain ⟨g1, g2⟩ := j2.go re2.st ea
          refine .inr ⟨g1, fun H => ∃ (w2 : Wd) (acc : List D) (ys : List V), w2.H = H ∧ w2.T = A :: w.T ∧ Re g w2 env σ ∧ ItR g w2 it J ∧ w2.H A = some (.lst ys) ∧ RvL g w2 acc ys ∧ Ext [] w w2 ∧ lcX tg tt el vs it m (i + 1) acc env w2.s = m', fun H' z => ⟨m, Nat.lt_succ_self m, z⟩, fun x H' y => ?_⟩
          obtain ⟨rfl, rv⟩ := g2 x H' y
          cases et : tgE tg d (wipeE env vs) with
          | none => simp only [lcX, ea, et] at q2; rw [← q2] at h; exact h.elim
          | some env1 =>
            refine tg_re (re2.wipe (vs := vs)) rv et fun σ2 reb l2 k2 => ⟨?_, ?_⟩
            · rw [← wipe_idem (σ := σ)]
              exact wipe_ext l2 fun j hj => k2 j fun z => hj (hv j z)
            · refine ⟨w2, env1, rfl, reb, ?_⟩
              cases eb : tt env1 w2.s with
              | no => simp only [lcX, ea, et, eb] at q2; rw [← q2] at h; exact h.elim
              | exc c s' => simp only [lcX, ea, et, eb] at q2; rw [← q2] at h; exact h.elim
              | ok b s3 =>
                intro w3 b' hs3 ht3 e3 p3
                obtain ⟨r3, rfl⟩ := p3
                have re3 := re2.next r3 e3 ht3
                have c3 := Cy.of re2.st e3 ht3
                have hA3 : w3.H A = some (.lst ys) := e3.keep A _ hA2 (nolive An) (by simp)
                cases b with
                | false =>
                  simp only [lcX, ea, et, eb] at q2
                  exact iteF ⟨w3, acc, ys, rfl, ht3.trans t2, re3, j2.mono c3, hA3, RvL.mono c3 _ _ ra2, x2.trans e3, by rw [hs3]; exact q2⟩
                | true =>
                  refine iteT ⟨w3, env1, rfl, reb.next r3 e3 ht3, ?_⟩
                  cases ee : el env1 w3.s with
                  | no => rw [hs3] at ee; simp only [lcX, ea, et, eb, ee] at q2; rw [← q2] at h; exact h.elim
                  | exc c s' => rw [hs3] at ee; simp only [lcX, ea, et, eb, ee] at q2; rw [← q2] at h; exact h.elim
                  | ok x4 s4 =>
                    intro w4 v4 hs4 ht4 e4 p4
                    rw [hs3] at ee
                    obtain ⟨r4, o4⟩ := p4.fz
                    cases es : snk (fz x4) with
                    | none => simp only [lcX, ea, et, eb, ee, es] at q2; rw [← q2] at h; exact h.elim
                    | some y4 =>
                      have rd := snk_ok o4 es
                      have An3 : A ∉ w3.m := e3.out ⟨_, hA2⟩ An
                      have hA4 : w4.H A = some (.lst ys) := e4.keep A _ hA3 (nolive An3) (by simp)
                      have c4 := Cy.of r3 e4 ht4
                      simp only [lcX, ea, et, eb, ee, es] at q2
                      split at q2
                      · rename_i hl
                        have ra4 := RvL.mono c4 _ _ (RvL.mono c3 _ _ ra2)
                        have t4 : w4.T = A :: w.T := ht4.trans (ht3.trans t2)
                        have cw : Cy g [A] w4 (w4.wr A (.lst (ys ++ [v4]))) := wr_cy r4 (by rw [hA4]; trivial) (by rw [t4]; exact List.mem_cons_self)
                        have rw' : Rst g (w4.wr A (.lst (ys ++ [v4]))) := wr_rst r4 (by rw [hA4]; trivial) (by rw [t4]; exact List.mem_cons_self)
                        have x4' := (x2.trans e3).trans e4
                        have re4 := re3.next r4 e4 ht4
                        have ownne : ∀ (j : Nat) (o : O) (q : Addr), env[j]? = some (some (.own o)) → σ[j]? = some (some (.ref q)) → q ≠ A := fun j o q a b z => by
                          obtain ⟨v, k1, k2⟩ := re.sl j _ a
                          rw [b] at k1; cases k1
                          obtain ⟨p', z1, _, ro, _⟩ := k2
                          cases z1
                          obtain ⟨u, zu⟩ := ro.trk
                          rw [z, hA0] at zu; cases zu
                        refine ⟨ys, hA4, by rw [ra4.length, sizeLine_eq]; exact hl, w4.wr A (.lst (ys ++ [v4])), acc ++ [y4], ys ++ [v4], rfl, t4, ⟨rw', re4.len, fun j d' ej => ?_⟩, ((j2.mono c3).mono c4).mono cw, upd_same, RvL.mono cw _ _ (ra4.app (RvL.one rd)), ?_, by show lcX tg tt el vs it m (i + 1) (acc ++ [y4]) env w4.s = m'; rw [hs4]; exact q2⟩
                        · obtain ⟨v, k1, k2⟩ := re4.sl j d' ej
                          refine ⟨v, k1, ?_⟩
                          cases d' with
                          | own o2 =>
                            obtain ⟨q, rfl, f2, rr2, n2, tt2⟩ := k2
                            refine ⟨q, rfl, f2, rr2.same cw ?_, n2, tt2⟩
                            show upd w4.H A _ q = w4.H q
                            exact upd_ne (ownne j o2 q ej k1)
                          | bor o => exact Rv.mono cw _ _ k2
                          | non => exact Rv.mono cw _ _ k2
                          | bl b => exact Rv.mono cw _ _ k2
                          | int b => exact Rv.mono cw _ _ k2
                          | str b => exact Rv.mono cw _ _ k2
                          | tup b => exact Rv.mono cw _ _ k2
                          | lst b => exact Rv.mono cw _ _ k2
                          | scr b => exact Rv.mono cw _ _ k2
                          | dct b => exact Rv.mono cw _ _ k2
                          | ref b => exact Rv.mono cw _ _ k2
                          | exn => exact k2
                        · refine ⟨x4'.pre, fun p o hp nl nx => ?_, x4'.new, x4'.nm⟩
                          show upd w4.H A _ p = some o
                          rw [upd_ne fun z => by rw [z, hA0] at hp; cases hp]
                          exact x4'.keep p o hp nl nx
                      · rw [← q2] at h; exact h.elim
theorem tY_ok {Q : Bool → Hp → Prop} (h : tTe g W tY σ H Q) : tYes σ H Q := by
  obtain ⟨w, env, rfl, re, h⟩ := h
  exact h w true rfl rfl Ext.refl ⟨re.st, rfl⟩
end
section
variable {X : Cx} {A : Ga} {W : WX} {elt tx iter c : Expr} {ifs : List Expr} {me : Ex} {mt : Tx} {mi : Ix} {tg : Tg} {pos spos : Pos} {scope : Scope} {own : List (Str × Nat)}
abbrev MPt (X : Cx) (A : Ga) (W : WX) (ifs : List Expr) (m : Tx) : Prop := PTs X ifs (tTe (gx X A) W m)
theorem mpt_nil : MPt X A W [] tY := ⟨fun pins s σ H Q I h => pts_nil.run pins s σ H Q I (tY_ok h)⟩
theorem mpt_one (h : MT X A W c mt) : MPt X A W [c] mt := pts_one h
theorem me_lc (hc : X.calm = true) (hN : X.N.Nodup) (hi : MI X A W tx iter mi) (ok : BlkOk X.N X.env.scope scope own) {vs : List Nat} (hvs : own.map (·.2) = vs) (hv : ∀ i ∈ tg.ix, i ∈ vs)
    (hg : ∀ (s : Shared) (H : Hp) (C : Addr) (cl : List (Str × Addr)) (fp : List Addr), MG (X.blk s H scope (compEnvC scope cl C X.env) fp) tx tg) (ht : ∀ (s : Shared) (H : Hp) (C : Addr) (cl : List (Str × Addr)) (fp : List Addr), MPt (X.blk s H scope (compEnvC scope cl C X.env) fp) A W0 ifs mt)
    (he : ∀ (s : Shared) (H : Hp) (C : Addr) (cl : List (Str × Addr)) (fp : List Addr), Takes (X.blk s H scope (compEnvC scope cl C X.env) fp) W0 → ME (X.blk s H scope (compEnvC scope cl C X.env) fp) A W0 elt me) (hs : ∀ x, foldedSetIterable iter X.env x = pure x := by intro _; rfl) :
    ME X A W (.ListComp elt [⟨tx, iter, ifs, 0⟩] scope pos) (eLc tg mi mt me vs) :=
  peW (pe_lc hc hN hi ok hg ht (fun s H C cl fp => he s H C cl fp takes0) hs) fun _ _ _ h => lc_ok (by rw [hvs]; exact hv) (by rw [hvs]; exact h)
end
end Gm

set_option Elab.async false
set_option linter.all false
set_option maxRecDepth 100000
set_option autoImplicit false
set_option maxHeartbeats 1000000
namespace Gm
open PySem PySem.Spec PyProof.Rows L2
/-! ### a name that is never changed within -/
def sSetF (i : Nat) (e : Ex) : Sx := fun env s => match e env s with
  | .ok d s' => (match snk (fz d) with
    | some d => .nx (env.set i (some d)) s'
    | none => .no)
  | .exc c s' => .exc c env s'
  | .no => .no
def fIsB : Store → D → D → R D := fun s a b => match a, b with
  | .bl x, .bl y => .ok (.bl (decide (x = y))) s
  | _, _ => .no
def fNotB : Store → D → D → R D := fun s a b => match a, b with
  | .bl x, .bl y => .ok (.bl (!decide (x = y))) s
  | _, _ => .no
def fMax : Store → D → D → R D := fI cT fun i j => .int (if j > i then j else i)
def fMin : Store → D → D → R D := fI cT fun i j => .int (if j < i then j else i)
def fListOf : Store → D → R D := fun s a => match seqD s a with
  | some xs => .ok (.own (.lst xs)) s
  | none => .no
section
variable {g : Gc} {tb : List Addr} {w w' w1 w2 w3 : Wd} {env env' env1 env2 : Env} {σ σ' σ1 σ2 : Sl} {W : WX} {Dn : Ends} {H : Hp}
theorem sSetF_ok {i : Nat} {e : Ex} (h : tSt g W (sSetF i e) Dn σ H) : tAsg (tEv g W e) (gName i) Dn σ H := by
  obtain ⟨w, env, tb, rfl, r, h⟩ := h
  refine ev_in (m := sSetF i e env w.s) r h (fun c s q => by simp only [sSetF, q]) (fun q => by simp only [sSetF, q]) fun d s' w' v q h1 h2 h3 h4 => ?_
  obtain ⟨r1, o1⟩ := h4.fz
  cases es : snk (fz d) with
  | none => simp only [sSetF, q, es] at h; exact h.elim
  | some d' =>
    simp only [sSetF, q, es] at h
    have rd := snk_ok o1 es
    have r' := r.ev r1 h3 h2
    obtain ⟨w2, a, b, r2, x2⟩ := r'.setP (i := i) rd
    show Dn.nx (σ.set i (some v)) w'.H
    rw [← b]
    exact h w2 _ (a.trans h1) r2 ((Xs.ev h3).trans r r1 x2)
theorem snd_max : Snd2 g fMax fun x y H Q => ∃ i j, [x, y] = [.int i, .int j] ∧ Q (.int (if j > i then j else i)) H := by
  intro w a b x y Q r pa pb h
  obtain ⟨i, j, h1, h2, h3⟩ := snd_I0 (k := fun i j => .int (if j > i then j else i)) (fun _ _ _ => rv_int) w a b x y Q r pa pb h
  exact ⟨i, j, by rw [h1, h2], h3⟩
end
section
variable {X : Cx} {A : Ga} {W : WX} {a b c : Expr} {ma mb : Ex} {mt mu : Tx} {pos p : Pos} {rest : List Expr}
theorem ms_setF (i : Nat) {x : Str} (hN : X.N.Nodup) (h : ME X A W a ma) (hi : X.N[i]? = some x := by rfl) (hx : Loc X.env.scope x := by first | exact Or.inl rfl | exact Or.inr rfl) (hs : swapsWith a (some (.Name x p)) pos.line X.env = pure false := by rfl) (hf : X.fn x = true ∨ X.env.scope.names.lookup x = some .local := by first | exact .inl rfl | exact .inr rfl | assumption) :
    MS X A W (.Assign [.Name x p] a pos) (sSetF i ma) := psW (ps_set hN hi hx h hs hf) fun _ _ _ h => sSetF_ok h
theorem ms_setLcF {elt tx iter : Expr} {ifs : List Expr} {me : Ex} {mi : Ix} {tg : Tg} {spos : Pos} {scope : Scope} {own : List (Str × Nat)} {i : Nat} {y : Str} {py : Pos} (hc : X.calm = true) (hN : X.N.Nodup) (hy : X.N[i]? = some y) (hyl : X.env.scope.names.lookup y = some .local)
    (hsw : swapsWith (.ListComp elt [⟨tx, iter, ifs, 0⟩] scope pos) (some (.Name y py)) spos.line X.env = pure true) (hi : MI X A W tx iter mi) (ok : BlkOk X.N X.env.scope scope own) {vs : List Nat} (hvs : own.map (·.2) = vs) (hv : ∀ i ∈ tg.ix, i ∈ vs)
    (hg : ∀ (s : Shared) (H : Hp) (C : Addr) (cl : List (Str × Addr)) (fp : List Addr), MG (X.blk s H scope (compEnvC scope cl C X.env) fp) tx tg) (ht : ∀ (s : Shared) (H : Hp) (C : Addr) (cl : List (Str × Addr)) (fp : List Addr), MPt (X.blk s H scope (compEnvC scope cl C X.env) fp) A W0 ifs mt)
    (he : ∀ (s : Shared) (H : Hp) (C : Addr) (cl : List (Str × Addr)) (fp : List Addr), Takes (X.blk s H scope (compEnvC scope cl C X.env) fp) W0 → ME (X.blk s H scope (compEnvC scope cl C X.env) fp) A W0 elt me) (hs : ∀ x, foldedSetIterable iter X.env x = pure x := by intro _; rfl) :
    MS X A W (.Assign [.Name y py] (.ListComp elt [⟨tx, iter, ifs, 0⟩] scope pos) spos) (sSetF i (eLc tg mi mt me vs)) :=
  psW (ps_setLc hc hN hy hyl hsw hi ok hg ht (fun s H C cl fp => he s H C cl fp takes0) hs) fun _ _ _ h => lc_ok (by rw [hvs]; exact hv) (by rw [hvs]; exact sSetF_ok h)
/-! the operators -/
theorem me_add (ha : ME X A W a ma) (hb : ME X A W b mb) : ME X A W (.BinOp a .Add b pos) (eOp2 fAdd ma mb) := me_op (op_add.or (op_add_str.or op_cat)) snd_add ne_add ha hb
theorem me_sub (ha : ME X A W a ma) (hb : ME X A W b mb) : ME X A W (.BinOp a .Sub b pos) (eOp2 fSub ma mb) := me_op op_sub (snd_I0 fun _ _ _ => rv_int) ne_I ha hb
theorem me_mul (ha : ME X A W a ma) (hb : ME X A W b mb) : ME X A W (.BinOp a .Mult b pos) (eOp2 fMul ma mb) := me_op (op_mul.or op_rep) snd_mul ne_mul ha hb
theorem me_div (ha : ME X A W a ma) (hb : ME X A W b mb) : ME X A W (.BinOp a .FloorDiv b pos) (eOp2 fDiv ma mb) := me_op op_fdiv (snd_I (fun i j h => by
  simp only [Bool.and_eq_true, decide_eq_true_eq] at h
  exact h) fun _ _ _ => rv_int) ne_I ha hb
theorem me_mod (ha : ME X A W a ma) (hb : ME X A W b mb) : ME X A W (.BinOp a .Mod b pos) (eOp2 fMod ma mb) := me_op op_mod (snd_I (fun i j h => of_decide_eq_true h) fun _ _ _ => rv_int) ne_I ha hb
theorem me_neg (ha : ME X A W a ma) : ME X A W (.UnaryOp .USub a pos) (eOp1 fNeg ma) := me_un un_neg snd_neg ne_neg ha
theorem me_eq (hu : X.A.units + 64 < cLine) (ha : ME X A W a ma) (hb : ME X A W b mb) : ME X A W (.Compare a [.Eq] [b] pos) (eOp2 fEq ma mb) := me_cmp (op_eqD hu) snd_eq ne_eq (nomark _) ha hb
theorem mt_lt (ha : ME X A W a ma) (hb : ME X A W b mb) : MT X A W (.Compare a [.Lt] [b] pos) (tq (eOp2 fLt ma mb)) := mt_cmp op_lt (snd_I0 fun _ _ _ => rv_bl) ne_I (nomark _) ha hb
theorem mt_gt (ha : ME X A W a ma) (hb : ME X A W b mb) : MT X A W (.Compare a [.Gt] [b] pos) (tq (eOp2 fGt ma mb)) := mt_cmp op_gt (snd_I0 fun _ _ _ => rv_bl) ne_I (nomark _) ha hb
theorem mt_eq (hu : X.A.units + 64 < cLine) (ha : ME X A W a ma) (hb : ME X A W b mb) : MT X A W (.Compare a [.Eq] [b] pos) (tq (eOp2 fEq ma mb)) := mt_cmp (op_eqD hu) snd_eq ne_eq (nomark _) ha hb
theorem mt_ne (hu : X.A.units + 64 < cLine) (ha : ME X A W a ma) (hb : ME X A W b mb) : MT X A W (.Compare a [.NotEq] [b] pos) (tq (eOp2 fNe ma mb)) := mt_cmp (op_neD hu) snd_ne ne_ne (nomark _) ha hb
theorem mt_in (ha : ME X A W a ma) (hb : ME X A W b mb) (hm : behindInMarks .In b = false := by rfl) : MT X A W (.Compare a [.In] [b] pos) (tq (eOp2 (fIn false) ma mb)) := mt_cmp op_in_seq snd_in ne_in hm ha hb
theorem mt_isN (ha : ME X A W a ma) (hb : ME X A W b mb) : MT X A W (.Compare a [.Is] [b] pos) (tq (eOp2 fIsN ma mb)) := mt_cmp op_isN snd_isN ne_isN (nomark _) ha hb
theorem me_ix (ha : ME X A W a ma) (hb : ME X A W b mb) (hs : PlainIx b := by exact fun _ _ => rfl) : ME X A W (.Subscript a b pos) (eOp2 fIx ma mb) := me_ix0 ix_seq snd_ix ne_ix hs ha hb
theorem me_len (hg : Gl X "len") (hm : X.mg "len" = none) (h : ME X A W a ma) (hs : starEach [a] X.env = (false, eval a X.env) :: starEach [] X.env := by rfl) (hpl : (backTo pos (starEach [] X.env)).any (·.1) = false := by rfl) : ME X A W (.Call (.Name "len" p) [a] [] pos) (eOp1 fLen ma) :=
  me_call1 call_len snd_len ne_len hg hm boot_len h (by decide) (by decide) hs hpl
theorem me_max (hc : X.calm = true) (hg : Gl X "max") (hm : X.mg "max" = none) (ha : ME X A W a ma) (hb : ME X A W b mb) (hs : starEach [a, b] X.env = (false, eval a X.env) :: starEach [b] X.env := by rfl) (hs2 : starEach [b] X.env = (false, eval b X.env) :: starEach [] X.env := by rfl) (hpl : (backTo pos (starEach [b] X.env)).any (·.1) = false := by rfl) :
    ME X A W (.Call (.Name "max" p) [a, b] [] pos) (eOp2 fMax ma mb) := me_call2 (call_max2 hc) snd_max ne_I hg hm (by decide +kernel) ha hb (by decide) (by decide) hs hs2 hpl
end
/-! ### the law's entry -/
theorem law_in {K : PySem.W.Frag} {A : Nat → Addr} {F : Fx} {n : Nat} (h : ∀ ns : List Int, ns.length ≤ n → ∃ s', F [.scr ns] [] = .ok (.bl true) s') :
    ∀ (H : Hp) (a : Addr) (ns : List Int), ns.length ≤ n → Only H → SqL K H a (ns.map V.int) → spOf ⟨K, A, none⟩ 1 F [.ref a] H (fun v _ => v = .bl true) fun _ _ _ => False := by
  intro H a ns hl hO hS
  obtain ⟨s', e⟩ := h ns hl
  refine ⟨rfl, ⟨[], [], H, []⟩, [.scr ns], rfl, ⟨rfl, List.nodup_nil, (fun p hp => nomatch hp), (fun n p o h1 _ => nomatch h1)⟩, RvL.one ?_, ?_⟩
  · unfold Rv
    refine ⟨a, rfl, ?_⟩
    rcases hS with (hS | ⟨o, hS⟩) | hS
    · rcases hO a with z | ⟨o, xs, z⟩
      · rw [hS] at z; cases z
      · rw [hS] at z; cases z
    · exact .inl ⟨o, hS⟩
    · exact .inr hS
  · show PostF _ _ _ _ (F [.scr ns] [])
    rw [e]
    intro w' v h1 h2 h3 h4
    have z : Rv ⟨K, A, none⟩ w' (.bl true) v := h4.2
    unfold Rv at z; exact z
theorem walk_w {l : PySem.W.OpenLaw} {n k : Nat} {q : Program} {loose : List Str} {XP : (Str → Option Value) → Heap → Prop} {YP : World → Heap → Prop} {d : DefRec} {CX : World → CXT} {x : Str}
    (hn : l.most = some n) (hn2 : n ≤ sizeLine) (hdf : d.params.defaults = []) (hr : Room k callerA)
    (F : ∀ (w : World) (mg : Str → Option Value) (fa : Addr) (h : Heap), YP w h → h.Ns mainGlobals mg → mg d.name = some (.ref fa) →
      ∃ (K : PySem.W.Frag) (fd : FuncData) (sp : Sp), K.In h ∧ (∀ (s : Shared) (u : Value), BindsTo s fd ⟨[u], []⟩ [(x, u)]) ∧
        (∀ (H : Hp) (a : Addr) (ns : List Int), ns.length ≤ n → Only H → SqL K H a (ns.map V.int) → sp [.ref a] H (fun v _ => v = .bl true) fun _ _ _ => False) ∧
        ∀ base : Heap, K.In base → base.Ns mainGlobals mg → FnOk l.prog w K mg base (CX w) k fa fd [x] sp)
    (hCX : ∀ (w : World) (H : Hp) (s : Shared) (e : Value) (s' : Shared), CX w [] H s (fun _ _ _ => False) e s' → False) :
    PySem.W.WalkO q loose XP YP l.row.toRowW d [] (fun f vs => PySem.call f vs) := by
  refine Att.attach_call hn hdf fun w s₀ s₁ mg mb fa o pm cd doc a vs ns G Y ho hd hcd hmg hobj hints hlen hg => ?_
  obtain ⟨K, fd, sp, KX, hb, hsp, hF⟩ := F w mg fa _ Y G.T.g hmg
  exact law_call KX G.T.g G.T.b G.T.builtins G.T.nolimit hg hobj hints (Nat.le_trans hlen hn2) hr hF hb (fun H hO hS => hsp H a ns hlen hO hS) fun H e s' => hCX w H s₁ e s'
theorem cx_false {P : Program} {w : World} (H : Hp) (s : Shared) (e : Value) (s' : Shared) (h : L2.CX P w [] H s (fun _ _ _ => False) e s') : False := by
  obtain ⟨_, _, _, _, _, _, _, _, _, _, _, _, z⟩ := h
  exact z
end Gm

set_option Elab.async false
set_option linter.all false
set_option maxRecDepth 100000
set_option autoImplicit false
set_option maxHeartbeats 1000000
namespace Gm
open PySem PySem.Spec PyProof.Rows L2
/-! ### a caught error: asked for its kind within the suite -/
def eIsX (l : List Bool) (k i : Nat) : Ex := fun env s => match env[i]?, l[k]? with
  | some (some .exn), some b => .ok (.bl b) s
  | _, _ => .no
def noX (env : Env) : Bool := env.all fun o => match o with
  | some .exn => false
  | _ => true
/-- try: body, except the classes by ct as name i: suite k for an error of the class k -/
def sTryAs (i : Nat) (ct : List Bool) (body : Sx) (suite : Nat → Sx) : Sx := fun env s => match body env s with
  | .exc k env' s' => (match ct[k]? with
    | some true => if noX env' = true then (match suite k (env'.set i (some .exn)) s' with
      | .nx e2 s2 => if noX (e2.set i none) = true then .nx (e2.set i none) s2 else .no
      | .rt d s2 => .rt d s2
      | _ => .no) else .no
    | some false => .exc k env' s'
    | none => .no)
  | r => r
section
variable {g : Gc} {tb : List Addr} {w w' w1 w2 w3 : Wd} {env env' env1 env2 : Env} {σ σ' σ1 σ2 : Sl} {W : WX} {Dn : Ends} {H : Hp} {a : Addr}
/-- the ground within the suite of the error at a -/
abbrev Gc.at (g : Gc) (a : Option Addr) : Gc := ⟨g.K, g.A, a⟩
mutual
theorem Rv.ground {x : Option Addr} : ∀ (d : D) (v : V), Rv g w d v → Rv (g.at x) w d v
  | .non, v, h => by unfold Rv at *; exact h
  | .bl b, v, h => by unfold Rv at *; exact h
  | .int i, v, h => by unfold Rv at *; exact h
  | .str y, v, h => by unfold Rv at *; exact h
  | .tup xs, v, h => by
    unfold Rv at *
    obtain ⟨p, ys, e, q, r⟩ := h
    exact ⟨p, ys, e, q, RvL.ground xs ys r⟩
  | .lst xs, v, h => by
    unfold Rv at *
    obtain ⟨p, ys, e, q, n1, n2, r⟩ := h
    exact ⟨p, ys, e, q, n1, n2, RvL.ground xs ys r⟩
  | .scr ns, v, h => by unfold Rv at *; exact h
  | .dct kv, v, h => by
    unfold Rv at *
    obtain ⟨p, ys, e, q, n1, n2, r⟩ := h
    exact ⟨p, ys, e, q, n1, n2, RvK.ground kv ys r⟩
  | .ref n, v, h => by unfold Rv at *; exact h
  | .own _, v, h => by unfold Rv at h; exact h.elim
  | .bor _, v, h => by unfold Rv at h; exact h.elim
  | .exn, v, h => by unfold Rv at h; exact h.elim
theorem RvL.ground {x : Option Addr} : ∀ (ds : List D) (ys : List V), RvL g w ds ys → RvL (g.at x) w ds ys
  | [], ys, h => by unfold RvL at *; exact h
  | d :: r, ys, h => by
    unfold RvL at *
    obtain ⟨y, t, e, p, q⟩ := h
    exact ⟨y, t, e, Rv.ground d y p, RvL.ground r t q⟩
theorem RvK.ground {x : Option Addr} : ∀ (ds : List (Key × D)) (ys : List (Key × V)), RvK g w ds ys → RvK (g.at x) w ds ys
  | [], ys, h => by unfold RvK at *; exact h
  | (k, d) :: r, ys, h => by
    unfold RvK at *
    obtain ⟨y, t, e, p, q⟩ := h
    exact ⟨y, t, e, Rv.ground d y p, RvK.ground r t q⟩
end
theorem RvF.ground {x : Option Addr} : ∀ (ds : List (Str × D)) (ys : List (Str × V)), RvF g w ds ys → RvF (g.at x) w ds ys
  | [], ys, h => by unfold RvF at *; exact h
  | (k, d) :: r, ys, h => by
    unfold RvF at *
    obtain ⟨y, t, e, p, q⟩ := h
    exact ⟨y, t, e, Rv.ground d y p, RvF.ground r t q⟩
theorem Ro.ground {x : Option Addr} {p : Addr} {o : O} (h : Ro g w p o) : Ro (g.at x) w p o := by
  cases o with
  | lst xs => obtain ⟨ys, e, z⟩ := h; exact ⟨ys, e, RvL.ground _ _ z⟩
  | dK xs => obtain ⟨ys, e, z⟩ := h; exact ⟨ys, e, RvK.ground _ _ z⟩
  | ins c xs => obtain ⟨dx, ys, e, z⟩ := h; exact ⟨dx, ys, e, RvF.ground _ _ z⟩
  | dead => exact h
  | dT xs => exact h
theorem Rst.ground {x : Option Addr} (r : Rst g w) : Rst (g.at x) w := ⟨r.len, r.nd, r.tt, fun n p o h1 h2 => (r.ce n p o h1 h2).ground⟩
theorem noX_ok (h : noX env = true) (i : Nat) : env[i]? ≠ some (some .exn) := fun e => by
  unfold noX at h
  rw [List.all_eq_true] at h
  have := h _ (List.mem_of_getElem? e)
  cases this
theorem Rm.ground {x : Option Addr} (r : Rm g tb w env σ) (hn : noX env = true) : Rm (g.at x) tb w env σ := by
  refine ⟨⟨r.re.st.ground, r.re.len, fun i d e => ?_⟩, r.T, r.inj, r.dj⟩
  obtain ⟨v, k1, k2⟩ := r.re.sl i d e
  refine ⟨v, k1, ?_⟩
  cases d with
  | own o => obtain ⟨p, e1, f, ro, n, t⟩ := k2; exact ⟨p, e1, f, ro.ground, n, t⟩
  | exn => exact absurd e (noX_ok hn i)
  | bor o => exact Rv.ground _ _ k2
  | non => exact Rv.ground _ _ k2
  | bl b => exact Rv.ground _ _ k2
  | int b => exact Rv.ground _ _ k2
  | str b => exact Rv.ground _ _ k2
  | tup b => exact Rv.ground _ _ k2
  | lst b => exact Rv.ground _ _ k2
  | scr b => exact Rv.ground _ _ k2
  | dct b => exact Rv.ground _ _ k2
  | ref b => exact Rv.ground _ _ k2
theorem Pt.ground {ow : List Addr} {H0 : Hp} {d : D} {v : V} {x : Option Addr} (h : Pt g ow H0 w d v) : Pt (g.at x) ow H0 w d v := by
  cases d with
  | own o => obtain ⟨p, e1, b, n, f, r, ro⟩ := h; exact ⟨p, e1, b, n, f, r.ground, ro.ground⟩
  | _ => exact ⟨h.1.ground, Rv.ground _ _ h.2⟩
/-- a slot is emptied -/
theorem ownAt_del {i j : Nat} {p : Addr} {v : Option V} (h : OwnAt (env.set i none) (σ.set i v) j p) : OwnAt env σ j p := by
  obtain ⟨o, e1, e2⟩ := h
  by_cases q : j = i
  · subst q
    have hl : j < env.length := by
      have := (List.getElem?_eq_some_iff.mp e1).1
      rwa [List.length_set] at this
    rw [List.getElem?_set_self hl] at e1
    cases e1
  · rw [List.getElem?_set_ne (Ne.symm q)] at e1 e2
    exact ⟨o, e1, e2⟩
theorem Rm.del {i : Nat} (r : Rm g tb w env σ) : ∃ w', w'.s = w.s ∧ w'.H = w.H ∧ Rm g tb w' (env.set i none) (σ.set i none) ∧ Xs w env σ w' (env.set i none) (σ.set i none) := by
  generalize hT : owns (env.set i none) (σ.set i none) ++ tb = T
  have mT : ∀ p, p ∈ T ↔ p ∈ owns (env.set i none) (σ.set i none) ∨ p ∈ tb := fun p => by rw [← hT, List.mem_append]
  have so : ∀ p ∈ owns (env.set i none) (σ.set i none), p ∈ owns env σ := fun p hp => by
    obtain ⟨j, hj⟩ := mem_owns.mp hp
    exact mem_owns.mpr ⟨j, ownAt_del hj⟩
  have sub : ∀ p ∈ T, p ∈ w.T := fun p hp => by
    rcases (mT p).mp hp with z | z
    · exact (r.T p).mpr (.inl (so p z))
    · exact (r.T p).mpr (.inr z)
  have c : Cy g [] w (w.wT T) := Cy.sub r.re.st sub
  refine ⟨w.wT T, rfl, rfl, ⟨⟨r.re.st.inT sub, by rw [List.length_set, List.length_set]; exact r.re.len, fun j d e => ?_⟩, mT, fun x y p hx hy => r.inj x y p (ownAt_del hx) (ownAt_del hy), fun p hp => r.dj p (so p hp)⟩, ⟨⟨⟨[], by simp⟩, fun _ _ e _ _ => e, fun _ h => .inl h, fun _ h => .inl h⟩, fun p hp => .inl (so p hp)⟩⟩
  by_cases q : j = i
  · subst q
    have hl : j < env.length := by
      have := (List.getElem?_eq_some_iff.mp e).1
      rwa [List.length_set] at this
    rw [List.getElem?_set_self hl] at e
    cases e
  · have e' := e
    rw [List.getElem?_set_ne (Ne.symm q)] at e'
    obtain ⟨v, k1, k2⟩ := r.re.sl j d e'
    have k1' : (σ.set i none)[j]? = some (some v) := by rw [List.getElem?_set_ne (Ne.symm q)]; exact k1
    refine ⟨v, k1', ?_⟩
    cases d with
    | own o => obtain ⟨p, rfl, f, ro, n, t⟩ := k2; exact ⟨p, rfl, f, ro.mono c (nolive n) (by simp), n, (mT p).mpr (.inl (mem_owns.mpr ⟨j, o, e, k1'⟩))⟩
    | exn => exact k2
    | bor o => exact Rv.mono c _ _ k2
    | non => exact Rv.mono c _ _ k2
    | bl b => exact Rv.mono c _ _ k2
    | int b => exact Rv.mono c _ _ k2
    | str b => exact Rv.mono c _ _ k2
    | tup b => exact Rv.mono c _ _ k2
    | lst b => exact Rv.mono c _ _ k2
    | scr b => exact Rv.mono c _ _ k2
    | dct b => exact Rv.mono c _ _ k2
    | ref b => exact Rv.mono c _ _ k2
theorem Rm.exn {i : Nat} (r : Rm g tb w env σ) (hx : g.x = some a) : ∃ w', w'.s = w.s ∧ w'.H = w.H ∧ Rm g tb w' (env.set i (some .exn)) (σ.set i (some (.ref a))) ∧ Xs w env σ w' (env.set i (some .exn)) (σ.set i (some (.ref a))) := by
  obtain ⟨x, y⟩ := r.set (i := i) (H0 := w.H) (d := .exn) (v := .ref a) Ext.refl rfl ⟨r.re.st, a, hx, rfl⟩ (fun o z => nomatch z)
  exact ⟨w.wT (owns (env.set i (some .exn)) (σ.set i (some (.ref a))) ++ tb), rfl, rfl, x, y⟩
theorem sTryAs_ok {g0 : Gc} (hg0 : g0.x = none) {K : PySem.W.Frag} {c : Value} {i : Nat} {ct : List Bool} {body : Sx} {suite : Nat → Sx} {Wout : WX} (hct : ∀ k b, ct[k]? = some b → PySem.W.exmOne K (.ref (g0.A k)) c = some b) (h : tSt g0 Wout (sTryAs i ct body suite) Dn σ H) :
    tSt g0 (wAs K c i (fun a cls d => fun D2 σ H => ∃ k, ct[k]? = some true ∧ cls = .ref (g0.A k) ∧ d = none ∧ tSt (g0.at (some a)) W0 (suite k) D2 σ H) Wout Dn) body Dn σ H := by
  obtain ⟨w, env, tb, rfl, r, h⟩ := h
  refine ⟨w, env, tb, rfl, r, ?_⟩
  cases q : body env w.s with
  | nx e s => simp only [sTryAs, q] at h; exact h
  | rt d s => simp only [sTryAs, q] at h; exact h
  | bk e s => simp only [sTryAs, q] at h; exact h
  | ct e s => simp only [sTryAs, q] at h; exact h
  | no => simp only [sTryAs, q] at h; exact h
  | exc k env' s' =>
    intro w1 σ1 h1 r1 x1
    cases ek : ct[k]? with
    | none => simp only [sTryAs, q, ek] at h; exact h.elim
    | some b =>
      refine ⟨b, hct k b ek, fun hb => ?_, fun hb => ?_⟩
      · subst hb
        simp only [sTryAs, q, ek] at h
        split at h
        · rename_i hn
          intro a ha
          refine ⟨k, ek, rfl, rfl, ?_⟩
          have r2 : Rm (g0.at (some a)) tb w1 env' σ1 := r1.ground hn
          obtain ⟨w2, e1, e2, r3, x3⟩ := r2.exn (i := i) (a := a) rfl
          refine ⟨w2, env'.set i (some .exn), tb, e2, r3, ?_⟩
          have x13 := x1.trans r r1.re.st x3
          rw [e1, h1]
          have es : ({ K := g0.K, A := g0.A, x := none } : Gc) = g0 := by cases g0; cases hg0; rfl
          cases qs : suite k (env'.set i (some .exn)) s' with
          | nx e2' s2 =>
            simp only [qs] at h
            split at h
            · rename_i hn2
              intro w4 σ4 h4 r4 x4
              obtain ⟨w5, e3, e4, r5, x5⟩ := r4.del (i := i)
              have r6 : Rm g0 tb w5 (e2'.set i none) (σ4.set i none) := es ▸ (r5.ground (x := none) hn2)
              show Dn.nx (σ4.set i none) w4.H
              rw [← e4]
              have rr3 : Rst g0 w2 := es ▸ r3.re.st.ground (x := none)
              have rr4 : Rst g0 w4 := es ▸ r4.re.st.ground (x := none)
              have t1 : Xs w env σ w4 e2' σ4 := x13.trans r rr3 x4
              exact h w5 _ (e3.trans h4) r6 (t1.trans r rr4 x5)
            · exact h.elim
          | rt d s2 =>
            simp only [qs] at h
            intro w4 v h4 t4 x4 p4
            have rr3 : Rst g0 w2 := es ▸ r3.re.st.ground (x := none)
            refine h w4 v h4 t4 (x13.e.transS x4 x13.ow) ?_
            have p5 : Pt g0 (owns (env'.set i (some D.exn)) (σ1.set i (some (.ref a)))) w2.H w4 d v := by
              have z := p4.ground (x := none)
              exact es ▸ z
            exact p5.imp fun p z => by
              rcases z with z | z
              · exact backS r rr3 x13.e z
              · rcases x13.ow p z with q | q
                · exact .inr q
                · exact .inl q
          | bk e s => simp only [qs] at h; exact h.elim
          | ct e s => simp only [qs] at h; exact h.elim
          | exc k2 e s => simp only [qs] at h; exact h.elim
          | no => simp only [qs] at h; exact h.elim
        · exact h.elim
      · subst hb
        simp only [sTryAs, q, ek] at h
        exact h w1 σ1 h1 r1 x1
end
/-! ### statements within a suite, and the try -/
section
variable {X : Cx} {A : Nat → Addr} {W : WX} {e b : Expr} {pos p p2 pos' np : Pos}
theorem ms_tryAs {x n : Str} {i : Nat} {c : Value} {ct : List Bool} {body suite : List Stmt} {b0 : Stmt} {mb : Sx} {ms : Nat → Sx} (hs : X.stack = X.env :: X.outer) (hf : X.env.frame = some X.env.locals) (hN : X.N.Nodup) (hi : X.N[i]? = some n) (hln : X.env.kindOf n = some .local) (hc : Names X x c) (tk : Takes X W)
    (hct : ∀ k b, ct[k]? = some b → PySem.W.exmOne X.K (.ref (A k)) c = some b)
    (hb : ∀ (W' : WX) (pn : List (Addr × Obj)) (xe : Value → Shared → Prop), Takes (X.tr pn xe) W' → PassesOwn (model X.prog X.w) X.A X.env xe → MSs (X.tr pn xe) ⟨A, none⟩ W' body mb)
    (hsu : ∀ (k : Nat) (_ : ct[k]? = some true) (a : Addr) (oe : Obj) (pn : List (Addr × Obj)), Zc (.ref (A k)) none oe → (∃ vs, oe.data = .fields vs) → MSs (X.suite a ((a, oe) :: pn)) ⟨A, some a⟩ W0 (b0 :: suite) (ms k)) :
    MS X ⟨A, none⟩ W (.Try body [.ExceptHandler (some (.Name x np)) (some n) (b0 :: suite) pos'] [] [] pos) (sTryAs i ct mb ms) :=
  psW (ps_try_as (tb := fun W' => tSt (gx X ⟨A, none⟩) W' mb) (ts := fun a cls d => fun D2 σ H => ∃ k, ct[k]? = some true ∧ cls = .ref (A k) ∧ d = none ∧ tSt ⟨X.K, A, some a⟩ W0 (ms k) D2 σ H) hs hf hN hi hln hc tk hb
    (fun a oe cls d pn hz hfd => ⟨fun pins s σ H D I h => by
      obtain ⟨k, hk, rfl, rfl, h⟩ := h
      exact (hsu k hk a oe pn hz hfd).run pins s σ H D I h⟩)) fun _ _ _ h => sTryAs_ok (g0 := gx X ⟨A, none⟩) rfl hct h
/-- isinstance(e, C), e the caught error, C an own class -/
theorem me_isX {a : Addr} {oe : Obj} {pn : List (Addr × Obj)} {l : List Bool} {k i : Nat} {n x : Str} {C : Addr} (hE : ExcC X.K (A k)) (hz : Zc (.ref (A k)) none oe) (hfd : ∃ vs, oe.data = .fields vs) (hl : ∀ b, l[k]? = some b → PySem.W.kitOne X.K (.ref (A k)) (.ref C) = some b)
    (hN : X.N[i]? = some n) (hv : Vis X.env.scope n) (hg : Gl X "isinstance") (hm : X.mg "isinstance" = none) (hgx : Gl X x) (hmx : X.mg x = some (.ref C)) (hd : (n == ("__debug__" : Str)) = false) (hcd : (n == ("__classdict__" : Str)) = false) (hdx : (x == ("__debug__" : Str)) = false)
    (hs : starEach [.Name n p, .Name x p2] X.env = (false, eval (.Name n p) X.env) :: starEach [.Name x p2] X.env) (hs2 : starEach [.Name x p2] X.env = (false, eval (.Name x p2) X.env) :: starEach [] X.env) (hpl : (backTo pos (starEach [.Name x p2] X.env)).any (·.1) = false) :
    ME (X.suite a ((a, oe) :: pn)) ⟨A, some a⟩ W0 (.Call (.Name "isinstance" np) [.Name n p, .Name x p2] [] pos) (eIsX l k i) :=
  peW (pe_callB (X := X.suite a ((a, oe) :: pn)) (call_isE hE hz hfd) hg hm (by decide +kernel) (pa_cons (pe_var (X := X.suite a ((a, oe) :: pn)) hN hv hd hcd) (pa_cons (pe_glob (X := X.suite a ((a, oe) :: pn)) (v := .ref C) hgx hmx rfl hdx) pa_nil hs2) hs) (by decide) (by decide) hs hpl) fun σ H Q h => by
    obtain ⟨w, env, rfl, re, h⟩ := h
    cases ei : env[i]? with
    | none => simp only [eIsX, ei] at h; exact h.elim
    | some o =>
      cases el : l[k]? with
      | none => simp only [eIsX, ei, el] at h; exact h.elim
      | some b =>
        cases o with
        | none => simp only [eIsX, ei, el] at h; exact h.elim
        | some d =>
          cases d with
          | exn =>
            simp only [eIsX, ei, el] at h
            obtain ⟨v, k1, a', k2, rfl⟩ := re.sl i _ ei
            cases k2
            exact ⟨_, k1, .ref C, .ref C, b, rfl, (fun u r => r), hl b el, h w (.bl b) rfl rfl Ext.refl (.of re.st rv_bl)⟩
          | _ => simp only [eIsX, ei, el] at h; exact h.elim
/-- .. C a built-in class -/
theorem me_isT {a : Addr} {oe : Obj} {pn : List (Addr × Obj)} {l : List Bool} {k i : Nat} {n x : Str} {T : String} (hE : ExcC X.K (A k)) (hz : Zc (.ref (A k)) none oe) (hfd : ∃ vs, oe.data = .fields vs) (hl : ∀ b, l[k]? = some b → PySem.W.kitOne X.K (.ref (A k)) (.type T) = some b)
    (hN : X.N[i]? = some n) (hv : Vis X.env.scope n) (hg : Gl X "isinstance") (hm : X.mg "isinstance" = none) (hgx : Gl X x) (hmx : X.mg x = none) (hvx : bootBuiltins x = some (.type T)) (hnx : x ≠ "__name__") (hd : (n == ("__debug__" : Str)) = false) (hcd : (n == ("__classdict__" : Str)) = false) (hdx : (x == ("__debug__" : Str)) = false)
    (hs : starEach [.Name n p, .Name x p2] X.env = (false, eval (.Name n p) X.env) :: starEach [.Name x p2] X.env) (hs2 : starEach [.Name x p2] X.env = (false, eval (.Name x p2) X.env) :: starEach [] X.env) (hpl : (backTo pos (starEach [.Name x p2] X.env)).any (·.1) = false) :
    ME (X.suite a ((a, oe) :: pn)) ⟨A, some a⟩ W0 (.Call (.Name "isinstance" np) [.Name n p, .Name x p2] [] pos) (eIsX l k i) :=
  peW (pe_callB (X := X.suite a ((a, oe) :: pn)) (call_isE hE hz hfd) hg hm (by decide +kernel) (pa_cons (pe_var (X := X.suite a ((a, oe) :: pn)) hN hv hd hcd) (pa_cons (pe_bltn (X := X.suite a ((a, oe) :: pn)) (v := .ty T) hgx hmx hvx rfl hnx hdx) pa_nil hs2) hs) (by decide) (by decide) hs hpl) fun σ H Q h => by
    obtain ⟨w, env, rfl, re, h⟩ := h
    cases ei : env[i]? with
    | none => simp only [eIsX, ei] at h; exact h.elim
    | some o =>
      cases el : l[k]? with
      | none => simp only [eIsX, ei, el] at h; exact h.elim
      | some b =>
        cases o with
        | none => simp only [eIsX, ei, el] at h; exact h.elim
        | some d =>
          cases d with
          | exn =>
            simp only [eIsX, ei, el] at h
            obtain ⟨v, k1, a', k2, rfl⟩ := re.sl i _ ei
            cases k2
            exact ⟨_, k1, .ty T, .type T, b, rfl, (fun u r => r), hl b el, h w (.bl b) rfl rfl Ext.refl (.of re.st rv_bl)⟩
          | _ => simp only [eIsX, ei, el] at h; exact h.elim
end
/-! ### the head with more facts -/
theorem eccB_ok {K : PySem.W.Frag} {C : Addr} (h : eccB K C = true) : ExcC K C := by
  unfold eccB at h
  simp only [Bool.and_eq_true, decide_eq_true_eq] at h
  obtain ⟨h1, h2, h3, h4, h5, h6, h7, h8⟩ := h
  exact ⟨h1, h2, h3, h4, h5, h6, h7, h8⟩
def obsE (n : Nat) (fa : List He.Fa) (fn : List He.DefD) (ex : Exs) (g : Addr → Option Obj) : He.AlD × Bool := (He.obsD fa fn (He.frG g (He.asD g n)), exK ex (He.frG g (He.asD g n)))
def hookE (n : Nat) (fa : List He.Fa) (fn : List He.DefD) (ex : Exs) : PySem.W.Hook where
  α := He.AlD × Bool
  obs := fun s => obsE n fa fn ex s.heap.get?
  val := fun _ => (He.valD fn, true)
  says := fun _ h => ∃ K : PySem.W.Frag, K.In h ∧ He.SaysD fa fn K ∧ exK ex K = true
  of := fun _ _ e => ⟨_, He.frG_in, congrArg (fun z : He.AlD × Bool => z.1) e, congrArg (fun z : He.AlD × Bool => z.2) e⟩
  keeps := fun _ _ _ ⟨K, hK, c⟩ k => ⟨K, PySem.W.Frag.In.keeps hK k, c⟩
theorem exK_at {ex : Exs} {K : PySem.W.Frag} (h : exK ex K = true) (i : Nat) {f : PySem.W.Frag → Bool} (e : ex[i]? = some f) : f K = true := by
  unfold exK at h
  exact List.all_eq_true.mp h f (List.mem_of_getElem? e)
end Gm

set_option Elab.async false
set_option linter.all false
set_option maxRecDepth 100000
set_option autoImplicit false
set_option maxHeartbeats 1000000
namespace Gm
open PySem PySem.Spec PyProof.Rows L2
/-! ### pop of a list in the store -/
def fPop : Store → D → R D := fun s a => match a with
  | .ref n => (match s[n]? with
    | some (.lst xs) => (match xs[xs.length - 1]? with
      | some y => .ok y (s.set n (.lst xs.dropLast))
      | none => .no)
    | _ => .no)
  | _ => .no
def isLD (s : Store) (d : D) : Bool := match dr s d with
  | some (.lst _) => true
  | _ => false
/-- a method of a list with one argument -/
def eMeth (f : Store → D → D → R D) (a b : Ex) : Ex := fun env s => match a env s with
  | .ok x s1 => if isLD s1 (fz x) = true then (match b env s1 with
    | .ok y s2 => f s2 (fz x) (fz y)
    | .exc c s2 => .exc c s2
    | .no => .no) else .no
  | .exc c s1 => .exc c s1
  | .no => .no
def fPopAt : Store → D → D → R D := fun s a b => match a, b with
  | .ref n, .int i => (match s[n]? with
    | some (.lst xs) => if -9223372036854775808 ≤ i ∧ i < 9223372036854775808 then (match ixN xs.length i with
      | some k => (match xs[k]? with
        | some y => .ok y (s.set n (.lst (xs.eraseIdx k)))
        | none => .no)
      | none => .no) else .no
    | _ => .no)
  | _, _ => .no
/-! ### a < b < c -/
def eChain (f f' : Store → D → D → R D) (a b c : Ex) : Ex := fun env s => match a env s with
  | .ok x s1 => (match b env s1 with
    | .ok y s2 => (match f s2 (fz x) (fz y) with
      | .ok (.bl true) s3 => (match c env s3 with
        | .ok z s4 => f' s4 (fz y) (fz z)
        | .exc k s' => .exc k s'
        | .no => .no)
      | .ok (.bl false) s3 => .ok (.bl false) s3
      | _ => .no)
    | .exc k s' => .exc k s'
    | .no => .no)
  | .exc k s' => .exc k s'
  | .no => .no
section
variable {g : Gc} {w w' : Wd} {env : Env} {σ : Sl} {W : WX} {H : Hp} {Q : VK}
theorem eChain_ok {f f' : Store → D → D → R D} {r r' : R2} {a b c : Ex} (hf : Snd2 g f r) (hf' : Snd2 g f' r') (hne : ∀ s x y c s', f s x y ≠ .exc c s') (hne' : ∀ s x y c s', f' s x y ≠ .exc c s') (h : tEv g W (eChain f f' a b c) σ H Q) :
    tChain r r' (tEv g W a) (tEv g W b) (tEv g W c) σ H Q := by
  obtain ⟨w, env, rfl, re, h⟩ := h
  refine ⟨w, env, rfl, re, ?_⟩
  refine Post.step (m' := eChain f f' a b c env w.s) h (fun c s e => by simp only [eChain, e]) (fun e => by simp only [eChain, e]) fun x s1 w1 v ea hs1 ht1 e1 p1 => ?_
  obtain ⟨r1, o1⟩ := p1.fz
  refine ⟨w1, env, rfl, re.next r1 e1 ht1, ?_⟩
  have h1 := h.next e1 ht1 (fun _ _ w2 _ q => q.back re.st r1 e1)
  refine Post.step (m' := eChain f f' a b c env w.s) h1 (fun c s e => by rw [hs1] at e; simp only [eChain, ea, e]) (fun e => by rw [hs1] at e; simp only [eChain, ea, e]) fun y s2 w2 u eb hs2 ht2 e2 p2 => ?_
  obtain ⟨r2, o2⟩ := p2.fz
  rw [hs1] at eb
  have o1' := o1.mono (Cy.of r1 e2 ht2)
  refine hf w2 (fz x) (fz y) v u _ r2 o1' o2 ?_
  cases ef : f w2.s (fz x) (fz y) with
  | no => rw [hs2] at ef; simp only [eChain, ea, eb, ef] at h; exact h.elim
  | exc k s => exact absurd ef (hne _ _ _ _ _)
  | ok z s3 =>
    intro w3 v3 hs3 ht3 e3 p3
    rw [hs2] at ef
    have t3 : w3.T = w.T := ht3.trans (ht2.trans ht1)
    have e13 := (e1.trans e2).trans e3
    cases z with
    | bl k =>
      obtain ⟨r3, q3⟩ : Rst g w3 ∧ Rv g w3 (.bl k) v3 := p3
      unfold Rv at q3
      subst q3
      refine ⟨k, rfl, ?_⟩
      cases k with
      | false =>
        simp only [eChain, ea, eb, ef] at h
        exact iteF (h w3 _ hs3 t3 e13 (.of r3 rv_bl))
      | true =>
        refine iteT ⟨w3, env, rfl, re.next r3 e13 t3, ?_⟩
        refine Post.step (m' := eChain f f' a b c env w.s) (h.next e13 t3 fun _ _ w2 _ q => q.back re.st r3 e13) (fun c s e => by rw [hs3] at e; simp only [eChain, ea, eb, ef, e]) (fun e => by rw [hs3] at e; simp only [eChain, ea, eb, ef, e]) fun z s4 w4 v4 ec hs4 ht4 e4 p4 => ?_
        obtain ⟨r4, o4⟩ := p4.fz
        rw [hs3] at ec
        have em : eChain f f' a b c env w.s = f' w4.s (fz y) (fz z) := by simp only [eChain, ea, eb, ef, ec, hs4]
        rw [em] at h
        exact hf' w4 (fz y) (fz z) u v4 Q r4 ((o2.mono (Cy.of r2 e3 ht3)).mono (Cy.of r3 e4 ht4)) o4 (PostV.next re.st r4 (e13.trans e4) (ht4.trans t3) h fun c s => hne' _ _ _ _ _)
    | _ => simp only [eChain, ea, eb, ef] at h; exact h.elim
end
section
variable {X : Cx} {A : Ga} {W : WX} {a b c e o : Expr} {ma mb mc : Ex} {pos apos cpos : Pos}
theorem mt_chain {op op' : CmpOp} {f f' : Store → D → D → R D} {r r' : R2} (ho : OpR X (compareOp op) r) (ho' : OpR X (compareOp op') r') (hf : Snd2 (gx X A) f r) (hf' : Snd2 (gx X A) f' r') (hne : ∀ s x y c s', f s x y ≠ .exc c s') (hne' : ∀ s x y c s', f' s x y ≠ .exc c s')
    (hm : lastMarks [op, op'] [b, c] = false) (ha : ME X A W a ma) (hb : ME X A W b mb) (hc : ME X A W c mc) : MT X A W (.Compare a [op, op'] [b, c] pos) (tq (eChain f f' ma mb mc)) := ptW (pt_chain ho ho' ha hb hc hm) fun _ _ _ h => eChain_ok hf hf' hne hne' (tq_ok h)
theorem mt_lele (ha : ME X A W a ma) (hb : ME X A W b mb) (hc : ME X A W c mc) (hm : lastMarks [.LtE, .LtE] [b, c] = false := by with_unfolding_all rfl) : MT X A W (.Compare a [.LtE, .LtE] [b, c] pos) (tq (eChain fLe fLe ma mb mc)) := mt_chain op_le op_le (snd_I0 fun _ _ _ => rv_bl) (snd_I0 fun _ _ _ => rv_bl) ne_I ne_I hm ha hb hc
end
/-! a name's new list is given to the store -/
def sAd (i : Nat) (m : Sx) : Sx := fun env s => match m env s with
  | .nx e s' => .nx (gAd i e s').1 (gAd i e s').2
  | r => r
section
variable {X : Cx} {A : Ga} {W : WX} {st : Stmt} {m : Sx} {g : Gc} {Dn : Ends} {σ : Sl} {H : Hp}
end
end Gm

set_option Elab.async false
set_option linter.all false
set_option maxRecDepth 100000
set_option autoImplicit false
set_option maxHeartbeats 1000000
namespace Gm
open PySem PySem.Spec PyProof.Rows L2
/-! ### dicts -/
def kD : D → Option Key
  | .int i => some (.inl i)
  | .str x => some (.inr x)
  | _ => none
def valD (kv : List (Key × D)) (k : Key) : Option D := (kv.find? fun p => decide (p.1 = k)).map (·.2)
def putD (kv : List (Key × D)) (k : Key) (d : D) : List (Key × D) := if (kv.any fun p => decide (p.1 = k)) = true then kv.map (fun p => if p.1 = k then (p.1, d) else p) else kv ++ [(k, d)]
/-- d[k] -/
def fDG : Store → D → D → R D := fun s a b => match drM s a, kD b with
  | some (.dK kv), some k => (match valD kv k with
    | some d => .ok d s
    | none => .no)
  | _, _ => .no
/-- k in d -/
def fDIn (neg : Bool) : Store → D → D → R D := fun s a b => match kD a, drM s b with
  | some k, some (.dK kv) => .ok (.bl (if neg then !(valD kv k).isSome else (valD kv k).isSome)) s
  | _, _ => .no
def eDct0 : Ex := fun _ s => .ok (.own (.dK [])) s
section
variable {g : Gc} {tb : List Addr} {w w' w1 w2 w3 : Wd} {env env' env1 env2 : Env} {σ σ' σ1 σ2 : Sl} {W : WX} {Dn : Ends} {H : Hp}
theorem kD_ok {d : D} {v : V} {k : Key} (h : Po g w d v) (e : kD d = some k) : v = kV k := by
  cases d with
  | int i => cases e; exact po_int h
  | str i => cases e; exact po_str h
  | _ => cases e
theorem RvK.val (k : Key) : ∀ {kv : List (Key × D)} {ys : List (Key × V)}, RvK g w kv ys → (valD kv k = none ∧ valV ys k = none) ∨ ∃ d v, valD kv k = some d ∧ valV ys k = some v ∧ Rv g w d v
  | [], ys, h => by unfold RvK at h; subst h; exact .inl ⟨rfl, rfl⟩
  | (j, d) :: r, ys, h => by
    unfold RvK at h
    obtain ⟨y, t, rfl, h1, h2⟩ := h
    by_cases e : j = k
    · exact .inr ⟨d, y, by simp [valD, List.find?_cons, e], by simp [valV, List.find?_cons, e], h1⟩
    · have e1 : valD ((j, d) :: r) k = valD r k := by simp [valD, List.find?_cons, e]
      have e2 : valV ((j, y) :: t) k = valV t k := by simp [valV, List.find?_cons, e]
      rw [e1, e2]
      exact RvK.val k h2
theorem RvK.any (k : Key) : ∀ {kv : List (Key × D)} {ys : List (Key × V)}, RvK g w kv ys → (kv.any fun p => decide (p.1 = k)) = ys.any fun p => decide (p.1 = k)
  | [], ys, h => by unfold RvK at h; subst h; rfl
  | (j, d) :: r, ys, h => by
    unfold RvK at h
    obtain ⟨y, t, rfl, h1, h2⟩ := h
    rw [List.any_cons, List.any_cons, RvK.any k h2]
theorem RvK.len : ∀ {kv : List (Key × D)} {ys : List (Key × V)}, RvK g w kv ys → ys.length = kv.length
  | [], ys, h => by unfold RvK at h; subst h; rfl
  | (j, d) :: r, ys, h => by
    unfold RvK at h
    obtain ⟨y, t, rfl, h1, h2⟩ := h
    rw [List.length_cons, List.length_cons, RvK.len h2]
theorem RvK.repl {k : Key} {d : D} {v : V} (h : Rv g w d v) : ∀ {kv : List (Key × D)} {ys : List (Key × V)}, RvK g w kv ys → RvK g w (kv.map fun p => if p.1 = k then (p.1, d) else p) (ys.map fun p => if p.1 = k then (p.1, v) else p)
  | [], ys, q => by unfold RvK at q; subst q; simp [RvK]
  | (j, d') :: r, ys, q => by
    unfold RvK at q
    obtain ⟨y, t, rfl, h1, h2⟩ := q
    have ih := RvK.repl (k := k) h h2
    rw [List.map_cons, List.map_cons]
    by_cases e : j = k
    · simp only [e, if_true]
      unfold RvK
      exact ⟨v, _, rfl, h, ih⟩
    · simp only [e, if_false]
      unfold RvK
      exact ⟨y, _, rfl, h1, ih⟩
theorem RvK.snoc {k : Key} {d : D} {v : V} (h : Rv g w d v) : ∀ {kv : List (Key × D)} {ys : List (Key × V)}, RvK g w kv ys → RvK g w (kv ++ [(k, d)]) (ys ++ [(k, v)])
  | [], ys, q => by
    unfold RvK at q; subst q
    show RvK g w [(k, d)] [(k, v)]
    unfold RvK
    exact ⟨v, [], rfl, h, by unfold RvK; rfl⟩
  | (j, d') :: r, ys, q => by
    unfold RvK at q
    obtain ⟨y, t, rfl, h1, h2⟩ := q
    have ih := RvK.snoc (k := k) h h2
    rw [List.cons_append, List.cons_append]
    unfold RvK
    exact ⟨y, _, rfl, h1, ih⟩
theorem RvK.put {k : Key} {d : D} {v : V} (h : Rv g w d v) {kv : List (Key × D)} {ys : List (Key × V)} (q : RvK g w kv ys) : RvK g w (putD kv k d) (putK ys k v) := by
  unfold putD putK
  rw [RvK.any k q]
  split
  · exact RvK.repl h q
  · exact RvK.snoc h q
theorem drM_dK {a : D} {x : V} {kv : List (Key × D)} (r : Rst g w) (h : Po g w a x) (e : drM w.s a = some (.dK kv)) : ∃ p ys, x = .ref p ∧ w.H p = some (.dK ys) ∧ RvK g w kv ys := by
  obtain ⟨p, e1, ys, e2, e3⟩ := drM_ok r h e
  exact ⟨p, ys, e1, e2, e3⟩
def rDG : R2 := fun x y H Q => ∃ a v, x = .ref a ∧ DGet H a y (some v) ∧ Q v H
def rDIn (neg : Bool) : R2 := fun y x H Q => ∃ a o, x = .ref a ∧ DGet H a y o ∧ Q (.bl (if neg then !o.isSome else o.isSome)) H
/-! d[k] = e, d a name -/
def mutD (i : Nat) (f : List (Key × D) → List (Key × D)) (env : Env) (s : Store) : Option (Env × Store) := match env[i]? with
  | some (some (.own (.dK xs))) => if xs.length < 16777216 then some (env.set i (some (.own (.dK (f xs)))), s) else none
  | some (some (.ref n)) => (match s[n]? with
    | some (.dK xs) => if xs.length < 16777216 then some (env, s.set n (.dK (f xs))) else none
    | _ => none)
  | _ => none
def isDc (i : Nat) (env : Env) (s : Store) : Bool := match env[i]? with
  | some (some (.own (.dK _))) => true
  | some (some (.ref n)) => (match s[n]? with
    | some (.dK _) => true
    | _ => false)
  | _ => false
def sDP (i : Nat) (j : Ex) (e : Ex) : Sx := fun env s => match e env s with
  | .ok d s1 => (match snk (fz d) with
    | some d => if isDc i env s1 = true then (match j env s1 with
      | .ok x s2 => (match kD x with
        | some k => (match mutD i (fun kv => putD kv k d) env s2 with
          | some (env', s3) => .nx env' s3
          | none => .no)
        | none => .no)
      | .exc c s' => .exc c env s'
      | .no => .no) else .no
    | none => .no)
  | .exc c s' => .exc c env s'
  | .no => .no
theorem dK_nd {xs : List (Key × D)} : O.dK xs ≠ O.dead := fun z => nomatch z
end
section
variable {X : Cx} {A : Ga} {W : WX} {a b e : Expr} {ma mb : Ex} {pos cpos apos : Pos} {x : Str} {p : Pos}
end
end Gm

set_option Elab.async false
set_option linter.all false
set_option maxRecDepth 100000
set_option autoImplicit false
set_option maxHeartbeats 1000000
namespace Gm
open PySem PySem.Spec PyProof.Rows L2
/-! ### sum, all, sorted, list(d), dict(pairs) -/
def intsD : List D → Option (List Int)
  | [] => some []
  | .int i :: r => (intsD r).map (i :: ·)
  | _ => none
def blsD : List D → Option (List Bool)
  | [] => some []
  | .bl b :: r => (blsD r).map (b :: ·)
  | _ => none
def insI (x : Int) : List Int → List Int
  | [] => [x]
  | y :: r => if y < x then y :: insI x r else x :: y :: r
def sortI (ns : List Int) : List Int := ns.foldr insI []
def keyD : Key → D
  | .inl i => .int i
  | .inr x => .str x
def pairD : D → Option (Key × D)
  | .tup [a, b] => (kD a).map fun k => (k, b)
  | _ => none
def mergeD (a : List (Key × D)) : List (Key × D) → List (Key × D)
  | [] => a
  | (k, d) :: r => mergeD (putD a k d) r
def lsD (s : Store) (d : D) : Option (List D) := match dr s d with
  | some (.lst xs) => some xs
  | _ => none
def fSum : Store → D → R D := fun s a => match (lsD s a).bind intsD with
  | some ns => .ok (.int ns.sum) s
  | none => .no
def fAll : Store → D → R D := fun s a => match (lsD s a).bind blsD with
  | some bs => .ok (.bl (bs.all id)) s
  | none => .no
def fSorted : Store → D → R D := fun s a => match (lsD s a).bind intsD with
  | some ns => .ok (.own (.lst ((sortI ns).map D.int))) s
  | none => .no
def fListD : Store → D → R D := fun s a => match drM s a with
  | some (.dK kv) => .ok (.own (.lst (kv.map fun p => keyD p.1))) s
  | _ => .no
def fDictP : Store → D → R D := fun s a => match (lsD s a).bind fun xs => xs.mapM pairD with
  | some kv => .ok (.own (.dK (mergeD [] kv))) s
  | none => .no
section
variable {g : Gc} {tb : List Addr} {w w' : Wd} {env : Env} {σ : Sl} {W : WX} {H : Hp}
theorem RvL.keys : ∀ {kv : List (Key × D)} {ys : List (Key × V)}, RvK g w kv ys → RvL g w (kv.map fun p => keyD p.1) (ys.map fun p => kV p.1)
  | [], ys, h => by unfold RvK at h; subst h; show RvL g w [] []; unfold RvL; rfl
  | (k, d) :: r, ys, h => by
    unfold RvK at h
    obtain ⟨y, t, rfl, h1, h2⟩ := h
    show RvL g w (keyD k :: r.map fun p => keyD p.1) (kV k :: t.map fun p => kV p.1)
    unfold RvL
    refine ⟨_, _, rfl, ?_, RvL.keys h2⟩
    cases k with
    | inl i => exact rv_int
    | inr i => exact rv_str
theorem lsD_ok {a : D} {x : V} {xs : List D} (r : Rst g w) (h : Po g w a x) (e : lsD w.s a = some xs) : ∃ p ys, x = .ref p ∧ SqL g.K w.H p ys ∧ RvL g w xs ys := by
  unfold lsD at e
  split at e
  · rename_i zs ed
    cases e
    exact dr_lst r h ed
  · cases e
end
section
variable {X : Cx} {A : Ga} {W : WX} {a : Expr} {ma : Ex} {pos p : Pos}
end
end Gm

set_option Elab.async false
set_option linter.all false
set_option maxRecDepth 100000
set_option autoImplicit false
set_option maxHeartbeats 1000000
namespace Gm
open PySem PySem.Spec PyProof.Rows L2
/-! ### x.reverse(), x a name -/
def sRev (i : Nat) : Sx := fun env s => match mutL i (fun xs => some xs.reverse) env s with
  | some (env', s2) => .nx env' s2
  | none => .no
section
variable {g : Gc} {tb : List Addr} {w w' : Wd} {env : Env} {σ : Sl} {W : WX} {Dn : Ends} {H : Hp}
end
section
variable {X : Cx} {A : Ga} {W : WX} {pos p apos : Pos} {x : Str}
end
end Gm

set_option Elab.async false
set_option linter.all false
set_option maxRecDepth 100000
set_option autoImplicit false
set_option maxHeartbeats 4000000
namespace Gm
open PySem PySem.Spec PyProof.Rows L2
/-! ### set(xs), xs a list of whole numbers -/
/-- a set as it is made, ahead of its members -/
abbrev bareSet (w : World) : Obj := { cls := .type "set", dict := none, data := .set #[] 0 (.fresh 0 0 (!w.params.followText "set-order")) }
section
variable {P : Program} {w : World} {A : Around} {E : Value → Shared → Prop} {s : Shared}
/-- set(xs): its members are those of xs -/
def rSetI (K : PySem.W.Frag) (w : World) : List V → Hp → VK → Prop := fun xs H Q => ∃ (l : Addr) (ns : List Int), xs = [V.ref l] ∧ SqL K H l (ns.map V.int) ∧ ns.length + 1 < scanBound ∧
  ∀ a c, H a = none → c ≤ ns.length → Q (.ref a) (upd H a (SetO w a (fun j => decide (j ∈ ns)) c))
end
end Gm
namespace Gm
def dedI : List Int → List Int
  | [] => []
  | [x] => [x]
  | x :: y :: r => if x = y then dedI (y :: r) else x :: dedI (y :: r)
end Gm
namespace Gm
open PySem PySem.Spec PyProof.Rows L2
/-! ### sorted(set(xs)) of a list of whole numbers -/
theorem u1 {n : Nat} (h : n + 64 < cLine) : n + 1 < cLine := by omega
def fSortSet : Store → D → R D := fun s a => match (lsD s a).bind intsD with
  | some ns => if ns.length < 64 then .ok (.own (.lst ((dedI (sortI ns)).map D.int))) s else .no
  | none => .no
section
variable {g : Gc}
end
section
variable {X : Cx} {A : Ga} {W : WX} {a : Expr} {ma : Ex} {pos pos2 p p2 : Pos}
end
end Gm

set_option Elab.async false
set_option linter.all false
set_option maxRecDepth 100000
set_option autoImplicit false
set_option maxHeartbeats 1000000
namespace Gm
open PySem PySem.Spec PyProof.Rows L2
/-! ### lists of the store, reached by any expression -/
def fLiR (h : Store → D → Option (List D → Option (List D))) : Store → D → D → R D := fun s a b => match a with
  | .ref n => (match s[n]? with
    | some (.lst xs) => (match h s b with
      | some f => (match f xs with
        | some ys => .ok .non (s.set n (.lst ys))
        | none => .no)
      | none => .no)
    | _ => .no)
  | _ => .no
/-- o[j] = e, o any expression -/
def sSubE (o j e : Ex) : Sx := fun env s => match e env s with
  | .ok d s1 => (match snk (fz d) with
    | some d => (match o env s1 with
      | .ok (.ref n) s2 => (match j env s2 with
        | .ok (.int k) s3 => (match s3[n]? with
          | some (.lst xs) => (match fSetI k d xs with
            | some ys => .nx env (s3.set n (.lst ys))
            | none => .no)
          | _ => .no)
        | .ok _ _ => .no
        | .exc c s' => .exc c env s'
        | .no => .no)
      | .ok _ _ => .no
      | .exc c s' => .exc c env s'
      | .no => .no)
    | none => .no)
  | .exc c s' => .exc c env s'
  | .no => .no
/-- a method of a list with two arguments -/
def eMeth2 (f : Store → D → D → D → R D) (a b c : Ex) : Ex := fun env s => match a env s with
  | .ok x s1 => if isLD s1 (fz x) = true then (match b env s1 with
    | .ok y s2 => (match snk (fz y) with
      | some y => (match c env s2 with
        | .ok z s3 => (match snk (fz z) with
          | some z => f s3 (fz x) y z
          | none => .no)
        | .exc c s2 => .exc c s2
        | .no => .no)
      | none => .no)
    | .exc c s2 => .exc c s2
    | .no => .no) else .no
  | .exc c s1 => .exc c s1
  | .no => .no
def fIns : Store → D → D → D → R D := fun s a b d => match a, b with
  | .ref n, .int i => (match s[n]? with
    | some (.lst xs) => if xs.length < 16777216 ∧ 0 ≤ i ∧ i < 9223372036854775808 then .ok .non (s.set n (.lst (xs.take i.toNat ++ [d] ++ xs.drop i.toNat))) else .no
    | _ => .no)
  | _, _ => .no
/-- int(b) -/
def fInt : Store → D → R D := fun s a => match a with
  | .int i => .ok (.int i) s
  | .bl b => .ok (.int (if b then 1 else 0)) s
  | _ => .no
/-- slices of tuples -/
def fSlT (s : Store) (a : D) (lo hi : Option Int) : R D := match a with
  | .tup xs => .ok (.tup (cutD xs lo hi)) s
  | _ => .no
def eSlT (a : Ex) (lo hi : Ox) : Ex := fun env s => match a env s with
  | .ok x s1 => (match lo env s1 with
    | .ok l s2 => (match hi env s2 with
      | .ok h s3 => fSlT s3 (fz x) l h
      | .exc c s' => .exc c s'
      | .no => .no)
    | .exc c s' => .exc c s'
    | .no => .no)
  | .exc c s' => .exc c s'
  | .no => .no
/-- a new list is given to the store, nothing done -/
def eAd (e : Ex) : Ex := fun env s => match e env s with
  | .ok (.own o) s' => .ok (.ref s'.length) (s' ++ [o])
  | r => r
section
variable {g : Gc} {tb : List Addr} {w w' : Wd} {env : Env} {σ : Sl} {W : WX} {Dn : Ends} {H : Hp} {Q : VK}
def Snd3 (g : Gc) (f : Store → D → D → D → R D) (r : V → List V → Hp → VK → Prop) : Prop := ∀ (w : Wd) (a b c : D) (x y z : V) (Q : VK), Rst g w → Po g w a x → Rv g w b y → Rv g w c z → PostV g w Q (f w.s a b c) → r x [y, z] w.H Q
theorem snd_int : Snd1 g fInt (fun x H Q => (∃ i, [x] = [V.int i] ∧ Q (.int i) H) ∨ ∃ k, [x] = [V.bl k] ∧ Q (.int (if k then 1 else 0)) H) := by
  intro w a x Q r pa h
  unfold fInt at h
  split at h
  · rename_i i
    exact .inl ⟨i, by rw [po_int pa], h.pure r rv_int⟩
  · rename_i b
    have pa : Rv g w (.bl b) x := pa
    unfold Rv at pa
    subst pa
    exact .inr ⟨b, rfl, h.pure r rv_int⟩
  · exact h.elim
theorem ne_int : ∀ s x c s', fInt s x ≠ .exc c s' := by
  intro s x c s'
  unfold fInt
  repeat' split
  all_goals exact fun z => nomatch z
theorem Rst.ad {p : Addr} {o : O} (r : Rst g { w with T := p :: w.T }) (ro : Ro g { w with T := p :: w.T } p o) (nT : p ∉ w.T) (nd : o ≠ .dead) : Rst g { w with m := w.m ++ [p], s := w.s ++ [o] } ∧ (w.H p = none ∨ True) := by
  refine ⟨?_, .inr trivial⟩
  have len : w.m.length = w.s.length := r.len
  have nm : p ∉ w.m := (r.tt p List.mem_cons_self).1
  have trk : ∃ u, w.H p = some u := ro.trk
  obtain ⟨w', hw⟩ : ∃ w' : Wd, w' = { w with m := w.m ++ [p], s := w.s ++ [o] } := ⟨_, rfl⟩
  have wm : w'.m = w.m ++ [p] := by rw [hw]
  have wss : w'.s = w.s ++ [o] := by rw [hw]
  have wH : w'.H = w.H := by rw [hw]
  have wT : w'.T = w.T := by rw [hw]
  have getm : ∀ k q, w'.m[k]? = some q → (w.m[k]? = some q) ∨ (k = w.m.length ∧ q = p) := fun k q h => by
    rw [wm] at h
    rcases Nat.lt_or_ge k w.m.length with l | l
    · rw [List.getElem?_append_left l] at h; exact .inl h
    · rw [List.getElem?_append_right l] at h
      have := (List.getElem?_eq_some_iff.mp h).1
      have e : k - w.m.length = 0 := by simp at this; omega
      rw [e] at h
      simp at h
      exact .inr ⟨by omega, h.symm⟩
  have ext : Ext [p] { w with T := p :: w.T } w' := by
    refine ⟨⟨[p], wm⟩, fun q x e _ _ => by rw [wH]; exact e, fun q l => ?_, fun q l => ?_⟩
    · obtain ⟨k, x, h1, h2, h3⟩ := l
      rcases getm k q h1 with z | ⟨_, z⟩
      · refine .inl ⟨k, x, z, ?_, h3⟩
        rw [wss, List.getElem?_append_left (by rw [← len]; exact (List.getElem?_eq_some_iff.mp z).1)] at h2
        exact h2
      · subst z; exact .inr (.inr List.mem_cons_self)
    · rw [wm] at l
      rcases List.mem_append.mp l with z | z
      · exact .inl z
      · rw [List.mem_singleton.mp z]; exact .inr (.inr List.mem_cons_self)
  have mu0 : Mut (w.H p) := by
    cases o with
    | lst xs => obtain ⟨ys, e, _⟩ := ro; have e : w.H p = _ := e; rw [e]; trivial
    | dK xs => obtain ⟨ys, e, _⟩ := ro; have e : w.H p = _ := e; rw [e]; trivial
    | ins a xs => obtain ⟨_, ys, e, _⟩ := ro; have e : w.H p = _ := e; rw [e]; trivial
    | dead => exact absurd rfl nd
    | dT xs => have e : w.H p = _ := ro; rw [e]; trivial
  have c : Cy g [p] { w with T := p :: w.T } w' := ⟨r, ext, fun q h => by rw [List.mem_singleton.mp h]; exact mu0, fun q h => by rw [List.mem_singleton.mp h]; exact List.mem_cons_self, fun q h => .inl (by rw [wT] at h; exact List.mem_cons_of_mem _ h)⟩
  rw [← hw]
  refine ⟨by rw [wm, wss, List.length_append, List.length_append, len]; rfl, ?_, fun q hq => ?_, fun k q x h1 h2 => ?_⟩
  · rw [wm, List.nodup_append]
    refine ⟨r.nd, by simp, fun x hx y hy => ?_⟩
    rw [List.mem_singleton.mp hy]
    exact fun e => nm (by rw [← e]; exact hx)
  · rw [wT] at hq
    obtain ⟨n1, n2⟩ := r.tt q (List.mem_cons_of_mem _ hq)
    refine ⟨fun h => ?_, by rw [wH]; exact n2⟩
    rw [wm] at h
    rcases List.mem_append.mp h with z | z
    · exact n1 z
    · rw [List.mem_singleton.mp z] at hq; exact nT hq
  · rcases getm k q h1 with z | ⟨z1, z⟩
    · have h2' : w.s[k]? = some x := by
        rw [wss, List.getElem?_append_left (by rw [← len]; exact (List.getElem?_eq_some_iff.mp z).1)] at h2
        exact h2
      exact (r.ce k q x z h2').same c (by rw [wH])
    · have h2' : x = o := by
        rw [wss, List.getElem?_append_right (by omega), z1, len] at h2
        simpa using h2.symm
      rw [h2', z]
      exact ro.same c (by rw [wH])
theorem eAd_ok {e : Ex} (h : tEv g W (eAd e) σ H Q) : tEv g W e σ H Q := by
  obtain ⟨w, env, rfl, re, h⟩ := h
  refine ⟨w, env, rfl, re, ?_⟩
  cases q : e env w.s with
  | no => simp only [eAd, q] at h; exact h
  | exc c s => simp only [eAd, q] at h; exact h
  | ok d s' =>
    cases d with
    | own o =>
      simp only [eAd, q] at h
      intro w' v h1 h2 h3 h4
      obtain ⟨p, rfl, k2, k3, k4, k5, k6⟩ := h4
      have nd : o ≠ .dead := fun z => by subst z; exact k4
      have ra := (Rst.ad k5 k6 k3 nd).1
      have hm : (w'.m ++ [p])[w'.s.length]? = some p := by
        have : w'.m.length = w'.s.length := k5.len
        rw [← this, List.getElem?_append_right (Nat.le_refl _)]; simp
      refine h { w' with m := w'.m ++ [p], s := w'.s ++ [o] } (.ref p) (by rw [← h1]) h2 ?_ (.of ra ?_)
      · refine ⟨?_, h3.keep, fun q l => ?_, fun q l => ?_⟩
        · obtain ⟨t, e⟩ := h3.pre
          exact ⟨t ++ [p], by show w'.m ++ [p] = _; rw [e, List.append_assoc]⟩
        · obtain ⟨k, x, a1, a2, a3⟩ := l
          have a1 : (w'.m ++ [p])[k]? = some q := a1
          have a2 : (w'.s ++ [o])[k]? = some x := a2
          have len : w'.m.length = w'.s.length := k5.len
          rcases Nat.lt_or_ge k w'.m.length with l | l
          · rw [List.getElem?_append_left l] at a1
            rw [List.getElem?_append_left (by omega)] at a2
            exact h3.new q ⟨k, x, a1, a2, a3⟩
          · rw [List.getElem?_append_right l] at a1
            have := List.mem_of_getElem? a1
            rw [List.mem_singleton.mp this]
            exact .inr (.inl k2)
        · have l : q ∈ w'.m ++ [p] := l
          rcases List.mem_append.mp l with z | z
          · exact h3.nm q z
          · rw [List.mem_singleton.mp z]; exact .inr (.inl k2)
      · unfold Rv
        exact ⟨p, rfl, by rw [← h1]; exact hm⟩
    | _ => simp only [eAd, q] at h; exact h
end
section
variable {X : Cx} {A : Ga} {W : WX} {a b c e o : Expr} {es : List Expr} {ma mb mc : Ex} {mt mu : Tx} {st : Stmt} {ss : List Stmt} {m : Sx} {mr : Ax} {pos p apos cpos : Pos} {x : Str}
theorem me_ad (h : ME X A W a ma) : ME X A W a (eAd ma) := peW h fun _ _ _ h => eAd_ok h
theorem me_int1 (hg : Gl X "int") (hm : X.mg "int" = none) (h : ME X A W a ma) (hs : starEach [a] X.env = (false, eval a X.env) :: starEach [] X.env := by rfl) (hpl : (backTo pos (starEach [] X.env)).any (·.1) = false := by rfl) : ME X A W (.Call (.Name "int" p) [a] [] pos) (eOp1 fInt ma) :=
  me_callT1 call_int1 snd_int ne_int hg hm (by decide +kernel) h (by decide) (by decide) hs hpl
end
end Gm

set_option Elab.async false
set_option linter.all false
set_option maxRecDepth 100000
set_option autoImplicit false
set_option maxHeartbeats 1000000
namespace Gm
open PySem PySem.Spec PyProof.Rows L2
/-! ### methods, new instances, a class's def: what is raised is wished for at the slots -/
section
variable {X : Cx} {CX : CXT} {k : Nat} {f C : Addr} {fd : FuncData} {ps : List Str} {sp : Sp} {E : L2.St → XK} {x m : Str} {p np pos apos : Pos} {e o : Expr} {es : List Expr} {ta : TE} {t : TA}
def tMethE (C : Addr) (m : Str) (sp : Sp) (E : L2.St → XK) (ta : TE) (t : TA) : TE := fun σ H Q => ta σ H fun x H1 => ∃ a dx fs, x = .ref a ∧ H1 a = some (.ins C dx fs) ∧ fs.lookup m = none ∧ t σ H1 fun vs H2 => sp (x :: vs) H2 Q (E σ)
def tMakeE (C : Addr) (sp : Sp) (E : L2.St → XK) (t : TA) : TE := fun σ H Q => t σ H fun vs H1 => ∀ x dx, H1 x = none → H1 dx = none → dx ≠ x →
  sp (.ref x :: vs) (upd (upd H1 dx (.own x)) x (.ins C dx [])) (fun v H2 => v = .non ∧ Q (.ref x) H2) (E σ)
/-- C.m(..): a def of the class, read off it -/
structure CFn (K : PySem.W.Frag) (C : Addr) (m : Str) (f : Addr) : Prop where
  rd : PySem.W.readsIn K C (.type "type") = true
  ga : PySem.W.specialIn K (.ref C) "__getattribute__" = some (some (.builtin "type.__getattribute__"))
  at_ : PySem.W.findCls K (.ref C) (.type "type") m = some (.val (.ref f))
  kp : PySem.W.keepIn K (.ref f) = true
end
/-! ### fields -/
def putFd (f : Str) (v : D) : List (Str × D) → List (Str × D)
  | [] => [(f, v)]
  | (g, x) :: r => if g = f then (g, v) :: r else (g, x) :: putFd f v r
def fFld (cs : List Nat) (f : Str) : Store → D → R D := fun s a => match a with
  | .ref n => (match s[n]? with
    | some (.ins c fs) => if cs.contains c = true then (match fs.lookup f with
      | some d => .ok d s
      | none => .no) else .no
    | _ => .no)
  | _ => .no
def sFldX (cs : List Nat) (f : Str) (o e : Ex) : Sx := fun env s => match e env s with
  | .ok d s1 => (match snk (fz d) with
    | some d => (match o env s1 with
      | .ok (.ref n) s2 => (match s2[n]? with
        | some (.ins c fs) => if cs.contains c = true ∧ fs.length < 1000 then .nx env (s2.set n (.ins c (putFd f d fs))) else .no
        | _ => .no)
      | .ok _ _ => .no
      | .exc c s' => .exc c env s'
      | .no => .no)
    | none => .no)
  | .exc c s' => .exc c env s'
  | .no => .no
/-- o.m(..), o of the class c -/
def eMethC (c : Nat) (m : Str) (F : Fx) (o : Ex) (a : Ax) : Ex := fun env s => match o env s with
  | .ok (.ref n) s1 => (match s1[n]? with
    | some (.ins c' fs) => if c' = c ∧ fs.lookup m = none then (match a env s1 with
      | .ok ds s2 => F (.ref n :: ds) s2
      | .exc k s2 => .exc k s2
      | .no => .no) else .no
    | _ => .no)
  | .ok _ _ => .no
  | .exc k s1 => .exc k s1
  | .no => .no
/-- C(..) -/
def eMake (c : Nat) (F : Fx) (a : Ax) : Ex := fun env s => match a env s with
  | .ok ds s1 => (match F (.ref s1.length :: ds) (s1 ++ [.ins c []]) with
    | .ok .non s2 => .ok (.ref s1.length) s2
    | .ok _ _ => .no
    | .exc k s2 => .exc k s2
    | .no => .no)
  | .exc k s1 => .exc k s1
  | .no => .no
section
variable {g : Gc} {tb : List Addr} {w w' : Wd} {env : Env} {σ : Sl} {W : WX} {Dn : Ends} {H : Hp} {Q : VK}
theorem RvF.length : ∀ {fs : List (Str × D)} {ys : List (Str × V)}, RvF g w fs ys → ys.length = fs.length
  | [], ys, h => by unfold RvF at h; subst h; rfl
  | (k, d) :: r, ys, h => by
    unfold RvF at h
    obtain ⟨y, t, e, _, b⟩ := h
    subst e
    simp [RvF.length b]
theorem RvF.lookup : ∀ {fs : List (Str × D)} {ys : List (Str × V)} {f : Str}, RvF g w fs ys → (∀ d, fs.lookup f = some d → ∃ v, ys.lookup f = some v ∧ Rv g w d v) ∧ (fs.lookup f = none → ys.lookup f = none)
  | [], ys, f, h => by unfold RvF at h; subst h; exact ⟨fun d e => (by cases e), fun _ => rfl⟩
  | (k, d) :: r, ys, f, h => by
    unfold RvF at h
    obtain ⟨y, t, e, h1, h2⟩ := h
    subst e
    obtain ⟨i1, i2⟩ := RvF.lookup (f := f) h2
    rw [List.lookup_cons, List.lookup_cons]
    cases q : (f == k) with
    | true => exact ⟨fun d' e => ⟨y, rfl, by cases e; exact h1⟩, fun e => (by cases e)⟩
    | false => exact ⟨i1, i2⟩
theorem RvF.put {f : Str} {d : D} {v : V} (h0 : Rv g w d v) : ∀ {fs : List (Str × D)} {ys : List (Str × V)}, RvF g w fs ys → RvF g w (putFd f d fs) (putF f v ys)
  | [], ys, h => by
    unfold RvF at h; subst h
    show RvF g w [(f, d)] [(f, v)]
    unfold RvF
    exact ⟨v, [], rfl, h0, by unfold RvF; rfl⟩
  | (k, x) :: r, ys, h => by
    unfold RvF at h
    obtain ⟨y, t, e, h1, h2⟩ := h
    subst e
    unfold putFd putF
    by_cases q : k = f
    · rw [if_pos q, if_pos q]
      unfold RvF
      exact ⟨v, t, rfl, h0, h2⟩
    · rw [if_neg q, if_neg q]
      unfold RvF
      exact ⟨y, _, rfl, h1, RvF.put h0 h2⟩
end
section
variable {X : Cx} {A : Ga} {W : WX} {a b c e o : Expr} {es : List Expr} {ma mb mc : Ex} {mr : Ax} {pos p np apos : Pos} {k n : Nat} {f : Addr} {fd : FuncData} {ps : List Str} {F : Fx} {x m fl : Str} {cs : List Nat} {cl : Nat}
end
end Gm

set_option Elab.async false
set_option linter.all false
set_option maxRecDepth 100000
set_option autoImplicit false
set_option maxHeartbeats 1000000
namespace Gm
open PySem PySem.Spec PyProof.Rows L2
/-! ### a, b = x, y -/
def sPar (is : List Nat) (a : Ax) : Sx := fun env s => match a env s with
  | .ok ds s' => (match setsE is ds env with
    | some env' => .nx env' s'
    | none => .no)
  | .exc c s' => .exc c env s'
  | .no => .no
def fAbs : Store → D → R D := fun s a => match a with
  | .int i => .ok (.int (if i < 0 then -i else i)) s
  | _ => .no
/-- isinstance(o, C), o of an own class -/
def fIsiC (l : List (Nat × Bool)) : Store → D → R D := fun s a => match a with
  | .ref n => (match s[n]? with
    | some (.ins c _) => (match l.lookup c with
      | some b => .ok (.bl b) s
      | none => .no)
    | _ => .no)
  | _ => .no
/-- o[j] = e, o a dict of the store -/
def sDPE (o j e : Ex) : Sx := fun env s => match e env s with
  | .ok d s1 => (match snk (fz d) with
    | some d => (match o env s1 with
      | .ok (.ref n) s2 => (match j env s2 with
        | .ok x s3 => (match kD x, s3[n]? with
          | some k, some (.dK xs) => if xs.length < 16777216 then .nx env (s3.set n (.dK (putD xs k d))) else .no
          | _, _ => .no)
        | .exc c s' => .exc c env s'
        | .no => .no)
      | .ok _ _ => .no
      | .exc c s' => .exc c env s'
      | .no => .no)
    | none => .no)
  | .exc c s' => .exc c env s'
  | .no => .no
def dropD (kv : List (Key × D)) (k : Key) : List (Key × D) := kv.filter fun p => decide (p.1 ≠ k)
/-- d.pop(k), d a dict of the store -/
def eDPop (o j : Ex) : Ex := fun env s => match o env s with
  | .ok (.ref n) s1 => (match s1[n]? with
    | some (.dK _) => (match j env s1 with
      | .ok x s2 => (match kD (fz x), s2[n]? with
        | some k, some (.dK xs) => (match valD xs k with
          | some d => .ok d (s2.set n (.dK (dropD xs k)))
          | none => .no)
        | _, _ => .no)
      | .exc c s' => .exc c s'
      | .no => .no)
    | _ => .no)
  | .ok _ _ => .no
  | .exc c s' => .exc c s'
  | .no => .no
section
variable {g : Gc} {tb : List Addr} {w w' : Wd} {env : Env} {σ : Sl} {W : WX} {Dn : Ends} {H : Hp} {Q : VK}
/-- what isinstance asks of an own class -/
structure IsiC (K : PySem.W.Frag) (C : Addr) : Prop where
  cl : Cls K C
  ha : PySem.W.findIn K (.ref C) "__class__" = some (some (.builtin "object.__class__"))
  hn : PySem.W.specialIn K (.builtin "object.__class__") "__get__" = some (some (.builtin "getset_descriptor.__get__"))
  htk : PySem.W.takesIn K (.builtin "object.__class__") = some true
  hm : PySem.W.mroIn K C (.type "object") = some true
theorem RvK.drop {k : Key} : ∀ {kv : List (Key × D)} {ys : List (Key × V)}, RvK g w kv ys → RvK g w (dropD kv k) (dropK ys k)
  | [], ys, h => by unfold RvK at h; subst h; simp [dropD, dropK, RvK]
  | (j, d) :: r, ys, h => by
    unfold RvK at h
    obtain ⟨y, t, e, h1, h2⟩ := h
    subst e
    have ih := RvK.drop (k := k) h2
    unfold dropD dropK at *
    rw [List.filter_cons, List.filter_cons]
    by_cases q : j = k
    · have e1 : decide (j ≠ k) = false := decide_eq_false (fun z => z q)
      rw [if_neg (by rw [e1]; exact Bool.false_ne_true), if_neg (by rw [e1]; exact Bool.false_ne_true)]
      exact ih
    · have e1 : decide (j ≠ k) = true := decide_eq_true q
      rw [if_pos e1, if_pos e1]
      unfold RvK
      exact ⟨y, _, rfl, h1, ih⟩
end
section
variable {X : Cx} {A : Ga} {W : WX} {a b c e o : Expr} {es : List Expr} {ma mb mc : Ex} {mr : Ax} {pos p np apos cpos tpos : Pos} {x y : Str}
end
end Gm

set_option Elab.async false
set_option linter.all false
set_option maxRecDepth 100000
set_option autoImplicit false
set_option maxHeartbeats 1000000
namespace Gm
open PySem PySem.Spec PyProof.Rows L2
/-! ### sorted of a list of pairs of ints -/
section
variable {X : Cx}
def rSortedZ (K : PySem.W.Frag) : List V → Hp → VK → Prop := fun vs H Q => ∃ (a : Addr) (zs : List (V × (Int × Int))), vs = [V.ref a] ∧ SqL K H a (zs.map (·.1)) ∧ (∀ z ∈ zs, ∃ t, z.1 = V.ref t ∧ SqT K H t [.int z.2.1, .int z.2.2]) ∧
  ∀ (ws : List (V × (Int × Int))) (p : Addr), ws.Perm zs → ws.Pairwise (fun x y => SrtO.lexB y.2 x.2 = false) → H p = none → Q (.ref p) (upd H p (.lst (ws.map (·.1))))
end
/-! ### the mirror's sorting of pairs -/
def lexL (a b : Int × Int) : Bool := decide (a.1 < b.1 ∨ (a.1 = b.1 ∧ a.2 ≤ b.2))
def insP (x : Int × Int) : List (Int × Int) → List (Int × Int)
  | [] => [x]
  | y :: r => if lexL x y = true then x :: y :: r else y :: insP x r
def sortP : List (Int × Int) → List (Int × Int)
  | [] => []
  | x :: r => insP x (sortP r)
def pr2 : D → Option (Int × Int)
  | .tup [.int i, .int j] => some (i, j)
  | _ => none
def prsD : List D → Option (List (Int × Int))
  | [] => some []
  | d :: r => match pr2 d, prsD r with
    | some p, some l => some (p :: l)
    | _, _ => none
def e2 (p : Int × Int) : D := .tup [.int p.1, .int p.2]
def fSortP : Store → D → R D := fun s a => match (lsD s a).bind prsD with
  | some ps => .ok (.own (.lst ((sortP ps).map e2))) s
  | none => .no
theorem prsD_map : ∀ {ps : List (Int × Int)}, prsD (ps.map e2) = some ps
  | [] => rfl
  | p :: r => by
    show prsD (e2 p :: r.map e2) = _
    unfold prsD
    rw [prsD_map]; rfl
section
variable {g : Gc} {w w' : Wd}
end
section
variable {X : Cx} {A : Ga} {W : WX} {a : Expr} {ma : Ex} {pos p : Pos}
end
end Gm

set_option Elab.async false
set_option linter.all false
set_option maxRecDepth 100000
set_option autoImplicit false
set_option maxHeartbeats 1000000
namespace Gm
open PySem PySem.Spec PyProof.Rows L2
/-! ### what is looked at for isinstance of an own class, and for a def read off a class -/
end Gm

set_option Elab.async false
set_option linter.all false
set_option maxRecDepth 100000
set_option autoImplicit false
set_option maxHeartbeats 1000000
namespace Gm
open PySem PySem.Spec PyProof.Rows L2
/-! ### try with several clauses, none with a name -/
def trM : List (List Bool × Sx) → Nat → Env → Store → SR
  | [], k, env, s => .exc k env s
  | (ct, m) :: r, k, env, s => match ct[k]? with
    | some true => if noX env = true then (match m env s with
      | .nx e2 s2 => if noX e2 = true then .nx e2 s2 else .no
      | .rt d s2 => .rt d s2
      | _ => .no) else .no
    | some false => trM r k env s
    | none => .no
def sTryM (cs : List (List Bool × Sx)) (body : Sx) : Sx := fun env s => match body env s with
  | .exc k env' s' => trM cs k env' s'
  | r => r
section
variable {env : Env} {σ : Sl} {H : Hp} {Dn : Ends}
/-- what a clause's suite wishes -/
def tsM (K : PySem.W.Frag) (A : Nat → Addr) (ct : List Bool) (m : Sx) (a : Addr) (cls : Value) (d : Option Addr) : TS := fun D2 σ H => ∃ k, ct[k]? = some true ∧ cls = .ref (A k) ∧ d = none ∧ tSt ⟨K, A, some a⟩ W0 m D2 σ H
def lsM (K : PySem.W.Frag) (A : Nat → Addr) (cs : List (Value × List Bool × Sx)) : List (Value × (Addr → Value → Option Addr → TS)) := cs.map fun z => (z.1, tsM K A z.2.1 z.2.2)
end
section
variable {X : Cx} {A : Nat → Addr} {W : WX}
end
end Gm

set_option Elab.async false
set_option linter.all false
set_option maxRecDepth 100000
set_option autoImplicit false
set_option maxHeartbeats 1000000
namespace Gm
open PySem PySem.Spec PyProof.Rows L2
/-! ### a table of the module: texts to whole numbers -/
abbrev Tbl := List (Str × Int)
/-- z in table, of the texts that were looked at -/
def fTIn (neg : Bool) (t : List (Str × Option Int)) : Store → D → R D := fun s a => match a with
  | .str z => (match t.lookup z with
    | some r => .ok (.bl (if neg then !r.isSome else r.isSome)) s
    | none => .no)
  | _ => .no
def fTGet (t : List (Str × Option Int)) : Store → D → R D := fun s a => match a with
  | .str z => (match t.lookup z with
    | some (some i) => .ok (.int i) s
    | _ => .no)
  | _ => .no
/-- what is known of a table -/
structure TabK (K : PySem.W.Frag) (w : World) (a : Addr) (t : List (Str × Option Int)) : Prop where
  kd : ∃ es n, KDict K w a es n
  look : ∀ z r, t.lookup z = some r → ∃ u, PySem.W.nsIn K a z = some u ∧ (r = none → u = none) ∧ (∀ i, r = some i → ∃ tk, u = some (.int i tk))
theorem tabB_ok {K : PySem.W.Frag} {a : Addr} {t : List (Str × Option Int)} (h : tabB K a t = true) : ∀ z r, t.lookup z = some r → ∃ u, PySem.W.nsIn K a z = some u ∧ (r = none → u = none) ∧ (∀ i, r = some i → ∃ tk, u = some (.int i tk)) := by
  intro z r hz
  have hm : (z, r) ∈ t := by
    induction t with
    | nil => cases hz
    | cons q l ih =>
      obtain ⟨k, v⟩ := q
      rw [List.lookup_cons] at hz
      by_cases e : (z == k) = true
      · rw [e] at hz
        simp only [Option.some.injEq] at hz
        have : z = k := by simpa using e
        rw [this, ← hz]; exact List.mem_cons_self ..
      · have e' : (z == k) = false := by simpa using e
        rw [e'] at hz
        refine List.mem_cons_of_mem _ (ih ?_ hz)
        unfold tabB at h ⊢
        simp only [List.all_cons, Bool.and_eq_true] at h
        exact h.2
  have h2 := List.all_eq_true.mp h _ hm
  simp only at h2
  cases e : PySem.W.nsIn K a z with
  | none => rw [e] at h2; cases r <;> cases h2
  | some u =>
    rw [e] at h2
    refine ⟨u, rfl, fun hr => ?_, fun i hr => ?_⟩
    · subst hr
      cases u with
      | none => rfl
      | some v => cases v <;> cases h2
    · subst hr
      cases u with
      | none => cases h2
      | some v => cases v with
        | int j tk => exact ⟨tk, by rw [of_decide_eq_true h2]⟩
        | _ => cases h2
theorem ne_tGet {t : List (Str × Option Int)} : ∀ s x k s', fTGet t s x ≠ .exc k s' := by
  intro s x k s'
  unfold fTGet
  split
  · split <;> exact fun z => nomatch z
  · exact fun z => nomatch z
theorem snd_tGet {g : Gc} {wl : World} {d : Addr} {t : List (Str × Option Int)} (T : TabK g.K wl d t) : Snd1 g (fTGet t) fun y H Q => rIxD g.K wl (.ref d) y H Q := by
  intro w a x Q r pa h
  unfold fTGet at h
  split at h
  · rename_i z
    split at h
    · rename_i i ho
      obtain ⟨u, h1, h2, h3⟩ := T.look z _ ho
      obtain ⟨tk, e⟩ := h3 i rfl
      obtain ⟨es, n, kd⟩ := T.kd
      subst e
      exact ⟨d, z, .int i, rfl, po_str pa, ⟨es, n, _, kd.at_, kd.lit, h1, ⟨tk, rfl⟩⟩, h.pure r rv_int⟩
    · exact h.elim
  · exact h.elim
section
variable {X : Cx} {A : Ga} {W : WX} {a b c : Expr} {ma mb : Ex} {m : Sx} {pos : Pos} {ss : List Stmt} {tx : Expr}
theorem me_tget {x : Str} {d : Addr} {t : List (Str × Option Int)} {p : Pos} (T : TabK X.K X.w d t) (hg : Gl X x) (hm : X.mg x = some (.ref d)) (hb : ME X A W b mb) (hd : (x == ("__debug__" : Str)) = false := by decide) (hs : PlainIx b := by first | exact plain_ix rfl | (intro _ _; rfl)) :
    ME X A W (.Subscript (.Name x p) b pos) (eOp1 (fTGet t) mb) :=
  peW (pe_ix ix_kdict (pe_glob (v := .ref d) hg hm rfl hd) hb hs) fun _ _ _ h => tUn_snd (snd_tGet T) ne_tGet h
/-! ### a tuple of the module: texts, whole numbers -/
/-! ### list(range(n)) -/
def fRngL : Store → D → R D := fun s a => match a with
  | .int j => if rOk j = true ∧ j ≤ 16777216 then .ok (.own (.lst ((List.range j.toNat).map fun i : Nat => D.int (i : Int)))) s else .no
  | _ => .no
theorem RvL.rng {g : Gc} {w : Wd} : ∀ l : List Nat, RvL g w (l.map fun i : Nat => D.int (i : Int)) (l.map fun i : Nat => V.int (0 + (i : Int)))
  | [] => by unfold RvL; rfl
  | i :: l => by
    show RvL g w (D.int (i : Int) :: _) _
    unfold RvL
    exact ⟨_, _, rfl, by show Rv g w (D.int (i : Int)) (V.int (0 + (i : Int))); rw [Int.zero_add]; exact rv_int, RvL.rng l⟩
end
/-! ### for x, y in zip(a, b) -/
def zipAt (s : Store) (da db : D) (i : Nat) : Option (Option (D × D)) := match dr s da, dr s db with
  | some (.lst xs), some (.lst ys) => (match xs[i]?, ys[i]? with
    | some x, some y => some (some (x, y))
    | _, _ => some none)
  | _, _ => none
def forZX (body : Sx) (js : List Nat) (da db : D) : Nat → Nat → Env → Store → SR
  | 0, _, _, _ => .no
  | f + 1, i, env, s => match zipAt s da db i with
    | none => .no
    | some none => .nx env s
    | some (some (x, y)) => match tgE (.tp js) (.tup [x, y]) env with
      | none => .no
      | some env1 => match body env1 s with
        | .nx e s' => forZX body js da db f (i + 1) e s'
        | .ct e s' => forZX body js da db f (i + 1) e s'
        | .bk e s' => .nx e s'
        | r => r
def sForZ (js : List Nat) (a : Ax) (body : Sx) : Sx := fun env s => match a env s with
  | .ok [da, db] s' => (match dr s' da, dr s' db with
    | some (.lst xs), some (.lst _) => forZX body js da db (xs.length + 1) 0 env s'
    | _, _ => .no)
  | .ok _ _ => .no
  | .exc c s' => .exc c env s'
  | .no => .no
section
variable {g : Gc} {tb : List Addr} {w w' w1 w2 w3 : Wd} {env env' env1 env2 : Env} {σ σ' σ1 σ2 : Sl} {W : WX} {Dn : Ends} {H : Hp}
end
section
variable {X : Cx} {A : Ga} {W : WX} {a b : Expr} {ma : Ax} {m : Sx} {pos : Pos} {ss : List Stmt}
end
/-! ### what is looked at: tables too -/
def obsX (n : Nat) (fa : List He.Fa) (fn : List He.DefD) (ex : Exs) (ts : List He.Tab) (g : Addr → Option Obj) : AlX :=
  (He.obsD fa fn (He.frG g (PySem.cStatics :: He.asD g n)), exK ex (He.frG g (PySem.cStatics :: He.asD g n)), ts.map fun t => He.dicW (He.frG g (PySem.cStatics :: He.asD g n)) (t.1 (He.frG g (PySem.cStatics :: He.asD g n))))
def hookX (n : Nat) (fa : List He.Fa) (fn : List He.DefD) (ex : Exs) (ts : List He.Tab) : PySem.W.Hook where
  α := AlX
  obs := fun s => obsX n fa fn ex ts s.heap.get?
  val := fun w => (He.valD fn, true, ts.map fun t => some (He.keysIn w.params t.2))
  says := fun w h => ∃ K : PySem.W.Frag, K.In h ∧ He.SaysD fa fn K ∧ exK ex K = true ∧ ∀ t ∈ ts, ∃ es n, KDict K w (t.1 K) es n
  of := fun w s e => ⟨_, He.frG_in, congrArg (fun z : AlX => z.1) e, congrArg (fun z : AlX => z.2.1) e, fun t ht => by
    have e2 := congrArg (fun z : AlX => z.2.2) e
    obtain ⟨i, hi, rfl⟩ := List.getElem_of_mem ht
    have e3 := congrArg (fun z => z[i]?) e2
    simp only [obsX, List.getElem?_map, List.getElem?_eq_getElem hi, Option.map_some, Option.some.injEq] at e3
    exact He.dicW_ok e3⟩
  keeps := fun _ _ _ ⟨K, hK, c⟩ k => ⟨K, PySem.W.Frag.In.keeps hK k, c⟩
theorem obsX_eq {n : Nat} {fa : List He.Fa} {fn : List He.DefD} {ex : Exs} {ts : List He.Tab} {g : Addr → Option Obj} {s : Shared} (h : ∀ a, g a = s.heap.get? a) : obsX n fa fn ex ts g = (hookX n fa fn ex ts).obs s := by
  have e : g = s.heap.get? := funext h
  rw [e] <;> rfl
end Gm

set_option Elab.async false
set_option linter.all false
set_option maxRecDepth 100000
set_option autoImplicit false
set_option maxHeartbeats 1000000
namespace Gm
open PySem PySem.Spec PyProof.Rows L2
/-! ### a caught error handed to a def -/
/-- what a def promises where the error p stands -/
structure FnP (P : Program) (w : World) (K : PySem.W.Frag) (mg : Str → Option Value) (base : Heap) (CX : CXT) (k : Nat) (f : Addr) (fd : FuncData) (ps : List Str) (sp : Sp) (p : Addr × Obj) : Prop where
  len : ∀ vs H Q E, sp vs H Q E → vs.length = ps.length
  run : ∀ (A : Around) (outer : List PySem.Env) (s : Shared) (H : Hp) (args : Args) (us : List Value) (vs : List V) (Q : VK) (E : XK), L2H.RoomH k A → L2H.PinOk outer H s p → Env0 P w K mg base A outer s H → BindsTo s fd args (ps.zip us) → Vals vs us → sp vs H Q E →
    codeAny (model P w) A (.call (.ref f) args) (CR CX outer P w H s Q E) s
abbrev cxP (P : Program) (w : World) (K : PySem.W.Frag) (mg : Str → Option Value) (base : Heap) (N : List Str) (qual : Str) (scope : Scope) (f : Addr) (cd : Value) (A : Around) (outer : List PySem.Env) (s : Shared) (H : Hp) (E : XK) (p : Addr × Obj) : Cx := L2H.cxH (L2.CX P w) P w K mg base N qual scope f cd A outer s H E p
/-- the promise of a def of one parameter, the error -/
def spX (g : Gc) (F : Fx) : Sp := fun vs H Q E => ∃ a, g.x = some a ∧ vs = [.ref a] ∧ ∃ w : Wd, w.H = H ∧ Rst g w ∧ PostF g w Q E (F [.exn] w.s)
/-- f(e), e the caught error -/
def eCallX (F : Fx) (i : Nat) : Ex := fun env s => match env[i]? with
  | some (some .exn) => F [.exn] s
  | _ => .no
section
variable {X : Cx} {A : Nat → Addr} {pos p p2 np : Pos}
end
end Gm

set_option Elab.async false
set_option linter.all false
set_option maxRecDepth 100000
set_option autoImplicit false
/-! x in a list of tuples -/
namespace Gm
open PySem PySem.Spec PyProof.Rows L2
def fInD (neg : Bool) : Store → D → D → R D := fun s a b => match toPy s 9 a, toPy s 9 b with
  | some d, some (.list xs) => if d.canLay0 = true ∧ (PyData.list xs).canLay0 = true then .ok (.bl (if neg then !(xs.any fun y => PyData.eqv y d) else xs.any fun y => PyData.eqv y d)) s else .no
  | _, _ => .no
def rInD (K : PySem.W.Frag) (neg : Bool) : R2 := fun x y H Q => ∃ d xs, Dp K H x d ∧ Dp K H y (.list xs) ∧ d.canLay0 = true ∧ (PyData.list xs).canLay0 = true ∧ d.depth ≤ 9 ∧ Q (.bl (if neg then !(xs.any fun y => PyData.eqv y d) else xs.any fun y => PyData.eqv y d)) H
section
variable {g : Gc} {tb : List Addr} {w w' : Wd}
theorem snd_inD {neg : Bool} : Snd2 g (fInD neg) (rInD g.K neg) := by
  intro w a b x y Q r pa pb h
  unfold fInD at h
  split at h
  · rename_i d xs ea eb
    split at h
    · rename_i hs
      exact ⟨d, xs, toPy_ok r _ _ _ _ pa ea, toPy_ok r _ _ _ _ pb eb, hs.1, hs.2, toPy_depth _ _ _ _ ea, h.pure r rv_bl⟩
    · exact h.elim
  · exact h.elim
theorem ne_inD {neg : Bool} : ∀ s x y k s', fInD neg s x y ≠ .exc k s' := by
  intro s x y k s'
  unfold fInD
  repeat' split
  all_goals exact fun z => nomatch z
end
section
variable {X : Cx}
theorem layL {xs : List PyData} (h : (PyData.list xs).canLay0 = true) : PyData.canLayAll0 xs = true := by
  simpa [PyData.canLay0] using h
theorem op_inD (hu : X.A.units + 64 < cLine) : OpR X (compareOp .In) (rInD X.K false) := by
  intro pins s σ H x y v u Q I rx ry h
  obtain ⟨d, xs, hd, he, sd, se, dp, q⟩ := h
  obtain ⟨as, r1⟩ := Dp.reads I d x v hd rx
  obtain ⟨bs, r2⟩ := Dp.reads I _ y u he ry
  exact SeqAt.in_list_reads r2 r1 (layL se) sd (by omega) ⟨.bl _, H, I, rfl, q⟩
end
section
variable {X : Cx} {A : Ga} {W : WX} {a b : Expr} {ma mb : Ex} {pos : Pos}
theorem mt_inD (hu : X.A.units + 64 < cLine) (ha : ME X A W a ma) (hb : ME X A W b mb) (hm : behindInMarks .In b = false := by rfl) : MT X A W (.Compare a [.In] [b] pos) (tq (eOp2 (fInD false) ma mb)) := mt_cmp (op_inD hu) snd_inD ne_inD hm ha hb
end
/-! C.m(self, ..): the facts of a class's own function, looked at -/
end Gm

set_option Elab.async false
set_option linter.all false
set_option maxRecDepth 100000
set_option autoImplicit false
set_option maxHeartbeats 1000000
/-! max of a list; for k in a dict of the store -/
namespace Gm
open PySem PySem.Spec PyProof.Rows L2
def maxI : List Int → Int
  | [] => 0
  | a :: r => r.foldl max a
def fMaxL : Store → D → R D := fun s a => match (lsD s a).bind intsD with
  | some ns => if 0 < ns.length then .ok (.int (maxI ns)) s else .no
  | none => .no
section
variable {g : Gc} {w w' : Wd}
end
section
variable {X : Cx} {A : Ga} {W : WX} {a : Expr} {ma : Ex} {pos p : Pos}
end
/-! ### a dict's copy -/
def fDictC : Store → D → R D := fun s a => match drM s a with
  | some (.dK kv) => .ok (.own (.dK kv)) s
  | _ => .no
section
variable {g : Gc} {w w' : Wd}
end
section
variable {X : Cx} {A : Ga} {W : WX} {a : Expr} {ma : Ex} {pos p : Pos}
end
/-! ### a dict's length -/
section
variable {X : Cx}
end
def fLenD : Store → D → R D := fun s a => match drM s a with
  | some (.dK kv) => .ok (.int kv.length) s
  | _ => .no
section
variable {g : Gc} {w w' : Wd}
end
section
variable {X : Cx} {A : Ga} {W : WX} {a : Expr} {ma : Ex} {pos p : Pos}
end
/-! ### for k in d, d a dict of the store -/
def sForK (tg : Tg) (e : Ex) (body : Sx) : Sx := fun env s => match e env s with
  | .ok (.ref n) _ => (match s[n]? with
    | some (.dK kv) => (match e env (s.set n .dead) with
      | .ok (.ref n') s2 => if n' = n then (match forX body tg (.seq (.lst (kv.map fun p => keyD p.1))) (kv.length + 1) 0 env s2 with
        | .nx e' s' => (match s'[n]? with
          | some .dead => .nx e' (s'.set n (.dK kv))
          | _ => .no)
        | _ => .no) else .no
      | _ => .no)
    | _ => .no)
  | _ => .no
structure Un (w w' : Wd) (p : Addr) (od : Obj) (ys : List (Key × V)) : Prop where
  m : w'.m = w.m
  T : w'.T = w.T
  H : ∀ q, q ≠ p → w'.H q = w.H q
  l : ∀ q, q ≠ p → w'.Live q → w.Live q
  hp : w.H p = some (.frz od (.dK ys))
  pm : p ∈ w.m
section
variable {g : Gc} {w w' : Wd} {p : Addr} {od : Obj} {ys : List (Key × V)}
theorem Un.ne (u : Un w w' p od ys) {q : Addr} {o : HO} (h : w.H q = some o) (n : o ≠ .frz od (.dK ys)) : q ≠ p := fun e => by
  rw [e, u.hp] at h
  cases h
  exact n rfl
theorem Un.sq {K : PySem.W.Frag} (u : Un w w' p od ys) {q : Addr} {xs : List V} (h : SqT K w.H q xs) : SqT K w'.H q xs := by
  rcases h with (h | ⟨o, h⟩) | h
  · exact .inl (.inl ((u.H q (u.ne h fun z => nomatch z)).trans h))
  · exact .inl (.inr ⟨o, (u.H q (u.ne h fun z => by cases z)).trans h⟩)
  · exact .inr h
theorem Un.tu {K : PySem.W.Frag} (u : Un w w' p od ys) {q : Addr} {ds : List D} {xs : List V} (h : TuT K w.H q ds xs) : TuT K w'.H q ds xs :=
  h.elim (fun h => .inl ((u.H q (u.ne h fun z => nomatch z)).trans h)) fun e => .inr ⟨e.1, u.sq e.2⟩
mutual
theorem Un.rv (u : Un w w' p od ys) : ∀ (d : D) (v : V), Rv g w d v → Rv g w' d v
  | .non, v, h => by unfold Rv at *; exact h
  | .bl b, v, h => by unfold Rv at *; exact h
  | .int i, v, h => by unfold Rv at *; exact h
  | .str x, v, h => by unfold Rv at *; exact h
  | .tup xs, v, h => by
    unfold Rv at *
    obtain ⟨q, zs, e, h1, h2⟩ := h
    exact ⟨q, zs, e, u.tu h1, Un.rvL u xs zs h2⟩
  | .lst xs, v, h => by
    unfold Rv at *
    obtain ⟨q, zs, e, h1, h2, h3, h4⟩ := h
    have n := u.ne h1 fun z => nomatch z
    exact ⟨q, zs, e, (u.H q n).trans h1, fun l => h2 (u.l q n l), by rw [u.T]; exact h3, Un.rvL u xs zs h4⟩
  | .scr ns, v, h => by
    unfold Rv at *
    obtain ⟨q, e, h1⟩ := h
    refine ⟨q, e, ?_⟩
    rcases h1 with ⟨o, h1⟩ | h1
    · exact .inl ⟨o, (u.H q (u.ne h1 fun z => by cases z)).trans h1⟩
    · exact .inr h1
  | .dct kv, v, h => by
    unfold Rv at *
    obtain ⟨q, zs, e, h1, h2, h3, h4⟩ := h
    have n := u.ne h1 fun z => nomatch z
    exact ⟨q, zs, e, (u.H q n).trans h1, fun l => h2 (u.l q n l), by rw [u.T]; exact h3, Un.rvK u kv zs h4⟩
  | .ref n, v, h => by
    unfold Rv at *
    obtain ⟨q, e, h1⟩ := h
    exact ⟨q, e, by rw [u.m]; exact h1⟩
  | .own _, v, h => by unfold Rv at h; exact h.elim
  | .bor _, v, h => by unfold Rv at h; exact h.elim
  | .exn, v, h => by unfold Rv at h; exact h.elim
theorem Un.rvL (u : Un w w' p od ys) : ∀ (ds : List D) (zs : List V), RvL g w ds zs → RvL g w' ds zs
  | [], zs, h => by unfold RvL at *; exact h
  | d :: r, zs, h => by
    unfold RvL at *
    obtain ⟨y, t, e, a, b⟩ := h
    exact ⟨y, t, e, Un.rv u d y a, Un.rvL u r t b⟩
theorem Un.rvK (u : Un w w' p od ys) : ∀ (ds : List (Key × D)) (zs : List (Key × V)), RvK g w ds zs → RvK g w' ds zs
  | [], zs, h => by unfold RvK at *; exact h
  | (k, d) :: r, zs, h => by
    unfold RvK at *
    obtain ⟨y, t, e, a, b⟩ := h
    exact ⟨y, t, e, Un.rv u d y a, Un.rvK u r t b⟩
end
theorem Un.rvF (u : Un w w' p od ys) : ∀ (ds : List (Str × D)) (zs : List (Str × V)), RvF g w ds zs → RvF g w' ds zs
  | [], zs, h => by unfold RvF at *; exact h
  | (k, d) :: r, zs, h => by
    unfold RvF at *
    obtain ⟨y, t, e, a, b⟩ := h
    exact ⟨y, t, e, Un.rv u d y a, Un.rvF u r t b⟩
theorem Un.ro (u : Un w w' p od ys) {q : Addr} {o : O} (n : q ≠ p) (h : Ro g w q o) : Ro g w' q o := by
  cases o with
  | lst xs => obtain ⟨zs, e, z⟩ := h; exact ⟨zs, (u.H q n).trans e, Un.rvL u _ _ z⟩
  | dK xs => obtain ⟨zs, e, z⟩ := h; exact ⟨zs, (u.H q n).trans e, Un.rvK u _ _ z⟩
  | ins a xs => obtain ⟨dx, zs, e, z⟩ := h; exact ⟨dx, zs, (u.H q n).trans e, Un.rvF u _ _ z⟩
  | dead => obtain ⟨x, e⟩ := h; exact ⟨x, (u.H q n).trans e⟩
  | dT xs => exact (u.H q n).trans h
theorem Un.sv (u : Un w w' p od ys) {d : D} {v : V} (h : Sv g w d v) : Sv g w' d v := by
  cases d with
  | own o =>
    obtain ⟨q, e, fo, r, n, t⟩ := h
    exact ⟨q, e, fo, u.ro (fun z => n (by rw [z]; exact u.pm)) r, by rw [u.m]; exact n, by rw [u.T]; exact t⟩
  | bor o => exact Un.rv u _ _ h
  | non => exact Un.rv u _ _ h
  | bl b => exact Un.rv u _ _ h
  | int b => exact Un.rv u _ _ h
  | str b => exact Un.rv u _ _ h
  | tup b => exact Un.rv u _ _ h
  | lst b => exact Un.rv u _ _ h
  | scr b => exact Un.rv u _ _ h
  | dct b => exact Un.rv u _ _ h
  | ref b => exact Un.rv u _ _ h
  | exn => exact h
theorem RvK.keys : ∀ {kv : List (Key × D)} {zs : List (Key × V)}, RvK g w kv zs → zs.map (·.1) = kv.map (·.1)
  | [], zs, h => by unfold RvK at h; rw [h]; rfl
  | (k, d) :: r, zs, h => by
    unfold RvK at h
    obtain ⟨y, t, rfl, _, b⟩ := h
    rw [List.map_cons, List.map_cons, RvK.keys b]
end
section
variable {g : Gc} {tb : List Addr} {w w1 w2 : Wd} {env env2 : Env} {σ σ2 : Sl} {n : Nat} {p : Addr} {od : Obj} {kv : List (Key × D)} {ys : List (Key × V)}
end
section
variable {g : Gc} {W : WX} {Dn : Ends} {H : Hp} {σ : Sl}
end
section
variable {X : Cx} {A : Ga} {W : WX} {a : Expr} {ma : Ex} {pos p : Pos} {tx : Expr} {tg : Tg} {ss : List Stmt} {m : Sx}
end
end Gm

set_option Elab.async false
set_option linter.all false
set_option maxRecDepth 100000
set_option autoImplicit false
set_option maxHeartbeats 1000000
/-! sorted(pairs, key=f), f a def of the text that gives a pair's second part -/
namespace Gm
open PySem PySem.Spec PyProof.Rows L2
section
variable {P : Program} {wl : World} {K : PySem.W.Frag} {A : Around} {s : Shared}
end
section
variable {X : Cx}
/-- sorted(a, key=f): the items by their second parts -/
def rSortKey (K : PySem.W.Frag) (f : Addr) : List V → List V → Hp → VK → Prop := fun vs zs H Q => ∃ (a : Addr) (ps : List (V × (Int × Int))), vs = [V.ref a] ∧ zs = [V.ref f] ∧ SqL K H a (ps.map (·.1)) ∧ (∀ z ∈ ps, ∃ t, z.1 = V.ref t ∧ SqT K H t [.int z.2.1, .int z.2.2]) ∧
  ∀ p, H p = none → Q (.ref p) (upd H p (.lst ((ps.mergeSort fun a b => decide (a.2.2 ≤ b.2.2)).map (·.1))))
end
/-! ### the mirror -/
def sortQ (ps : List (Int × Int)) : List (Int × Int) := ps.mergeSort fun a b => decide (a.2 ≤ b.2)
def fSortQ : Store → D → R D := fun s a => match (lsD s a).bind prsD with
  | some ps => .ok (.own (.lst ((sortQ ps).map e2))) s
  | none => .no
section
variable {g : Gc} {w w' : Wd} {f : Addr}
end
section
variable {X : Cx} {A : Ga} {W : WX} {a : Expr} {ma : Ex} {pos p p5 p6 : Pos} {fx : Str}
end
end Gm

set_option Elab.async false
set_option linter.all false
set_option maxRecDepth 100000
set_option autoImplicit false
set_option maxHeartbeats 1000000
/-! xs.count(d), xs a list of data, d data -/
namespace Gm
open PySem PySem.Spec PyProof.Rows L2
def fCntD : Store → D → D → R D := fun s b a => match toPy s 9 a, toPy s 9 b with
  | some d, some (.list xs) => if d.canLay0 = true ∧ (PyData.list xs).canLay0 = true then .ok (.int ((xs.countP fun y => PyData.eqv y d : Nat) : Int)) s else .no
  | _, _ => .no
def rCntD (K : PySem.W.Frag) : V → List V → Hp → VK → Prop := fun x us H Q => ∃ y d xs, us = [y] ∧ Dp K H y d ∧ Dp K H x (.list xs) ∧ d.canLay0 = true ∧ (PyData.list xs).canLay0 = true ∧ d.depth ≤ 9 ∧ Q (.int ((xs.countP fun y => PyData.eqv y d : Nat) : Int)) H
section
variable {g : Gc} {w w' : Wd}
end
section
variable {X : Cx}
end
section
variable {X : Cx} {A : Ga} {W : WX} {a b e o : Expr} {ma mb : Ex} {pos apos cpos : Pos}
end
end Gm

set_option Elab.async false
set_option linter.all false
set_option maxRecDepth 100000
set_option autoImplicit false
set_option maxHeartbeats 1000000
/-! [d[x] == "c" for x in d], d a local's dict -/
namespace Gm
open PySem PySem.Spec PyProof.Rows L2
def eqC (kv : List (Key × D)) (c : Str) (k : Key) : Bool := match valD kv k with
  | some (.str x) => decide (x = c)
  | _ => false
def strAt (kv : List (Key × D)) (k : Key) : Bool := match valD kv k with
  | some (.str _) => true
  | _ => false
def eLcDE (i j : Nat) (c : Str) : Ex := fun env s => match env[i]? with
  | some (some (.dct kv)) => if kv.all (fun p => strAt kv p.1) = true ∧ kv.length < 16777216 ∧ i ≠ j ∧ j < env.length then .ok (.own (.lst (kv.map fun p => .bl (eqC kv c p.1)))) s else .no
  | _ => .no
section
variable {g : Gc} {W : WX} {H : Hp} {σ : Sl} {Q : VK}
end
section
variable {X : Cx} {A : Ga} {W : WX}
end
end Gm

set_option Elab.async false
set_option linter.all false
set_option maxRecDepth 100000
set_option autoImplicit false
set_option maxHeartbeats 1000000
/-! methods of an object of one of two classes; sorted of triples -/
namespace Gm
open PySem PySem.Spec PyProof.Rows L2
def eMethU (c1 : Nat) (F1 : Fx) (c2 : Nat) (F2 : Fx) (m : Str) (o : Ex) (a : Ax) : Ex := fun env s => match o env s with
  | .ok (.ref n) s1 => (match s1[n]? with
    | some (.ins c' _) => if c' = c1 then eMethC c1 m F1 o a env s else if c' = c2 then eMethC c2 m F2 o a env s else .no
    | _ => .no)
  | .exc k s' => .exc k s'
  | _ => .no
section
variable {X : Cx} {A : Ga} {W : WX} {e : Expr} {o : Ex} {a : Ax} {c1 c2 : Nat} {F1 F2 : Fx} {m : Str}
end
/-! sorted of triples of small numbers, the first ones all other -/
def pr3 : D → Option (Int × Int × Int)
  | .tup [.int i, .int j, .int k] => some (i, j, k)
  | _ => none
def trsD : List D → Option (List (Int × Int × Int))
  | [] => some []
  | d :: r => match pr3 d, trsD r with
    | some p, some l => some (p :: l)
    | _, _ => none
def e3t (p : Int × Int × Int) : D := .tup [.int p.1, .int p.2.1, .int p.2.2]
def insT (x : Int × Int × Int) : List (Int × Int × Int) → List (Int × Int × Int)
  | [] => [x]
  | y :: r => if x.1 ≤ y.1 then x :: y :: r else y :: insT x r
def sortT : List (Int × Int × Int) → List (Int × Int × Int)
  | [] => []
  | x :: r => insT x (sortT r)
def okT (ps : List (Int × Int × Int)) : Bool := decide (ps.length < 64) && decide (ps.map (·.1)).Nodup && ps.all fun p => decide (0 ≤ p.1 ∧ p.1 < 1000 ∧ 0 ≤ p.2.1 ∧ p.2.1 < 1000 ∧ 0 ≤ p.2.2 ∧ p.2.2 < 1000)
def fSortT : Store → D → R D := fun s a => match (lsD s a).bind trsD with
  | some ps => if okT ps = true then .ok (.own (.lst ((sortT ps).map e3t))) s else .no
  | none => .no
section
variable {g : Gc} {w w' : Wd}
end
section
variable {X : Cx} {A : Ga} {W : WX} {a : Expr} {ma : Ex} {pos p : Pos}
end
/-! a list of the store that is never changed again: taken for a value -/
def gKl (i : Nat) (env : Env) (s : Store) : Env × Store := match env[i]? with
  | some (some (.ref n)) => (match s[n]? with
    | some (.lst xs) => (env.set i (some (.lst xs)), s.set n .dead)
    | _ => (env, s))
  | _ => (env, s)
end Gm

set_option Elab.async false
set_option linter.all false
set_option maxRecDepth 100000
set_option autoImplicit false
set_option maxHeartbeats 1000000
/-! d.get(k) -/
namespace Gm
open PySem PySem.Spec PyProof.Rows L2
def isDcD (s : Store) (x : D) : Bool := match drM s x with
  | some (.dK _) => true
  | _ => false
def fDGet : Store → D → D → R D := fun s a b => match drM s a, kD b with
  | some (.dK kv), some k => .ok ((valD kv k).getD .non) s
  | _, _ => .no
def eDGet (a b : Ex) : Ex := fun env s => match a env s with
  | .ok x s1 => if isDcD s1 (fz x) then (match b env s1 with
    | .ok y s2 => fDGet s2 (fz x) (fz y)
    | .exc c s2 => .exc c s2
    | .no => .no) else .no
  | .exc c s1 => .exc c s1
  | .no => .no
section
variable {g : Gc} {tb : List Addr} {w w' : Wd} {env : Env} {σ : Sl} {W : WX} {Q : VK} {H : Hp}
def rDGet : R2 := fun x y H Q => ∃ a o, x = .ref a ∧ DGet H a y o ∧ Q (o.getD .non) H
end
section
variable {X : Cx} {A : Ga} {W : WX} {a o : Expr} {mb mc : Ex} {apos cpos : Pos}
end
end Gm

set_option Elab.async false
set_option linter.all false
set_option maxRecDepth 100000
set_option autoImplicit false
set_option maxHeartbeats 1000000
/-! x is True, x a truth or a number -/
namespace Gm
open PySem PySem.Spec PyProof.Rows L2
def fIsW (neg : Bool) : Store → D → D → R D := fun s a b => match a, b with
  | .bl x, .bl y => .ok (.bl (if neg then !decide (x = y) else decide (x = y))) s
  | .int _, .bl _ => .ok (.bl neg) s
  | _, _ => .no
def rIsW : R2 := fun x y H Q => (∃ a b : Bool, x = .bl a ∧ y = .bl b ∧ Q (.bl (decide (a = b))) H) ∨ ∃ (a : Int) (b : Bool), x = .int a ∧ y = .bl b ∧ Q (.bl false) H
def rNotW : R2 := fun x y H Q => (∃ a b : Bool, x = .bl a ∧ y = .bl b ∧ Q (.bl (!decide (a = b))) H) ∨ ∃ (a : Int) (b : Bool), x = .int a ∧ y = .bl b ∧ Q (.bl true) H
section
variable {X : Cx}
end
section
variable {g : Gc}
end
section
variable {X : Cx} {A : Ga} {W : WX} {a b : Expr} {ma mb : Ex} {pos : Pos}
end
end Gm

set_option Elab.async false
set_option linter.all false
set_option maxRecDepth 100000
set_option autoImplicit false
set_option maxHeartbeats 1000000
/-! dicts of pairs of numbers, all True, in the store; sorted of triples of small numbers -/
namespace Gm
open PySem PySem.Spec PyProof.Rows L2
/-! ### words -/
/-- {} given to the store -/
def eDctT : Ex := fun _ s => .ok (.ref s.length) (s ++ [.dT []])
def kT : D → Option (Int × Int)
  | .tup [.int i, .int j] => some (i, j)
  | _ => none
def dTs (s : Store) : D → Option (List (Int × Int))
  | .ref n => (match s[n]? with
    | some (.dT ks) => some ks
    | _ => none)
  | _ => none
def putT (ks : List (Int × Int)) (k : Int × Int) : List (Int × Int) := if k ∈ ks then ks else ks ++ [k]
def dropT (ks : List (Int × Int)) (k : Int × Int) : List (Int × Int) := ks.filter fun x => decide (x ≠ k)
/-- k in d -/
def fDTIn (neg : Bool) : Store → D → D → R D := fun s a b => match kT a, dTs s b with
  | some k, some ks => .ok (.bl (if neg then !decide (k ∈ ks) else decide (k ∈ ks))) s
  | _, _ => .no
/-- list(d) -/
def fDTList : Store → D → R D := fun s a => match dTs s a with
  | some ks => .ok (.own (.lst (ks.map fun k => D.tup [.int k.1, .int k.2]))) s
  | none => .no
section
variable {g : Gc} {tb : List Addr} {w w' : Wd} {env : Env} {σ : Sl} {W : WX} {Dn : Ends} {Q : VK} {H : Hp}
end
/-! ### o[j] = True -/
def sDTE (o j e : Ex) : Sx := fun env s => match e env s with
  | .ok d s1 => (match fz d with
    | .bl true => (match o env s1 with
      | .ok (.ref n) s2 => (match j env s2 with
        | .ok x s3 => (match kT x, s3[n]? with
          | some k, some (.dT ks) => if ks.length < 16777216 then .nx env (s3.set n (.dT (putT ks k))) else .no
          | _, _ => .no)
        | .exc c s' => .exc c env s'
        | .no => .no)
      | .ok _ _ => .no
      | .exc c s' => .exc c env s'
      | .no => .no)
    | _ => .no)
  | .exc c s' => .exc c env s'
  | .no => .no
/-- d.pop(k), d such a dict of the store, k there -/
def eDTPop (o j : Ex) : Ex := fun env s => match o env s with
  | .ok (.ref n) s1 => (match s1[n]? with
    | some (.dT _) => (match j env s1 with
      | .ok x s2 => (match kT (fz x), s2[n]? with
        | some k, some (.dT ks) => if k ∈ ks then .ok (.bl true) (s2.set n (.dT (dropT ks k))) else .no
        | _, _ => .no)
      | .exc c s' => .exc c s'
      | .no => .no)
    | _ => .no)
  | .ok _ _ => .no
  | .exc c s' => .exc c s'
  | .no => .no
def tDPopT (td ty : TE) : TE := fun σ H Q => td σ H fun x H1 => ∃ a, x = .ref a ∧ IsD H1 a ∧ ty σ H1 fun y H2 => ∃ kvs k b v, H2 a = some (.dT kvs) ∧ y = .ref b ∧ H2 b = some (.tup (k.map kV)) ∧ valV kvs k = some v ∧ Q v (upd H2 a (.dT (dropK kvs k)))
section
variable {g : Gc} {tb : List Addr} {w w' : Wd} {env : Env} {σ : Sl} {W : WX} {Dn : Ends} {Q : VK} {H : Hp}
end
/-! ### d.pop(k), the rule -/
section
variable {X : Cx} {o e : Expr} {apos cpos : Pos} {td ty : TE}
namespace DTP
variable {prog : Program} {w : World} {K : Type} [DecidableEq K]
end DTP
end
section
variable {X : Cx} {A : Ga} {W : WX} {a b e o : Expr} {ma mb mc : Ex} {pos p apos cpos tpos : Pos}
end
/-! ### sorted of triples of small numbers -/
def codT (p : Int × Int × Int) : Int := p.1 * 1000000 + p.2.1 * 1000 + p.2.2
def insC (x : Int × Int × Int) : List (Int × Int × Int) → List (Int × Int × Int)
  | [] => [x]
  | y :: r => if codT x ≤ codT y then x :: y :: r else y :: insC x r
def sortC : List (Int × Int × Int) → List (Int × Int × Int)
  | [] => []
  | x :: r => insC x (sortC r)
def sml (p : Int × Int × Int) : Prop := 0 ≤ p.1 ∧ p.1 < 1000 ∧ 0 ≤ p.2.1 ∧ p.2.1 < 1000 ∧ 0 ≤ p.2.2 ∧ p.2.2 < 1000
def okC (ps : List (Int × Int × Int)) : Bool := decide (ps.length < 64) && ps.all fun p => decide (0 ≤ p.1 ∧ p.1 < 1000 ∧ 0 ≤ p.2.1 ∧ p.2.1 < 1000 ∧ 0 ≤ p.2.2 ∧ p.2.2 < 1000)
def fSortC : Store → D → R D := fun s a => match (lsD s a).bind trsD with
  | some ps => if okC ps = true then .ok (.own (.lst ((sortC ps).map e3t))) s else .no
  | none => .no
section
variable {g : Gc} {w w' : Wd}
end
section
variable {X : Cx} {A : Ga} {W : WX} {a : Expr} {ma : Ex} {pos p : Pos}
end
end Gm

set_option Elab.async false
set_option linter.all false
set_option maxRecDepth 100000
set_option autoImplicit false
set_option maxHeartbeats 1000000
/-! d.get(k, x), x a number or None -/
namespace Gm
open PySem PySem.Spec PyProof.Rows L2
def isIN : D → Bool
  | .int _ => true
  | .non => true
  | _ => false
def fDGetD (z : D) : Store → D → D → R D := fun s a b => match drM s a, kD b with
  | some (.dK kv), some k => .ok ((valD kv k).getD z) s
  | _, _ => .no
def eDGetD (a b c : Ex) : Ex := fun env s => match a env s with
  | .ok x s1 => if isDcD s1 (fz x) then (match b env s1 with
    | .ok y s2 => (match c env s2 with
      | .ok z s3 => if isIN (fz z) then fDGetD (fz z) s3 (fz x) (fz y) else .no
      | .exc c s3 => .exc c s3
      | .no => .no)
    | .exc c s2 => .exc c s2
    | .no => .no) else .no
  | .exc c s1 => .exc c s1
  | .no => .no
section
variable {g : Gc} {tb : List Addr} {w w' : Wd} {env : Env} {σ : Sl} {W : WX} {Q : VK} {H : Hp}
theorem po_in {z : D} {t : V} (hz : isIN z = true) (h : Po g w z t) : Rv g w z t := by
  cases z <;> first | exact h | cases hz
theorem ne_dgetD : ∀ z s x y k s', fDGetD z s x y ≠ .exc k s' := by
  intro z s x y k s'
  unfold fDGetD
  repeat' split
  all_goals exact fun z => nomatch z
theorem snd_dgetD {z a b : D} {x y t : V} (hz : isIN z = true) (r : Rst g w) (pa : Po g w a x) (pb : Po g w b y) (pz : Po g w z t) (h : PostV g w Q (fDGetD z w.s a b)) : ∃ a o, x = .ref a ∧ DGet w.H a y o ∧ Q (o.getD t) w.H := by
  unfold fDGetD at h
  split at h
  · rename_i kv k ea eb
    obtain ⟨p, ys, rfl, e2, e3⟩ := drM_dK r pa ea
    have ey := kD_ok pb eb
    subst ey
    rcases e3.val k with ⟨z1, z2⟩ | ⟨d', v, z1, z2, z3⟩
    · rw [z1] at h
      exact ⟨p, none, rfl, z2 ▸ DGet.k e2, h.pure r (po_in hz pz)⟩
    · rw [z1] at h
      exact ⟨p, some v, rfl, z2 ▸ DGet.k e2, h.pure r z3⟩
  · exact h.elim
theorem eDGetD_ok {a b c : Ex} (h : tEv g W (eDGetD a b c) σ H Q) : tDGet2 (tEv g W a) (tEv g W b) (tEv g W c) σ H Q := by
  obtain ⟨w, env, rfl, re, h⟩ := h
  refine ⟨w, env, rfl, re, ?_⟩
  refine Post.step (m' := eDGetD a b c env w.s) h (fun c s e => by simp only [eDGetD, e]) (fun e => by simp only [eDGetD, e]) fun x s1 w1 v ea hs1 ht1 e1 p1 => ?_
  obtain ⟨r1, o1⟩ := p1.fz
  cases hd : isDcD s1 (fz x) with
  | false => simp only [eDGetD, ea, hd] at h; exact h.elim
  | true =>
    have hd' := hd
    unfold isDcD at hd'
    split at hd'
    · rename_i kv ekv
      rw [← hs1] at ekv
      obtain ⟨p, ys, rfl, e2, e3⟩ := drM_dK r1 o1 ekv
      refine ⟨p, rfl, .inl ⟨ys, .inl e2⟩, w1, env, rfl, re.next r1 e1 ht1, ?_⟩
      refine Post.step (m' := eDGetD a b c env w.s) (h.next e1 ht1 fun _ _ w2 _ q => q.back re.st r1 e1) (fun c s e => by rw [hs1] at e; simp only [eDGetD, ea, hd, e, if_true]) (fun e => by rw [hs1] at e; simp only [eDGetD, ea, hd, e, if_true]) fun y s2 w2 u eb hs2 ht2 e2' p2 => ?_
      obtain ⟨r2, o2⟩ := p2.fz
      rw [hs1] at eb
      have c02 := e1.trans e2'
      have t02 := ht2.trans ht1
      refine ⟨w2, env, rfl, re.next r2 c02 t02, ?_⟩
      refine Post.step (m' := eDGetD a b c env w.s) (h.next c02 t02 fun _ _ w3 _ q => q.back re.st r2 c02) (fun c s e => by rw [hs2] at e; simp only [eDGetD, ea, hd, eb, e, if_true]) (fun e => by rw [hs2] at e; simp only [eDGetD, ea, hd, eb, e, if_true]) fun z s3 w3 t ec hs3 ht3 e3' p3 => ?_
      obtain ⟨r3, o3⟩ := p3.fz
      rw [hs2] at ec
      cases hz : isIN (fz z) with
      | false =>
        have em : eDGetD a b c env w.s = .no := by simp only [eDGetD, ea, hd, eb, ec, hz, if_true]; rfl
        rw [em] at h
        exact h.elim
      | true =>
        have em : eDGetD a b c env w.s = fDGetD (fz z) w3.s (fz x) (fz y) := by simp only [eDGetD, ea, hd, eb, ec, hz, hs3, if_true]
        rw [em] at h
        obtain ⟨a', o, ea', hg, hq⟩ := snd_dgetD (x := .ref p) (y := u) (t := t) hz r3 ((o1.mono (Cy.of r1 e2' ht2)).mono (Cy.of r2 e3' ht3)) (o2.mono (Cy.of r2 e3' ht3)) o3 (PostV.next re.st r3 (c02.trans e3') (ht3.trans t02) h fun c s => ne_dgetD _ _ _ _ _ _)
        cases ea'
        exact ⟨o, hg, hq⟩
    · cases hd'
end
section
variable {X : Cx} {A : Ga} {W : WX} {a o b : Expr} {mb mc md : Ex} {apos cpos : Pos}
theorem me_dgetD (hu : X.A.units + 1 < cLine) (ho : ME X A W o mc) (k : ME X A W a mb) (l : ME X A W b md) (m : M2 X o "get" apos a b cpos := by exact ⟨by rfl, by rfl, by rfl, by rfl⟩) : ME X A W (.Call (.Attribute o "get" apos) [a, b] [] cpos) (eDGetD mc mb md) := peW (pe_dget2 hu ho k l m) fun _ _ _ h => eDGetD_ok h
end
end Gm

set_option Elab.async false
set_option linter.all false
set_option maxRecDepth 100000
set_option autoImplicit false
set_option maxHeartbeats 1000000
/-! texts: split, partition, join, find, count, str(x), int(text), slices, signs, tuple(list) -/
namespace Gm
open PySem PySem.Spec PyProof.Rows L2
/-- a method of a text with one argument -/
def eMS (f : Store → D → D → R D) (a b : Ex) : Ex := fun env s => match a env s with
  | .ok (.str x) s1 => (match b env s1 with
    | .ok y s2 => f s2 (.str x) (fz y)
    | .exc c s2 => .exc c s2
    | .no => .no)
  | .ok _ _ => .no
  | .exc c s1 => .exc c s1
  | .no => .no
def strsD : List D → Option (List Str)
  | [] => some []
  | .str x :: r => (strsD r).map (x :: ·)
  | _ => none
def fSplt : Store → D → D → R D := fun s a b => match a, b with
  | .str x, .str y => if (y.length == 0) = false ∧ x.length ≤ 100000 then .ok (.own (.lst ((Txt.split x y).map D.str))) s else .no
  | _, _ => .no
def fPart : Store → D → D → R D := fun s a b => match a, b with
  | .str x, .str y => if (y.length == 0) = false ∧ x.length ≤ 100000 then .ok (.tup [.str (Txt.partition x y).1, .str (Txt.partition x y).2.1, .str (Txt.partition x y).2.2]) s else .no
  | _, _ => .no
def fJoin : Store → D → D → R D := fun s a b => match a with
  | .str x => (match (lsD s b).bind strsD with
    | some ys => if (ys.map (·.length)).sum + ys.length * x.length ≤ 16777216 then .ok (.str (Txt.join x ys)) s else .no
    | none => .no)
  | _ => .no
def fFind : Store → D → D → R D := fun s a b => match a, b with
  | .str x, .str y => .ok (.int (Txt.find x y)) s
  | _, _ => .no
def fCntS : Store → D → D → R D := fun s a b => match a, b with
  | .str x, .str y => .ok (.int (Txt.count x y)) s
  | _, _ => .no
def fStr : Store → D → R D := fun s a => match a with
  | .int i => if i.natAbs.log2 < 1920 then .ok (.str (toString i)) s else .no
  | .str x => .ok (.str x) s
  | _ => .no
def fIntS : Store → D → R D := fun s a => match a with
  | .str x => (match PySem.intText? x with
    | some n => if x.length ≤ 640 then .ok (.int n) s else .no
    | none => .no)
  | _ => .no
def fTupL : Store → D → R D := fun s a => match lsD s a with
  | some xs => .ok (.tup xs) s
  | none => .no
def fInS (neg : Bool) : Store → D → D → R D := fun s a b => match a, b with
  | .str x, .str z => (match x.cps.toList with
    | [c] => .ok (.bl (if neg then !decide (c ∈ z.cps.toList) else decide (c ∈ z.cps.toList))) s
    | _ => .no)
  | _, _ => .no
def fIxS : Store → D → D → R D := fun s a b => match a, b with
  | .str x, .int i => if x.length ≤ 100000 then (match atI x.cps.toList i with
    | some c => .ok (.str ⟨#[c]⟩) s
    | none => .no) else .no
  | _, _ => .no
def fSlS (s : Store) (a : D) (lo hi : Option Int) : R D := match a with
  | .str x => if x.length ≤ 100000 then .ok (.str (cutS x lo hi)) s else .no
  | _ => .no
def eSlS (a : Ex) (lo hi : Ox) : Ex := fun env s => match a env s with
  | .ok x s1 => (match lo env s1 with
    | .ok l s2 => (match hi env s2 with
      | .ok h s3 => fSlS s3 (fz x) l h
      | .exc c s' => .exc c s'
      | .no => .no)
    | .exc c s' => .exc c s'
    | .no => .no)
  | .exc c s' => .exc c s'
  | .no => .no
section
variable {g : Gc} {tb : List Addr} {w w' : Wd} {env : Env} {σ : Sl} {W : WX} {Q : VK} {H : Hp}
theorem strsD_ok : ∀ {xs : List D} {ns : List Str} {ys : List V}, strsD xs = some ns → RvL g w xs ys → ys = ns.map V.str
  | [], ns, ys, e, h => by cases e; unfold RvL at h; exact h
  | d :: r, ns, ys, e, h => by
    cases d with
    | str i =>
      unfold strsD at e
      obtain ⟨m, e1, rfl⟩ := Option.map_eq_some_iff.mp e
      unfold RvL at h
      obtain ⟨y, t, rfl, h1, h2⟩ := h
      rw [strsD_ok e1 h2, po_str h1.po]; rfl
    | _ => cases e
theorem RvL.strs : ∀ {ns : List Str}, RvL g w (ns.map D.str) (ns.map V.str)
  | [] => by unfold RvL; rfl
  | a :: r => by
    show RvL g w (D.str a :: r.map D.str) (V.str a :: r.map V.str)
    unfold RvL
    exact ⟨_, _, rfl, rv_str, RvL.strs⟩
theorem eMS_ok {f : Store → D → D → R D} {rl : V → List V → Hp → VK → Prop} {a b : Ex} (hf : Snd2 g f fun x y H Q => rl x [y] H Q) (hne : ∀ s x y c s', f s x y ≠ .exc c s') (h : tEv g W (eMS f a b) σ H Q) : tBM g.K "str" rl (tEv g W a) (tCons (tEv g W b) tNil) σ H Q := by
  obtain ⟨w, env, rfl, re, h⟩ := h
  refine ⟨w, env, rfl, re, ?_⟩
  refine Post.step (m' := eMS f a b env w.s) h (fun c s e => by simp only [eMS, e]) (fun e => by simp only [eMS, e]) fun x s1 w1 v ea hs1 ht1 e1 p1 => ?_
  obtain ⟨r1, o1⟩ := p1.fz
  cases x with
  | str z =>
    have ev := po_str (g := g) (w := w1) o1
    refine ⟨by rw [ev]; exact rfl, w1, env, rfl, re.next r1 e1 ht1, ?_⟩
    refine Post.step (m' := eMS f a b env w.s) (h.next e1 ht1 fun _ _ w2 _ q => q.back re.st r1 e1) (fun c s e => by rw [hs1] at e; simp only [eMS, ea, e]) (fun e => by rw [hs1] at e; simp only [eMS, ea, e]) fun y s2 w2 u eb hs2 ht2 e2 p2 => ?_
    obtain ⟨r2, o2⟩ := p2.fz
    have em : eMS f a b env w.s = f w2.s (.str z) (fz y) := by
      rw [hs1] at eb
      simp only [eMS, ea, eb, hs2]
    rw [em] at h
    exact hf w2 (.str z) (fz y) v u Q r2 (o1.mono (Cy.of r1 e2 ht2)) o2 (PostV.next re.st r2 (e1.trans e2) (ht2.trans ht1) h fun c s => hne _ _ _ _ _)
  | _ => simp only [eMS, ea] at h; exact h.elim
theorem snd_splt : Snd2 g fSplt fun x y H Q => ∃ a b, x = .str a ∧ [y] = [.str b] ∧ (b.length == 0) = false ∧ a.length + 2 ≤ sizeLine ∧ rNewStrs (Txt.split a b) H Q := by
  intro w a b x y Q r pa pb h
  unfold fSplt at h
  split at h
  · rename_i u v
    split at h
    · rename_i hc
      rw [po_str pa, po_str pb]
      exact ⟨u, v, rfl, rfl, hc.1, by have := hc.2; unfold sizeLine; omega, fun p hp => h { w with H := upd w.H p (.lst ((Txt.split u v).map V.str)) } _ rfl rfl (new_ext hp) (Px.newL r hp RvL.strs)⟩
    · exact h.elim
  · exact h.elim
theorem snd_part : Snd2 g fPart fun x y H Q => ∃ a b, x = .str a ∧ [y] = [.str b] ∧ (b.length == 0) = false ∧ a.length ≤ sizeLine ∧
    ∀ p, H p = none → Q (.ref p) (upd H p (.tup [.str (Txt.partition a b).1, .str (Txt.partition a b).2.1, .str (Txt.partition a b).2.2])) := by
  intro w a b x y Q r pa pb h
  unfold fPart at h
  split at h
  · rename_i u v
    split at h
    · rename_i hc
      rw [po_str pa, po_str pb]
      exact ⟨u, v, rfl, rfl, hc.1, by have := hc.2; unfold sizeLine; omega, fun p hp => h { w with H := upd w.H p (.tup ([(Txt.partition u v).1, (Txt.partition u v).2.1, (Txt.partition u v).2.2].map V.str)) } _ rfl rfl (new_ext hp) (Px.newT r hp (RvL.strs (ns := [(Txt.partition u v).1, (Txt.partition u v).2.1, (Txt.partition u v).2.2])))⟩
    · exact h.elim
  · exact h.elim
theorem snd_join : Snd2 g fJoin fun x y H Q => ∃ a p, ∃ ys : List Str, x = .str a ∧ [y] = [.ref p] ∧ (SqL g.K H p (ys.map V.str) ∨ SqT g.K H p (ys.map V.str)) ∧
      (ys.map (·.length)).sum + ys.length * a.length ≤ 16777216 ∧ Q (.str (Txt.join a ys)) H := by
  intro w a b x y Q r pa pb h
  unfold fJoin at h
  split at h
  · rename_i u
    split at h
    · rename_i ns e
      obtain ⟨xs, e1, e2⟩ := Option.bind_eq_some_iff.mp e
      obtain ⟨p, ys, rfl, k2, k3⟩ := lsD_ok r pb e1
      split at h
      · rename_i hc
        rw [po_str pa]
        exact ⟨u, p, ns, rfl, rfl, .inl (strsD_ok e2 k3 ▸ k2), hc, h.pure r rv_str⟩
      · exact h.elim
    · exact h.elim
  · exact h.elim
theorem snd_find : Snd2 g fFind fun x y H Q => ∃ a b, x = .str a ∧ [y] = [.str b] ∧ Q (.int (Txt.find a b)) H := by
  intro w a b x y Q r pa pb h
  unfold fFind at h
  split at h
  · rename_i u v
    rw [po_str pa, po_str pb]
    exact ⟨u, v, rfl, rfl, h.pure r rv_int⟩
  · exact h.elim
theorem snd_cntS : Snd2 g fCntS fun x y H Q => ∃ a b, x = .str a ∧ [y] = [.str b] ∧ Q (.int (Txt.count a b)) H := by
  intro w a b x y Q r pa pb h
  unfold fCntS at h
  split at h
  · rename_i u v
    rw [po_str pa, po_str pb]
    exact ⟨u, v, rfl, rfl, h.pure r rv_int⟩
  · exact h.elim
theorem snd_str : Snd1 g fStr fun x H Q => (∃ i, [x] = [.int i] ∧ i.natAbs.log2 < 1920 ∧ Q (.str (toString i)) H) ∨ ∃ a, [x] = [.str a] ∧ Q (.str a) H := by
  intro w a x Q r pa h
  unfold fStr at h
  split at h
  · rename_i i
    split at h
    · rename_i hc
      rw [po_int pa]
      exact .inl ⟨i, rfl, hc, h.pure r rv_str⟩
    · exact h.elim
  · rename_i i
    rw [po_str pa]
    exact .inr ⟨i, rfl, h.pure r rv_str⟩
  · exact h.elim
theorem snd_intS : Snd1 g fIntS fun x H Q => ∃ a n, [x] = [.str a] ∧ PySem.intText? a = some n ∧ a.length ≤ 640 ∧ Q (.int n) H := by
  intro w a x Q r pa h
  unfold fIntS at h
  split at h
  · rename_i i
    split at h
    · rename_i n e
      split at h
      · rename_i hc
        rw [po_str pa]
        exact ⟨i, n, rfl, e, hc, h.pure r rv_int⟩
      · exact h.elim
    · exact h.elim
  · exact h.elim
theorem snd_tupL : Snd1 g fTupL fun x H Q => ∃ p ys, [x] = [.ref p] ∧ ((SqL g.K H p ys ∧ ∀ l, H l = none → Q (.ref l) (upd H l (.tup ys))) ∨ (SqT g.K H p ys ∧ Q (.ref p) H)) := by
  intro w a x Q r pa h
  unfold fTupL at h
  split at h
  · rename_i xs e
    obtain ⟨p, ys, rfl, k2, k3⟩ := lsD_ok r pa e
    exact ⟨p, ys, rfl, .inl ⟨k2, fun l hl => h { w with H := upd w.H l (.tup ys) } _ rfl rfl (new_ext hl) (Px.newT r hl k3)⟩⟩
  · exact h.elim
theorem snd_ninS : Snd2 g (fInS true) fun x y H Q => ∃ (c : Nat) (z : Str), x = .str ⟨#[c]⟩ ∧ y = .str z ∧ Q (.bl (!decide (c ∈ z.cps.toList))) H := by
  intro w a b x y Q r pa pb h
  unfold fInS at h
  split at h
  · rename_i u v
    split at h
    · rename_i c e
      rw [po_str pa, po_str pb]
      refine ⟨c, v, congrArg V.str (Str.ext' (Array.toList_inj.mp (by rw [e]))), rfl, h.pure r ?_⟩
      simp only [if_true]; unfold Rv; rfl
    · exact h.elim
  · exact h.elim
theorem snd_ixS : Snd2 g fIxS fun x y H Q => rIx g.K x y H Q := by
  intro w a b x y Q r pa pb h
  unfold fIxS at h
  split at h
  · rename_i u i
    split at h
    · rename_i hc
      split at h
      · rename_i c e
        rw [po_str pa, po_int pb]
        exact .inr (.inr ⟨u, i, c, rfl, rfl, by unfold sizeLine; omega, e, h.pure r rv_str⟩)
      · exact h.elim
    · exact h.elim
  · exact h.elim
theorem ne_splt : ∀ s x y k s', fSplt s x y ≠ .exc k s' := by intro s x y k s'; unfold fSplt; (repeat' split) <;> exact fun z => nomatch z
theorem ne_part : ∀ s x y k s', fPart s x y ≠ .exc k s' := by intro s x y k s'; unfold fPart; (repeat' split) <;> exact fun z => nomatch z
theorem ne_join : ∀ s x y k s', fJoin s x y ≠ .exc k s' := by intro s x y k s'; unfold fJoin; (repeat' split) <;> exact fun z => nomatch z
theorem ne_find : ∀ s x y k s', fFind s x y ≠ .exc k s' := by intro s x y k s'; unfold fFind; (repeat' split) <;> exact fun z => nomatch z
theorem ne_cntS : ∀ s x y k s', fCntS s x y ≠ .exc k s' := by intro s x y k s'; unfold fCntS; (repeat' split) <;> exact fun z => nomatch z
theorem ne_str : ∀ s x k s', fStr s x ≠ .exc k s' := by intro s x k s'; unfold fStr; (repeat' split) <;> exact fun z => nomatch z
theorem ne_intS : ∀ s x k s', fIntS s x ≠ .exc k s' := by intro s x k s'; unfold fIntS; (repeat' split) <;> exact fun z => nomatch z
theorem ne_tupL : ∀ s x k s', fTupL s x ≠ .exc k s' := by intro s x k s'; unfold fTupL; (repeat' split) <;> exact fun z => nomatch z
theorem ne_inS {b : Bool} : ∀ s x y k s', fInS b s x y ≠ .exc k s' := by intro s x y k s'; unfold fInS; (repeat' split) <;> exact fun z => nomatch z
theorem ne_ixS : ∀ s x y k s', fIxS s x y ≠ .exc k s' := by intro s x y k s'; unfold fIxS; (repeat' split) <;> exact fun z => nomatch z
theorem eSlS_ok {a : Ex} {lo hi : Ox} (h : tEv g W (eSlS a lo hi) σ H Q) : tSl rSlS (tEv g W a) (tOe g W lo) (tOe g W hi) σ H Q := by
  obtain ⟨w, env, rfl, re, h⟩ := h
  refine ⟨w, env, rfl, re, ?_⟩
  refine Post.step (m' := eSlS a lo hi env w.s) h (fun c s e => by simp only [eSlS, e]) (fun e => by simp only [eSlS, e]) fun x s1 w1 v ea hs1 ht1 e1 p1 => ?_
  obtain ⟨r1, o1⟩ := p1.fz
  refine ⟨w1, env, rfl, re.next r1 e1 ht1, ?_⟩
  refine Post.step (m' := eSlS a lo hi env w.s) (h.next e1 ht1 fun _ _ _ _ q => q.back re.st r1 e1) (fun c s e => by rw [hs1] at e; simp only [eSlS, ea, e]) (fun e => by rw [hs1] at e; simp only [eSlS, ea, e]) fun l s2 w2 l' eb hs2 ht2 e2 p2 => ?_
  obtain ⟨r2, rfl⟩ := p2
  rw [hs1] at eb
  refine ⟨w2, env, rfl, (re.next r1 e1 ht1).next r2 e2 ht2, ?_⟩
  have h2 := (h.next e1 ht1 fun _ _ _ _ q => q.back re.st r1 e1)
  refine Post.step (m' := eSlS a lo hi env w.s) (h2.next e2 ht2 fun _ _ _ _ q => q.back r1 r2 e2) (fun c s e => by rw [hs2] at e; simp only [eSlS, ea, eb, e]) (fun e => by rw [hs2] at e; simp only [eSlS, ea, eb, e]) fun u s3 w3 u' ec hs3 ht3 e3 p3 => ?_
  obtain ⟨r3, rfl⟩ := p3
  rw [hs2] at ec
  have o3 := (o1.mono (Cy.of r1 e2 ht2)).mono (Cy.of r2 e3 ht3)
  have e13 := (e1.trans e2).trans e3
  simp only [eSlS, ea, eb, ec, ← hs3, fSlS] at h
  split at h
  · rename_i z ed
    rw [ed] at o3
    split at h
    · rename_i hc
      rw [po_str o3]
      exact ⟨z, rfl, by unfold sizeLine; omega, h w3 _ rfl (ht3.trans (ht2.trans ht1)) e13 (Px.of r3 rv_str)⟩
    · exact h.elim
  · exact h.elim
end
section
variable {X : Cx} {A : Ga} {W : WX} {a b o e : Expr} {ma mb : Ex} {pos apos cpos p : Pos}
theorem me_strM {id : String} {name : Str} {f : Store → D → D → R D} {r : V → List V → Hp → VK → Prop} (slot : Slot "str" name id) (ty : typeOf (.builtin id) = pure (.type "method_descriptor")) (rule : MtR X id r) (hf : Snd2 (gx X A) f fun x y H Q => r x [y] H Q) (hne : ∀ s x y c s', f s x y ≠ .exc c s')
    (h : ME X A W o ma) (k : ME X A W e mb) (hbase : attributeBase o name X.env (eval o X.env) = eval o X.env)
    (hfew : ((backTo cpos (starEach [e] X.env)).all (fun x => !x.1) && (backToKw cpos (keywordEach [] X.env)).all (fun x => x.1.isSome)
      && decide ([e].length + ([] : List Keyword).length + (if ([] : List Keyword).isEmpty then 0 else 1) < 30)) = true)
    (hline : (apos.endLine == cpos.line) = true) (hs : starEach [e] X.env = (false, eval e X.env) :: starEach [] X.env) (hplain : (backTo cpos (starEach [] X.env)).any (·.1) = false) :
    ME X A W (.Call (.Attribute o name apos) [e] [] cpos) (eMS f ma mb) :=
  peW (pe_bm PySem.F.plainAttrs_str slot ty rule h (pa_cons k pa_nil hs) hbase hfew hline hs hplain) fun _ _ _ h => eMS_ok hf hne h
theorem me_splt (h : ME X A W o ma) (k : ME X A W e mb) (hbase : attributeBase o "split" X.env (eval o X.env) = eval o X.env := by rfl)
    (hfew : ((backTo cpos (starEach [e] X.env)).all (fun x => !x.1) && (backToKw cpos (keywordEach [] X.env)).all (fun x => x.1.isSome)
      && decide ([e].length + ([] : List Keyword).length + (if ([] : List Keyword).isEmpty then 0 else 1) < 30)) = true := by rfl)
    (hline : (apos.endLine == cpos.line) = true := by rfl) (hs : starEach [e] X.env = (false, eval e X.env) :: starEach [] X.env := by rfl) (hplain : (backTo cpos (starEach [] X.env)).any (·.1) = false := by rfl) :
    ME X A W (.Call (.Attribute o "split" apos) [e] [] cpos) (eMS fSplt ma mb) := me_strM PySem.F.slot_str_split PySem.F.type_str_split mt_split snd_splt ne_splt h k hbase hfew hline hs hplain
theorem me_part (h : ME X A W o ma) (k : ME X A W e mb) (hbase : attributeBase o "partition" X.env (eval o X.env) = eval o X.env := by rfl)
    (hfew : ((backTo cpos (starEach [e] X.env)).all (fun x => !x.1) && (backToKw cpos (keywordEach [] X.env)).all (fun x => x.1.isSome)
      && decide ([e].length + ([] : List Keyword).length + (if ([] : List Keyword).isEmpty then 0 else 1) < 30)) = true := by rfl)
    (hline : (apos.endLine == cpos.line) = true := by rfl) (hs : starEach [e] X.env = (false, eval e X.env) :: starEach [] X.env := by rfl) (hplain : (backTo cpos (starEach [] X.env)).any (·.1) = false := by rfl) :
    ME X A W (.Call (.Attribute o "partition" apos) [e] [] cpos) (eMS fPart ma mb) := me_strM PySem.F.slot_str_partition PySem.F.type_str_partition mt_partition snd_part ne_part h k hbase hfew hline hs hplain
theorem me_join (h : ME X A W o ma) (k : ME X A W e mb) (hbase : attributeBase o "join" X.env (eval o X.env) = eval o X.env := by rfl)
    (hfew : ((backTo cpos (starEach [e] X.env)).all (fun x => !x.1) && (backToKw cpos (keywordEach [] X.env)).all (fun x => x.1.isSome)
      && decide ([e].length + ([] : List Keyword).length + (if ([] : List Keyword).isEmpty then 0 else 1) < 30)) = true := by rfl)
    (hline : (apos.endLine == cpos.line) = true := by rfl) (hs : starEach [e] X.env = (false, eval e X.env) :: starEach [] X.env := by rfl) (hplain : (backTo cpos (starEach [] X.env)).any (·.1) = false := by rfl) :
    ME X A W (.Call (.Attribute o "join" apos) [e] [] cpos) (eMS fJoin ma mb) := me_strM PySem.F.slot_str_join PySem.F.type_str_join mt_join snd_join ne_join h k hbase hfew hline hs hplain
theorem me_find (h : ME X A W o ma) (k : ME X A W e mb) (hbase : attributeBase o "find" X.env (eval o X.env) = eval o X.env := by rfl)
    (hfew : ((backTo cpos (starEach [e] X.env)).all (fun x => !x.1) && (backToKw cpos (keywordEach [] X.env)).all (fun x => x.1.isSome)
      && decide ([e].length + ([] : List Keyword).length + (if ([] : List Keyword).isEmpty then 0 else 1) < 30)) = true := by rfl)
    (hline : (apos.endLine == cpos.line) = true := by rfl) (hs : starEach [e] X.env = (false, eval e X.env) :: starEach [] X.env := by rfl) (hplain : (backTo cpos (starEach [] X.env)).any (·.1) = false := by rfl) :
    ME X A W (.Call (.Attribute o "find" apos) [e] [] cpos) (eMS fFind ma mb) := me_strM PySem.F.slot_str_find PySem.F.type_str_find mt_find snd_find ne_find h k hbase hfew hline hs hplain
theorem me_cntS (h : ME X A W o ma) (k : ME X A W e mb) (hbase : attributeBase o "count" X.env (eval o X.env) = eval o X.env := by rfl)
    (hfew : ((backTo cpos (starEach [e] X.env)).all (fun x => !x.1) && (backToKw cpos (keywordEach [] X.env)).all (fun x => x.1.isSome)
      && decide ([e].length + ([] : List Keyword).length + (if ([] : List Keyword).isEmpty then 0 else 1) < 30)) = true := by rfl)
    (hline : (apos.endLine == cpos.line) = true := by rfl) (hs : starEach [e] X.env = (false, eval e X.env) :: starEach [] X.env := by rfl) (hplain : (backTo cpos (starEach [] X.env)).any (·.1) = false := by rfl) :
    ME X A W (.Call (.Attribute o "count" apos) [e] [] cpos) (eMS fCntS ma mb) := me_strM PySem.F.slot_str_count PySem.F.type_str_count mt_count snd_cntS ne_cntS h k hbase hfew hline hs hplain
theorem me_strC (hg : Gl X "str") (hm : X.mg "str" = none) (h : ME X A W a ma) (hs : starEach [a] X.env = (false, eval a X.env) :: starEach [] X.env := by rfl) (hpl : (backTo pos (starEach [] X.env)).any (·.1) = false := by rfl) : ME X A W (.Call (.Name "str" p) [a] [] pos) (eOp1 fStr ma) :=
  me_callT1 (call_str_int.or SkE.call_str_str) snd_str ne_str hg hm (by decide +kernel) h (by decide) (by decide) hs hpl
theorem me_intS (hg : Gl X "int") (hm : X.mg "int" = none) (h : ME X A W a ma) (hs : starEach [a] X.env = (false, eval a X.env) :: starEach [] X.env := by rfl) (hpl : (backTo pos (starEach [] X.env)).any (·.1) = false := by rfl) : ME X A W (.Call (.Name "int" p) [a] [] pos) (eOp1 fIntS ma) :=
  me_callT1 call_int_str snd_intS ne_intS hg hm (by decide +kernel) h (by decide) (by decide) hs hpl
theorem me_tupL (hg : Gl X "tuple") (hm : X.mg "tuple" = none) (h : ME X A W a ma) (hs : starEach [a] X.env = (false, eval a X.env) :: starEach [] X.env := by rfl) (hpl : (backTo pos (starEach [] X.env)).any (·.1) = false := by rfl) : ME X A W (.Call (.Name "tuple" p) [a] [] pos) (eOp1 fTupL ma) :=
  me_callT1 call_tuple_of snd_tupL ne_tupL hg hm (by decide +kernel) h (by decide) (by decide) hs hpl
theorem me_slS {lo hi : Option Expr} {ml mh : Ox} {p2 : Pos} (h : ME X A W a ma) (hl : MO X A W lo ml) (hh : MO X A W hi mh) : ME X A W (.Subscript a (.Slice lo hi none p2) pos) (eSlS ma ml mh) := peW (pe_slice sl_str h hl hh) fun _ _ _ h => eSlS_ok h
/-- a text of the module's top -/
theorem me_txg {x z : Str} (hg : Gl X x) (hm : ∃ t, X.mg x = some (.str z t)) (hd : (x == ("__debug__" : Str)) = false := by decide) : PE X (.Name x pos) (tEv (gx X A) W (eC (.str z))) := by
  obtain ⟨t, hm⟩ := hm
  exact peW (pe_glob (v := .str z) hg hm ⟨t, rfl⟩ hd) fun _ _ _ h => tC_snd (fun w => by unfold Rv; rfl) h
theorem mt_notInS (ha : ME X A W a ma) (hb : ME X A W b mb) (hm : behindInMarks .NotIn b = false := by rfl) : MT X A W (.Compare a [.NotIn] [b] pos) (tq (eOp2 (fInS true) ma mb)) := mt_cmp op_notIn_sign snd_ninS ne_inS hm ha hb
theorem me_ixS (ha : ME X A W a ma) (hb : ME X A W b mb) (hs : PlainIx b := by exact fun _ _ => rfl) : ME X A W (.Subscript a b pos) (eOp2 fIxS ma mb) := me_ix0 ix_seq snd_ixS ne_ixS hs ha hb
end
end Gm

set_option Elab.async false
set_option linter.all false
set_option maxRecDepth 100000
set_option autoImplicit false
set_option maxHeartbeats 1000000
namespace Gm
open PySem PySem.Spec PyProof.Rows L2
/-! a list's items into names -/
def sSetL (is : List Nat) (e : Ex) : Sx := fun env s => match e env s with
  | .ok d s' => (match snk (fz d) with
    | some (.lst ds) => (match setsE is ds env with
      | some env' => .nx env' s'
      | none => .no)
    | _ => .no)
  | .exc c s' => .exc c env s'
  | .no => .no
section
variable {g : Gc} {w : Wd} {env : Env} {σ : Sl} {W : WX} {Dn : Ends} {H : Hp}
end
section
variable {X : Cx} {A : Ga} {W : WX} {a tx : Expr} {ma : Ex} {pos : Pos}
abbrev MGl (X : Cx) (tx : Expr) (is : List Nat) : Prop := PG X tx (gUnl X.K is.length (gNames is))
end
end Gm

set_option Elab.async false
set_option linter.all false
set_option maxRecDepth 100000
set_option autoImplicit false
set_option maxHeartbeats 1000000
namespace Gm
open PySem PySem.Spec PyProof.Rows L2
/-! ### methods of an object of one of many classes -/
def fNo : Fx := fun _ _ => .no
def dF : List (List Nat × Fx) → Nat → Option Fx
  | [], _ => none
  | (cs, F) :: r, c => if cs.contains c = true then some F else dF r c
/-- o.m(..), the def by the class's index -/
def eMethF (F : Nat → Option Fx) (m : Str) (o : Ex) (a : Ax) : Ex := fun env s => match o env s with
  | .ok (.ref n) s1 => (match s1[n]? with
    | some (.ins c' _) => (match F c' with
      | some f => eMethC c' m f o a env s
      | none => .no)
    | _ => .no)
  | .exc k s' => .exc k s'
  | _ => .no
/-- what is never reached -/
def eNo : Ex := fun _ _ => .no
section
variable {X : Cx} {A : Ga} {W : WX} {e : Expr} {o : Ex} {a : Ax} {m : Str}
def AllF (X : Cx) (A : Ga) (W : WX) (e : Expr) (m : Str) (o : Ex) (a : Ax) (l : List (List Nat × Fx)) : Prop := ∀ p ∈ l, ∀ c ∈ p.1, ME X A W e (eMethC c m p.2 o a)
def hasC : List (List Nat × Fx) → Bool
  | ((_ :: _), _) :: _ => true
  | _ => false
end
end Gm

set_option Elab.async false
set_option linter.all false
set_option maxRecDepth 100000
set_option autoImplicit false
set_option maxHeartbeats 1000000
namespace Gm
open PySem PySem.Spec PyProof.Rows L2
abbrev FD (K : PySem.W.Frag) (d : He.DefD) (fd : FuncData) : Prop := FunD K d.name d.qual d.params d.body d.scope [] [] (He.fAd K d.at_) fd
abbrev OkF (P : Program) (wl : World) (K : PySem.W.Frag) (mg : Str → Option Value) (base : Heap) (ac : Nat → Addr) (d : He.DefD) (lev : Nat) (fd : FuncData) (ps : List Str) (n : Nat) (f : Fx) : Prop := FnOk P wl K mg base (L2.CX P wl) lev (He.fAd K d.at_) fd ps (spOf ⟨K, ac, none⟩ n f)
abbrev GB (P : Program) (wl : World) (K : PySem.W.Frag) (mg : Str → Option Value) (base : Heap) (ac : Nat → Addr) (d : He.DefD) (lev : Nat) (ps : List Str) (n : Nat) (f : Fx) : Prop := ∃ fd, OkF P wl K mg base ac d lev fd ps n f ∧ L2.Binds K fd ps [] ∧ PySem.W.keepIn K (.ref (He.fAd K d.at_)) = true
end Gm

set_option Elab.async false
set_option linter.all false
set_option maxRecDepth 100000
set_option autoImplicit false
set_option maxHeartbeats 1000000
/-! xs.index(d), xs a list of data, d data that is in it -/
namespace Gm
open PySem PySem.Spec PyProof.Rows L2 AutoSeq1 MeetsSeq MeetsSeq2 MeetsSeq3 SeqRoads2
def fIdxD : Store → D → D → R D := fun s b a => match toPy s 9 a, toPy s 9 b with
  | some d, some (.list xs) => match SeqAt.dataPlace xs d with
    | some j => if d.canLay0 = true ∧ (PyData.list xs).canLay0 = true ∧ xs.length ≤ 1000 then .ok (.int (j : Nat)) s else .no
    | none => .no
  | _, _ => .no
def rIdxD (K : PySem.W.Frag) : V → List V → Hp → VK → Prop := fun x us H Q => ∃ y d xs, ∃ j : Nat, us = [y] ∧ Dp K H y d ∧ Dp K H x (.list xs) ∧ d.canLay0 = true ∧ (PyData.list xs).canLay0 = true ∧ d.depth ≤ 9 ∧ SeqAt.dataPlace xs d = some j ∧ xs.length ≤ 1000 ∧ Q (.int (j : Nat)) H
section
variable {g : Gc} {w w' : Wd}
end
section
variable {prog : Program} {w : World} {A : Around} {E : Value → Shared → Prop} {s : Shared} {l : Addr} {vs : Array Value} {xs : List PyData} {x : Value} {d : PyData} {as bs : List Addr} {Q : Value → Shared → Prop}
end
section
variable {X : Cx}
end
section
variable {X : Cx} {A : Ga} {W : WX} {a b e o : Expr} {ma mb : Ex} {pos apos cpos : Pos}
end
end Gm

set_option Elab.async false
set_option linter.all false
set_option maxRecDepth 100000
set_option autoImplicit false
set_option maxHeartbeats 1000000
/-! x is True, x a truth or None -/
namespace Gm
open PySem PySem.Spec PyProof.Rows L2
def fIsV (neg : Bool) : Store → D → D → R D := fun s a b => match a, b with
  | .bl x, .bl y => .ok (.bl (if neg then !decide (x = y) else decide (x = y))) s
  | .non, .bl _ => .ok (.bl neg) s
  | _, _ => .no
def rIsV : R2 := fun x y H Q => (∃ a b : Bool, x = .bl a ∧ y = .bl b ∧ Q (.bl (decide (a = b))) H) ∨ (x = .non ∧ ∃ b : Bool, y = .bl b ∧ Q (.bl false) H)
section
variable {X : Cx}
end
section
variable {g : Gc}
end
section
variable {X : Cx} {A : Ga} {W : WX} {a b : Expr} {ma mb : Ex} {pos : Pos}
end
end Gm

set_option Elab.async false
set_option linter.all false
set_option maxRecDepth 100000
set_option autoImplicit false
set_option maxHeartbeats 1000000
/-! len(set(xs)), xs a list of whole numbers, no two alike -/
namespace Gm
open PySem PySem.Spec PyProof.Rows L2
def fLenSetI : Store → D → R D := fun s a => match (lsD s a).bind intsD with
  | some ns => if ns.Nodup ∧ ns.length ≤ 1000 then .ok (.int (ns.length : Nat)) s else .no
  | none => .no
section
variable {g : Gc}
end
section
variable {X : Cx} {A : Ga} {W : WX} {a : Expr} {ma : Ex} {pos q p p2 : Pos}
end
end Gm

set_option Elab.async false
set_option linter.all false
set_option maxRecDepth 100000
set_option autoImplicit false
set_option maxHeartbeats 1000000
/-! t + u, both tuples and neither empty -/
namespace Gm
open PySem PySem.Spec PyProof.Rows L2
def fAddT : Store → D → D → R D := fun s a b => match a, b with
  | .tup xs, .tup ys => if 0 < xs.length ∧ 0 < ys.length ∧ xs.length + ys.length ≤ 1000 then .ok (.tup (xs ++ ys)) s else .no
  | _, _ => .no
section
variable {g : Gc}
end
section
variable {X : Cx} {A : Ga} {W : WX} {a b : Expr} {ma mb : Ex} {pos : Pos}
end
end Gm

set_option Elab.async false
set_option linter.all false
set_option maxRecDepth 100000
set_option autoImplicit false
set_option maxHeartbeats 1000000
namespace Gm
open PySem PySem.Spec PyProof.Rows L2
/-! ### a dict display: keys to numbers, texts, new lists and dicts -/
inductive Ini where
  | int (i : Int) | str (x : Str) | dct0 | lst0
def layI : List (Key × Ini) → Store → List (Key × D) × Store
  | [], s => ([], s)
  | (k, .int i) :: r, s => ((k, .int i) :: (layI r s).1, (layI r s).2)
  | (k, .str x) :: r, s => ((k, .str x) :: (layI r s).1, (layI r s).2)
  | (k, .dct0) :: r, s => ((k, .ref s.length) :: (layI r (s ++ [.dK []])).1, (layI r (s ++ [.dK []])).2)
  | (k, .lst0) :: r, s => ((k, .ref s.length) :: (layI r (s ++ [.lst []])).1, (layI r (s ++ [.lst []])).2)
def mrgD (kv more : List (Key × D)) : List (Key × D) := more.foldl (fun a p => putD a p.1 p.2) kv
def eDsp (l : List (Key × Ini)) : Ex := fun _ s => .ok (.own (.dK (mrgD [] (layI l s).1))) (layI l s).2
def trI : Ini → TE
  | .int i => tC (.int i)
  | .str x => tC (.str x)
  | .dct0 => tDNewK
  | .lst0 => tLst tNil
def trsI : List (Key × Ini) → List (TE × TE)
  | [] => []
  | p :: r => (tC (kV p.1), trI p.2) :: trsI r
section
variable {g : Gc} {w w' : Wd} {env : Env} {σ : Sl} {W : WX} {H : Hp} {Q : VK}
theorem ad_ext {p : Addr} {o : O} {u : HO} (r : Rst g w) (hp : w.H p = none) : Ext [] w { w with m := w.m ++ [p], s := w.s ++ [o], H := upd w.H p u } := by
  refine ⟨⟨[p], rfl⟩, fun q x e _ _ => upd_old hp e, fun q l => ?_, fun q l => ?_⟩
  · obtain ⟨k, x, a1, a2, a3⟩ := l
    have a1 : (w.m ++ [p])[k]? = some q := a1
    have a2 : (w.s ++ [o])[k]? = some x := a2
    have len : w.m.length = w.s.length := r.len
    rcases Nat.lt_or_ge k w.m.length with l | l
    · rw [List.getElem?_append_left l] at a1
      rw [List.getElem?_append_left (by omega)] at a2
      exact .inl ⟨k, x, a1, a2, a3⟩
    · rw [List.getElem?_append_right l] at a1
      have := List.mem_of_getElem? a1
      rw [List.mem_singleton.mp this]
      exact .inr (.inl hp)
  · have l : q ∈ w.m ++ [p] := l
    rcases List.mem_append.mp l with z | z
    · exact .inl z
    · rw [List.mem_singleton.mp z]; exact .inr (.inl hp)
theorem layI_ok : ∀ (l : List (Key × Ini)) (w : Wd) (Q : List (V × V) → Hp → Prop), Rst g w →
    (∀ (w' : Wd) (vs : List (Key × V)), w'.s = (layI l w.s).2 → w'.T = w.T → Ext [] w w' → Rst g w' → RvK g w' (layI l w.s).1 vs → vs.length = l.length → Q (vs.map fun kv => (kV kv.1, kv.2)) w'.H) → tPairs (trsI l) σ w.H Q
  | [], w, Q, r, h => h w [] rfl rfl Ext.refl r (by unfold layI; unfold RvK; rfl) rfl
  | (k, .int i) :: l, w, Q, r, h => by
    refine layI_ok l w (fun ps H => Q ((kV k, .int i) :: ps) H) r fun w' vs h1 h2 h3 h4 h5 h6 => ?_
    refine h w' ((k, .int i) :: vs) h1 h2 h3 h4 ?_ (by rw [List.length_cons, List.length_cons, h6])
    show RvK g w' ((k, .int i) :: (layI l w.s).1) _
    unfold RvK
    exact ⟨_, _, rfl, rv_int, h5⟩
  | (k, .str x) :: l, w, Q, r, h => by
    refine layI_ok l w (fun ps H => Q ((kV k, .str x) :: ps) H) r fun w' vs h1 h2 h3 h4 h5 h6 => ?_
    refine h w' ((k, .str x) :: vs) h1 h2 h3 h4 ?_ (by rw [List.length_cons, List.length_cons, h6])
    show RvK g w' ((k, .str x) :: (layI l w.s).1) _
    unfold RvK
    exact ⟨_, _, rfl, rv_str, h5⟩
  | (k, .dct0) :: l, w, Q, r, h => by
    intro q hq
    obtain ⟨_, e0, _, a3, _, a5, a6⟩ : Px g w.H { w with H := upd w.H q (.dK []) } (.own (.dK [])) (.ref q) := Px.newD r hq (by unfold RvK; rfl)
    cases e0
    have ra := (Rst.ad (w := { w with H := upd w.H q (.dK []) }) a5 a6 (r.ntT hq) dK_nd).1
    have ex := ad_ext (o := .dK []) (u := .dK []) r hq
    have hm : (w.m ++ [q])[w.s.length]? = some q := by
      have : w.m.length = w.s.length := r.len
      rw [← this, List.getElem?_append_right (Nat.le_refl _)]; simp
    refine layI_ok l { w with m := w.m ++ [q], s := w.s ++ [.dK []], H := upd w.H q (.dK []) } (fun ps H => Q ((kV k, .ref q) :: ps) H) ra fun w' vs h1 h2 h3 h4 h5 h6 => ?_
    refine h w' ((k, .ref q) :: vs) h1 h2 (ex.trans h3) h4 ?_ (by rw [List.length_cons, List.length_cons, h6])
    show RvK g w' ((k, .ref w.s.length) :: (layI l (w.s ++ [.dK []])).1) _
    unfold RvK
    refine ⟨_, _, rfl, ?_, h5⟩
    unfold Rv
    exact ⟨q, rfl, h3.get hm⟩
  | (k, .lst0) :: l, w, Q, r, h => by
    refine ⟨Nat.zero_le _, fun q hq => ?_⟩
    obtain ⟨_, e0, _, a3, _, a5, a6⟩ : Px g w.H { w with H := upd w.H q (.lst []) } (.own (.lst [])) (.ref q) := Px.newL r hq (by unfold RvL; rfl)
    cases e0
    have ra := (Rst.ad (w := { w with H := upd w.H q (.lst []) }) a5 a6 (r.ntT hq) (fun z => nomatch z)).1
    have ex := ad_ext (o := .lst []) (u := .lst []) r hq
    have hm : (w.m ++ [q])[w.s.length]? = some q := by
      have : w.m.length = w.s.length := r.len
      rw [← this, List.getElem?_append_right (Nat.le_refl _)]; simp
    refine layI_ok l { w with m := w.m ++ [q], s := w.s ++ [.lst []], H := upd w.H q (.lst []) } (fun ps H => Q ((kV k, .ref q) :: ps) H) ra fun w' vs h1 h2 h3 h4 h5 h6 => ?_
    refine h w' ((k, .ref q) :: vs) h1 h2 (ex.trans h3) h4 ?_ (by rw [List.length_cons, List.length_cons, h6])
    show RvK g w' ((k, .ref w.s.length) :: (layI l (w.s ++ [.lst []])).1) _
    unfold RvK
    refine ⟨_, _, rfl, ?_, h5⟩
    unfold Rv
    exact ⟨q, rfl, h3.get hm⟩
theorem RvK.mrg : ∀ {more : List (Key × D)} {vs : List (Key × V)} {kv : List (Key × D)} {ys : List (Key × V)}, RvK g w more vs → RvK g w kv ys → RvK g w (mrgD kv more) (mergeK ys vs)
  | [], vs, kv, ys, h, k => by unfold RvK at h; subst h; exact k
  | (j, d) :: r, vs, kv, ys, h, k => by
    unfold RvK at h
    obtain ⟨y, t, rfl, h1, h2⟩ := h
    exact RvK.mrg (kv := putD kv j d) (ys := putK ys j y) h2 (RvK.put h1 k)
theorem eDsp_ok {l : List (Key × Ini)} (hl : l.length ≤ 15) (h : tEv g W (eDsp l) σ H Q) : tDisp (trsI l) σ H Q := by
  obtain ⟨w, env, rfl, re, h⟩ := h
  intro p hp
  have hT : ∀ q ∈ p :: w.T, q ∈ w.T ∨ q = p := fun q hq => (List.mem_cons.mp hq).symm
  have r1 : Rst g { w with H := upd w.H p (.dK []), T := p :: w.T } := re.st.new hp hT
  refine layI_ok l { w with H := upd w.H p (.dK []), T := p :: w.T } _ r1 fun w' vs h1 h2 h3 h4 h5 h6 => ?_
  have h1 : w'.s = (layI l w.s).2 := h1
  have h2 : w'.T = p :: w.T := h2
  have hpm : p ∉ w.m := re.st.fresh hp
  have hk : w'.H p = some (.dK []) := h3.keep p _ upd_same (fun z => hpm z.mem) (by simp)
  refine ⟨hk, vs, rfl, by omega, ?_⟩
  have hmT : p ∈ w'.T := by rw [h2]; exact List.mem_cons_self ..
  have hMut : Mut (w'.H p) := by rw [hk]; trivial
  have cw := wr_cy (u := .dK (mergeK [] vs)) h4 hMut hmT
  have rw' := wr_rst (u := .dK (mergeK [] vs)) h4 hMut hmT
  have ew : ({ w' with H := upd w'.H p (.dK (mergeK [] vs)), T := p :: w.T } : Wd) = w'.wr p (.dK (mergeK [] vs)) := by rw [← h2]
  refine h { w' with H := upd w'.H p (.dK (mergeK [] vs)), T := w.T } (.ref p) h1 rfl ⟨h3.pre, fun q o e nl nx => ?_, fun q l => ?_, fun q l => ?_⟩ ⟨p, rfl, hp, re.st.ntT hp, trivial, ?_, ?_⟩
  · have ne : q ≠ p := fun z => by rw [z, hp] at e; cases e
    have e1 : w'.H q = some o := h3.keep q o (upd_old hp e) (fun z => nl z) (by simp)
    show upd w'.H p _ q = some o
    simp only [upd, ne, if_false]; exact e1
  · rcases h3.new q l with z | z | z
    · exact .inl z
    · refine .inr (.inl ?_)
      have z : upd w.H p (.dK []) q = none := z
      by_cases e : q = p
      · rw [e]; exact hp
      · simpa only [upd, e, if_false] using z
    · cases z
  · rcases h3.nm q l with z | z | z
    · exact .inl z
    · refine .inr (.inl ?_)
      have z : upd w.H p (.dK []) q = none := z
      by_cases e : q = p
      · rw [e]; exact hp
      · simpa only [upd, e, if_false] using z
    · cases z
  · show Rst g { w' with H := upd w'.H p (.dK (mergeK [] vs)), T := p :: w.T }
    rw [ew]; exact rw'
  · show Ro g { w' with H := upd w'.H p (.dK (mergeK [] vs)), T := p :: w.T } p _
    rw [ew]
    refine ⟨_, upd_same, RvK.mrg ?_ (by unfold RvK; rfl)⟩
    exact RvK.mono cw _ _ h5
end
section
variable {X : Cx} {A : Ga} {W : WX} {pos : Pos}
theorem me_dsp (l : List (Key × Ini)) {keys : List (Option Expr)} {values : List Expr} (h : PPs X pos keys values (trsI l)) (hall : keys.all (·.isSome) = true) (hl : keys.length = values.length) (h0 : keys ≠ []) (h15 : keys.length ≤ 15) (hn : l.length ≤ 15) :
    ME X A W (.Dict keys values pos) (eDsp l) := peW (pe_disp h hall hl h0 h15) fun _ _ _ h => eDsp_ok hn h
end
/-! ### a table of the module, asked of any text -/
def tabAB (K : PySem.W.Frag) (a : Addr) (t : List (Str × Option Int)) : Bool := tabB K a t && (match K.lookup a with
  | some ⟨_, _, .dict es _, _⟩ => es.toList.all fun e => !e.refKey && t.any fun p => e.key.isStr p.1
  | _ => false)
theorem tabAB_b {K : PySem.W.Frag} {a : Addr} {t : List (Str × Option Int)} (h : tabAB K a t = true) : tabB K a t = true := by
  unfold tabAB at h
  rw [Bool.and_eq_true] at h
  exact h.1
theorem isStr_one {v : Value} {a b : Str} (h : v.isStr a = true) (k : v.isStr b = true) : a = b := by
  cases v with
  | str x t =>
    simp only [Value.isStr, beq_iff_eq] at h k
    rw [← h, ← k]
  | _ => cases h
theorem tabAB_no {K : PySem.W.Frag} {a : Addr} {t : List (Str × Option Int)} (h : tabAB K a t = true) (z : Str) (hz : t.lookup z = none) : PySem.W.nsIn K a z = some none := by
  unfold tabAB at h
  rw [Bool.and_eq_true] at h
  obtain ⟨_, h⟩ := h
  unfold PySem.W.nsIn
  split at h
  · rename_i es _ _ e
    rw [e]
    have hall := List.all_eq_true.mp h
    have hf : es.toList.find? (·.key.isStr z) = none := by
      rw [List.find?_eq_none]
      intro x hx hk
      have h2 := hall x hx
      simp only [Bool.and_eq_true, List.any_eq_true] at h2
      obtain ⟨_, p, hp, hpk⟩ := h2
      have : z = p.1 := isStr_one hk hpk
      subst this
      have : t.lookup p.1 ≠ none := by
        intro hn
        have := List.lookup_eq_none_iff.mp hn p hp
        simp at this
      exact this hz
    have hr : es.toList.any (·.refKey) = false := by
      rw [List.any_eq_false]
      intro x hx
      have h2 := hall x hx
      simp only [Bool.and_eq_true, Bool.not_eq_true'] at h2
      simp [h2.1]
    simp only [hf, hr, Bool.false_eq_true, if_false]
  · cases h
structure TabA (K : PySem.W.Frag) (w : World) (a : Addr) (t : List (Str × Option Int)) : Prop where
  k : TabK K w a t
  no : ∀ z, t.lookup z = none → PySem.W.nsIn K a z = some none
def fTInA (neg : Bool) (t : List (Str × Option Int)) : Store → D → R D := fun s a => match a with
  | .str z => .ok (.bl (if neg then !((t.lookup z).join).isSome else ((t.lookup z).join).isSome)) s
  | _ => .no
theorem TabA.look {K : PySem.W.Frag} {w : World} {a : Addr} {t : List (Str × Option Int)} (T : TabA K w a t) (z : Str) : ∃ u, PySem.W.nsIn K a z = some u ∧ u.isSome = ((t.lookup z).join).isSome := by
  cases e : t.lookup z with
  | none => exact ⟨none, T.no z e, rfl⟩
  | some r =>
    obtain ⟨u, h1, h2, h3⟩ := T.k.look z r e
    refine ⟨u, h1, ?_⟩
    cases r with
    | none => rw [h2 rfl]; rfl
    | some i => obtain ⟨tk, q⟩ := h3 i rfl; rw [q]; rfl
theorem snd_tNinA {g : Gc} {wl : World} {d : Addr} {t : List (Str × Option Int)} (T : TabA g.K wl d t) : Snd1 g (fTInA true t) fun x H Q => ∃ (z : Str) (r : Option Value), x = .str z ∧ (V.ref d) = .ref d ∧ PySem.W.nsIn g.K d z = some r ∧ Q (.bl (!r.isSome)) H := by
  intro w a x Q r pa h
  unfold fTInA at h
  split at h
  · rename_i z
    obtain ⟨u, h1, h2⟩ := T.look z
    refine ⟨z, u, po_str pa, rfl, h1, ?_⟩
    rw [h2]
    exact h.pure r rv_bl
  · exact h.elim
theorem ne_tInA {b : Bool} {t : List (Str × Option Int)} : ∀ s x k s', fTInA b t s x ≠ .exc k s' := by
  intro s x k s'
  unfold fTInA
  split <;> exact fun z => nomatch z
section
variable {X : Cx} {A : Ga} {W : WX} {a b c : Expr} {ma mb : Ex} {m : Sx} {pos : Pos} {ss : List Stmt} {tx : Expr}
theorem mt_tninA {x : Str} {d : Addr} {t : List (Str × Option Int)} {p : Pos} (T : TabA X.K X.w d t) (hg : Gl X x) (hm : X.mg x = some (.ref d)) (ha : ME X A W a ma) (hd : (x == ("__debug__" : Str)) = false := by decide) (hb : behindInMarks .NotIn (.Name x p) = false := by rfl) :
    MT X A W (.Compare a [.NotIn] [.Name x p] pos) (tq (eOp1 (fTInA true t) ma)) := by
  obtain ⟨es, n, D⟩ := T.k.kd
  exact ptW (pt_cmpR (op_notIn_kd D) ha (pe_glob (v := .ref d) hg hm rfl hd) hb) fun _ _ _ h => tUn_snd (snd_tNinA T) ne_tInA (tq_ok h)
end
end Gm

set_option Elab.async false
set_option linter.all false
set_option maxRecDepth 100000
set_option autoImplicit false
set_option maxHeartbeats 1000000
namespace Gm
open PySem PySem.Spec PyProof.Rows L2
/-! ### an exception out of a list comprehension's element -/
section
variable {M : Model} {A : Around} {E : Value → Shared → Prop} {s : Shared} {Z : Obj → Prop} {base : Heap} {env cenv : PySem.Env} {outer l : List PySem.Env} {L e : Addr} {m : Str → Option Value}
theorem looks_flZ {fl : Value} {Q : Unit → Shared → Prop} (hZ : HandSPX.Steady Z) (hfr : A.frames = some (env :: outer)) (hf : env.frame = some L) (hkb : base.StaysIn s.heap) (hen : base.get? e = none) (hl : s.heap.FunFrames base (env :: outer)) (ht : HandSPX.TracedZ s.heap base e Z fl) (hne : (fl == rawInt L) = false)
    (hQ : ∀ h', HandSPX.HeldZ base (env :: outer) e Z L h' → s.heap.UpToSlots h' → Q () { s with heap := h' }) : wpAny M A (noteFrame (.ref e) env) Q E s := by
  obtain ⟨oe, vs, T, oT, ts, he, hz, hd, h1, hnT, hTe, hT, hdT, h3⟩ := ht
  unfold noteFrame
  simp only [hf]
  refine wpAny_bind (wpAny_field he hd h1 ?_)
  rw [if_pos (show (Value.ref T != Value.none) = true from by simp)]
  refine wpAny_bind (wpAny_field hT hdT h3 ?_)
  rw [if_neg (by rw [hne]; decide)]
  refine wpAny_bind (wpAny_setField hT hdT (Array.getElem?_eq_some_iff.mp h3).1 ?_)
  have other : ∀ b, b ≠ T → (s.heap.update T (Obj.mapFields (·.setIfInBounds 3 Value.none))).get? b = s.heap.get? b := fun b hb => Heap.get?_update_other _ _ (Ne.symm hb)
  have noRecord : ∀ b o, s.heap.get? b = some o → (∀ vs, o.data ≠ .fields vs) → b ≠ T := fun b o hb hnf q => by
    rw [q, hT] at hb; injection hb with hb; subst hb; exact hnf ts hdT
  refine HandSPX.wpAny_entryZ hZ hfr (hl.of_keeps fun b o hb hnf => ⟨o, (other b (noRecord b o hb hnf)).trans hb, rfl⟩) hf ((other e (Ne.symm hTe)).trans he)
    (fun b o hbo => (other b fun q => by rw [q, hnT] at hbo; cases hbo).trans (hkb b o hbo)) hen hd (Array.getElem?_eq_some_iff.mp h1).1 hz fun h' hN => ?_
  obtain ⟨x1, x2, x3, x4⟩ := hN
  exact hQ h' ⟨x1, hen, x2, x3⟩ fun b o hb hnf => x4 b o ((other b (noRecord b o hb hnf)).trans hb) hnf
theorem compFails_heldZ (hf : cenv.frame = some L) (hbC : base.get? cenv.locals = none) (hn : s.heap.Ns cenv.locals m) (hh : HandSPX.HeldZ base l e Z L s.heap)
    (hQ : ∀ h', HandSPX.HeldZ base l e Z L h' → (∀ b o, s.heap.get? b = some o → b ≠ cenv.locals → (∀ vs, o.data ≠ .fields vs) → ∃ sl, h'.get? b = some { o with slots := sl }) → E (.ref e) { s with heap := h' }) :
    CompFails M A E cenv (.ref e) s := by
  refine ⟨m, hn, fun h₂ m₂ hn₂ hs₂ => ?_⟩
  obtain ⟨b1, b0, f1, t1⟩ := hh
  have b2 : base.StaysIn h₂ := fun b o hb => (hs₂.2 b fun q => by rw [q, hbC] at hb; cases hb).trans (b1 b o hb)
  have f2 : h₂.FunFrames base l := Heap.FunFrames.sameBut hs₂ hn₂ f1
  obtain ⟨oe, vs, T, oT, ts, he, hz, hd, h1, hnT, hTe, hT, hdT, h3⟩ := t1
  have rcd : ∀ b o us, s.heap.get? b = some o → o.data = .fields us → b ≠ cenv.locals := fun b o us hb hd q => by
    obtain ⟨oL, es, ep, hoL, hdL, _⟩ := hn
    rw [q, hoL] at hb; cases hb
    rw [hdL] at hd; cases hd
  have he2 : h₂.get? e = some oe := (hs₂.2 e (rcd e oe vs he hd)).trans he
  have hT2 : h₂.get? T = some oT := (hs₂.2 T (rcd T oT ts hT hdT)).trans hT
  unfold PySem.passOn
  refine wpAny_bind (wpAny_field he2 hd h1 ?_)
  rw [if_neg (show ¬ ((Value.ref T == Value.none) = true) from by simp)]
  rw [hf]
  refine wpAny_bind (HandSPX.setFlight_onZ (base := base) (l := l) (Z := Z) (L := L) (s := { s with heap := h₂ }) ⟨b2, b0, f2, oe, vs, T, oT, ts, he2, hz, hd, h1, hnT, hTe, hT2, hdT, h3⟩ fun h₃ hh3 k3 => ?_)
  refine wpAny_throw ?_
  exact hQ h₃ hh3 fun b o hb hbL hnf => k3 b o ((hs₂.2 b hbL).trans hb) hnf
end
section
variable {X : Cx}
theorem XE.unwish {E : Value → Shared → Prop} {W : WX} {u : Value} {s' : Shared} (x : XE (X.wish E) W u s') : XE X W u s' := by
  obtain ⟨a, B, sI, pins, σ, H, cls, d, h1, J, r⟩ := x
  exact ⟨a, B, sI, pins, σ, H, cls, d, h1, J.unwish, r⟩
theorem comp_throw {pins : List (Addr × Obj)} {σ : L2.St} {H3 : Hp} {s3 : Shared} {scope : Scope} {ce : PySem.Env} {fp : List Addr} {W Wb : WX} (hs : X.stack = X.env :: X.outer) (hf : X.env.frame = some X.env.locals) (tk : Takes X W) (I3 : Inv X pins σ H3 s3)
    (f3 : ∀ b ∈ fp, FpOk X pins H3 b) (hL : ce.locals = s3.heap.objs.size) (hF : ce.frame = X.env.frame) (hW : ∀ cls d σ2 H2, Wb cls d σ2 H2 → W cls d σ H2) {u : Value} {s' : Shared} (x : XE (X.blk s3 H3 scope ce fp) Wb u s') :
    notedBy (model X.prog X.w) X.A ce (CompFails (model X.prog X.w) X.A X.xe ce) u s' := by
  obtain ⟨a, B, sI, pins', σ', H', cls, d, rfl, J, nb, up, sky, na, os, ag, w⟩ := x
  have hfr : X.A.frames = some (X.env :: X.outer) := by rw [I3.ok.frames, hs]
  have hCL : ce.locals ≠ X.env.locals := by rw [hL]; exact Nat.ne_of_gt I3.lt
  have nb : ∀ b o, sI.heap.get? b = some o → b ∉ frs X.stack → B.get? b = some o := nb
  have sky : Sky B (X.env :: X.outer) a (Zc cls d) ce.locals s'.heap := by rw [← hs]; exact sky
  show wpAny (model X.prog X.w) X.A (noteFrame (.ref a) ce) _ _ s'
  rw [noteFrame_env _ hF]
  have ofB : ∀ {h : Heap} {b : Addr} {o : Obj}, (PySem.W.hideAll h [ce.locals]).get? b = some o → h.get? b = some o := fun e => PySem.W.of_hideAll _ e
  have toB : ∀ {h : Heap} {b : Addr} {o : Obj}, h.get? b = some o → b ≠ ce.locals → (PySem.W.hideAll h [ce.locals]).get? b = some o := fun e n => PySem.W.hideAll_get _ e (by simpa using n)
  have noC : ∀ h : Heap, (PySem.W.hideAll h [ce.locals]).get? ce.locals = none := fun h => PySem.W.hideAll_none _ (by simp)
  have noB : ∀ {h : Heap} {b : Addr}, h.get? b = none → (PySem.W.hideAll h [ce.locals]).get? b = none := fun {h b} e => by
    cases q : (PySem.W.hideAll h [ce.locals]).get? b with
    | none => rfl
    | some o => rw [ofB q] at e; cases e
  have fin : ∀ h1, HandSPX.HeldZ B (X.env :: X.outer) a (Zc cls d) X.env.locals h1 → s'.heap.UpToSlots h1 → CompFails (model X.prog X.w) X.A X.xe ce (.ref a) { s' with heap := h1 } := fun h1 hh up1 => by
    obtain ⟨b1, b0, f1, oe, vs, T, oT, ts, he, hz, hd, hv1, hnT, hTe, hT, hdT, h3⟩ := hh
    have hh' : HandSPX.HeldZ (PySem.W.hideAll B [ce.locals]) (X.env :: X.outer) a (Zc cls d) X.env.locals h1 :=
      ⟨fun b o e => b1 b o (ofB e), noB b0, funFrames_none f1 fun b hb => noB (f1.mem hb).1, oe, vs, T, oT, ts, he, hz, hd, hv1, noB hnT, hTe, hT, hdT, h3⟩
    obtain ⟨m, hn, _⟩ := J.loc
    have hn : sI.heap.Ns ce.locals m := hn
    refine compFails_heldZ (s := { s' with heap := h1 }) (hF.trans hf) (noC B) ((up.trans up1).ns hn) hh' fun h4 hh4 k4 => ?_
    have hHC : H' ce.locals = none := J.free
    have hlt : ∀ {b : Addr} {o : Obj}, s3.heap.get? b = some o → b ≠ ce.locals := fun {b o} e q => by
      have := Heap.lt_size e
      rw [q, hL] at this
      exact absurd this (Nat.lt_irrefl _)
    have Jb : L2.Un (frs X.stack) fp H3 H' s3.heap sI.heap := J.base
    have hG : HOk X.prog X.w H' (PySem.W.hideAll sI.heap [ce.locals]) := fun b o q => (J.hok b o q).stay (fun c v hc r => toB r fun z => by
      rcases hc with hc | hc
      · rw [hc] at z; rw [z, hHC] at q; cases q
      · rw [z, hHC] at hc; cases hc) (fun _ r => r) fun _ _ r => r
    refine tk _ _ ⟨a, PySem.W.hideAll B [ce.locals], { sI with heap := PySem.W.hideAll sI.heap [ce.locals] }, pins, σ, H', cls, d, rfl, ?_, fun b o e hb => toB (nb b o (ofB e) hb) (fun z => by rw [z, noC] at e; cases e), fun b o e hnf => ?_, .inr (.inr (by rw [hs]; exact hh4)), na, os, ag, hW _ _ _ _ w⟩
    · refine I3.call' (ch := fp) J.os ⟨fun b o e n h1 h2 => toB (Jb.keep b o e n h1 h2) (hlt e), fun b o e n h1 h2 => ?_, Jb.free, fun b o e h2 => ?_, Jb.tups, Jb.frzs, Jb.tbls⟩ hG J.bare fun b hb => ⟨(f3 b hb).2.2.2.1, (f3 b hb).2.1, (f3 b hb).2.2.2.2.1, (f3 b hb).2.2.2.2.2⟩
      · obtain ⟨sl, q⟩ := Jb.slot b o e n h1 h2
        exact ⟨sl, toB q (hlt e)⟩
      · obtain ⟨o', q⟩ := Jb.there b o e h2
        exact ⟨o', toB q (hlt e)⟩
    · have hbC : b ≠ ce.locals := fun z => by rw [z, noC] at e; cases e
      obtain ⟨sl, e1⟩ := (up.trans up1) b o (ofB e) hnf
      obtain ⟨sl2, e2⟩ := k4 b _ e1 hbC hnf
      exact ⟨sl2, e2⟩
  rcases sky with ⟨hB, hn, hl, oe, vs, he, hz, hd, h1⟩ | fl | hh
  · exact HandSPX.look_newZ Zc.steady hfr hl hf he hB hn hd h1 hz fin
  · exact HandSPX.looks_onZ Zc.steady hfr hf fl fin
  · exact looks_flZ Zc.steady hfr hf hh.1 hh.2.1 hh.2.2.1 hh.2.2.2 (by
      rw [beq_eq_false_iff_ne]
      intro z
      unfold rawInt at z
      injection z with z _
      exact hCL (Int.ofNat.inj z)) fin
/-- [elt for target in iter if ..] where the element may raise -/
def tLcX (W : WX) (wi : TI) (g : TG) (tt : TT) (te : WX → TE) (vs : List Nat) : TE := fun σ H Q => tLc wi g tt (te fun cls d _ H => W cls d σ H) vs σ H Q
theorem post_ends {M : Model} {A : Around} {E : Value → Shared → Prop} {use : Option (Value → Sem Unit)} {Qf : Value → Shared → Prop} {acc : Value} {ce : PySem.Env} {f : Flow} {s : Shared} (h : compPost M A E use Qf acc ce.locals (.ok f) s) : compEnds M A E use Qf acc ce (.ok f) s := by
  cases use <;> exact h
theorem lc_coreX {pins : List (Addr × Obj)} {s : Shared} {σ : L2.St} {H : Hp} {Q : VK} {elt tg iter : Expr} {ifs : List Expr} {scope : Scope} {own : List (Str × Nat)} {pos pos' : Pos} {use : Option (Value → Sem Unit)} {Qf : Value → Shared → Prop} {wi : TI} {g : TG} {tt : TT} {te : WX → TE} {W : WX} (hs0 : X.stack = X.env :: X.outer) (hf0 : X.env.frame = some X.env.locals) (tk : Takes X W) (hc : X.calm = true) (hN : X.N.Nodup) (I : Inv X pins σ H s) (hi : PI X tg iter wi) (ok : BlkOk X.N X.env.scope scope own)
    (hg : ∀ (s : Shared) (H : Hp) (C : Addr) (cl : List (Str × Addr)) (fp : List Addr), PG (X.blk s H scope (compEnvC scope cl C X.env) fp) tg g) (ht : ∀ (s : Shared) (H : Hp) (C : Addr) (cl : List (Str × Addr)) (fp : List Addr), PTs (X.blk s H scope (compEnvC scope cl C X.env) fp) ifs tt)
    (he : ∀ (Wb : WX) (s : Shared) (H : Hp) (C : Addr) (cl : List (Str × Addr)) (fp : List Addr) (xe : Value → Shared → Prop), Takes ((X.blk s H scope (compEnvC scope cl C X.env) fp).wish xe) Wb → PE ((X.blk s H scope (compEnvC scope cl C X.env) fp).wish xe) elt (te Wb)) (hs : ∀ x, foldedSetIterable iter X.env x = pure x)
    (h : tLcX W wi g tt te (own.map (·.2)) σ H Q)
    (hRR : ∀ D C s' m H', Inv X pins σ H' s' → Q (.ref D) H' → s'.heap.Ns C m → FpOk X pins H' C → compPost (model X.prog X.w) X.A X.xe use Qf (.ref D) C (.ok .next) s') :
    wpAny (model X.prog X.w) X.A (comprehension (.ListComp elt [⟨tg, iter, ifs, 0⟩] scope pos) scope X.env pos' (newList []) false (eval iter X.env) use) Qf X.xe s := by
  have hfree : ∀ y ∈ scope.names, y.2 = .free → ∃ c, X.env.cells.lookup y.1 = some c := fun y hy e => by
    rcases ok.free y hy e with k | k
    · exact I.ok.has _ (.inl k)
    · exact I.ok.has _ (.inr k)
  refine comprehension_at (use := use) rfl hs (closure_ok hfree) ok.kind (fun y hy e => by rw [ok.uniq y hy, e])
    (thn (hi.run pins s σ H _ I h) fun xv s1 hx => thn hx fun itv s2 h2 => ?_)
  obtain ⟨it, fp, tn, J, H2, e, I2, T, st2, f2, q⟩ := h2
  subst e
  refine wpAny_newObj_type (newEnv_comp ?_) (by show 0 ≤ sizeLine; decide)
  generalize hD : s2.heap.objs.size = D
  have hDn : H2 D = none := I2.hok.fresh (Nat.le_of_eq hD)
  obtain ⟨Wt, ⟨m0, w0⟩, turn⟩ := q D hDn
  generalize hs3 : ({ s2 with heap := s2.heap.push { cls := .type "list", data := .seq ([] : List Value).toArray } } : Shared) = s3
  have I3 : Inv X pins σ (upd H2 D (.lst [])) s3 := by
    rw [← hs3]
    refine I2.laid (t' := s2.toks) (fun b o e => Heap.get?_push_of_some _ e) (Nat.le_of_eq hD) ⟨Nat.zero_le _, [], 0, .nil, ?_⟩
    rw [← hD]
    exact Heap.get?_push_size _ rfl
  have h3 : s3.heap = s2.heap.push { cls := .type "list", data := .seq ([] : List Value).toArray } := by rw [← hs3]
  have sz : ∀ b ∈ fp, b < s2.heap.objs.size := fun b hb => by
    obtain ⟨o, e, _⟩ := T.obj _ _ st2 b hb
    exact Heap.lt_size e
  have f3 : ∀ b ∈ fp, FpOk X pins (upd H2 D (.lst [])) b ∧ b < s3.heap.objs.size := fun b hb => by
    have hlt := sz b hb
    refine ⟨⟨?_, (f2 b hb).2⟩, by rw [h3, Heap.size_push]; exact Nat.lt_succ_of_lt hlt⟩
    rw [upd_ne (by rw [← hD]; exact Nat.ne_of_lt hlt)]
    exact (f2 b hb).1
  have st3 : tn 0 s3.heap := T.keep _ _ _ st2 fun b _ o e => by rw [h3]; exact Heap.get?_push_of_some _ e
  have I4 := block_start I3 ok hN f3
  have pg := hg s3 (upd H2 D (.lst [])) s3.heap.objs.size (cellsFrom (s3.heap.objs.size + 1) scope.names (cloFrom X.env.cells scope.names [])) fp
  have pt := ht s3 (upd H2 D (.lst [])) s3.heap.objs.size (cellsFrom (s3.heap.objs.size + 1) scope.names (cloFrom X.env.cells scope.names [])) fp
  have pe := he (fun cls d _ H => W cls d σ H) s3 (upd H2 D (.lst [])) s3.heap.objs.size (cellsFrom (s3.heap.objs.size + 1) scope.names (cloFrom X.env.cells scope.names [])) fp
  show codeAny _ _ (.compStart (.ListComp elt [⟨tg, iter, ifs, 0⟩] scope pos) 0 (.ref it) (.ref D) (compEnvC scope (cellsFrom (s3.heap.objs.size + 1) scope.names (cloFrom X.env.cells scope.names [])) s3.heap.objs.size X.env)) (compEnds (model X.prog X.w) X.A X.xe use Qf (.ref D) (compEnvC scope (cellsFrom (s3.heap.objs.size + 1) scope.names (cloFrom X.env.cells scope.names [])) s3.heap.objs.size X.env)) { s3 with heap := pushCells (s3.heap.push { cls := .type "dict", data := .dict #[] }) scope.names }
  have nfp : ∀ b ∈ fp, (upd H2 D (.lst [])) b = none := fun b hb => (f3 b hb).1.1
  generalize hce : compEnvC scope (cellsFrom (s3.heap.objs.size + 1) scope.names (cloFrom X.env.cells scope.names [])) s3.heap.objs.size X.env = ce at I4 pg pt pe ⊢
  have cL : ce.locals = s3.heap.objs.size := by subst hce; rfl
  have cF : ce.frame = X.env.frame := by subst hce; rfl
  generalize hH3 : upd H2 D (.lst []) = H3 at I3 I4 pg pt pe w0 nfp f3
  generalize hs4 : ({ s3 with heap := pushCells (s3.heap.push { cls := .type "dict", data := .dict #[] }) scope.names } : Shared) = s4 at I4 ⊢
  have st4 : tn 0 s4.heap := T.keep _ _ _ st3 fun b _ o e => by rw [← hs4]; exact pushCells_keeps _ _ _ _ (Heap.get?_push_of_some _ e)
  have stat : ∀ {σ' : L2.St} {H' : Hp} {s' : Shared}, Inv (X.blk s3 H3 scope ce fp) [] σ' H' s' → (∀ b ∈ fp, H' b = none) → ∀ b ∈ fp, FpOk (X.blk s3 H3 scope ce fp) [] H' b := fun {σ' H' s'} I' hn b hb =>
    ⟨hn b hb, (I'.ok.exf b hb).1, I'.ok.exfs b hb, .inl hb, fun x c e => (I'.ok.exf b hb).2 x c e, fun p hp => absurd (show p ∈ ([] : List (Addr × Obj)) ++ [] from hp) (by simp)⟩
  have pe := pe (fun u s' => XE (X.blk s3 H3 scope ce fp) (fun cls d _ H => W cls d σ H) u s') fun u s' x => XE.unwish x
  have loop : codeAny (model X.prog X.w) X.A (.compLoop (.ListComp elt [⟨tg, iter, ifs, 0⟩] scope pos) 0 (.ref it) (.ref D) ce) (compEnds (model X.prog X.w) X.A X.xe use Qf (.ref D) ce) s4 := by
    refine compLoop_any (fun n s' => ∃ i H', Inv (X.blk s3 H3 scope ce fp) [] (wipe σ (own.map (·.2))) H' s' ∧ tn i s'.heap ∧ (∀ b ∈ fp, H' b = none) ∧ Wt i n H') ?_ m0 ⟨0, H3, I4, st4, nfp, w0⟩
    rintro n s5 ⟨i, H5, I5, st5, n5, w5⟩
    rcases turn i n H5 w5 with ⟨stop, qq⟩ | ⟨go, Nx, hNx, step⟩
    · have td := T.done (X.blk s3 H3 scope ce fp) rfl rfl rfl hc i [] s5 _ H5 (fun _ _ => False) I5 (stat I5 n5) st5 stop
      refine thnF td fun r s6 ⟨hr, I6⟩ => ?_
      subst hr
      have I7 : Inv X pins σ H5 s6 := I3.call' (ch := fp) I6.os I6.base I6.hok I6.bare fun b hb => ⟨(f3 b hb).1.2.2.2.1, (f3 b hb).1.2.1, (f3 b hb).1.2.2.2.2.1, (f3 b hb).1.2.2.2.2.2⟩
      have nC : H5 s3.heap.objs.size = none := by
        have z : H5 ce.locals = none := I6.free
        rw [cL] at z
        exact z
      obtain ⟨m, hn, _⟩ := I6.loc
      have hn : s6.heap.Ns ce.locals m := hn
      rw [cL] at hn
      have hh := hRR D s3.heap.objs.size s6 m H5 I7 qq hn (I3.fpOk (Nat.le_refl _) nC)
      rw [← cL] at hh
      exact post_ends hh
    · have ti := T.item (X.blk s3 H3 scope ce fp) rfl rfl rfl hc i [] s5 _ H5 (fun _ _ => False) I5 (stat I5 n5) st5 go
      refine thnF ti fun r s6 ⟨u, hr, h6⟩ => ?_
      subst hr
      refine thnF h6 fun _ s7 ⟨x, H7, I7, r7, y7, st7, n7⟩ => ?_
      have I7' := I7.pinned (stat I7 n7) (T.obj _ _ st7)
      refine thnF (pg.run _ s7 _ H7 x u _ I7' r7 (step x H7 y7)) fun _ s8 ⟨σ8, H8, I8, hw8, q8⟩ => ?_
      refine thnF (pt.run _ s8 σ8 H8 _ I8 q8) fun b s9 ⟨H9, I9, q9⟩ => ?_
      have fin : ∀ {s' : Shared} {H' : Hp}, Inv (X.blk s3 H3 scope ce fp) ([] ++ pinsAt fp s7.heap) σ8 H' s' → Nx H' → ∃ m, m < n ∧ ∃ i H', Inv (X.blk s3 H3 scope ce fp) [] (wipe σ (own.map (·.2))) H' s' ∧ tn i s'.heap ∧ (∀ b ∈ fp, H' b = none) ∧ Wt i m H' := fun {s' H'} I' nx => by
        obtain ⟨m', hm, w'⟩ := hNx H' nx
        have pin' : ∀ b ∈ fp, ∀ o, s7.heap.get? b = some o → s'.heap.get? b = some o ∧ H' b = none := fun b hb o e =>
          let z := I'.pin (b, o) (List.mem_append_right _ (List.mem_append_right _ (mem_pinsAt hb e)))
          ⟨z.1, z.2.1⟩
        have hl : (wipe σ (own.map (·.2))).length = σ8.length := by rw [← hw8, wipe_length]
        refine ⟨m', hm, i + 1, H', (I'.unpinned (pins := [])).weak hl (fun j v e => ?_), T.keep _ _ _ st7 fun b hb o e => (pin' b hb o e).1, fun b hb => ?_, w'⟩
        · rw [← hw8] at e
          exact (wipe_some e).1
        · obtain ⟨o, e, _⟩ := T.obj _ _ st7 b hb
          exact (pin' b hb o e).2
      cases b with
      | false =>
        simp only [Bool.false_eq_true, if_false] at q9 ⊢
        exact fin I9 q9
      | true =>
        simp only [if_true] at q9 ⊢
        refine wpAny_mono (pe.run _ s9 σ8 H9 _ (I9.wish _) q9) (fun z s10 ⟨yv, H10, I10, r10, acc, hD10, hz10, nx⟩ => ?_) fun u s' x => ?_
        · exact app_ok (X := X.blk s3 H3 scope ce fp) I10.unwish hD10 hz10 r10 fun s11 I11 => fin I11 nx
        · show notedBy (model X.prog X.w) X.A ce (fun e s' => compEnds (model X.prog X.w) X.A X.xe use Qf (.ref D) ce (.error e) s') u _
          have ee : (fun e s' => compEnds (model X.prog X.w) X.A X.xe use Qf (.ref D) ce (.error e) s') = CompFails (model X.prog X.w) X.A X.xe ce := by cases use <;> rfl
          rw [ee]
          exact comp_throw hs0 hf0 tk I3 (fun b hb => (f3 b hb).1) cL cF (fun _ _ _ _ h => h) x
  exact codeAny_compStart_list loop (T.self X.A 0 _ _ _ st4 loop)
theorem pe_lcX {elt tg iter : Expr} {ifs : List Expr} {scope : Scope} {own : List (Str × Nat)} {pos : Pos} {wi : TI} {g : TG} {tt : TT} {te : WX → TE} {W : WX} (hs0 : X.stack = X.env :: X.outer) (hf0 : X.env.frame = some X.env.locals) (tk : Takes X W) (hc : X.calm = true) (hN : X.N.Nodup) (hi : PI X tg iter wi) (ok : BlkOk X.N X.env.scope scope own)
    (hg : ∀ (s : Shared) (H : Hp) (C : Addr) (cl : List (Str × Addr)) (fp : List Addr), PG (X.blk s H scope (compEnvC scope cl C X.env) fp) tg g) (ht : ∀ (s : Shared) (H : Hp) (C : Addr) (cl : List (Str × Addr)) (fp : List Addr), PTs (X.blk s H scope (compEnvC scope cl C X.env) fp) ifs tt)
    (he : ∀ (Wb : WX) (s : Shared) (H : Hp) (C : Addr) (cl : List (Str × Addr)) (fp : List Addr) (xe : Value → Shared → Prop), Takes ((X.blk s H scope (compEnvC scope cl C X.env) fp).wish xe) Wb → PE ((X.blk s H scope (compEnvC scope cl C X.env) fp).wish xe) elt (te Wb)) (hs : ∀ x, foldedSetIterable iter X.env x = pure x := by intro _; rfl) :
    PE X (.ListComp elt [⟨tg, iter, ifs, 0⟩] scope pos) (tLcX W wi g tt te (own.map (·.2))) := by
  refine ⟨fun pins s σ H Q I h => ?_⟩
  rw [eval_ListComp]
  refine lc_coreX hs0 hf0 tk hc hN I hi ok hg ht he hs h fun D C s' m H' I' q hn f => ⟨m, hn, fun h'' sb => ?_⟩
  obtain ⟨f0, f1, f2, f3, f4, f5⟩ := f
  exact ⟨.ref D, H', I'.turned (t' := s'.toks) (fun b o hb e => (sb.2 b hb).trans e) f0 f1 f3 f4 f5, rfl, q⟩
theorem ps_setLcX {i : Nat} {y : Str} {py : Pos} {elt tg iter : Expr} {ifs : List Expr} {scope : Scope} {own : List (Str × Nat)} {pos spos : Pos} {wi : TI} {g : TG} {tt : TT} {te : WX → TE} {W : WX} (hs0 : X.stack = X.env :: X.outer) (hf0 : X.env.frame = some X.env.locals) (tk : Takes X W) (hc : X.calm = true) (hN : X.N.Nodup) (hy : X.N[i]? = some y) (hyl : X.env.scope.names.lookup y = some .local)
    (hsw : swapsWith (.ListComp elt [⟨tg, iter, ifs, 0⟩] scope pos) (some (.Name y py)) spos.line X.env = pure true) (hi : PI X tg iter wi) (ok : BlkOk X.N X.env.scope scope own)
    (hg : ∀ (s : Shared) (H : Hp) (C : Addr) (cl : List (Str × Addr)) (fp : List Addr), PG (X.blk s H scope (compEnvC scope cl C X.env) fp) tg g) (ht : ∀ (s : Shared) (H : Hp) (C : Addr) (cl : List (Str × Addr)) (fp : List Addr), PTs (X.blk s H scope (compEnvC scope cl C X.env) fp) ifs tt)
    (he : ∀ (Wb : WX) (s : Shared) (H : Hp) (C : Addr) (cl : List (Str × Addr)) (fp : List Addr) (xe : Value → Shared → Prop), Takes ((X.blk s H scope (compEnvC scope cl C X.env) fp).wish xe) Wb → PE ((X.blk s H scope (compEnvC scope cl C X.env) fp).wish xe) elt (te Wb)) (hs : ∀ x, foldedSetIterable iter X.env x = pure x := by intro _; rfl) :
    PS X (.Assign [.Name y py] (.ListComp elt [⟨tg, iter, ifs, 0⟩] scope pos) spos) (tAsg (tLcX W wi g tt te (own.map (·.2))) (gName i)) := by
  refine ⟨fun pins s σ H D I h => ?_⟩
  rw [exec_Assign_Name_used _ _ _ _ hsw]
  refine wpAny_bind (wpAny_standAt (wpAny_bind ?_))
  show wpAny _ X.A (do let _ ← comprehension (.ListComp elt [⟨tg, iter, ifs, 0⟩] scope pos) scope X.env (firstIterPos [⟨tg, iter, ifs, 0⟩] pos) (newList []) false (eval iter X.env) (some (assign (.Name y py) X.env))) _ _ s
  have h : tLcX W wi g tt te (own.map (·.2)) σ H (fun x H1 => gName i x σ H1 D.nx) := h
  refine wpAny_bind (thn (lc_coreX (Qf := fun _ s' => SP X pins D .next s') hs0 hf0 tk hc hN I hi ok hg ht he hs h fun L C s' m H' I' q hn f => ?_) fun _ s' hq => wpAny_pure (wpAny_pure hq))
  show wpAny _ _ (assign (.Name y py) X.env (.ref L)) _ _ _
  refine wpAny_assign_Name (store_ok2 (v := V.ref L) I' hN hy (.inl hyl) rfl (fun s2 I2 ⟨a, sb, ha⟩ => ?_) (.inr hyl))
  obtain ⟨f0, f1, f2, f3, f4, f5⟩ := f
  have haC : C ≠ a := by
    rcases ha with z | z
    · rw [z]; exact f1
    · exact fun e => f4 y a z e.symm
  refine ⟨m, hn.sameBut sb haC, fun h3 sb3 => ?_⟩
  exact ⟨_, H', I2.turned (t' := s2.toks) (fun b o hb e => (sb3.2 b hb).trans e) f0 f1 f3 f4 f5, q⟩
end
/-! #### its mirror -/
def lcXX (tg : Tg) (tt : Tx) (el : Ex) (vs : List Nat) (it : Itr) : Nat → Nat → List D → Env → Store → R D
  | 0, _, _, _, _ => .no
  | f + 1, i, acc, env, s => match it.at s i with
    | none => .no
    | some none => .ok (.own (.lst acc)) s
    | some (some d) => match tgE tg d (wipeE env vs) with
      | none => .no
      | some env1 => match tt env1 s with
        | .ok true s1 => (match el env1 s1 with
          | .ok x s2 => (match snk (fz x) with
            | some y => if acc.length < 16777216 then lcXX tg tt el vs it f (i + 1) (acc ++ [y]) env s2 else .no
            | none => .no)
          | .exc c s2 => .exc c s2
          | .no => .no)
        | .ok false s1 => lcXX tg tt el vs it f (i + 1) acc env s1
        | _ => .no
def eLcX (tg : Tg) (ix : Ix) (tt : Tx) (el : Ex) (vs : List Nat) : Ex := fun env s => match ix env s with
  | .ok it s' => lcXX tg tt el vs it (it.fuel s') 0 [] env s'
  | .exc c s' => .exc c s'
  | .no => .no
section
variable {g : Gc} {w w' w1 w2 w3 : Wd} {env : Env} {σ : Sl} {W : WX} {H : Hp}
theorem unT_rst {T : List Addr} (r : Rst g w) (hT : ∀ p ∈ T, p ∈ w.T) : Rst g { w with T := T } := by
  have c : Cy g [] w { w with T := T } := ⟨r, ⟨⟨[], by simp⟩, fun _ _ h _ _ => h, fun _ h => .inl h, fun _ h => .inl h⟩, by simp, by simp, fun p h => .inl (hT p h)⟩
  refine ⟨r.len, r.nd, fun q hq => r.tt q (hT q hq), fun n q o a b => ?_⟩
  have h := r.ce n q o a b
  cases o with
  | lst xs => obtain ⟨ys, e, z⟩ := h; exact ⟨ys, e, RvL.mono c _ _ z⟩
  | dK xs => obtain ⟨ys, e, z⟩ := h; exact ⟨ys, e, RvK.mono c _ _ z⟩
  | ins a xs => obtain ⟨dx, ys, e, z⟩ := h; exact ⟨dx, ys, e, RvF.mono c _ _ z⟩
  | dead => exact h
  | dT xs => exact h
theorem lcX_ok {tg : Tg} {ix : Ix} {tt : Tx} {el : Ex} {vs : List Nat} {Q : VK} (hv : ∀ i ∈ tg.ix, i ∈ vs) (h : tEv g W (eLcX tg ix tt el vs) σ H Q) :
    tLcX W (tIe g W ix) (tgT g.K tg) (tTe g W0 tt) (fun Wb => tEv g Wb el) vs σ H Q := by
  obtain ⟨w, env, rfl, re, h⟩ := h
  refine ⟨w, env, rfl, re, ?_⟩
  refine Post.step (m' := eLcX tg ix tt el vs env w.s) h (fun c s e => by simp only [eLcX, e]) (fun e => by simp only [eLcX, e]) fun it s1 w1 J ei hs1 ht1 e1 p1 => ?_
  obtain ⟨r1, j1⟩ := p1
  intro A hA
  have em : eLcX tg ix tt el vs env w.s = lcXX tg tt el vs it (it.fuel s1) 0 [] env s1 := by simp only [eLcX, ei]
  rw [em] at h
  generalize hm : lcXX tg tt el vs it (it.fuel s1) 0 [] env s1 = m' at h
  have hA0 : w.H A = none := back re.st r1 e1 hA
  have nT : A ∉ w.T := re.st.ntT hA0
  have hT0 : ∀ q ∈ A :: w1.T, q ∈ w1.T ∨ q = A := fun q hq => by
    rcases List.mem_cons.mp hq with e | e
    · exact .inr e
    · exact .inl e
  refine ⟨fun i m H => ∃ (w2 : Wd) (acc : List D) (ys : List V), w2.H = H ∧ w2.T = A :: w.T ∧ Re g w2 env σ ∧ ItR g w2 it J ∧ w2.H A = some (.lst ys) ∧ RvL g w2 acc ys ∧ Ext [] w w2 ∧ lcXX tg tt el vs it m i acc env w2.s = m', ⟨it.fuel s1, ?_⟩, ?_⟩
  · obtain ⟨w2, hw2⟩ : ∃ w2 : Wd, w2 = { w1 with H := upd w1.H A (.lst []), T := A :: w1.T } := ⟨_, rfl⟩
    have c : Cy g [] w1 w2 := by rw [hw2]; exact new_cy r1 hA hT0
    have r2 : Rst g w2 := by rw [hw2]; exact r1.new hA hT0
    refine ⟨w2, [], [], by rw [hw2], by rw [hw2, ht1], (re.next r1 e1 ht1).mono c r2 (fun p hp => by rw [hw2]; exact List.mem_cons_of_mem _ hp), j1.mono c, by rw [hw2]; exact upd_same, by unfold RvL; rfl, e1.trans c.e, ?_⟩
    rw [show w2.s = s1 by rw [hw2]; exact hs1]
    exact hm
  · rintro i m H ⟨w2, acc, ys, rfl, t2, re2, j2, hA2, ra2, x2, q2⟩
    have At : A ∈ w2.T := by rw [t2]; exact List.mem_cons_self
    have An : A ∉ w2.m := (re2.st.tt A At).1
    cases m with
    | zero => rw [show m' = .no from q2.symm] at h; exact h.elim
    | succ m =>
      cases ea : it.at w2.s i with
      | none => simp only [lcXX, ea] at q2; rw [← q2] at h; exact h.elim
      | some o =>
        cases o with
        | none =>
          simp only [lcXX, ea] at q2
          rw [← q2] at h
          refine .inl ⟨j2.stop re2.st ea, ?_⟩
          refine h (w2.wT w.T) (.ref A) rfl rfl ⟨x2.pre, x2.keep, x2.new, x2.nm⟩ ⟨A, rfl, hA0, nT, trivial, ?_, ?_⟩
          · have : ({ w2.wT w.T with T := A :: (w2.wT w.T).T } : Wd) = w2 := by
              show ({ w2 with T := A :: w.T } : Wd) = w2
              rw [← t2]
            rw [this]; exact re2.st
          · have : ({ w2.wT w.T with T := A :: (w2.wT w.T).T } : Wd) = w2 := by
              show ({ w2 with T := A :: w.T } : Wd) = w2
              rw [← t2]
            rw [this]; exact ⟨ys, hA2, ra2⟩
        | some d =>
          obtain ⟨g1, g2⟩ := j2.go re2.st ea
          refine .inr ⟨g1, fun H => ∃ (w2 : Wd) (acc : List D) (ys : List V), w2.H = H ∧ w2.T = A :: w.T ∧ Re g w2 env σ ∧ ItR g w2 it J ∧ w2.H A = some (.lst ys) ∧ RvL g w2 acc ys ∧ Ext [] w w2 ∧ lcXX tg tt el vs it m (i + 1) acc env w2.s = m', fun H' z => ⟨m, Nat.lt_succ_self m, z⟩, fun x H' y => ?_⟩
          obtain ⟨rfl, rv⟩ := g2 x H' y
          cases et : tgE tg d (wipeE env vs) with
          | none => simp only [lcXX, ea, et] at q2; rw [← q2] at h; exact h.elim
          | some env1 =>
            refine tg_re (re2.wipe (vs := vs)) rv et fun σ2 reb l2 k2 => ⟨?_, ?_⟩
            · rw [← wipe_idem (σ := σ)]
              exact wipe_ext l2 fun j hj => k2 j fun z => hj (hv j z)
            · refine ⟨w2, env1, rfl, reb, ?_⟩
              cases eb : tt env1 w2.s with
              | no => simp only [lcXX, ea, et, eb] at q2; rw [← q2] at h; exact h.elim
              | exc c s' => simp only [lcXX, ea, et, eb] at q2; rw [← q2] at h; exact h.elim
              | ok b s3 =>
                intro w3 b' hs3 ht3 e3 p3
                obtain ⟨r3, rfl⟩ := p3
                have re3 := re2.next r3 e3 ht3
                have c3 := Cy.of re2.st e3 ht3
                have hA3 : w3.H A = some (.lst ys) := e3.keep A _ hA2 (nolive An) (by simp)
                cases b with
                | false =>
                  simp only [lcXX, ea, et, eb] at q2
                  exact iteF ⟨w3, acc, ys, rfl, ht3.trans t2, re3, j2.mono c3, hA3, RvL.mono c3 _ _ ra2, x2.trans e3, by rw [hs3]; exact q2⟩
                | true =>
                  refine iteT ⟨w3, env1, rfl, reb.next r3 e3 ht3, ?_⟩
                  cases ee : el env1 w3.s with
                  | no => rw [hs3] at ee; simp only [lcXX, ea, et, eb, ee] at q2; rw [← q2] at h; exact h.elim
                  | exc c s' =>
                    rw [hs3] at ee
                    simp only [lcXX, ea, et, eb, ee] at q2
                    rw [← q2] at h
                    intro w4 hs4 ht4 e4 r4
                    have x4 := (x2.trans e3).trans e4
                    have t4 : w4.T = A :: w.T := ht4.trans (ht3.trans t2)
                    exact h (w4.wT w.T) hs4 rfl ⟨x4.pre, x4.keep, x4.new, x4.nm⟩ (unT_rst r4 fun p hp => by rw [t4]; exact List.mem_cons_of_mem _ hp)
                  | ok x4 s4 =>
                    intro w4 v4 hs4 ht4 e4 p4
                    rw [hs3] at ee
                    obtain ⟨r4, o4⟩ := p4.fz
                    cases es : snk (fz x4) with
                    | none => simp only [lcXX, ea, et, eb, ee, es] at q2; rw [← q2] at h; exact h.elim
                    | some y4 =>
                      have rd := snk_ok o4 es
                      have An3 : A ∉ w3.m := e3.out ⟨_, hA2⟩ An
                      have hA4 : w4.H A = some (.lst ys) := e4.keep A _ hA3 (nolive An3) (by simp)
                      have c4 := Cy.of r3 e4 ht4
                      simp only [lcXX, ea, et, eb, ee, es] at q2
                      split at q2
                      · rename_i hl
                        have ra4 := RvL.mono c4 _ _ (RvL.mono c3 _ _ ra2)
                        have t4 : w4.T = A :: w.T := ht4.trans (ht3.trans t2)
                        have cw : Cy g [A] w4 (w4.wr A (.lst (ys ++ [v4]))) := wr_cy r4 (by rw [hA4]; trivial) (by rw [t4]; exact List.mem_cons_self)
                        have rw' : Rst g (w4.wr A (.lst (ys ++ [v4]))) := wr_rst r4 (by rw [hA4]; trivial) (by rw [t4]; exact List.mem_cons_self)
                        have x4' := (x2.trans e3).trans e4
                        have re4 := re3.next r4 e4 ht4
                        have ownne : ∀ (j : Nat) (o : O) (q : Addr), env[j]? = some (some (.own o)) → σ[j]? = some (some (.ref q)) → q ≠ A := fun j o q a b z => by
                          obtain ⟨v, k1, k2⟩ := re.sl j _ a
                          rw [b] at k1; cases k1
                          obtain ⟨p', z1, _, ro, _⟩ := k2
                          cases z1
                          obtain ⟨u, zu⟩ := ro.trk
                          rw [z, hA0] at zu; cases zu
                        refine ⟨ys, hA4, by rw [ra4.length, sizeLine_eq]; exact hl, w4.wr A (.lst (ys ++ [v4])), acc ++ [y4], ys ++ [v4], rfl, t4, ⟨rw', re4.len, fun j d' ej => ?_⟩, ((j2.mono c3).mono c4).mono cw, upd_same, RvL.mono cw _ _ (ra4.app (RvL.one rd)), ?_, by show lcXX tg tt el vs it m (i + 1) (acc ++ [y4]) env w4.s = m'; rw [hs4]; exact q2⟩
                        · obtain ⟨v, k1, k2⟩ := re4.sl j d' ej
                          refine ⟨v, k1, ?_⟩
                          cases d' with
                          | own o2 =>
                            obtain ⟨q, rfl, f2, rr2, n2, tt2⟩ := k2
                            refine ⟨q, rfl, f2, rr2.same cw ?_, n2, tt2⟩
                            show upd w4.H A _ q = w4.H q
                            exact upd_ne (ownne j o2 q ej k1)
                          | bor o => exact Rv.mono cw _ _ k2
                          | non => exact Rv.mono cw _ _ k2
                          | bl b => exact Rv.mono cw _ _ k2
                          | int b => exact Rv.mono cw _ _ k2
                          | str b => exact Rv.mono cw _ _ k2
                          | tup b => exact Rv.mono cw _ _ k2
                          | lst b => exact Rv.mono cw _ _ k2
                          | scr b => exact Rv.mono cw _ _ k2
                          | dct b => exact Rv.mono cw _ _ k2
                          | ref b => exact Rv.mono cw _ _ k2
                          | exn => exact k2
                        · refine ⟨x4'.pre, fun p o hp nl nx => ?_, x4'.new, x4'.nm⟩
                          show upd w4.H A _ p = some o
                          rw [upd_ne fun z => by rw [z, hA0] at hp; cases hp]
                          exact x4'.keep p o hp nl nx
                      · rw [← q2] at h; exact h.elim
end
section
variable {X : Cx} {A : Ga} {W : WX} {elt tx iter : Expr} {ifs : List Expr} {me : Ex} {mt : Tx} {mi : Ix} {tg : Tg} {pos : Pos} {scope : Scope} {own : List (Str × Nat)}
theorem me_lcX (hs0 : X.stack = X.env :: X.outer) (hf0 : X.env.frame = some X.env.locals) (tk : Takes X W) (hc : X.calm = true) (hN : X.N.Nodup) (hi : MI X A W tx iter mi) (ok : BlkOk X.N X.env.scope scope own) {vs : List Nat} (hvs : own.map (·.2) = vs) (hv : ∀ i ∈ tg.ix, i ∈ vs)
    (hg : ∀ (s : Shared) (H : Hp) (C : Addr) (cl : List (Str × Addr)) (fp : List Addr), MG (X.blk s H scope (compEnvC scope cl C X.env) fp) tx tg) (ht : ∀ (s : Shared) (H : Hp) (C : Addr) (cl : List (Str × Addr)) (fp : List Addr), MPt (X.blk s H scope (compEnvC scope cl C X.env) fp) A W0 ifs mt)
    (he : ∀ (Wb : WX) (s : Shared) (H : Hp) (C : Addr) (cl : List (Str × Addr)) (fp : List Addr) (xe : Value → Shared → Prop), Takes ((X.blk s H scope (compEnvC scope cl C X.env) fp).wish xe) Wb → ME ((X.blk s H scope (compEnvC scope cl C X.env) fp).wish xe) A Wb elt me) (hs : ∀ x, foldedSetIterable iter X.env x = pure x := by intro _; rfl) :
    ME X A W (.ListComp elt [⟨tx, iter, ifs, 0⟩] scope pos) (eLcX tg mi mt me vs) :=
  peW (pe_lcX hs0 hf0 tk hc hN hi ok hg ht he hs) fun _ _ _ h => lcX_ok (by rw [hvs]; exact hv) (by rw [hvs]; exact h)
theorem ms_setLcFX {i : Nat} {y : Str} {py : Pos} {spos : Pos} (hs0 : X.stack = X.env :: X.outer) (hf0 : X.env.frame = some X.env.locals) (tk : Takes X W) (hc : X.calm = true) (hN : X.N.Nodup) (hy : X.N[i]? = some y) (hyl : X.env.scope.names.lookup y = some .local)
    (hsw : swapsWith (.ListComp elt [⟨tx, iter, ifs, 0⟩] scope pos) (some (.Name y py)) spos.line X.env = pure true) (hi : MI X A W tx iter mi) (ok : BlkOk X.N X.env.scope scope own) {vs : List Nat} (hvs : own.map (·.2) = vs) (hv : ∀ i ∈ tg.ix, i ∈ vs)
    (hg : ∀ (s : Shared) (H : Hp) (C : Addr) (cl : List (Str × Addr)) (fp : List Addr), MG (X.blk s H scope (compEnvC scope cl C X.env) fp) tx tg) (ht : ∀ (s : Shared) (H : Hp) (C : Addr) (cl : List (Str × Addr)) (fp : List Addr), MPt (X.blk s H scope (compEnvC scope cl C X.env) fp) A W0 ifs mt)
    (he : ∀ (Wb : WX) (s : Shared) (H : Hp) (C : Addr) (cl : List (Str × Addr)) (fp : List Addr) (xe : Value → Shared → Prop), Takes ((X.blk s H scope (compEnvC scope cl C X.env) fp).wish xe) Wb → ME ((X.blk s H scope (compEnvC scope cl C X.env) fp).wish xe) A Wb elt me) (hs : ∀ x, foldedSetIterable iter X.env x = pure x := by intro _; rfl) :
    MS X A W (.Assign [.Name y py] (.ListComp elt [⟨tx, iter, ifs, 0⟩] scope pos) spos) (sSetF i (eLcX tg mi mt me vs)) :=
  psW (ps_setLcX hs0 hf0 tk hc hN hy hyl hsw hi ok hg ht he hs) fun _ _ _ h => lcX_ok (by rw [hvs]; exact hv) (by rw [hvs]; exact sSetF_ok h)
end
end Gm

set_option Elab.async false
set_option linter.all false
set_option maxRecDepth 100000
set_option autoImplicit false
/-! the mirror's runs, in plain words -/
namespace Gm
open PySem L2
def rtOk : D → Bool
  | .bor _ => false
  | .exn => false
  | _ => true
inductive R.W {t : Type} (Q : t → Store → Prop) (X : Nat → Store → Prop) : R t → Prop where
  | ok {a : t} {s : Store} (h : Q a s) : R.W Q X (.ok a s)
  | exc {c : Nat} {s : Store} (h : X c s) : R.W Q X (.exc c s)
inductive SR.W (N : Env → Store → Prop) (T : D → Store → Prop) (X : Nat → Env → Store → Prop) : SR → Prop where
  | nx {e : Env} {s : Store} (h : N e s) : SR.W N T X (.nx e s)
  | rt {d : D} {s : Store} (h : T d s) : SR.W N T X (.rt d s)
  | exc {c : Nat} {e : Env} {s : Store} (h : X c e s) : SR.W N T X (.exc c e s)
abbrev X0 : Nat → Store → Prop := fun _ _ => False
abbrev Y0 : Nat → Env → Store → Prop := fun _ _ _ => False
section
variable {t : Type} {env env' : Env} {s s' : Store} {N N' : Env → Store → Prop} {T T' : D → Store → Prop} {X X' : Nat → Env → Store → Prop} {a b : Sx}
theorem SR.W_nx {e : Env} {s : Store} : (SR.nx e s).W N T X ↔ N e s := ⟨fun h => by cases h; assumption, .nx⟩
theorem SR.W_rt {d : D} {s : Store} : (SR.rt d s).W N T X ↔ T d s := ⟨fun h => by cases h; assumption, .rt⟩
theorem SR.W_exc {c : Nat} {e : Env} {s : Store} : (SR.exc c e s).W N T X ↔ X c e s := ⟨fun h => by cases h; assumption, .exc⟩
theorem R.W_ok {Q : t → Store → Prop} {Z : Nat → Store → Prop} {d : t} {s : Store} : (R.ok d s).W Q Z ↔ Q d s := ⟨fun h => by cases h; assumption, .ok⟩
theorem R.W_exc {Q : t → Store → Prop} {Z : Nat → Store → Prop} {c : Nat} {s : Store} : (R.exc (t := t) c s).W Q Z ↔ Z c s := ⟨fun h => by cases h; assumption, .exc⟩
theorem SR.W.imp {m : SR} (h : m.W N T X) (h1 : ∀ e s, N e s → N' e s) (h2 : ∀ d s, T d s → T' d s) (h3 : ∀ c e s, X c e s → X' c e s) : m.W N' T' X' := by
  cases h with
  | nx h => exact .nx (h1 _ _ h)
  | rt h => exact .rt (h2 _ _ h)
  | exc h => exact .exc (h3 _ _ _ h)
theorem R.W.imp {Q Q' : t → Store → Prop} {Z Z' : Nat → Store → Prop} {m : R t} (h : m.W Q Z) (h1 : ∀ e s, Q e s → Q' e s) (h3 : ∀ c s, Z c s → Z' c s) : m.W Q' Z' := by
  cases h with
  | ok h => exact .ok (h1 _ _ h)
  | exc h => exact .exc (h3 _ _ h)
theorem R.W.eq {Q : t → Store → Prop} {m : R t} (h : m.W Q X0) : ∃ d s, m = .ok d s ∧ Q d s := by
  cases h with
  | ok h => exact ⟨_, _, rfl, h⟩
  | exc h => exact h.elim
theorem w_seq (h : (a env s).W (fun e s => (b e s).W N T X) T X) : (sSeq a b env s).W N T X := by
  unfold sSeq
  revert h
  generalize a env s = m
  intro h
  cases h with
  | nx h => exact h
  | rt h => exact .rt h
  | exc h => exact .exc h
theorem w_nil (h : N env s) : (sNil env s).W N T X := .nx h
theorem w_if {c : Tx} {k : Bool} (e : c env s = .ok k s') (h1 : k = true → (a env s').W N T X) (h2 : k = false → (b env s').W N T X) : (sIf c a b env s).W N T X := by
  cases k with
  | true => simp only [sIf, e]; exact h1 rfl
  | false => simp only [sIf, e]; exact h2 rfl
theorem w_ifT {c : Tx} (e : c env s = .ok true s') (h1 : (a env s').W N T X) : (sIf c a b env s).W N T X := by simp only [sIf, e]; exact h1
theorem w_ifF {c : Tx} (e : c env s = .ok false s') (h1 : (b env s').W N T X) : (sIf c a b env s).W N T X := by simp only [sIf, e]; exact h1
theorem w_ret {e : Ex} {d : D} (h : e env s = .ok d s') (hd : rtOk d = true) (k : T d s') : (sRet e env s).W N T X := by
  cases d with
  | bor o => cases hd
  | exn => cases hd
  | _ => simp only [sRet, h]; exact .rt k
theorem w_fn {n K : Nat} {body : Sx} {args : List D} {Q : D → Store → Prop} {Z : Nat → Store → Prop} (hl : args.length = n) (he : args.map some ++ List.replicate (K - n) none = env) (h : (body env s).W (fun _ s' => Q .non s') Q (fun c _ s' => Z c s')) : (fnX n K body args s).W Q Z := by
  unfold fnX
  rw [if_pos hl, he]
  revert h
  generalize body env s = m
  intro h
  cases h with
  | nx h => exact .ok h
  | rt h => exact .ok h
  | exc h => exact .exc h
theorem R.W.exq {Z : Nat → Store → Prop} {m : R t} (h : m.W (fun _ _ => False) Z) : ∃ c s, m = .exc c s ∧ Z c s := by
  cases h with
  | ok h => exact h.elim
  | exc h => exact ⟨_, _, rfl, h⟩
/-- a loop over items that stay -/
theorem w_loop {body : Sx} {tg : Tg} {it : Itr} {xs : List D} (I : Nat → Env → Store → Prop) (hi : ∀ i e s, i ≤ xs.length → I i e s → it.at s i = some xs[i]?)
    (hs : ∀ i x e s, xs[i]? = some x → I i e s → ∃ e1, tgE tg x e = some e1 ∧ (body e1 s).W (I (i + 1)) T X) (hn : ∀ e s, I xs.length e s → N e s) :
    ∀ (f i : Nat) (env : Env) (s : Store), i ≤ xs.length → xs.length < f + i → I i env s → (forX body tg it f i env s).W N T X
  | 0, i, env, s, h1, h2, h3 => by omega
  | f + 1, i, env, s, h1, h2, h3 => by
    have ha := hi i env s h1 h3
    cases q : xs[i]? with
    | none =>
      rw [q] at ha
      simp only [forX, ha]
      have : i = xs.length := by
        have := List.getElem?_eq_none_iff.mp q
        omega
      subst this
      exact .nx (hn _ _ h3)
    | some x =>
      rw [q] at ha
      obtain ⟨e1, k1, k2⟩ := hs i x env s q h3
      have hlt : i < xs.length := (List.getElem?_eq_some_iff.mp q).1
      simp only [forX, ha, k1]
      revert k2
      generalize body e1 s = m
      intro k2
      cases k2 with
      | nx k2 => exact w_loop I hi hs hn f (i + 1) _ _ (by omega) (by omega) k2
      | rt k2 => exact .rt k2
      | exc k2 => exact .exc k2
theorem w_for {body : Sx} {tg : Tg} {ix : Ix} {xs : List D} {it : Itr} (hx : ix env s = .ok it s') (hf : it.fuel s' = xs.length + 1) (I : Nat → Env → Store → Prop) (h0 : I 0 env s') (hi : ∀ i e s, i ≤ xs.length → I i e s → it.at s i = some xs[i]?)
    (hs : ∀ i x e s, xs[i]? = some x → I i e s → ∃ e1, tgE tg x e = some e1 ∧ (body e1 s).W (I (i + 1)) T X) (hn : ∀ e s, I xs.length e s → N e s) : (sFor tg ix body env s).W N T X := by
  simp only [sFor, hx, hf]
  exact w_loop I hi hs hn _ 0 env s' (Nat.zero_le _) (by omega) h0
/-- .. over a range -/
theorem w_forR {body : Sx} {j : Nat} {ix : Ix} {lo : Int} {n : Nat} (hx : ix env s = .ok (.rng lo n) s') (I : Nat → Env → Store → Prop) (h0 : I 0 env s')
    (hs : ∀ (i : Nat) e s, i < n → I i e s → (body (e.set j (some (.int (lo + (i : Nat))))) s).W (I (i + 1)) T X) (hn : ∀ e s, I n e s → N e s) : (sFor (.nm j) ix body env s).W N T X := by
  have hl : ((List.range n).map fun k => D.int (lo + (k : Nat))).length = n := by simp
  have hg : ∀ i : Nat, ((List.range n).map fun k => D.int (lo + (k : Nat)))[i]? = if i < n then some (.int (lo + (i : Nat))) else none := fun i => by
    by_cases h : i < n
    · simp [h]
    · simp [h]
  refine w_for (xs := (List.range n).map fun k => D.int (lo + (k : Nat))) hx (by simp [Itr.fuel]) I h0 (fun i e s _ _ => by rw [hg i]; rfl) (fun i x e s hx hI => ?_) (fun e s h => hn e s (hl ▸ h))
  rw [hg i] at hx
  split at hx
  · rename_i h
    cases hx
    exact ⟨_, rfl, hs i e s h hI⟩
  · cases hx
end
/-! comprehensions whose parts change nothing -/
/-! the steps -/
section
variable {s : Store} {i j : Int}
@[simp] theorem fAdd_i : fAdd s (.int i) (.int j) = .ok (.int (i + j)) s := rfl
@[simp] theorem fSub_i : fSub s (.int i) (.int j) = .ok (.int (i - j)) s := rfl
@[simp] theorem fLt_i : fLt s (.int i) (.int j) = .ok (.bl (decide (i < j))) s := rfl
@[simp] theorem fLe_i : fLe s (.int i) (.int j) = .ok (.bl (decide (i ≤ j))) s := rfl
@[simp] theorem fGt_i : fGt s (.int i) (.int j) = .ok (.bl (decide (j < i))) s := rfl
@[simp] theorem fGe_i : fGe s (.int i) (.int j) = .ok (.bl (decide (j ≤ i))) s := rfl
@[simp] theorem fNeg_i : fNeg s (.int i) = .ok (.int (-i)) s := rfl
@[simp] theorem fMax_i : fMax s (.int i) (.int j) = .ok (.int (if j > i then j else i)) s := rfl
@[simp] theorem fMin_i : fMin s (.int i) (.int j) = .ok (.int (if j < i then j else i)) s := rfl
theorem fDiv_i (h : 0 < j) (h2 : j < 1073741824) : fDiv s (.int i) (.int j) = .ok (.int (i / j)) s := by
  show (if (decide (0 < j) && decide (j < 1073741824)) = true then _ else _) = _
  rw [if_pos (by simp [h, h2])]
@[simp] theorem fEq_i : fEq s (.int i) (.int j) = .ok (.bl (i == j)) s := rfl
@[simp] theorem fNe_i : fNe s (.int i) (.int j) = .ok (.bl (!(i == j))) s := rfl
@[simp] theorem fEq_b {a b : Bool} : fEq s (.bl a) (.bl b) = .ok (.bl (a == b)) s := rfl
@[simp] theorem fIsN_i : fIsN s (.int i) .non = .ok (.bl false) s := rfl
@[simp] theorem fIsN_n : fIsN s .non .non = .ok (.bl true) s := rfl
@[simp] theorem fNotN_i : fNotN s (.int i) .non = .ok (.bl true) s := rfl
@[simp] theorem fNotN_n : fNotN s .non .non = .ok (.bl false) s := rfl
@[simp] theorem fIsN_t {xs : List D} : fIsN s (.tup xs) .non = .ok (.bl false) s := rfl
@[simp] theorem fNotN_t {xs : List D} : fNotN s (.tup xs) .non = .ok (.bl true) s := rfl
@[simp] theorem fNotB_b {a b : Bool} : fNotB s (.bl a) (.bl b) = .ok (.bl (!decide (a = b))) s := rfl
@[simp] theorem fIsB_b {a b : Bool} : fIsB s (.bl a) (.bl b) = .ok (.bl (decide (a = b))) s := rfl
@[simp] theorem fLen_l {xs : List D} : fLen s (.lst xs) = .ok (.int xs.length) s := rfl
@[simp] theorem fLen_t {xs : List D} : fLen s (.tup xs) = .ok (.int xs.length) s := rfl
@[simp] theorem fLen_b {xs : List D} : fLen s (.bor (.lst xs)) = .ok (.int xs.length) s := rfl
@[simp] theorem fLen_s {ns : List Int} : fLen s (.scr ns) = .ok (.int ns.length) s := by simp [fLen, dr]
theorem fIx_l {xs : List D} {d : D} (h : atI xs i = some d) : fIx s (.lst xs) (.int i) = .ok d s := by simp only [fIx, dr, h]
@[simp] theorem fIx_p0 {a b : D} : fIx s (.tup [a, b]) (.int 0) = .ok a s := rfl
@[simp] theorem fIx_p1 {a b : D} : fIx s (.tup [a, b]) (.int 1) = .ok b s := rfl
end
theorem atI_of {t : Type} {xs : List t} {i : Int} {d : t} (h0 : 0 ≤ i) (h : xs[i.toNat]? = some d) : atI xs i = some d := by
  have := atI_nat h
  rw [show ((i.toNat : Nat) : Int) = i by omega] at this
  exact this
theorem eqv_self : ∀ (d : PyData), d.canLay0 = true → PyData.eqv d d = true := fun d h => SeqAt.eqv_refl d h
end Gm

set_option Elab.async false
set_option linter.all false
set_option maxRecDepth 100000
set_option autoImplicit false
/-! the mirror's runs as equivalences, for simp -/
namespace Gm
open PySem L2
def vr : D → D
  | .own o => .bor o
  | d => d
def vrO (o : Option (Option D)) (s : Store) : R D := match o with
  | some (some d) => .ok (vr d) s
  | _ => .no
theorem eVar_eq {i : Nat} {env : Env} {s : Store} : eVar i env s = vrO env[i]? s := by
  unfold eVar vrO
  cases env[i]? with
  | none => rfl
  | some o => cases o with
    | none => rfl
    | some d => cases d <;> rfl
def asB (P : Bool → Prop) : D → Prop
  | .bl b => P b
  | _ => False
def asI (P : Int → Prop) : D → Prop
  | .int b => P b
  | _ => False
def asK (P : D → Prop) (d : D) : Prop := match snk (fz d) with
  | some x => P x
  | none => False
def asR (P : D → Prop) (d : D) : Prop := rtOk d = true ∧ P d
def Kt (b : Sx) (N : Env → Store → Prop) (T : D → Store → Prop) (X : Nat → Env → Store → Prop) (e : Env) (s : Store) : Prop := (b e s).W N T X
section
variable {t : Type} {env : Env} {s : Store} {Q : t → Store → Prop} {X : Nat → Store → Prop} {N : Env → Store → Prop} {T : D → Store → Prop} {Y : Nat → Env → Store → Prop}
theorem R.W_no : (R.no (t := t)).W Q X ↔ False := ⟨fun h => (by cases h), False.elim⟩
theorem SR.W_no : SR.no.W N T Y ↔ False := ⟨fun h => (by cases h), False.elim⟩
theorem SR.W_bk {e : Env} : (SR.bk e s).W N T Y ↔ False := ⟨fun h => (by cases h), False.elim⟩
theorem SR.W_ct {e : Env} : (SR.ct e s).W N T Y ↔ False := ⟨fun h => (by cases h), False.elim⟩
theorem R.W_ite {c : Prop} [Decidable c] {a b : R t} : (if c then a else b).W Q X ↔ (c → a.W Q X) ∧ (¬ c → b.W Q X) := by
  by_cases h : c <;> simp [h]
theorem vrO_s {d : D} : vrO (some (some d)) s = .ok (vr d) s := rfl
variable {Q : D → Store → Prop}
theorem we_op2 {f : Store → D → D → R D} {a b : Ex} : (eOp2 f a b env s).W Q X ↔ (a env s).W (fun x s1 => (b env s1).W (fun y s2 => (f s2 (fz x) (fz y)).W Q X) X) X := by
  unfold eOp2
  cases a env s with
  | ok x s1 => rw [R.W_ok]; dsimp only; cases b env s1 <;> simp only [R.W_ok, R.W_exc, R.W_no]
  | exc c s1 => simp only [R.W_exc]
  | no => simp only [R.W_no]
theorem we_op1 {f : Store → D → R D} {a : Ex} : (eOp1 f a env s).W Q X ↔ (a env s).W (fun x s1 => (f s1 (fz x)).W Q X) X := by
  unfold eOp1
  cases a env s <;> simp only [R.W_ok, R.W_exc, R.W_no]
theorem we_C {d : D} : (eC d env s).W Q X ↔ Q d s := R.W_ok
theorem we_dct0 : (eDct0 env s).W Q X ↔ Q (.own (.dK [])) s := R.W_ok
theorem we_tY {Q : Bool → Store → Prop} : (tY env s).W Q X ↔ Q true s := R.W_ok
theorem we_tq {a : Ex} {Q : Bool → Store → Prop} : (tq a env s).W Q X ↔ (a env s).W (fun d s1 => asB (fun b => Q b s1) d) X := by
  unfold tq
  cases a env s with
  | ok x s1 => cases x <;> simp only [R.W_ok, R.W_no, asB]
  | exc c s1 => simp only [R.W_exc]
  | no => simp only [R.W_no]
theorem we_notX {a : Tx} {Q : Bool → Store → Prop} : (tNotX a env s).W Q X ↔ (a env s).W (fun b s1 => Q (!b) s1) X := by
  unfold tNotX
  cases a env s <;> simp only [R.W_ok, R.W_exc, R.W_no]
def aT (k : Bool) (A B : Prop) : Prop := (k = true → A) ∧ (k = false → B)
theorem aT_t {A B : Prop} : aT true A B ↔ A := by simp [aT]
theorem aT_f {A B : Prop} : aT false A B ↔ B := by simp [aT]
theorem aT_d {A B p : Prop} [Decidable p] : aT (decide p) A B ↔ (p → A) ∧ (¬ p → B) := by simp [aT]
theorem aT_n {A B : Prop} {k : Bool} : aT (!k) A B ↔ aT k B A := by cases k <;> simp [aT]
theorem aT_and {A B : Prop} {k l : Bool} : aT (k && l) A B ↔ aT k (aT l A B) B := by cases k <;> simp [aT]
theorem aT_or {A B : Prop} {k l : Bool} : aT (k || l) A B ↔ aT k A (aT l A B) := by cases k <;> simp [aT]
theorem we_andX {a b : Tx} {Q : Bool → Store → Prop} : (tAndX a b env s).W Q X ↔ (a env s).W (fun k s1 => aT k ((b env s1).W Q X) (Q false s1)) X := by
  unfold tAndX
  cases a env s with
  | ok x s1 => cases x <;> simp only [R.W_ok, aT_t, aT_f]
  | exc c s1 => simp only [R.W_exc]
  | no => simp only [R.W_no]
theorem we_orX {a b : Tx} {Q : Bool → Store → Prop} : (tOrX a b env s).W Q X ↔ (a env s).W (fun k s1 => aT k (Q true s1) ((b env s1).W Q X)) X := by
  unfold tOrX
  cases a env s with
  | ok x s1 => cases x <;> simp only [R.W_ok, aT_t, aT_f]
  | exc c s1 => simp only [R.W_exc]
  | no => simp only [R.W_no]
theorem we_and {a b : Ex} : (eAnd a b env s).W Q X ↔ (tq a env s).W (fun k s1 => aT k ((b env s1).W Q X) (Q (.bl false) s1)) X := by
  unfold eAnd
  cases tq a env s with
  | ok x s1 => cases x <;> simp only [R.W_ok, aT_t, aT_f]
  | exc c s1 => simp only [R.W_exc]
  | no => simp only [R.W_no]
theorem we_or {a b : Ex} : (eOr a b env s).W Q X ↔ (tq a env s).W (fun k s1 => aT k (Q (.bl true) s1) ((b env s1).W Q X)) X := by
  unfold eOr
  cases tq a env s with
  | ok x s1 => cases x <;> simp only [R.W_ok, aT_t, aT_f]
  | exc c s1 => simp only [R.W_exc]
  | no => simp only [R.W_no]
theorem we_not {a : Ex} : (eNot a env s).W Q X ↔ (tq a env s).W (fun k s1 => Q (.bl (!k)) s1) X := by
  unfold eNot
  cases tq a env s <;> simp only [R.W_ok, R.W_exc, R.W_no]
theorem we_if {c : Tx} {a b : Ex} : (eIf c a b env s).W Q X ↔ (c env s).W (fun k s1 => aT k ((a env s1).W Q X) ((b env s1).W Q X)) X := by
  unfold eIf
  cases c env s with
  | ok x s1 => cases x <;> simp only [R.W_ok, aT_t, aT_f]
  | exc c s1 => simp only [R.W_exc]
  | no => simp only [R.W_no]
theorem we_aNil {Q : List D → Store → Prop} : (aNil env s).W Q X ↔ Q [] s := R.W_ok
theorem we_aCons {a : Ex} {r : Ax} {Q : List D → Store → Prop} : (aCons a r env s).W Q X ↔ (a env s).W (fun x s1 => asK (fun d => (r env s1).W (fun ds s2 => Q (d :: ds) s2) X) x) X := by
  unfold aCons asK
  cases a env s with
  | ok x s1 =>
    simp only [R.W_ok]
    cases snk (fz x) with
    | none => simp only [R.W_no]
    | some d => dsimp only; cases r env s1 <;> simp only [R.W_ok, R.W_exc, R.W_no]
  | exc c s1 => simp only [R.W_exc]
  | no => simp only [R.W_no]
theorem we_tup {a : Ax} : (eTup a env s).W Q X ↔ (a env s).W (fun ds s1 => ds.length ≤ 16777216 ∧ Q (.tup ds) s1) X := by
  unfold eTup
  cases a env s with
  | ok x s1 =>
    simp only [R.W_ok]
    by_cases h : x.length ≤ 16777216 <;> simp [h, R.W_ok, R.W_no]
  | exc c s1 => simp only [R.W_exc]
  | no => simp only [R.W_no]
theorem we_lst {a : Ax} : (eLst a env s).W Q X ↔ (a env s).W (fun ds s1 => ds.length ≤ 16777216 ∧ Q (.own (.lst ds)) s1) X := by
  unfold eLst
  cases a env s with
  | ok x s1 =>
    simp only [R.W_ok]
    by_cases h : x.length ≤ 16777216 <;> simp [h, R.W_ok, R.W_no]
  | exc c s1 => simp only [R.W_exc]
  | no => simp only [R.W_no]
theorem we_call {F : Fx} {a : Ax} : (eCall F a env s).W Q X ↔ (a env s).W (fun ds s1 => (F ds s1).W Q X) X := by
  unfold eCall
  cases a env s <;> simp only [R.W_ok, R.W_exc, R.W_no]
theorem we_oNo {Q : Option Int → Store → Prop} : (oNo env s).W Q X ↔ Q none s := R.W_ok
theorem we_oSo {a : Ex} {Q : Option Int → Store → Prop} : (oSo a env s).W Q X ↔ (a env s).W (fun d s1 => asI (fun i => Q (some i) s1) d) X := by
  unfold oSo
  cases a env s with
  | ok x s1 => cases x <;> simp only [R.W_ok, R.W_no, asI]
  | exc c s1 => simp only [R.W_exc]
  | no => simp only [R.W_no]
theorem we_sl {a : Ex} {l h : Ox} : (eSl a l h env s).W Q X ↔ (a env s).W (fun x s1 => (l env s1).W (fun i s2 => (h env s2).W (fun j s3 => (fSl s3 (fz x) i j).W Q X) X) X) X := by
  unfold eSl
  cases a env s with
  | ok x s1 =>
    simp only [R.W_ok]
    cases l env s1 with
    | ok y s2 => simp only [R.W_ok]; cases h env s2 <;> simp only [R.W_ok, R.W_exc, R.W_no]
    | exc c s1 => simp only [R.W_exc]
    | no => simp only [R.W_no]
  | exc c s1 => simp only [R.W_exc]
  | no => simp only [R.W_no]
theorem we_meth {f : Store → D → D → R D} {a b : Ex} : (eMeth f a b env s).W Q X ↔ (a env s).W (fun x s1 => isLD s1 (fz x) = true ∧ (b env s1).W (fun y s2 => (f s2 (fz x) (fz y)).W Q X) X) X := by
  unfold eMeth
  cases a env s with
  | ok x s1 =>
    simp only [R.W_ok]
    by_cases h : isLD s1 (fz x) = true
    · simp only [h, if_true, true_and]; cases b env s1 <;> simp only [R.W_ok, R.W_exc, R.W_no]
    · simp [h, R.W_no]
  | exc c s1 => simp only [R.W_exc]
  | no => simp only [R.W_no]
theorem we_chain {f f' : Store → D → D → R D} {a b c : Ex} {X : Nat → Store → Prop} (hf : ∀ s x y k s', f s x y ≠ .exc k s') : (eChain f f' a b c env s).W Q X ↔ (a env s).W (fun x s1 => (b env s1).W (fun y s2 => (f s2 (fz x) (fz y)).W (fun d s3 => asB (fun k => aT k ((c env s3).W (fun z s4 => (f' s4 (fz y) (fz z)).W Q X) X) (Q (.bl false) s3)) d) X) X) X := by
  unfold eChain
  cases a env s with
  | ok x s1 =>
    simp only [R.W_ok]
    cases b env s1 with
    | ok y s2 =>
      simp only [R.W_ok]
      cases e : f s2 (fz x) (fz y) with
      | ok d s3 =>
        simp only [R.W_ok]
        cases d with
        | bl k =>
          cases k with
          | true => simp only [asB, aT_t]; cases c env s3 <;> simp only [R.W_ok, R.W_exc, R.W_no]
          | false => simp only [asB, aT_f, R.W_ok]
        | _ => simp only [asB, R.W_no]
      | exc c s1 => exact absurd e (hf _ _ _ _ _)
      | no => simp only [R.W_no]
    | exc c s1 => simp only [R.W_exc]
    | no => simp only [R.W_no]
  | exc c s1 => simp only [R.W_exc]
  | no => simp only [R.W_no]
theorem we_lele {a b c : Ex} : (eChain fLe fLe a b c env s).W Q X ↔ (a env s).W (fun x s1 => (b env s1).W (fun y s2 => (fLe s2 (fz x) (fz y)).W (fun d s3 => asB (fun k => aT k ((c env s3).W (fun z s4 => (fLe s4 (fz y) (fz z)).W Q X) X) (Q (.bl false) s3)) d) X) X) X := we_chain ne_I
theorem we_lelt {a b c : Ex} : (eChain fLe fLt a b c env s).W Q X ↔ (a env s).W (fun x s1 => (b env s1).W (fun y s2 => (fLe s2 (fz x) (fz y)).W (fun d s3 => asB (fun k => aT k ((c env s3).W (fun z s4 => (fLt s4 (fz y) (fz z)).W Q X) X) (Q (.bl false) s3)) d) X) X) X := we_chain ne_I
theorem wi_seq {a : Ex} {Q : Itr → Store → Prop} : (iSeq a env s).W Q X ↔ (a env s).W (fun x s1 => asK (fun d => ∃ xs, seqD s1 d = some xs ∧ Q (.seq d) s1) x) X := by
  unfold iSeq asK
  cases a env s with
  | ok x s1 =>
    simp only [R.W_ok]
    cases snk (fz x) with
    | none => simp only [R.W_no]
    | some d => dsimp only; cases seqD s1 d <;> simp [R.W_ok, R.W_no]
  | exc c s1 => simp only [R.W_exc]
  | no => simp only [R.W_no]
theorem wi_rng1 {a : Ex} {Q : Itr → Store → Prop} : (xRng1 a env s).W Q X ↔ (a env s).W (fun x s1 => asI (fun j => rOk j = true ∧ Q (.rng 0 j.toNat) s1) x) X := by
  unfold xRng1
  cases a env s with
  | ok x s1 =>
    cases x with
    | int j => simp only [R.W_ok, asI]; by_cases h : rOk j = true <;> simp [h, R.W_ok, R.W_no]
    | _ => simp only [R.W_ok, R.W_no, asI]
  | exc c s1 => simp only [R.W_exc]
  | no => simp only [R.W_no]
theorem wi_rng2 {a b : Ex} {Q : Itr → Store → Prop} : (xRng2 a b env s).W Q X ↔ (a env s).W (fun x s1 => asI (fun i => (b env s1).W (fun y s2 => asI (fun j => (rOk i = true ∧ rOk j = true) ∧ Q (.rng i (j - i).toNat) s2) y) X) x) X := by
  unfold xRng2
  cases a env s with
  | ok x s1 =>
    cases x with
    | int i =>
      simp only [R.W_ok, asI]
      cases b env s1 with
      | ok y s2 =>
        cases y with
        | int j => simp only [R.W_ok, asI]; by_cases h : rOk i = true ∧ rOk j = true <;> simp [h, R.W_ok, R.W_no]
        | _ => simp only [R.W_ok, R.W_no, asI]
      | exc c s1 => simp only [R.W_exc]
      | no => simp only [R.W_no]
    | _ => simp only [R.W_ok, R.W_no, asI]
  | exc c s1 => simp only [R.W_exc]
  | no => simp only [R.W_no]
/-! statements -/
theorem ws_seq {a b : Sx} : (sSeq a b env s).W N T Y ↔ (a env s).W (Kt b N T Y) T Y := by
  unfold sSeq
  cases a env s <;> simp only [SR.W_nx, SR.W_rt, SR.W_exc, SR.W_no, SR.W_bk, SR.W_ct, Kt]
theorem Kt_eq {b : Sx} : Kt b N T Y env s ↔ (b env s).W N T Y := Iff.rfl
theorem ws_nil : (sNil env s).W N T Y ↔ N env s := SR.W_nx
theorem ws_ex {e : Ex} : (sEx e env s).W N T Y ↔ (e env s).W (fun _ s1 => N env s1) (fun c s1 => Y c env s1) := by
  unfold sEx
  cases e env s <;> simp only [SR.W_nx, SR.W_exc, SR.W_no, R.W_ok, R.W_exc, R.W_no]
theorem ws_set {i : Nat} {e : Ex} : (sSet i e env s).W N T Y ↔ (e env s).W (fun d s1 => asR (fun d => N (env.set i (some d)) s1) d) (fun c s1 => Y c env s1) := by
  unfold sSet
  cases e env s with
  | ok d s1 => cases d <;> simp [putE, asR, rtOk, SR.W_nx, SR.W_no, R.W_ok]
  | exc c s1 => simp only [SR.W_exc, R.W_exc]
  | no => simp only [SR.W_no, R.W_no]
theorem ws_setF {i : Nat} {e : Ex} : (sSetF i e env s).W N T Y ↔ (e env s).W (fun d s1 => asK (fun d => N (env.set i (some d)) s1) d) (fun c s1 => Y c env s1) := by
  unfold sSetF asK
  cases e env s with
  | ok d s1 => simp only [R.W_ok]; cases snk (fz d) <;> simp only [SR.W_nx, SR.W_no]
  | exc c s1 => simp only [SR.W_exc, R.W_exc]
  | no => simp only [SR.W_no, R.W_no]
def asE (o : Option Env) (P : Env → Prop) : Prop := match o with
  | some e => P e
  | none => False
theorem asE_s {e : Env} {P : Env → Prop} : asE (some e) P ↔ P e := Iff.rfl
theorem ws_setT {is : List Nat} {e : Ex} : (sSetT is e env s).W N T Y ↔ (e env s).W (fun d s1 => asE (tgE (.tp is) d env) fun e => N e s1) (fun c s1 => Y c env s1) := by
  unfold sSetT asE
  cases e env s with
  | ok d s1 => simp only [R.W_ok]; cases tgE (.tp is) d env <;> simp only [SR.W_nx, SR.W_no]
  | exc c s1 => simp only [SR.W_exc, R.W_exc]
  | no => simp only [SR.W_no, R.W_no]
theorem ws_if {c : Tx} {a b : Sx} : (sIf c a b env s).W N T Y ↔ (c env s).W (fun k s1 => aT k ((a env s1).W N T Y) ((b env s1).W N T Y)) (fun c s1 => Y c env s1) := by
  unfold sIf
  cases c env s with
  | ok x s1 => cases x <;> simp only [R.W_ok, aT_t, aT_f]
  | exc c s1 => simp only [R.W_exc, SR.W_exc]
  | no => simp only [R.W_no, SR.W_no]
theorem ws_ret {e : Ex} : (sRet e env s).W N T Y ↔ (e env s).W (fun d s1 => asR (fun d => T d s1) d) (fun c s1 => Y c env s1) := by
  unfold sRet
  cases e env s with
  | ok d s1 => cases d <;> simp [asR, rtOk, SR.W_rt, SR.W_no, R.W_ok]
  | exc c s1 => simp only [SR.W_exc, R.W_exc]
  | no => simp only [SR.W_no, R.W_no]
theorem ws_retN : (sRetN env s).W N T Y ↔ T .non s := SR.W_rt
def rvO (o : Option (Option D)) (P : D → Prop) : Prop := match o with
  | some (some d) => d ≠ .exn ∧ P d
  | _ => False
theorem ws_retV {i : Nat} : (sRetV i env s).W N T Y ↔ rvO env[i]? fun d => T d s := by
  unfold sRetV rvO
  cases env[i]? with
  | none => simp only [SR.W_no]
  | some o => cases o with
    | none => simp only [SR.W_no]
    | some d => cases d <;> simp [SR.W_no, SR.W_rt]
theorem ws_raise {c : Nat} : (sRaise c env s).W N T Y ↔ Y c env s := SR.W_exc
theorem ws_pre {q : Env → Store → Gm.Env × Store} {a : Sx} : (sPre q a env s).W N T Y ↔ (a (q env s).1 (q env s).2).W N T Y := Iff.rfl
def adK (i : Nat) (N : Env → Store → Prop) (e : Env) (s : Store) : Prop := N (gAd i e s).1 (gAd i e s).2
theorem ws_ad {i : Nat} {m : Sx} : (sAd i m env s).W N T Y ↔ (m env s).W (adK i N) T Y := by
  unfold sAd adK
  cases m env s <;> simp only [SR.W_nx, SR.W_rt, SR.W_exc, SR.W_no, SR.W_bk, SR.W_ct]
/-- a name's list: in the frame or in the store -/
def lens (i : Nat) (env : Env) (s : Store) : Option (List D × (List D → Env × Store)) := match env[i]? with
  | some (some (.own (.lst xs))) => some (xs, fun ys => (env.set i (some (.own (.lst ys))), s))
  | some (some (.ref n)) => (match s[n]? with
    | some (.lst xs) => some (xs, fun ys => (env, s.set n (.lst ys)))
    | _ => none)
  | _ => none
def muO (o : Option (Option D)) (i : Nat) (f : List D → Option (List D)) (N : Env → Store → Prop) (env : Env) (s : Store) : Prop := match o with
  | some (some (.own (.lst xs))) => (match f xs with
    | some ys => N (env.set i (some (.own (.lst ys)))) s
    | none => False)
  | some (some (.ref n)) => (match s[n]? with
    | some (.lst xs) => (match f xs with
      | some ys => N env (s.set n (.lst ys))
      | none => False)
    | _ => False)
  | _ => False
def isLO (o : Option (Option D)) (s : Store) : Prop := match o with
  | some (some (.own (.lst _))) => True
  | some (some (.ref n)) => (match s[n]? with
    | some (.lst _) => True
    | _ => False)
  | _ => False
theorem isLO_eq {i : Nat} : isL i env s = true ↔ isLO env[i]? s := by
  unfold isL isLO
  split <;> (try split) <;> simp_all
theorem muO_eq {i : Nat} {f : List D → Option (List D)} : muO env[i]? i f N env s ↔ ∃ p, mutL i f env s = some p ∧ N p.1 p.2 := by
  unfold muO mutL
  cases env[i]? with
  | none => simp
  | some o => cases o with
    | none => simp
    | some d => cases d with
      | own o => cases o with
        | lst xs => dsimp only; cases f xs <;> simp
        | _ => simp
      | ref n =>
        dsimp only
        cases s[n]? with
        | none => simp
        | some o => cases o with
          | lst xs => dsimp only; cases f xs <;> simp
          | _ => simp
      | _ => simp
theorem muO_own {i : Nat} {f : List D → Option (List D)} {xs : List D} : muO (some (some (.own (.lst xs)))) i f N env s ↔ ∃ ys, f xs = some ys ∧ N (env.set i (some (.own (.lst ys)))) s := by
  unfold muO; dsimp only; cases f xs <;> simp
theorem muO_app {i : Nat} {d : D} {xs : List D} : muO (some (some (.own (.lst xs)))) i (fApp d) N env s ↔ xs.length < 16777216 ∧ N (env.set i (some (.own (.lst (xs ++ [d]))))) s := by
  rw [muO_own]; unfold fApp; by_cases h : xs.length < 16777216 <;> simp [h]
theorem muO_ext {i : Nat} {zs xs : List D} : muO (some (some (.own (.lst xs)))) i (fExt zs) N env s ↔ xs.length + zs.length ≤ 16777216 ∧ N (env.set i (some (.own (.lst (xs ++ zs))))) s := by
  rw [muO_own]; unfold fExt; by_cases h : xs.length + zs.length ≤ 16777216 <;> simp [h]
theorem muO_seti {i : Nat} {k : Int} {d : D} {xs : List D} : muO (some (some (.own (.lst xs)))) i (fSetI k d) N env s ↔ ∃ j, ixN xs.length k = some j ∧ N (env.set i (some (.own (.lst (xs.set j d))))) s := by
  rw [muO_own]; unfold fSetI; cases ixN xs.length k <;> simp
theorem muO_rev {i : Nat} {xs : List D} : muO (some (some (.own (.lst xs)))) i (fun xs => some xs.reverse) N env s ↔ N (env.set i (some (.own (.lst xs.reverse)))) s := Iff.rfl
def rfO (o : Option O) (n : Nat) (f : List D → Option (List D)) (N : Env → Store → Prop) (env : Env) (s : Store) : Prop := match o with
  | some (.lst xs) => (match f xs with
    | some ys => N env (s.set n (.lst ys))
    | none => False)
  | _ => False
theorem muO_ref {i n : Nat} {f : List D → Option (List D)} : muO (some (some (.ref n))) i f N env s ↔ rfO s[n]? n f N env s := Iff.rfl
theorem rfO_app {n : Nat} {d : D} {xs : List D} : rfO (some (.lst xs)) n (fApp d) N env s ↔ xs.length < 16777216 ∧ N env (s.set n (.lst (xs ++ [d]))) := by
  unfold rfO fApp; by_cases h : xs.length < 16777216 <;> simp [h]
theorem rfO_ext {n : Nat} {zs xs : List D} : rfO (some (.lst xs)) n (fExt zs) N env s ↔ xs.length + zs.length ≤ 16777216 ∧ N env (s.set n (.lst (xs ++ zs))) := by
  unfold rfO fExt; by_cases h : xs.length + zs.length ≤ 16777216 <;> simp [h]
theorem rfO_seti {n : Nat} {k : Int} {d : D} {xs : List D} : rfO (some (.lst xs)) n (fSetI k d) N env s ↔ ∃ j, ixN xs.length k = some j ∧ N env (s.set n (.lst (xs.set j d))) := by
  dsimp only [rfO, fSetI]; cases ixN xs.length k <;> simp
theorem rfO_rev {n : Nat} {xs : List D} : rfO (some (.lst xs)) n (fun xs => some xs.reverse) N env s ↔ N env (s.set n (.lst xs.reverse)) := Iff.rfl
theorem isLO_own {xs : List D} : isLO (some (some (.own (.lst xs)))) s ↔ True := Iff.rfl
def isLr (o : Option O) : Prop := match o with
  | some (.lst _) => True
  | _ => False
theorem isLO_ref {n : Nat} : isLO (some (some (.ref n))) s ↔ isLr s[n]? := Iff.rfl
theorem isLr_s {xs : List D} : isLr (some (.lst xs)) ↔ True := Iff.rfl
theorem ws_app {i : Nat} {e : Ex} : (sMut i gApp e env s).W N T Y ↔ isLO env[i]? s ∧ (e env s).W (fun x s1 => asK (fun d => muO env[i]? i (fApp d) N env s1) x) (fun c s1 => Y c env s1) := by
  unfold sMut
  rw [← isLO_eq]
  by_cases h : isL i env s = true
  · simp only [h, if_true, true_and]
    cases e env s with
    | ok d s1 =>
      simp only [R.W_ok, asK, gApp]
      cases snk (fz d) with
      | none => simp only [Option.map_none, SR.W_no]
      | some d' =>
        simp only [Option.map_some, muO_eq]
        cases mutL i (fApp d') env s1 with
        | none => simp [SR.W_no]
        | some p => simp [SR.W_nx]
    | exc c s1 => simp only [SR.W_exc, R.W_exc]
    | no => simp only [SR.W_no, R.W_no]
  · simp [h, SR.W_no]
def asL (o : Option O) (P : List D → Prop) : Prop := match o with
  | some (.lst xs) => P xs
  | _ => False
theorem asL_s {xs : List D} {P : List D → Prop} : asL (some (.lst xs)) P ↔ P xs := Iff.rfl
theorem wq_ext {i : Nat} {e : Ex} : (sMut i gExt e env s).W N T Y ↔ isLO env[i]? s ∧ (e env s).W (fun x s1 => asL (drM s1 (fz x)) fun zs => muO env[i]? i (fExt zs) N env s1) (fun c s1 => Y c env s1) := by
  unfold sMut
  rw [← isLO_eq]
  by_cases h : isL i env s = true
  · simp only [h, if_true, true_and]
    cases e env s with
    | ok d s1 =>
      simp only [R.W_ok, gExt, asL]
      split
      · rename_i h1 _ h2
        split at h2
        · rename_i zs e1
          cases h2
          try rw [e1]
          simp only [muO_eq]
          cases mutL i (fExt zs) env s1 with
          | none => simp [SR.W_no]
          | some p => simp [SR.W_nx]
        · cases h2
      · rename_i h2
        split at h2
        · cases h2
        · rename_i n1
          simp only [SR.W_no]
          try exact ⟨False.elim, fun z => by
            split at z
            · exact n1 _ ‹_›
            · exact z⟩
    | exc c s1 => simp only [SR.W_exc, R.W_exc]
    | no => simp only [SR.W_no, R.W_no]
  · simp [h, SR.W_no]
theorem ws_sub {i : Nat} {j e : Ex} : (sSub i j e env s).W N T Y ↔ (e env s).W (fun x s1 => asK (fun d => isLO env[i]? s1 ∧ (j env s1).W (fun y s2 => asI (fun k => muO env[i]? i (fSetI k d) N env s2) y) (fun c s1 => Y c env s1)) x) (fun c s1 => Y c env s1) := by
  unfold sSub
  cases e env s with
  | ok d s1 =>
    simp only [R.W_ok, asK]
    cases snk (fz d) with
    | none => simp only [SR.W_no]
    | some d' =>
      dsimp only
      rw [← isLO_eq]
      by_cases h : isL i env s1 = true
      · simp only [h, if_true, true_and]
        cases j env s1 with
        | ok y s2 =>
          cases y with
          | int k =>
            simp only [R.W_ok, asI, muO_eq]
            cases mutL i (fSetI k d') env s2 with
            | none => simp [SR.W_no]
            | some p => simp [SR.W_nx]
          | _ => simp only [R.W_ok, asI, SR.W_no]
        | exc c s1 => simp only [SR.W_exc, R.W_exc]
        | no => simp only [SR.W_no, R.W_no]
      · simp [h, SR.W_no]
  | exc c s1 => simp only [SR.W_exc, R.W_exc]
  | no => simp only [SR.W_no, R.W_no]
theorem ws_rev {i : Nat} : (sRev i env s).W N T Y ↔ muO env[i]? i (fun xs => some xs.reverse) N env s := by
  unfold sRev
  rw [muO_eq]
  cases mutL i (fun xs => some xs.reverse) env s with
  | none => simp [SR.W_no]
  | some p => simp [SR.W_nx]
/-! dicts -/
def duO (o : Option (Option D)) (i : Nat) (f : List (Key × D) → List (Key × D)) (N : Env → Store → Prop) (env : Env) (s : Store) : Prop := match o with
  | some (some (.own (.dK xs))) => xs.length < 16777216 ∧ N (env.set i (some (.own (.dK (f xs))))) s
  | some (some (.ref n)) => (match s[n]? with
    | some (.dK xs) => xs.length < 16777216 ∧ N env (s.set n (.dK (f xs)))
    | _ => False)
  | _ => False
def isDO (o : Option (Option D)) (s : Store) : Prop := match o with
  | some (some (.own (.dK _))) => True
  | some (some (.ref n)) => (match s[n]? with
    | some (.dK _) => True
    | _ => False)
  | _ => False
theorem isDO_eq {i : Nat} : isDc i env s = true ↔ isDO env[i]? s := by
  unfold isDc isDO
  split <;> (try split) <;> simp_all
theorem duO_eq {i : Nat} {f : List (Key × D) → List (Key × D)} : duO env[i]? i f N env s ↔ ∃ p, mutD i f env s = some p ∧ N p.1 p.2 := by
  unfold duO mutD
  cases env[i]? with
  | none => simp
  | some o => cases o with
    | none => simp
    | some d => cases d with
      | own o => cases o with
        | dK xs => dsimp only; by_cases h : xs.length < 16777216 <;> simp [h]
        | _ => simp
      | ref n =>
        dsimp only
        cases s[n]? with
        | none => simp
        | some o => cases o with
          | dK xs => dsimp only; by_cases h : xs.length < 16777216 <;> simp [h]
          | _ => simp
      | _ => simp
def asKy (P : Key → Prop) (d : D) : Prop := match kD d with
  | some k => P k
  | none => False
theorem asKy_i {P : Key → Prop} {i : Int} : asKy P (.int i) ↔ P (.inl i) := Iff.rfl
theorem asKy_s {P : Key → Prop} {x : Str} : asKy P (.str x) ↔ P (.inr x) := Iff.rfl
theorem ws_dp {i : Nat} {j e : Ex} : (sDP i j e env s).W N T Y ↔ (e env s).W (fun x s1 => asK (fun d => isDO env[i]? s1 ∧ (j env s1).W (fun y s2 => asKy (fun k => duO env[i]? i (fun kv => putD kv k d) N env s2) y) (fun c s1 => Y c env s1)) x) (fun c s1 => Y c env s1) := by
  unfold sDP
  cases e env s with
  | ok d s1 =>
    simp only [R.W_ok, asK]
    cases snk (fz d) with
    | none => simp only [SR.W_no]
    | some d' =>
      dsimp only
      rw [← isDO_eq]
      by_cases h : isDc i env s1 = true
      · simp only [h, if_true, true_and]
        cases j env s1 with
        | ok y s2 =>
          simp only [R.W_ok, asKy]
          cases kD y with
          | none => simp only [SR.W_no]
          | some k =>
            simp only [duO_eq]
            cases mutD i (fun kv => putD kv k d') env s2 with
            | none => simp [SR.W_no]
            | some p => simp [SR.W_nx]
        | exc c s1 => simp only [SR.W_exc, R.W_exc]
        | no => simp only [SR.W_no, R.W_no]
      · simp [h, SR.W_no]
  | exc c s1 => simp only [SR.W_exc, R.W_exc]
  | no => simp only [SR.W_no, R.W_no]
theorem duO_own {i : Nat} {f : List (Key × D) → List (Key × D)} {xs : List (Key × D)} : duO (some (some (.own (.dK xs)))) i f N env s ↔ xs.length < 16777216 ∧ N (env.set i (some (.own (.dK (f xs))))) s := Iff.rfl
theorem isDO_own {xs : List (Key × D)} : isDO (some (some (.own (.dK xs)))) s ↔ True := Iff.rfl
def rdO (o : Option O) (n : Nat) (f : List (Key × D) → List (Key × D)) (N : Env → Store → Prop) (env : Env) (s : Store) : Prop := match o with
  | some (.dK xs) => xs.length < 16777216 ∧ N env (s.set n (.dK (f xs)))
  | _ => False
theorem duO_ref {i n : Nat} {f : List (Key × D) → List (Key × D)} : duO (some (some (.ref n))) i f N env s ↔ rdO s[n]? n f N env s := Iff.rfl
theorem rdO_s {n : Nat} {f : List (Key × D) → List (Key × D)} {xs : List (Key × D)} : rdO (some (.dK xs)) n f N env s ↔ xs.length < 16777216 ∧ N env (s.set n (.dK (f xs))) := Iff.rfl
def isDr (o : Option O) : Prop := match o with
  | some (.dK _) => True
  | _ => False
theorem isDO_ref {n : Nat} : isDO (some (some (.ref n))) s ↔ isDr s[n]? := Iff.rfl
theorem isDr_s {xs : List (Key × D)} : isDr (some (.dK xs)) ↔ True := Iff.rfl
end
/-! simple facts of values -/
theorem vr_i {i : Int} : vr (.int i) = .int i := rfl
theorem vr_b {i : Bool} : vr (.bl i) = .bl i := rfl
theorem vr_n : vr .non = .non := rfl
theorem vr_s {x : Str} : vr (.str x) = .str x := rfl
theorem vr_t {x : List D} : vr (.tup x) = .tup x := rfl
theorem vr_l {x : List D} : vr (.lst x) = .lst x := rfl
theorem vr_c {x : List Int} : vr (.scr x) = .scr x := rfl
theorem vr_d {x : List (Key × D)} : vr (.dct x) = .dct x := rfl
theorem vr_r {n : Nat} : vr (.ref n) = .ref n := rfl
theorem vr_o {o : O} : vr (.own o) = .bor o := rfl
theorem fz_i {i : Int} : fz (.int i) = .int i := rfl
theorem fz_b {i : Bool} : fz (.bl i) = .bl i := rfl
theorem fz_n : fz .non = .non := rfl
theorem fz_s {x : Str} : fz (.str x) = .str x := rfl
theorem fz_t {x : List D} : fz (.tup x) = .tup x := rfl
theorem fz_l {x : List D} : fz (.lst x) = .lst x := rfl
theorem fz_c {x : List Int} : fz (.scr x) = .scr x := rfl
theorem fz_d {x : List (Key × D)} : fz (.dct x) = .dct x := rfl
theorem fz_r {n : Nat} : fz (.ref n) = .ref n := rfl
theorem fz_bo {o : O} : fz (.bor o) = .bor o := rfl
theorem fz_ol {x : List D} : fz (.own (.lst x)) = .lst x := rfl
theorem fz_od {x : List (Key × D)} : fz (.own (.dK x)) = .dct x := rfl
section
variable {P : D → Prop} {n : Nat}
theorem asK_i {i : Int} : asK P (.int i) ↔ P (.int i) := Iff.rfl
theorem asK_b {i : Bool} : asK P (.bl i) ↔ P (.bl i) := Iff.rfl
theorem asK_n : asK P .non ↔ P .non := Iff.rfl
theorem asK_s {x : Str} : asK P (.str x) ↔ P (.str x) := Iff.rfl
theorem asK_t {x : List D} : asK P (.tup x) ↔ P (.tup x) := Iff.rfl
theorem asK_l {x : List D} : asK P (.lst x) ↔ P (.lst x) := Iff.rfl
theorem asK_c {x : List Int} : asK P (.scr x) ↔ P (.scr x) := Iff.rfl
theorem asK_d {x : List (Key × D)} : asK P (.dct x) ↔ P (.dct x) := Iff.rfl
theorem asK_r : asK P (.ref n) ↔ P (.ref n) := Iff.rfl
theorem asK_ol {x : List D} : asK P (.own (.lst x)) ↔ P (.lst x) := Iff.rfl
theorem asK_od {x : List (Key × D)} : asK P (.own (.dK x)) ↔ P (.dct x) := Iff.rfl
theorem asR_i {i : Int} : asR P (.int i) ↔ P (.int i) := by simp [asR, rtOk]
theorem asR_b {i : Bool} : asR P (.bl i) ↔ P (.bl i) := by simp [asR, rtOk]
theorem asR_n : asR P .non ↔ P .non := by simp [asR, rtOk]
theorem asR_s {x : Str} : asR P (.str x) ↔ P (.str x) := by simp [asR, rtOk]
theorem asR_t {x : List D} : asR P (.tup x) ↔ P (.tup x) := by simp [asR, rtOk]
theorem asR_l {x : List D} : asR P (.lst x) ↔ P (.lst x) := by simp [asR, rtOk]
theorem asR_c {x : List Int} : asR P (.scr x) ↔ P (.scr x) := by simp [asR, rtOk]
theorem asR_d {x : List (Key × D)} : asR P (.dct x) ↔ P (.dct x) := by simp [asR, rtOk]
theorem asR_r : asR P (.ref n) ↔ P (.ref n) := by simp [asR, rtOk]
theorem asR_o {o : O} : asR P (.own o) ↔ P (.own o) := by simp [asR, rtOk]
theorem asB_b {P : Bool → Prop} {b : Bool} : asB P (.bl b) ↔ P b := Iff.rfl
theorem asI_i {P : Int → Prop} {b : Int} : asI P (.int b) ↔ P b := Iff.rfl
theorem rvO_i {i : Int} : rvO (some (some (.int i))) P ↔ P (.int i) := by simp [rvO]
theorem rvO_b {i : Bool} : rvO (some (some (.bl i))) P ↔ P (.bl i) := by simp [rvO]
theorem rvO_n : rvO (some (some .non)) P ↔ P .non := by simp [rvO]
theorem rvO_s {x : Str} : rvO (some (some (.str x))) P ↔ P (.str x) := by simp [rvO]
theorem rvO_t {x : List D} : rvO (some (some (.tup x))) P ↔ P (.tup x) := by simp [rvO]
theorem rvO_l {x : List D} : rvO (some (some (.lst x))) P ↔ P (.lst x) := by simp [rvO]
theorem rvO_c {x : List Int} : rvO (some (some (.scr x))) P ↔ P (.scr x) := by simp [rvO]
theorem rvO_d {x : List (Key × D)} : rvO (some (some (.dct x))) P ↔ P (.dct x) := by simp [rvO]
theorem rvO_r : rvO (some (some (.ref n))) P ↔ P (.ref n) := by simp [rvO]
theorem rvO_o {o : O} : rvO (some (some (.own o))) P ↔ P (.own o) := by simp [rvO]
end
section
variable {s : Store} {i j : Int} {Q : D → Store → Prop} {X : Nat → Store → Prop}
theorem wf_mod : (fMod s (.int i) (.int j)).W Q X ↔ 0 < j ∧ Q (.int (i % j)) s := by
  show (if decide (0 < j) = true then _ else _ : R D).W Q X ↔ _
  by_cases h : 0 < j <;> simp [h, R.W_ok, R.W_no]
theorem wf_div : (fDiv s (.int i) (.int j)).W Q X ↔ (0 < j ∧ j < 1073741824) ∧ Q (.int (i / j)) s := by
  show (if (decide (0 < j) && decide (j < 1073741824)) = true then _ else _ : R D).W Q X ↔ _
  by_cases h : 0 < j ∧ j < 1073741824 <;> simp [h, R.W_ok, R.W_no]
theorem wf_mul : (fMul s (.int i) (.int j)).W Q X ↔ cMul i j = true ∧ Q (.int (i * j)) s := by
  show (if cMul i j = true then _ else _ : R D).W Q X ↔ _
  by_cases h : cMul i j = true <;> simp [h, R.W_ok, R.W_no]
theorem wf_pow : (fPow s (.int i) (.int j)).W Q X ↔ (0 ≤ j ∧ j ≤ 1000000 ∧ i.natAbs < 18446744073709551616) ∧ Q (.int (i ^ j.toNat)) s := by
  show (if (decide (0 ≤ j) && decide (j ≤ 1000000) && decide (i.natAbs < 18446744073709551616)) = true then _ else _ : R D).W Q X ↔ _
  by_cases h : 0 ≤ j ∧ j ≤ 1000000 ∧ i.natAbs < 18446744073709551616
  · simp [h, R.W_ok]
  · simp [h, R.W_no, and_assoc]
def asAt (o : Option D) (P : D → Prop) : Prop := match o with
  | some d => P d
  | none => False
theorem asAt_s {d : D} {P : D → Prop} : asAt (some d) P ↔ P d := Iff.rfl
theorem wf_ixL {xs : List D} : (fIx s (.lst xs) (.int i)).W Q X ↔ asAt (atI xs i) fun d => Q d s := by
  simp only [fIx, dr, asAt]; cases atI xs i <;> simp [R.W_ok, R.W_no]
theorem wf_ixB {xs : List D} : (fIx s (.bor (.lst xs)) (.int i)).W Q X ↔ asAt (atI xs i) fun d => Q d s := by
  simp only [fIx, dr, asAt]; cases atI xs i <;> simp [R.W_ok, R.W_no]
theorem wf_ixT {xs : List D} : (fIx s (.tup xs) (.int i)).W Q X ↔ asAt (atI xs i) fun d => Q d s := by
  simp only [fIx, asAt]; cases atI xs i <;> simp [R.W_ok, R.W_no]
def asL1 (o : Option O) (P : List D → Prop) : Prop := asL o P
theorem wf_ixR {n : Nat} : (fIx s (.ref n) (.int i)).W Q X ↔ asL s[n]? fun xs => asAt (atI xs i) fun d => Q d s := by
  simp only [fIx, dr, asAt, asL]
  cases s[n]? with
  | none => simp [R.W_no]
  | some o => cases o with
    | lst xs => simp only []; cases atI xs i <;> simp [R.W_ok, R.W_no]
    | _ => simp [R.W_no]
theorem atI_0 {t : Type} {a : t} {xs : List t} : atI (a :: xs) 0 = some a := atI_nat (j := 0) rfl
theorem atI_1 {t : Type} {a b : t} {xs : List t} : atI (a :: b :: xs) 1 = some b := by
  have := atI_nat (xs := a :: b :: xs) (j := 1) (v := b) rfl
  exact this
theorem atI_2 {t : Type} {a b c : t} {xs : List t} : atI (a :: b :: c :: xs) 2 = some c := by
  have := atI_nat (xs := a :: b :: c :: xs) (j := 2) (v := c) rfl
  exact this
theorem atI_map {t u : Type} {f : t → u} {xs : List t} : atI (xs.map f) i = (atI xs i).map f := by
  unfold atI; rw [List.length_map]; cases ixN xs.length i <;> simp
theorem wf_lenR {n : Nat} : (fLen s (.ref n)).W Q X ↔ asL s[n]? fun xs => Q (.int xs.length) s := by
  simp only [fLen, dr, asL]
  cases s[n]? with
  | none => simp [R.W_no]
  | some o => cases o <;> simp [R.W_ok, R.W_no]
theorem wf_lenS {x : Str} : (fLen s (.str x)).W Q X ↔ x.length ≤ 16777216 ∧ Q (.int x.length) s := by
  simp only [fLen]; by_cases h : x.length ≤ 16777216 <;> simp [h, R.W_ok, R.W_no]
theorem wf_addS {x y : Str} : (fAdd s (.str x) (.str y)).W Q X ↔ x.length + y.length ≤ 16777216 ∧ Q (.str (x ++ y)) s := by
  simp only [fAdd]; by_cases h : x.length + y.length ≤ 16777216 <;> simp [h, R.W_ok, R.W_no]
theorem wf_addL {xs ys : List D} : (fAdd s (.lst xs) (.lst ys)).W Q X ↔ xs.length + ys.length ≤ 16777216 ∧ Q (.own (.lst (xs ++ ys))) s := by
  simp only [fAdd, fCat, drM, dr]; by_cases h : xs.length + ys.length ≤ 16777216 <;> simp [h, R.W_ok, R.W_no]
theorem wf_addBL {xs ys : List D} : (fAdd s (.bor (.lst xs)) (.lst ys)).W Q X ↔ xs.length + ys.length ≤ 16777216 ∧ Q (.own (.lst (xs ++ ys))) s := by
  simp only [fAdd, fCat, drM, dr]; by_cases h : xs.length + ys.length ≤ 16777216 <;> simp [h, R.W_ok, R.W_no]
theorem wf_addLB {xs ys : List D} : (fAdd s (.lst xs) (.bor (.lst ys))).W Q X ↔ xs.length + ys.length ≤ 16777216 ∧ Q (.own (.lst (xs ++ ys))) s := by
  simp only [fAdd, fCat, drM, dr]; by_cases h : xs.length + ys.length ≤ 16777216 <;> simp [h, R.W_ok, R.W_no]
theorem wf_addRL {n : Nat} {ys : List D} : (fAdd s (.ref n) (.lst ys)).W Q X ↔ asL s[n]? fun xs => xs.length + ys.length ≤ 16777216 ∧ Q (.own (.lst (xs ++ ys))) s := by
  simp only [fAdd, fCat, drM, dr, asL]
  cases s[n]? with
  | none => simp [R.W_no]
  | some o => cases o with
    | lst xs => simp only []; by_cases h : xs.length + ys.length ≤ 16777216 <;> simp [h, R.W_ok, R.W_no]
    | _ => simp [R.W_no]
theorem wf_repL {xs : List D} {k : Int} : (fMul s (.lst xs) (.int k)).W Q X ↔ (k < 9223372036854775808 ∧ -9223372036854775808 ≤ k ∧ xs.length * k.toNat ≤ 16777216) ∧ Q (.own (.lst (List.replicate k.toNat xs).flatten)) s := by
  simp only [fMul, fRep, drM, dr]; by_cases h : k < 9223372036854775808 ∧ -9223372036854775808 ≤ k ∧ xs.length * k.toNat ≤ 16777216 <;> simp [h, R.W_ok, R.W_no]
theorem wf_slL {xs : List D} {lo hi : Option Int} : (fSl s (.lst xs) lo hi).W Q X ↔ Q (.own (.lst (cutD xs lo hi))) s := by
  simp only [fSl, dr, R.W_ok]
theorem wf_slB {xs : List D} {lo hi : Option Int} : (fSl s (.bor (.lst xs)) lo hi).W Q X ↔ Q (.own (.lst (cutD xs lo hi))) s := by
  simp only [fSl, dr, R.W_ok]
theorem wf_slR {n : Nat} {lo hi : Option Int} : (fSl s (.ref n) lo hi).W Q X ↔ asL s[n]? fun xs => Q (.own (.lst (cutD xs lo hi))) s := by
  simp only [fSl, dr, asL]
  cases s[n]? with
  | none => simp [R.W_no]
  | some o => cases o <;> simp [R.W_ok, R.W_no]
theorem wf_listL {xs : List D} : (fListOf s (.lst xs)).W Q X ↔ Q (.own (.lst xs)) s := by simp only [fListOf, seqD, dr, R.W_ok]
theorem wf_listB {xs : List D} : (fListOf s (.bor (.lst xs))).W Q X ↔ Q (.own (.lst xs)) s := by simp only [fListOf, seqD, dr, R.W_ok]
theorem wf_listR {n : Nat} : (fListOf s (.ref n)).W Q X ↔ asL s[n]? fun xs => Q (.own (.lst xs)) s := by
  simp only [fListOf, seqD, dr, asL]
  cases s[n]? with
  | none => simp [R.W_no]
  | some o => cases o <;> simp [R.W_ok, R.W_no]
theorem wf_pop {n : Nat} : (fPop s (.ref n)).W Q X ↔ asL s[n]? fun xs => asAt xs[xs.length - 1]? fun d => Q d (s.set n (.lst xs.dropLast)) := by
  simp only [fPop, asL, asAt]
  cases s[n]? with
  | none => simp [R.W_no]
  | some o => cases o with
    | lst xs => simp only []; cases xs[xs.length - 1]? <;> simp [R.W_ok, R.W_no]
    | _ => simp [R.W_no]
theorem wf_dgD {kv : List (Key × D)} {k : Int} : (fDG s (.dct kv) (.int k)).W Q X ↔ asAt (valD kv (.inl k)) fun d => Q d s := by
  simp only [fDG, drM, dr, kD, asAt]; cases valD kv (.inl k) <;> simp [R.W_ok, R.W_no]
theorem wf_dgB {kv : List (Key × D)} {k : Int} : (fDG s (.bor (.dK kv)) (.int k)).W Q X ↔ asAt (valD kv (.inl k)) fun d => Q d s := by
  simp only [fDG, drM, dr, kD, asAt]; cases valD kv (.inl k) <;> simp [R.W_ok, R.W_no]
theorem wf_dinD {kv : List (Key × D)} {k : Int} {b : Bool} : (fDIn b s (.int k) (.dct kv)).W Q X ↔ Q (.bl (if b then !(valD kv (.inl k)).isSome else (valD kv (.inl k)).isSome)) s := by
  simp only [fDIn, drM, dr, kD, R.W_ok]
theorem wf_dinB {kv : List (Key × D)} {k : Int} {b : Bool} : (fDIn b s (.int k) (.bor (.dK kv))).W Q X ↔ Q (.bl (if b then !(valD kv (.inl k)).isSome else (valD kv (.inl k)).isSome)) s := by
  simp only [fDIn, drM, dr, kD, R.W_ok]
theorem wf_sumI {ns : List Int} : (fSum s (.lst (ns.map D.int))).W Q X ↔ Q (.int ns.sum) s := by
  have : ∀ ns : List Int, intsD (ns.map D.int) = some ns := fun ns => by
    induction ns with
    | nil => rfl
    | cons a r ih => simp [intsD, ih]
  simp only [fSum, lsD, dr, Option.bind_some, this, R.W_ok]
theorem intsD_map : ∀ ns : List Int, intsD (ns.map D.int) = some ns := fun ns => by
  induction ns with
  | nil => rfl
  | cons a r ih => simp [intsD, ih]
theorem blsD_map : ∀ ns : List Bool, blsD (ns.map D.bl) = some ns := fun ns => by
  induction ns with
  | nil => rfl
  | cons a r ih => simp [blsD, ih]
theorem wf_allB {ns : List Bool} : (fAll s (.lst (ns.map D.bl))).W Q X ↔ Q (.bl (ns.all id)) s := by
  simp only [fAll, lsD, dr, Option.bind_some, blsD_map, R.W_ok]
theorem wf_sorted {ns : List Int} : (fSorted s (.lst (ns.map D.int))).W Q X ↔ Q (.own (.lst ((sortI ns).map D.int))) s := by
  simp only [fSorted, lsD, dr, Option.bind_some, intsD_map, R.W_ok]
theorem wf_sortSet {ns : List Int} : (fSortSet s (.lst (ns.map D.int))).W Q X ↔ ns.length < 64 ∧ Q (.own (.lst ((dedI (sortI ns)).map D.int))) s := by
  simp only [fSortSet, lsD, dr, Option.bind_some, intsD_map]
  by_cases h : ns.length < 64 <;> simp [h, R.W_ok, R.W_no]
theorem wf_listD {kv : List (Key × D)} : (fListD s (.dct kv)).W Q X ↔ Q (.own (.lst (kv.map fun p => keyD p.1))) s := by simp only [fListD, drM, dr, R.W_ok]
theorem wf_listDB {kv : List (Key × D)} : (fListD s (.bor (.dK kv))).W Q X ↔ Q (.own (.lst (kv.map fun p => keyD p.1))) s := by simp only [fListD, drM, dr, R.W_ok]
theorem seqD_l' {xs : List D} : seqD s (.lst xs) = some xs := rfl
theorem seqD_t' {xs : List D} : seqD s (.tup xs) = some xs := rfl
theorem seqD_c' {ns : List Int} : seqD s (.scr ns) = some (ns.map D.int) := rfl
theorem drM_l {xs : List D} : drM s (.lst xs) = some (.lst xs) := rfl
theorem drM_b {o : O} : drM s (.bor o) = some o := rfl
theorem isLD_r {n : Nat} : isLD s (.ref n) = true ↔ isLr s[n]? := by
  simp only [isLD, isLr, dr]
  cases s[n]? with
  | none => simp
  | some o => cases o <;> simp
end
end Gm

set_option Elab.async false
set_option linter.all false
set_option maxRecDepth 100000
set_option autoImplicit false
/-! loops and comprehensions over typed lists; typed values -/
namespace Gm
open PySem L2
/-- plain values -/
def plainD : D → Bool
  | .own _ => false
  | .bor _ => false
  | .exn => false
  | _ => true
theorem plain_vr : ∀ {d : D}, plainD d = true → vr d = d := by intro d h; cases d <;> first | rfl | cases h
theorem plain_fz : ∀ {d : D}, plainD d = true → fz d = d := by intro d h; cases d <;> first | rfl | cases h
theorem plain_snk : ∀ {d : D}, plainD d = true → snk d = some d := by intro d h; cases d <;> first | rfl | cases h
class En (α : Type) where
  e : α → D
  pl : ∀ a, plainD (e a) = true
section
variable {α : Type} [En α] {a : α} {P : D → Prop}
theorem vr_e : vr (En.e a) = En.e a := plain_vr (En.pl a)
theorem fz_e : fz (En.e a) = En.e a := plain_fz (En.pl a)
theorem snk_e : snk (En.e a) = some (En.e a) := plain_snk (En.pl a)
theorem asK_e : asK P (En.e a) ↔ P (En.e a) := by unfold asK; rw [fz_e, snk_e]
theorem asR_e : asR P (En.e a) ↔ P (En.e a) := by
  have h := En.pl a
  unfold asR
  revert h
  cases En.e a <;> simp [plainD, rtOk]
theorem rvO_e : rvO (some (some (En.e a))) P ↔ P (En.e a) := by
  have h := En.pl a
  unfold rvO
  revert h
  cases En.e a <;> simp [plainD]
end
instance : En Int := ⟨D.int, fun _ => rfl⟩
instance : En Bool := ⟨D.bl, fun _ => rfl⟩
instance {α : Type} [En α] : En (Option α) := ⟨fun o => match o with | none => .non | some a => En.e a, fun o => by cases o; rfl; exact En.pl _⟩
instance {α : Type} [En α] : En (List α) := ⟨fun l => .lst (l.map En.e), fun _ => rfl⟩
instance {α β : Type} [En α] [En β] : En (α × β) := ⟨fun p => .tup [En.e p.1, En.e p.2], fun _ => rfl⟩
section
variable {α β : Type} [En α] [En β]
end
/-! == on data -/
mutual
def pyD : D → PyData
  | .non => .none
  | .bl b => .bool b
  | .int i => .int i
  | .str x => .str x
  | .tup xs => .tuple (pyL xs)
  | .lst xs => .list (pyL xs)
  | .scr ns => .list (ns.map PyData.int)
  | .dct _ => .none
  | .ref _ => .none
  | .own _ => .none
  | .bor _ => .none
  | .exn => .none
def pyL : List D → List PyData
  | [] => []
  | d :: r => pyD d :: pyL r
end
mutual
def dOk : Nat → D → Bool
  | 0, _ => false
  | _ + 1, .non => true
  | _ + 1, .bl _ => true
  | _ + 1, .int _ => true
  | _ + 1, .str x => PyData.strOk x
  | n + 1, .tup xs => dOkL n xs
  | n + 1, .lst xs => dOkL n xs
  | _ + 1, _ => false
def dOkL : Nat → List D → Bool
  | _, [] => true
  | n, d :: r => dOk n d && dOkL n r
end
mutual
theorem toPy_of (s : Store) : ∀ (n : Nat) (d : D), dOk n d = true → toPy s n d = some (pyD d) ∧ (pyD d).canLay0 = true
  | 0, d, h => by unfold dOk at h; cases h
  | n + 1, .non, h => by simp [toPy, pyD, PyData.canLay0]
  | n + 1, .bl _, h => by simp [toPy, pyD, PyData.canLay0]
  | n + 1, .int _, h => by simp [toPy, pyD, PyData.canLay0]
  | n + 1, .str x, h => by unfold dOk at h; simp [toPy, pyD, PyData.canLay0, h]
  | n + 1, .tup xs, h => by
    unfold dOk at h
    obtain ⟨a, b⟩ := toPyL_of s n xs h
    simp [toPy, pyD, a, PyData.canLay0, b]
  | n + 1, .lst xs, h => by
    unfold dOk at h
    obtain ⟨a, b⟩ := toPyL_of s n xs h
    simp [toPy, dr, pyD, a, PyData.canLay0, b]
  | n + 1, .scr _, h => by unfold dOk at h; cases h
  | n + 1, .dct _, h => by unfold dOk at h; cases h
  | n + 1, .ref _, h => by unfold dOk at h; cases h
  | n + 1, .own _, h => by unfold dOk at h; cases h
  | n + 1, .bor _, h => by unfold dOk at h; cases h
  | n + 1, .exn, h => by unfold dOk at h; cases h
theorem toPyL_of (s : Store) : ∀ (n : Nat) (xs : List D), dOkL n xs = true → xs.mapM (toPy s n) = some (pyL xs) ∧ PyData.canLayAll0 (pyL xs) = true
  | n, [], h => by simp [pyL, PyData.canLayAll0]
  | n, d :: r, h => by
    unfold dOkL at h
    simp only [Bool.and_eq_true] at h
    obtain ⟨a, b⟩ := toPy_of s n d h.1
    obtain ⟨a2, b2⟩ := toPyL_of s n r h.2
    simp [List.mapM_cons, a, a2, pyL, PyData.canLayAll0, b, b2]
end
theorem fEq_of {s : Store} {a b : D} (ha : dOk 9 a = true) (hb : dOk 9 b = true) : fEq s a b = .ok (.bl (PyData.eqv (pyD a) (pyD b))) s := by
  obtain ⟨h1, h2⟩ := toPy_of s 9 a ha
  obtain ⟨h3, h4⟩ := toPy_of s 9 b hb
  simp [fEq, h1, h3, h2, h4]
theorem fNe_of {s : Store} {a b : D} (ha : dOk 9 a = true) (hb : dOk 9 b = true) : fNe s a b = .ok (.bl (!PyData.eqv (pyD a) (pyD b))) s := by
  obtain ⟨h1, h2⟩ := toPy_of s 9 a ha
  obtain ⟨h3, h4⟩ := toPy_of s 9 b hb
  simp [fNe, h1, h3, h2, h4]
mutual
theorem dOk_mono : ∀ (n m : Nat) (d : D), n ≤ m → dOk n d = true → dOk m d = true
  | 0, _, d, _, h => by unfold dOk at h; cases h
  | n + 1, 0, d, l, h => by omega
  | n + 1, m + 1, .non, l, h => by unfold dOk; rfl
  | n + 1, m + 1, .bl _, l, h => by unfold dOk; rfl
  | n + 1, m + 1, .int _, l, h => by unfold dOk; rfl
  | n + 1, m + 1, .str _, l, h => by unfold dOk at *; exact h
  | n + 1, m + 1, .tup xs, l, h => by unfold dOk at *; exact dOkL_mono n m xs (by omega) h
  | n + 1, m + 1, .lst xs, l, h => by unfold dOk at *; exact dOkL_mono n m xs (by omega) h
  | n + 1, m + 1, .scr _, l, h => by unfold dOk at h; cases h
  | n + 1, m + 1, .dct _, l, h => by unfold dOk at h; cases h
  | n + 1, m + 1, .ref _, l, h => by unfold dOk at h; cases h
  | n + 1, m + 1, .own _, l, h => by unfold dOk at h; cases h
  | n + 1, m + 1, .bor _, l, h => by unfold dOk at h; cases h
  | n + 1, m + 1, .exn, l, h => by unfold dOk at h; cases h
theorem dOkL_mono : ∀ (n m : Nat) (d : List D), n ≤ m → dOkL n d = true → dOkL m d = true
  | n, m, [], l, h => by unfold dOkL; rfl
  | n, m, d :: r, l, h => by
    unfold dOkL at *
    simp only [Bool.and_eq_true] at *
    exact ⟨dOk_mono n m d l h.1, dOkL_mono n m r l h.2⟩
end
/-- data whose == is equality -/
class Eqn (α : Type) extends En α where
  dep : Nat
  ok : ∀ a : α, dOk dep (En.e a) = true
  inj : ∀ a b : α, PyData.eqv (pyD (En.e a)) (pyD (En.e b)) = true ↔ a = b
instance : Eqn Int := { dep := 1, ok := fun a => by show dOk 1 (.int a) = true; unfold dOk; rfl, inj := fun a b => by show PyData.eqv (pyD (.int a)) (pyD (.int b)) = true ↔ _; unfold pyD PyData.eqv; simp }
instance : Eqn Bool := { dep := 1, ok := fun a => by show dOk 1 (.bl a) = true; unfold dOk; rfl, inj := fun a b => by show PyData.eqv (pyD (.bl a)) (pyD (.bl b)) = true ↔ _; unfold pyD PyData.eqv; simp }
theorem dOkL_map {α : Type} [Eqn α] {n : Nat} (h : Eqn.dep α ≤ n) : ∀ l : List α, dOkL n (l.map En.e) = true
  | [] => by unfold dOkL; rfl
  | a :: r => by
    show dOkL n (En.e a :: r.map En.e) = true
    unfold dOkL
    rw [dOkL_map h r, dOk_mono _ n _ h (Eqn.ok a)]; rfl
theorem eqvAll_map {α : Type} [Eqn α] : ∀ l m : List α, PyData.eqvAll (pyL (l.map En.e)) (pyL (m.map En.e)) = true ↔ l = m
  | [], [] => by simp [pyL, PyData.eqvAll]
  | [], b :: m => by simp [pyL, PyData.eqvAll]
  | a :: l, [] => by simp [pyL, PyData.eqvAll]
  | a :: l, b :: m => by
    simp only [List.map_cons, pyL, PyData.eqvAll, Bool.and_eq_true, Eqn.inj, eqvAll_map l m, List.cons.injEq]
instance {α : Type} [Eqn α] : Eqn (List α) := { dep := Eqn.dep α + 1, ok := fun a => by show dOk _ (.lst _) = true; unfold dOk; exact dOkL_map (Nat.le_refl _) a, inj := fun a b => by show PyData.eqv (pyD (.lst _)) (pyD (.lst _)) = true ↔ _; unfold pyD PyData.eqv; exact eqvAll_map a b }
theorem ok_pair {α β : Type} [Eqn α] [Eqn β] (a : α × β) : dOk (max (Eqn.dep α) (Eqn.dep β) + 1) (En.e a) = true := by
  show dOk _ (.tup [En.e a.1, En.e a.2]) = true
  unfold dOk dOkL dOkL dOkL
  rw [dOk_mono _ _ _ (Nat.le_max_left _ _) (Eqn.ok a.1), dOk_mono _ _ _ (Nat.le_max_right _ _) (Eqn.ok a.2)]
  rfl
theorem inj_pair {α β : Type} [Eqn α] [Eqn β] (a b : α × β) : PyData.eqv (pyD (En.e a)) (pyD (En.e b)) = true ↔ a = b := by
  show PyData.eqv (pyD (.tup [En.e a.1, En.e a.2])) (pyD (.tup [En.e b.1, En.e b.2])) = true ↔ _
  simp only [pyD, pyL, PyData.eqv, PyData.eqvAll, Bool.and_true, Bool.and_eq_true, Eqn.inj]
  exact Prod.ext_iff.symm
instance {α β : Type} [Eqn α] [Eqn β] : Eqn (α × β) := { dep := max (Eqn.dep α) (Eqn.dep β) + 1, ok := ok_pair, inj := inj_pair }
section
variable {α β : Type} {s : Store} {Q : D → Store → Prop} {X : Nat → Store → Prop}
theorem eqn_dec [Eqn α] [DecidableEq α] {a b : α} : PyData.eqv (pyD (En.e a)) (pyD (En.e b)) = decide (a = b) := by
  rw [Bool.eq_iff_iff, Eqn.inj, decide_eq_true_eq]
theorem fEq_e [Eqn α] [DecidableEq α] {a b : α} (h : Eqn.dep α ≤ 9) : fEq s (En.e a) (En.e b) = .ok (.bl (decide (a = b))) s := by
  rw [fEq_of (dOk_mono _ _ _ h (Eqn.ok a)) (dOk_mono _ _ _ h (Eqn.ok b)), eqn_dec]
theorem fNe_e [Eqn α] [DecidableEq α] {a b : α} (h : Eqn.dep α ≤ 9) : fNe s (En.e a) (En.e b) = .ok (.bl (!decide (a = b))) s := by
  rw [fNe_of (dOk_mono _ _ _ h (Eqn.ok a)) (dOk_mono _ _ _ h (Eqn.ok b)), eqn_dec]
theorem fEq_l [Eqn α] [DecidableEq α] {a b : List α} (h : Eqn.dep α ≤ 8) : fEq s (.lst (a.map En.e)) (.lst (b.map En.e)) = .ok (.bl (decide (a = b))) s := fEq_e (α := List α) (Nat.succ_le_succ h)
theorem fNe_l [Eqn α] [DecidableEq α] {a b : List α} (h : Eqn.dep α ≤ 8) : fNe s (.lst (a.map En.e)) (.lst (b.map En.e)) = .ok (.bl (!decide (a = b))) s := fNe_e (α := List α) (Nat.succ_le_succ h)
theorem fEq_li {a b : List Int} : fEq s (.lst (a.map D.int)) (.lst (b.map D.int)) = .ok (.bl (decide (a = b))) s := fEq_l (α := Int) (by decide)
theorem fNe_li {a b : List Int} : fNe s (.lst (a.map D.int)) (.lst (b.map D.int)) = .ok (.bl (!decide (a = b))) s := fNe_l (α := Int) (by decide)
theorem fIn_i {k : Int} {l : List Int} {b : Bool} : fIn b s (.int k) (.lst (l.map D.int)) = .ok (.bl (if b then !decide (k ∈ l) else decide (k ∈ l))) s := by
  have h : ∀ l : List Int, (l.map D.int).mapM flD = some (l.map V.int) := fun l => by
    induction l with
    | nil => rfl
    | cons a r ih => simp [List.mapM_cons, flD, ih]
  have h2 : ∀ l : List Int, inV (V.int k) (l.map V.int) = decide (k ∈ l) := fun l => by
    induction l with
    | nil => rfl
    | cons a r ih =>
      simp only [inV, List.map_cons, List.any_cons] at ih ⊢
      rw [ih, Bool.eq_iff_iff]
      simp [eqV, List.mem_cons]
      rw [eq_comm]
  simp only [fIn, flD, seqD, dr, Option.bind_some, h, h2]
theorem fIn_n {l : List Int} {b : Bool} : fIn b s .non (.lst (l.map D.int)) = .ok (.bl b) s := by
  have h : ∀ l : List Int, (l.map D.int).mapM flD = some (l.map V.int) := fun l => by
    induction l with
    | nil => rfl
    | cons a r ih => simp [List.mapM_cons, flD, ih]
  have h2 : ∀ l : List Int, inV V.non (l.map V.int) = false := fun l => by
    induction l with
    | nil => rfl
    | cons a r ih => simp only [inV, List.map_cons, List.any_cons] at ih ⊢; rw [ih]; simp [eqV]
  simp only [fIn, flD, seqD, dr, Option.bind_some, h, h2]
  cases b <;> rfl
end
/-! comprehensions, by weakest premises -/
section
variable {α β : Type} {env : Env} {s s1 : Store} {Q : D → Store → Prop} {X : Nat → Store → Prop} {N : Env → Store → Prop} {T : D → Store → Prop} {Y : Nat → Env → Store → Prop}
theorem W_eq0 {t : Type} {m : R t} {a : t} {s s1 : Store} (h : m.W (fun d s' => s' = s1 ∧ d = a) X0) : m = .ok a s1 := by
  obtain ⟨d, s', e, h1, h2⟩ := h.eq
  rw [e, h1, h2]
theorem lcE_eq {l : List α} {enc : α → D} {tg : Tg} {tt : Tx} {el : Ex} {vs : List Nat} (p : α → Bool) (f : α → D) (hi : ∀ i, Itr.at s1 (.seq (.lst (l.map enc))) i = some (l.map enc)[i]?)
    (he : ∀ a ∈ l, ∃ e1, tgE tg (enc a) (wipeE env vs) = some e1 ∧ (tt e1 s1).W (fun b s' => s' = s1 ∧ b = p a) X0 ∧ (p a = true → (el e1 s1).W (fun d s' => s' = s1 ∧ snk (fz d) = some (f a)) X0)) :
    ∀ (n i : Nat) (acc : List D), i ≤ l.length → l.length < n + i → acc.length + (l.length - i) ≤ 16777216 → lcX tg tt el vs (.seq (.lst (l.map enc))) n i acc env s1 = .ok (.own (.lst (acc ++ ((l.drop i).filter p).map f))) s1
  | 0, i, acc, h1, h2, _ => by omega
  | n + 1, i, acc, h1, h2, h3 => by
    have ha := hi i
    cases q : l[i]? with
    | none =>
      rw [List.getElem?_map, q] at ha
      have : l.length ≤ i := List.getElem?_eq_none_iff.mp q
      simp only [lcX, ha, Option.map_none]
      rw [List.drop_eq_nil_of_le this]
      simp
    | some x =>
      rw [List.getElem?_map, q] at ha
      obtain ⟨hlt, ex⟩ := List.getElem?_eq_some_iff.mp q
      obtain ⟨e1, k1, k2, k3⟩ := he x (List.mem_of_getElem? q)
      have hd : l.drop i = x :: l.drop (i + 1) := by rw [List.drop_eq_getElem_cons hlt, ex]
      have k2' := W_eq0 (s := s1) k2
      cases hp : p x with
      | false =>
        rw [hp] at k2'
        simp only [lcX, ha, k1, k2', Option.map_some]
        rw [lcE_eq p f hi he n (i + 1) acc (by omega) (by omega) (by omega), hd, List.filter_cons_of_neg (by rw [hp]; exact Bool.false_ne_true)]
      | true =>
        rw [hp] at k2'
        obtain ⟨d, s', k4, hs', k5⟩ := (k3 hp).eq
        rw [hs'] at k4
        simp only [lcX, ha, k1, k2', k4, k5, Option.map_some]
        rw [if_pos (by omega), lcE_eq p f hi he n (i + 1) (acc ++ [f x]) (by omega) (by omega) (by rw [List.length_append]; simp; omega), hd, List.filter_cons_of_pos hp]
        simp
/-- [el for tg in e if tt], over a list of typed items; nothing is changed by the parts -/
theorem w_lc {l : List α} {enc : α → D} {tg : Tg} {ix : Ix} {tt : Tx} {el : Ex} {vs : List Nat} (p : α → Bool) (f : α → D) (hx : (ix env s).W (fun it s' => s' = s1 ∧ it = .seq (.lst (l.map enc))) X0) (hl : l.length ≤ 16777216)
    (he : ∀ a ∈ l, ∃ e1, tgE tg (enc a) (wipeE env vs) = some e1 ∧ (tt e1 s1).W (fun b s' => s' = s1 ∧ b = p a) X0 ∧ (p a = true → (el e1 s1).W (fun d s' => s' = s1 ∧ snk (fz d) = some (f a)) X0))
    (hQ : Q (.own (.lst ((l.filter p).map f))) s1) : (eLc tg ix tt el vs env s).W Q X := by
  have e := W_eq0 (s := s1) hx
  have e2 : eLc tg ix tt el vs env s = .ok (.own (.lst ((l.filter p).map f))) s1 := by
    simp only [eLc, e, Itr.fuel, seqD, dr, Option.getD_some, List.length_map]
    rw [lcE_eq p f (fun i => rfl) he _ 0 [] (Nat.zero_le _) (by omega) (by simp; omega)]
    simp
  rw [e2]; exact .ok hQ
/-- .. with no test -/
theorem w_lcY {l : List α} {enc : α → D} {tg : Tg} {ix : Ix} {el : Ex} {vs : List Nat} (f : α → D) (hx : (ix env s).W (fun it s' => s' = s1 ∧ it = .seq (.lst (l.map enc))) X0) (hl : l.length ≤ 16777216)
    (he : ∀ a ∈ l, ∃ e1, tgE tg (enc a) (wipeE env vs) = some e1 ∧ (el e1 s1).W (fun d s' => s' = s1 ∧ snk (fz d) = some (f a)) X0)
    (hQ : Q (.own (.lst (l.map f))) s1) : (eLc tg ix tY el vs env s).W Q X := by
  refine w_lc (fun _ => true) f hx hl (fun a ha => ?_) (by rw [List.filter_eq_self.mpr (fun _ _ => rfl)]; exact hQ)
  obtain ⟨e1, h1, h2⟩ := he a ha
  exact ⟨e1, h1, we_tY.mpr ⟨rfl, rfl⟩, fun _ => h2⟩
/-! loops -/
theorem w_forN {n : Nat} {lo : Int} {j : Nat} {ix : Ix} {body : Sx} (I : Nat → Env → Store → Prop) (hx : (ix env s).W (fun it s' => s' = s1 ∧ it = .rng lo n) X0) (h0 : I 0 env s1)
    (hs : ∀ (i : Nat) e s, i < n → I i e s → (body (e.set j (some (.int (lo + (i : Nat))))) s).W (I (i + 1)) T Y) (hn : ∀ e s, I n e s → N e s) : (sFor (.nm j) ix body env s).W N T Y :=
  w_forR (W_eq0 (s := s1) hx) I h0 hs hn
theorem w_cut {m : SR} (M : Env → Store → Prop) (h : m.W M T Y) (k : ∀ e s, M e s → N e s) : m.W N T Y := h.imp k (fun _ _ h => h) (fun _ _ _ h => h)
theorem w_fnE {n K : Nat} {body : Sx} {args : List D} {d : D} {s s' : Store} (hl : args.length = n) (h : (body (args.map some ++ List.replicate (K - n) none) s).W (fun _ s2 => s2 = s' ∧ d = .non) (fun r s2 => s2 = s' ∧ r = d) Y0) : fnX n K body args s = .ok d s' := by
  refine W_eq0 (s := s) (w_fn hl rfl (h.imp (fun e s h => ⟨h.1, h.2.symm⟩) (fun _ _ h => h) (fun _ _ _ h => h)))
theorem w_fnW {n K : Nat} {body : Sx} {args : List D} {s : Store} (hl : args.length = n) (h : (body (args.map some ++ List.replicate (K - n) none) s).W (fun _ s2 => Q .non s2) Q (fun c _ s2 => X c s2)) : (fnX n K body args s).W Q X := w_fn hl rfl h
end
end Gm

set_option Elab.async false
set_option linter.all false
set_option maxRecDepth 100000
set_option autoImplicit false
namespace Gm
open PySem L2
/-! freezing and giving to the store -/
def fzO (o : Option (Option D)) (i : Nat) (env : Env) : Env := match o with
  | some (some (.own o)) => env.set i (some (fz (.own o)))
  | _ => env
theorem gFz_1 {i : Nat} {env : Env} {s : Store} : (gFz i env s).1 = fzO env[i]? i env := by
  unfold gFz fzO
  cases env[i]? with
  | none => rfl
  | some o => cases o with
    | none => rfl
    | some d => cases d <;> rfl
theorem gFz_2 {i : Nat} {env : Env} {s : Store} : (gFz i env s).2 = s := by
  unfold gFz
  cases env[i]? with
  | none => rfl
  | some o => cases o with
    | none => rfl
    | some d => cases d <;> rfl
section
variable {i : Nat} {env : Env} {s : Store} {N : Env → Store → Prop}
theorem fzO_o {o : O} : fzO (some (some (.own o))) i env = env.set i (some (fz (.own o))) := rfl
theorem fzO_l {x : List D} : fzO (some (some (.lst x))) i env = env := rfl
theorem fzO_d {x : List (Key × D)} : fzO (some (some (.dct x))) i env = env := rfl
theorem fzO_r {n : Nat} : fzO (some (some (.ref n))) i env = env := rfl
theorem fzO_i {n : Int} : fzO (some (some (.int n))) i env = env := rfl
theorem fzO_b {n : Bool} : fzO (some (some (.bl n))) i env = env := rfl
theorem fzO_t {n : List D} : fzO (some (some (.tup n))) i env = env := rfl
theorem fzO_n : fzO (some (some .non)) i env = env := rfl
theorem fzO_z : fzO (some none) i env = env := rfl
def adO (o : Option (Option D)) (i : Nat) (N : Env → Store → Prop) (env : Env) (s : Store) : Prop := match o with
  | some (some (.own o)) => N (env.set i (some (.ref s.length))) (s ++ [o])
  | _ => N env s
theorem adK_eq : adK i N env s ↔ adO env[i]? i N env s := by
  unfold adK gAd adO
  cases env[i]? with
  | none => rfl
  | some o => cases o with
    | none => rfl
    | some d => cases d <;> rfl
theorem adO_o {o : O} : adO (some (some (.own o))) i N env s ↔ N (env.set i (some (.ref s.length))) (s ++ [o]) := Iff.rfl
theorem adO_r {n : Nat} : adO (some (some (.ref n))) i N env s ↔ N env s := Iff.rfl
end
section
variable {s : Store} {i j : Int} {Q : D → Store → Prop} {X : Nat → Store → Prop}
theorem xEq_i : fEq s (.int i) (.int j) = .ok (.bl (decide (i = j))) s := by rw [fEq_i]; congr 2
theorem xNe_i : fNe s (.int i) (.int j) = .ok (.bl (!decide (i = j))) s := by rw [fNe_i]; congr 3
theorem xEq_b {a b : Bool} : fEq s (.bl a) (.bl b) = .ok (.bl (decide (a = b))) s := by cases a <;> cases b <;> rfl
theorem xNe_b {a b : Bool} : fNe s (.bl a) (.bl b) = .ok (.bl (!decide (a = b))) s := by cases a <;> cases b <;> rfl
theorem xEq_ni : fEq s .non (.int j) = .ok (.bl false) s := rfl
theorem xEq_in : fEq s (.int j) .non = .ok (.bl false) s := rfl
theorem xEq_nn : fEq s .non .non = .ok (.bl true) s := rfl
theorem xNe_ni : fNe s .non (.int j) = .ok (.bl true) s := rfl
theorem xNe_in : fNe s (.int j) .non = .ok (.bl true) s := rfl
theorem xNe_nn : fNe s .non .non = .ok (.bl false) s := rfl
theorem fNotN_r {n : Nat} : fNotN s (.ref n) .non = .ok (.bl true) s := rfl
theorem fNotN_l {n : List D} : fNotN s (.lst n) .non = .ok (.bl true) s := rfl
theorem fIsN_r {n : Nat} : fIsN s (.ref n) .non = .ok (.bl false) s := rfl
theorem fIsN_l {n : List D} : fIsN s (.lst n) .non = .ok (.bl false) s := rfl
theorem wf_eqS {x y : Str} (hx : PyData.strOk x = true) (hy : PyData.strOk y = true) : fEq s (.str x) (.str y) = .ok (.bl (x == y)) s := by
  rw [fEq_of (by unfold dOk; exact hx) (by unfold dOk; exact hy)]; rfl
theorem wf_neS {x y : Str} (hx : PyData.strOk x = true) (hy : PyData.strOk y = true) : fNe s (.str x) (.str y) = .ok (.bl (!(x == y))) s := by
  rw [fNe_of (by unfold dOk; exact hx) (by unfold dOk; exact hy)]; rfl
theorem fIsi_bb {b : Bool} : fIsi "bool" s (.bl b) = .ok (.bl true) s := rfl
theorem fIsi_ib {b : Bool} : fIsi "int" s (.bl b) = .ok (.bl true) s := rfl
theorem fIsi_bi : fIsi "bool" s (.int i) = .ok (.bl false) s := rfl
theorem fIsi_ii : fIsi "int" s (.int i) = .ok (.bl true) s := rfl
theorem fIsi_ll {x : List D} : fIsi "list" s (.lst x) = .ok (.bl true) s := rfl
theorem fIsi_bl {x : List D} : fIsi "list" s (.bor (.lst x)) = .ok (.bl true) s := rfl
theorem fIsi_tt {x : List D} : fIsi "tuple" s (.tup x) = .ok (.bl true) s := rfl
theorem rOk_eq : rOk i = true ↔ -4611686018427387904 ≤ i ∧ i < 4611686018427387904 := by unfold rOk; simp
theorem cMul_eq : cMul i j = true ↔ (-(18446744073709551616) < i ∧ i < 18446744073709551616) ∨ (-(18446744073709551616) < j ∧ j < 18446744073709551616) := by unfold cMul; simp
end
theorem at_map {α : Type} {f : α → D} {l : List α} {i : Int} {P : D → Prop} : asAt (atI (l.map f) i) P ↔ ∃ a, atI l i = some a ∧ P (f a) := by
  rw [atI_map]
  cases atI l i <;> simp [asAt]
theorem exEq {α : Type} {a : α} {P : α → Prop} : (∃ x, some a = some x ∧ P x) ↔ P a := by simp
theorem exEq1 {α : Type} {a : α} : (∃ x, some a = some x) ↔ True := by simp
theorem wf_allBg {α : Type} {g : α → Bool} {l : List α} {s : Store} {Q : D → Store → Prop} {X : Nat → Store → Prop} : (fAll s (.lst (l.map fun a => D.bl (g a)))).W Q X ↔ Q (.bl (l.all g)) s := by
  have : l.map (fun a => D.bl (g a)) = (l.map g).map D.bl := by simp
  rw [this, wf_allB, List.all_map]
  rfl
theorem wf_sumIg {α : Type} {g : α → Int} {l : List α} {s : Store} {Q : D → Store → Prop} {X : Nat → Store → Prop} : (fSum s (.lst (l.map fun a => D.int (g a)))).W Q X ↔ Q (.int (l.map g).sum) s := by
  have : l.map (fun a => D.int (g a)) = (l.map g).map D.int := by simp
  rw [this, wf_sumI]
theorem exEq' {α : Type} {a : α} {P : α → Prop} : (∃ x, a = x ∧ P x) ↔ P a := by simp
end Gm

set_option Elab.async false
set_option linter.all false
set_option maxRecDepth 100000
set_option autoImplicit false
namespace Gm
open PySem L2
/-! dicts with whole numbers as keys, typed -/
section
variable {β : Type} [En β]
def dic (l : List (Int × β)) : List (Key × D) := l.map fun p => (.inl p.1, En.e p.2)
def look {β : Type} (l : List (Int × β)) (k : Int) : Option β := (l.find? fun p => decide (p.1 = k)).map (·.2)
def putA {β : Type} (l : List (Int × β)) (k : Int) (v : β) : List (Int × β) := if (l.any fun p => decide (p.1 = k)) = true then l.map (fun p => if p.1 = k then (p.1, v) else p) else l ++ [(k, v)]
theorem valD_dic {l : List (Int × β)} {k : Int} : valD (dic l) (.inl k) = (look l k).map En.e := by
  unfold valD dic look
  rw [List.find?_map]
  have : ((fun p : Key × D => decide (p.1 = Sum.inl k)) ∘ fun p : Int × β => ((Sum.inl p.1 : Key), (En.e p.2 : D))) = fun p : Int × β => decide (p.1 = k) := by
    funext p
    rw [Bool.eq_iff_iff]
    simp
  rw [this]
  cases l.find? fun p => decide (p.1 = k) <;> rfl
theorem putD_dic {l : List (Int × β)} {k : Int} {v : β} : putD (dic l) (.inl k) (En.e v) = dic (putA l k v) := by
  unfold putD dic putA
  rw [List.any_map]
  have : ((fun p : Key × D => decide (p.1 = Sum.inl k)) ∘ fun p : Int × β => ((Sum.inl p.1 : Key), (En.e p.2 : D))) = fun p : Int × β => decide (p.1 = k) := by
    funext p
    rw [Bool.eq_iff_iff]
    simp
  rw [this]
  split
  · rw [List.map_map, List.map_map]
    refine List.map_congr_left fun p _ => ?_
    simp only [Function.comp]
    by_cases h : p.1 = k
    · rw [if_pos h, if_pos (by rw [h])]
    · rw [if_neg h, if_neg (fun z => h (Sum.inl.inj z))]
  · rw [List.map_append]; rfl
theorem putD_dicB {l : List (Int × Bool)} {k : Int} {v : Bool} : putD (dic l) (.inl k) (.bl v) = dic (putA l k v) := putD_dic
theorem putD_dicI {l : List (Int × Int)} {k : Int} {v : Int} : putD (dic l) (.inl k) (.int v) = dic (putA l k v) := putD_dic
theorem putD_dicL {γ : Type} [En γ] {l : List (Int × List γ)} {k : Int} {v : List γ} : putD (dic l) (.inl k) (.lst (v.map En.e)) = dic (putA l k v) := putD_dic
theorem look_isSome {β : Type} {l : List (Int × β)} {k : Int} : (look l k).isSome = true ↔ k ∈ l.map (·.1) := by
  unfold look
  rw [Option.isSome_map, List.find?_isSome]
  simp
theorem look_isSome' {β : Type} {l : List (Int × β)} {k : Int} : (look l k).isSome = decide (k ∈ l.map (·.1)) := by
  rw [Bool.eq_iff_iff, look_isSome, decide_eq_true_eq]
theorem dic_len {l : List (Int × β)} : (dic l).length = l.length := by simp [dic]
theorem dic_keys {l : List (Int × β)} : (dic l).map (fun p => keyD p.1) = (l.map (·.1)).map D.int := by simp [dic, keyD]
theorem asAt_m {t : Type} {o : Option t} {f : t → D} {P : D → Prop} : asAt (o.map f) P ↔ ∃ a, o = some a ∧ P (f a) := by cases o <;> simp [asAt]
theorem wg_dgD {l : List (Int × β)} {k : Int} {s : Store} {Q : D → Store → Prop} {X : Nat → Store → Prop} : (fDG s (.dct (dic l)) (.int k)).W Q X ↔ ∃ v, look l k = some v ∧ Q (En.e v) s := by rw [wf_dgD, valD_dic, asAt_m]
theorem wg_dgB {l : List (Int × β)} {k : Int} {s : Store} {Q : D → Store → Prop} {X : Nat → Store → Prop} : (fDG s (.bor (.dK (dic l))) (.int k)).W Q X ↔ ∃ v, look l k = some v ∧ Q (En.e v) s := by rw [wf_dgB, valD_dic, asAt_m]
theorem wg_dinD {l : List (Int × β)} {k : Int} {b : Bool} {s : Store} {Q : D → Store → Prop} {X : Nat → Store → Prop} : (fDIn b s (.int k) (.dct (dic l))).W Q X ↔ Q (.bl (if b then !decide (k ∈ l.map (·.1)) else decide (k ∈ l.map (·.1)))) s := by rw [wf_dinD, valD_dic, Option.isSome_map, look_isSome']
theorem wg_dinB {l : List (Int × β)} {k : Int} {b : Bool} {s : Store} {Q : D → Store → Prop} {X : Nat → Store → Prop} : (fDIn b s (.int k) (.bor (.dK (dic l)))).W Q X ↔ Q (.bl (if b then !decide (k ∈ l.map (·.1)) else decide (k ∈ l.map (·.1)))) s := by rw [wf_dinB, valD_dic, Option.isSome_map, look_isSome']
end
/-! a store that keeps what stood -/
def Keep (s s' : Store) : Prop := ∀ (m : Nat) (o : O), s[m]? = some o → s'[m]? = some o
theorem Keep.refl {s : Store} : Keep s s := fun _ _ h => h
theorem Keep.trans {s t u : Store} (a : Keep s t) (b : Keep t u) : Keep s u := fun m o h => b m o (a m o h)
theorem Keep.set {s t : Store} {n : Nat} {o : O} (a : Keep s t) (h : s.length ≤ n) : Keep s (t.set n o) := fun m u e => by
  have := (List.getElem?_eq_some_iff.mp e).1
  rw [List.getElem?_set_ne (by omega)]; exact a m u e
theorem Keep.app {s t : Store} {l : List O} (a : Keep s t) : Keep s (t ++ l) := fun m u e => by
  have h := a m u e
  rw [List.getElem?_append_left (List.getElem?_eq_some_iff.mp h).1]; exact h
theorem Keep.len {s t : Store} (a : Keep s t) : s.length ≤ t.length := by
  cases h : s.length with
  | zero => omega
  | succ n =>
    have : n < s.length := by omega
    have := a n _ (List.getElem?_eq_getElem this)
    have := (List.getElem?_eq_some_iff.mp this).1
    omega
/-! rising lists -/
end Gm

set_option Elab.async false
set_option linter.all false
set_option maxRecDepth 100000
set_option autoImplicit false
/-! lists and dicts of the store, classes: weakest premises -/
namespace Gm
open PySem L2
def adR (Q : D → Store → Prop) (d : D) (s : Store) : Prop := match d with
  | .own o => Q (.ref s.length) (s ++ [o])
  | d => Q d s
theorem adR_o {Q : D → Store → Prop} {o : O} {s : Store} : adR Q (.own o) s ↔ Q (.ref s.length) (s ++ [o]) := Iff.rfl
theorem adR_r {Q : D → Store → Prop} {n : Nat} {s : Store} : adR Q (.ref n) s ↔ Q (.ref n) s := Iff.rfl
theorem we_ad {e : Ex} {env : Env} {s : Store} {Q : D → Store → Prop} {X : Nat → Store → Prop} : (eAd e env s).W Q X ↔ (e env s).W (adR Q) X := by
  unfold eAd adR
  cases e env s with
  | ok d s1 => cases d <;> simp only [R.W_ok]
  | exc c s1 => simp only [R.W_exc]
  | no => simp only [R.W_no]
theorem ws_par {is : List Nat} {a : Ax} {env : Env} {s : Store} {N : Env → Store → Prop} {T : D → Store → Prop} {Y : Nat → Env → Store → Prop} : (sPar is a env s).W N T Y ↔ (a env s).W (fun ds s1 => asE (setsE is ds env) fun e => N e s1) (fun c s1 => Y c env s1) := by
  unfold sPar asE
  cases a env s with
  | ok d s1 => simp only [R.W_ok]; cases setsE is d env <;> simp only [SR.W_nx, SR.W_no]
  | exc c s1 => simp only [SR.W_exc, R.W_exc]
  | no => simp only [SR.W_no, R.W_no]
theorem setsE_2 {i j : Nat} {a b : D} {env : Env} : setsE [i, j] [a, b] env = some ((env.set i (some a)).set j (some b)) := rfl
def asRf (P : Nat → Prop) : D → Prop
  | .ref n => P n
  | _ => False
theorem asRf_r {P : Nat → Prop} {n : Nat} : asRf P (.ref n) ↔ P n := Iff.rfl
/-- a change of a list of the store, by its place -/
def liO (o : Option O) (f : List D → Option (List D)) (P : List D → Prop) : Prop := match o with
  | some (.lst xs) => (match f xs with
    | some ys => P ys
    | none => False)
  | _ => False
theorem liO_app {xs : List D} {d : D} {P : List D → Prop} : liO (some (.lst xs)) (fApp d) P ↔ xs.length < 16777216 ∧ P (xs ++ [d]) := by
  unfold liO fApp; by_cases h : xs.length < 16777216 <;> simp [h]
theorem liO_ext {xs zs : List D} {P : List D → Prop} : liO (some (.lst xs)) (fExt zs) P ↔ xs.length + zs.length ≤ 16777216 ∧ P (xs ++ zs) := by
  unfold liO fExt; by_cases h : xs.length + zs.length ≤ 16777216 <;> simp [h]
theorem liO_set {xs : List D} {k : Int} {d : D} {P : List D → Prop} : liO (some (.lst xs)) (fSetI k d) P ↔ ∃ j, ixN xs.length k = some j ∧ P (xs.set j d) := by
  unfold liO fSetI; dsimp only; cases ixN xs.length k <;> simp
theorem ws_subE {o j e : Ex} {env : Env} {s : Store} {N : Env → Store → Prop} {T : D → Store → Prop} {Y : Nat → Env → Store → Prop} : (sSubE o j e env s).W N T Y ↔ (e env s).W (fun x s1 => asK (fun d => (o env s1).W (fun y s2 => asRf (fun n => (j env s2).W (fun z s3 => asI (fun k => liO s3[n]? (fSetI k d) fun ys => N env (s3.set n (.lst ys))) z) (fun c s1 => Y c env s1)) y) (fun c s1 => Y c env s1)) x) (fun c s1 => Y c env s1) := by
  unfold sSubE
  cases e env s with
  | ok d s1 =>
    simp only [R.W_ok, asK]
    cases snk (fz d) with
    | none => simp only [SR.W_no]
    | some d' =>
      dsimp only
      cases o env s1 with
      | ok y s2 =>
        cases y with
        | ref n =>
          simp only [R.W_ok, asRf]
          cases j env s2 with
          | ok z s3 =>
            cases z with
            | int k =>
              simp only [R.W_ok, asI, liO]
              cases s3[n]? with
              | none => simp [SR.W_no]
              | some ob => cases ob with
                | lst xs => dsimp only; cases fSetI k d' xs <;> simp [SR.W_no, SR.W_nx]
                | _ => simp [SR.W_no]
            | _ => simp only [R.W_ok, asI, SR.W_no]
          | exc c s1 => simp only [SR.W_exc, R.W_exc]
          | no => simp only [SR.W_no, R.W_no]
        | _ => simp only [R.W_ok, asRf, SR.W_no]
      | exc c s1 => simp only [SR.W_exc, R.W_exc]
      | no => simp only [SR.W_no, R.W_no]
  | exc c s1 => simp only [SR.W_exc, R.W_exc]
  | no => simp only [SR.W_no, R.W_no]

section
variable {s : Store} {Q : D → Store → Prop} {X : Nat → Store → Prop} {N : Env → Store → Prop} {T : D → Store → Prop} {Y : Nat → Env → Store → Prop} {env : Env}
theorem snk_i {i : Int} : snk (.int i) = some (.int i) := rfl
theorem snk_b {i : Bool} : snk (.bl i) = some (.bl i) := rfl
theorem snk_n : snk .non = some .non := rfl
theorem snk_s {x : Str} : snk (.str x) = some (.str x) := rfl
theorem snk_t {x : List D} : snk (.tup x) = some (.tup x) := rfl
theorem snk_l {x : List D} : snk (.lst x) = some (.lst x) := rfl
theorem snk_d {x : List (Key × D)} : snk (.dct x) = some (.dct x) := rfl
theorem snk_r {n : Nat} : snk (.ref n) = some (.ref n) := rfl
theorem wf_liA {n : Nat} {b : D} : (fLiR gApp s (.ref n) b).W Q X ↔ asAt (snk b) fun d => liO s[n]? (fApp d) fun ys => Q .non (s.set n (.lst ys)) := by
  unfold fLiR gApp
  dsimp only
  cases s[n]? with
  | none => cases snk b <;> simp [R.W_no, asAt, liO]
  | some ob => cases ob with
    | lst xs =>
      cases snk b with
      | none => simp [R.W_no, asAt]
      | some d => simp only [Option.map_some, asAt, liO]; cases fApp d xs <;> simp [R.W_no, R.W_ok]
    | _ => cases snk b <;> simp [R.W_no, asAt, liO]
theorem wf_liE {n : Nat} {b : D} : (fLiR gExt s (.ref n) b).W Q X ↔ asL (drM s b) fun zs => liO s[n]? (fExt zs) fun ys => Q .non (s.set n (.lst ys)) := by
  unfold fLiR gExt
  dsimp only
  cases drM s b with
  | none => cases s[n]? with
    | none => simp [R.W_no, asL]
    | some ob => cases ob <;> simp [R.W_no, asL]
  | some oz => cases oz with
    | lst zs => cases s[n]? with
      | none => simp [R.W_no, asL, liO]
      | some ob => cases ob with
        | lst xs => simp only [asL, liO]; cases fExt zs xs <;> simp [R.W_no, R.W_ok]
        | _ => simp [R.W_no, asL, liO]
    | _ => cases s[n]? with
      | none => simp [R.W_no, asL]
      | some ob => cases ob <;> simp [R.W_no, asL]
theorem drM_r {n : Nat} : drM s (.ref n) = s[n]? := rfl
theorem we_meth2 {f : Store → D → D → D → R D} {a b c : Ex} : (eMeth2 f a b c env s).W Q X ↔ (a env s).W (fun x s1 => isLD s1 (fz x) = true ∧ (b env s1).W (fun y s2 => asK (fun y => (c env s2).W (fun z s3 => asK (fun z => (f s3 (fz x) y z).W Q X) z) X) y) X) X := by
  unfold eMeth2 asK
  cases a env s with
  | ok x s1 =>
    simp only [R.W_ok]
    by_cases h : isLD s1 (fz x) = true
    · simp only [h, if_true, true_and]
      cases b env s1 with
      | ok y s2 =>
        simp only [R.W_ok]
        cases snk (fz y) with
        | none => simp only [R.W_no]
        | some y' =>
          dsimp only
          cases c env s2 with
          | ok z s3 => simp only [R.W_ok]; cases snk (fz z) <;> simp only [R.W_no]
          | exc c s1 => simp only [R.W_exc]
          | no => simp only [R.W_no]
      | exc c s1 => simp only [R.W_exc]
      | no => simp only [R.W_no]
    · simp [h, R.W_no]
  | exc c s1 => simp only [R.W_exc]
  | no => simp only [R.W_no]
theorem wf_ins {n : Nat} {i : Int} {d : D} : (fIns s (.ref n) (.int i) d).W Q X ↔ asL s[n]? fun xs => (xs.length < 16777216 ∧ 0 ≤ i ∧ i < 9223372036854775808) ∧ Q .non (s.set n (.lst (xs.take i.toNat ++ [d] ++ xs.drop i.toNat))) := by
  unfold fIns asL
  dsimp only
  cases s[n]? with
  | none => simp [R.W_no]
  | some ob => cases ob with
    | lst xs => dsimp only; by_cases h : xs.length < 16777216 ∧ 0 ≤ i ∧ i < 9223372036854775808 <;> simp [h, R.W_no, R.W_ok]
    | _ => simp [R.W_no]
theorem wf_intB {b : Bool} : (fInt s (.bl b)).W Q X ↔ Q (.int (if b then 1 else 0)) s := R.W_ok
theorem wf_intI {i : Int} : (fInt s (.int i)).W Q X ↔ Q (.int i) s := R.W_ok
theorem wf_absI {i : Int} : (fAbs s (.int i)).W Q X ↔ Q (.int (if i < 0 then -i else i)) s := R.W_ok
/-! classes -/
def insO (o : Option O) (P : Nat → List (Str × D) → Prop) : Prop := match o with
  | some (.ins c fs) => P c fs
  | _ => False
theorem insO_s {c : Nat} {fs : List (Str × D)} {P : Nat → List (Str × D) → Prop} : insO (some (.ins c fs)) P ↔ P c fs := Iff.rfl
theorem wf_fld {cs : List Nat} {f : Str} {n : Nat} : (fFld cs f s (.ref n)).W Q X ↔ insO s[n]? fun c fs => cs.contains c = true ∧ asAt (fs.lookup f) fun d => Q d s := by
  unfold fFld insO
  dsimp only
  cases s[n]? with
  | none => simp [R.W_no]
  | some ob => cases ob with
    | ins c fs =>
      dsimp only
      by_cases h : cs.contains c = true
      · simp only [h, if_true, true_and, asAt]; cases fs.lookup f <;> simp [R.W_no, R.W_ok]
      · rw [if_neg h]; exact ⟨fun z => (R.W_no.mp z).elim, fun z => absurd z.1 h⟩
    | _ => simp [R.W_no]
theorem ws_fldX {cs : List Nat} {f : Str} {o e : Ex} : (sFldX cs f o e env s).W N T Y ↔ (e env s).W (fun x s1 => asK (fun d => (o env s1).W (fun y s2 => asRf (fun n => insO s2[n]? fun c fs => (cs.contains c = true ∧ fs.length < 1000) ∧ N env (s2.set n (.ins c (putFd f d fs)))) y) (fun c s1 => Y c env s1)) x) (fun c s1 => Y c env s1) := by
  unfold sFldX
  cases e env s with
  | ok d s1 =>
    simp only [R.W_ok, asK]
    cases snk (fz d) with
    | none => simp only [SR.W_no]
    | some d' =>
      dsimp only
      cases o env s1 with
      | ok y s2 =>
        cases y with
        | ref n =>
          simp only [R.W_ok, asRf, insO]
          cases s2[n]? with
          | none => simp [SR.W_no]
          | some ob => cases ob with
            | ins c fs =>
              dsimp only
              by_cases h : cs.contains c = true ∧ fs.length < 1000
              · rw [if_pos h]; simp only [SR.W_nx, h, and_self, true_and]
              · rw [if_neg h]; simp only [SR.W_no, h, false_and]
            | _ => simp [SR.W_no]
        | _ => simp only [R.W_ok, asRf, SR.W_no]
      | exc c s1 => simp only [SR.W_exc, R.W_exc]
      | no => simp only [SR.W_no, R.W_no]
  | exc c s1 => simp only [SR.W_exc, R.W_exc]
  | no => simp only [SR.W_no, R.W_no]
theorem we_methC {c : Nat} {m : Str} {F : Fx} {o : Ex} {a : Ax} : (eMethC c m F o a env s).W Q X ↔ (o env s).W (fun y s1 => asRf (fun n => insO s1[n]? fun c' fs => (c' = c ∧ fs.lookup m = none) ∧ (a env s1).W (fun ds s2 => (F (.ref n :: ds) s2).W Q X) X) y) X := by
  unfold eMethC
  cases o env s with
  | ok y s1 =>
    cases y with
    | ref n =>
      simp only [R.W_ok, asRf, insO]
      cases s1[n]? with
      | none => simp [R.W_no]
      | some ob => cases ob with
        | ins c' fs =>
          dsimp only
          by_cases h : c' = c ∧ fs.lookup m = none
          · rw [if_pos h]; simp only [h, and_self, true_and]; cases a env s1 <;> simp only [R.W_ok, R.W_exc, R.W_no]
          · rw [if_neg h]; simp only [R.W_no, h, false_and]
        | _ => simp [R.W_no]
    | _ => simp only [R.W_ok, asRf, R.W_no]
  | exc c s1 => simp only [R.W_exc]
  | no => simp only [R.W_no]
def asN (d : D) (P : Prop) : Prop := match d with
  | .non => P
  | _ => False
theorem asN_n {P : Prop} : asN .non P ↔ P := Iff.rfl
theorem we_make {c : Nat} {F : Fx} {a : Ax} : (eMake c F a env s).W Q X ↔ (a env s).W (fun ds s1 => (F (.ref s1.length :: ds) (s1 ++ [.ins c []])).W (fun d s2 => asN d (Q (.ref s1.length) s2)) X) X := by
  unfold eMake
  cases a env s with
  | ok ds s1 =>
    simp only [R.W_ok]
    cases F (.ref s1.length :: ds) (s1 ++ [.ins c []]) with
    | ok d s2 => cases d <;> simp only [R.W_ok, R.W_no, asN]
    | exc c s1 => simp only [R.W_exc]
    | no => simp only [R.W_no]
  | exc c s1 => simp only [R.W_exc]
  | no => simp only [R.W_no]
theorem wf_isiC {l : List (Nat × Bool)} {n : Nat} : (fIsiC l s (.ref n)).W Q X ↔ insO s[n]? fun c _ => ∃ b, l.lookup c = some b ∧ Q (.bl b) s := by
  unfold fIsiC insO
  dsimp only
  cases s[n]? with
  | none => simp [R.W_no]
  | some ob => cases ob with
    | ins c fs => dsimp only; cases l.lookup c <;> simp [R.W_no, R.W_ok]
    | _ => simp [R.W_no]
def asD (o : Option O) (P : List (Key × D) → Prop) : Prop := match o with
  | some (.dK xs) => P xs
  | _ => False
theorem asD_s {xs : List (Key × D)} {P : List (Key × D) → Prop} : asD (some (.dK xs)) P ↔ P xs := Iff.rfl
theorem ws_dpE {o j e : Ex} : (sDPE o j e env s).W N T Y ↔ (e env s).W (fun x s1 => asK (fun d => (o env s1).W (fun y s2 => asRf (fun n => (j env s2).W (fun z s3 => asKy (fun k => asD s3[n]? fun xs => xs.length < 16777216 ∧ N env (s3.set n (.dK (putD xs k d)))) z) (fun c s1 => Y c env s1)) y) (fun c s1 => Y c env s1)) x) (fun c s1 => Y c env s1) := by
  unfold sDPE
  cases e env s with
  | ok d s1 =>
    simp only [R.W_ok, asK]
    cases snk (fz d) with
    | none => simp only [SR.W_no]
    | some d' =>
      dsimp only
      cases o env s1 with
      | ok y s2 =>
        cases y with
        | ref n =>
          simp only [R.W_ok, asRf]
          cases j env s2 with
          | ok z s3 =>
            simp only [R.W_ok, asKy, asD]
            cases kD z with
            | none => simp [SR.W_no]
            | some k => cases s3[n]? with
              | none => simp [SR.W_no]
              | some ob => cases ob with
                | dK xs => dsimp only; by_cases h : xs.length < 16777216 <;> simp [h, SR.W_no, SR.W_nx]
                | _ => simp [SR.W_no]
          | exc c s1 => simp only [SR.W_exc, R.W_exc]
          | no => simp only [SR.W_no, R.W_no]
        | _ => simp only [R.W_ok, asRf, SR.W_no]
      | exc c s1 => simp only [SR.W_exc, R.W_exc]
      | no => simp only [SR.W_no, R.W_no]
  | exc c s1 => simp only [SR.W_exc, R.W_exc]
  | no => simp only [SR.W_no, R.W_no]
theorem we_dpop {o j : Ex} : (eDPop o j env s).W Q X ↔ (o env s).W (fun y s1 => asRf (fun n => asD s1[n]? fun _ => (j env s1).W (fun z s2 => asKy (fun k => asD s2[n]? fun xs => asAt (valD xs k) fun d => Q d (s2.set n (.dK (dropD xs k)))) (fz z)) X) y) X := by
  unfold eDPop
  cases o env s with
  | ok y s1 =>
    cases y with
    | ref n =>
      simp only [R.W_ok, asRf, asD]
      cases s1[n]? with
      | none => simp [R.W_no]
      | some ob => cases ob with
        | dK xs =>
          dsimp only
          cases j env s1 with
          | ok z s2 =>
            simp only [R.W_ok, asKy]
            cases kD (fz z) with
            | none => simp [R.W_no]
            | some k => cases s2[n]? with
              | none => simp [R.W_no]
              | some ob => cases ob with
                | dK xs => dsimp only; cases valD xs k <;> simp [R.W_no, R.W_ok, asAt]
                | _ => simp [R.W_no]
          | exc c s1 => simp only [R.W_exc]
          | no => simp only [R.W_no]
        | _ => simp [R.W_no]
    | _ => simp only [R.W_ok, asRf, R.W_no]
  | exc c s1 => simp only [R.W_exc]
  | no => simp only [R.W_no]
end
/-! try with a name -/
def trC (o : Option Bool) (A B : Prop) : Prop := match o with
  | some true => A
  | some false => B
  | none => False
theorem trC_t {A B : Prop} : trC (some true) A B ↔ A := Iff.rfl
theorem trC_f {A B : Prop} : trC (some false) A B ↔ B := Iff.rfl
section
variable {env : Env} {s : Store} {N : Env → Store → Prop} {T : D → Store → Prop} {Y : Nat → Env → Store → Prop}
theorem ws_tryAs {i : Nat} {ct : List Bool} {body : Sx} {suite : Nat → Sx} : (sTryAs i ct body suite env s).W N T Y ↔ (body env s).W N T (fun k e s' => trC ct[k]? (noX e = true ∧ (suite k (e.set i (some .exn)) s').W (fun e2 s2 => noX (e2.set i none) = true ∧ N (e2.set i none) s2) T Y0) (Y k e s')) := by
  unfold sTryAs trC
  cases body env s with
  | exc k e s' =>
    simp only [SR.W_exc]
    cases ct[k]? with
    | none => simp only [SR.W_no]
    | some b =>
      cases b with
      | false => simp only [SR.W_exc]
      | true =>
        dsimp only
        by_cases h : noX e = true
        · simp only [h, if_true, true_and]
          cases suite k (e.set i (some .exn)) s' with
          | nx e2 s2 => dsimp only; simp only [SR.W_nx]; by_cases h2 : noX (e2.set i none) = true <;> simp [h2, SR.W_nx, SR.W_no]
          | rt d s2 => simp only [SR.W_rt]
          | exc => simp only [SR.W_no, SR.W_exc, Y0]
          | bk => simp only [SR.W_no, SR.W_bk]
          | ct => simp only [SR.W_no, SR.W_ct]
          | no => simp only [SR.W_no]
        · rw [if_neg h]; exact ⟨fun z => (SR.W_no.mp z).elim, fun z => absurd z.1 h⟩
  | nx e s' => simp only [SR.W_nx]
  | rt d s' => simp only [SR.W_rt]
  | bk e s' => simp only [SR.W_bk]
  | ct e s' => simp only [SR.W_ct]
  | no => simp only [SR.W_no]
theorem noX_0 : noX [] = true := rfl
theorem noX_no {e : Env} : noX (none :: e) = noX e := rfl
theorem noX_i {e : Env} {i : Int} : noX (some (.int i) :: e) = noX e := rfl
theorem noX_b {e : Env} {i : Bool} : noX (some (.bl i) :: e) = noX e := rfl
theorem noX_n {e : Env} : noX (some .non :: e) = noX e := rfl
theorem noX_s {e : Env} {i : Str} : noX (some (.str i) :: e) = noX e := rfl
theorem noX_t {e : Env} {i : List D} : noX (some (.tup i) :: e) = noX e := rfl
theorem noX_l {e : Env} {i : List D} : noX (some (.lst i) :: e) = noX e := rfl
theorem noX_d {e : Env} {i : List (Key × D)} : noX (some (.dct i) :: e) = noX e := rfl
theorem noX_r {e : Env} {i : Nat} : noX (some (.ref i) :: e) = noX e := rfl
theorem noX_o {e : Env} {i : O} : noX (some (.own i) :: e) = noX e := rfl
theorem noX_c {e : Env} {i : List Int} : noX (some (.scr i) :: e) = noX e := rfl
theorem noX_e {e : Env} : noX (some .exn :: e) = false := rfl
def isx (a : Option (Option D)) (b : Option Bool) (P : Bool → Prop) : Prop := match a, b with
  | some (some .exn), some b => P b
  | _, _ => False
theorem isx_s {b : Bool} {P : Bool → Prop} : isx (some (some .exn)) (some b) P ↔ P b := Iff.rfl
theorem we_isX {l : List Bool} {k i : Nat} {Q : D → Store → Prop} {X : Nat → Store → Prop} : (eIsX l k i env s).W Q X ↔ isx env[i]? l[k]? fun b => Q (.bl b) s := by
  unfold eIsX isx
  cases env[i]? with
  | none => simp [R.W_no]
  | some o => cases o with
    | none => simp [R.W_no]
    | some d => cases d <;> cases l[k]? <;> simp [R.W_no, R.W_ok]
end
theorem adO_t {i : Nat} {xs : List D} {N : Env → Store → Prop} {e : Env} {s : Store} : adO (some (some (.tup xs))) i N e s ↔ N e s := Iff.rfl
theorem adO_i {i : Nat} {xs : Int} {N : Env → Store → Prop} {e : Env} {s : Store} : adO (some (some (.int xs))) i N e s ↔ N e s := Iff.rfl
theorem adO_b {i : Nat} {xs : Bool} {N : Env → Store → Prop} {e : Env} {s : Store} : adO (some (some (.bl xs))) i N e s ↔ N e s := Iff.rfl
theorem adO_n {i : Nat} {N : Env → Store → Prop} {e : Env} {s : Store} : adO (some (some .non)) i N e s ↔ N e s := Iff.rfl
theorem adO_st {i : Nat} {xs : Str} {N : Env → Store → Prop} {e : Env} {s : Store} : adO (some (some (.str xs))) i N e s ↔ N e s := Iff.rfl
theorem adO_l {i : Nat} {xs : List D} {N : Env → Store → Prop} {e : Env} {s : Store} : adO (some (some (.lst xs))) i N e s ↔ N e s := Iff.rfl
/-! a comprehension whose parts change the store -/
/-! forks whose branches wait until the test is known -/
def Dm (_A _B : Prop) : Type := Unit
def aTz (k : Bool) (A B : Prop) (_u : Dm A B) : Prop := aT k A B
def dm {A B : Prop} : Dm A B := ()
section
variable {env : Env} {s : Store} {N : Env → Store → Prop} {T : D → Store → Prop} {Y : Nat → Env → Store → Prop} {X : Nat → Store → Prop}
theorem aTz_t {A B : Prop} {u : Dm A B} : aTz true A B u ↔ A := aT_t
theorem aTz_f {A B : Prop} {u : Dm A B} : aTz false A B u ↔ B := aT_f
theorem aTz_d {A B p : Prop} [Decidable p] {u : Dm A B} : aTz (decide p) A B u ↔ (p → A) ∧ (¬ p → B) := aT_d
theorem aTz_n {A B : Prop} {k : Bool} {u : Dm A B} : aTz (!k) A B u ↔ aTz k B A dm := aT_n
theorem aTz_and {A B : Prop} {k l : Bool} {u : Dm A B} : aTz (k && l) A B u ↔ aTz k (aTz l A B dm) B dm := aT_and
theorem aTz_or {A B : Prop} {k l : Bool} {u : Dm A B} : aTz (k || l) A B u ↔ aTz k A (aTz l A B dm) dm := aT_or
theorem wz_andX {a b : Tx} {Q : Bool → Store → Prop} : (tAndX a b env s).W Q X ↔ (a env s).W (fun k s1 => aTz k ((b env s1).W Q X) (Q false s1) dm) X := we_andX
theorem wz_orX {a b : Tx} {Q : Bool → Store → Prop} : (tOrX a b env s).W Q X ↔ (a env s).W (fun k s1 => aTz k (Q true s1) ((b env s1).W Q X) dm) X := we_orX
theorem wz_and {a b : Ex} {Q : D → Store → Prop} : (eAnd a b env s).W Q X ↔ (tq a env s).W (fun k s1 => aTz k ((b env s1).W Q X) (Q (.bl false) s1) dm) X := we_and
theorem wz_or {a b : Ex} {Q : D → Store → Prop} : (eOr a b env s).W Q X ↔ (tq a env s).W (fun k s1 => aTz k (Q (.bl true) s1) ((b env s1).W Q X) dm) X := we_or
theorem wz_eif {c : Tx} {a b : Ex} {Q : D → Store → Prop} : (eIf c a b env s).W Q X ↔ (c env s).W (fun k s1 => aTz k ((a env s1).W Q X) ((b env s1).W Q X) dm) X := we_if
theorem wz_if {c : Tx} {a b : Sx} : (sIf c a b env s).W N T Y ↔ (c env s).W (fun k s1 => aTz k ((a env s1).W N T Y) ((b env s1).W N T Y) dm) (fun c s1 => Y c env s1) := ws_if
end
/-! sorted pairs -/
theorem wf_sortP {ps : List (Int × Int)} {s : Store} {Q : D → Store → Prop} {X : Nat → Store → Prop} : (fSortP s (.lst (ps.map e2))).W Q X ↔ Q (.own (.lst ((sortP ps).map e2))) s := by
  simp only [fSortP, lsD, dr, Option.bind_some, prsD_map, R.W_ok]
/-! try with several clauses -/
def trW (N : Env → Store → Prop) (T : D → Store → Prop) (Y : Nat → Env → Store → Prop) : List (List Bool × Sx) → Nat → Env → Store → Prop
  | [], k, e, s => Y k e s
  | (ct, m) :: r, k, e, s => trC ct[k]? (noX e = true ∧ (m e s).W (fun e2 s2 => noX e2 = true ∧ N e2 s2) T Y0) (trW N T Y r k e s)
section
variable {env : Env} {s : Store} {N : Env → Store → Prop} {T : D → Store → Prop} {Y : Nat → Env → Store → Prop}
theorem trM_W : ∀ {cs : List (List Bool × Sx)} {k : Nat} {e : Env} {s : Store}, (trM cs k e s).W N T Y ↔ trW N T Y cs k e s
  | [], k, e, s => by unfold trM trW; exact SR.W_exc
  | (ct, m) :: r, k, e, s => by
    unfold trM trW trC
    cases ct[k]? with
    | none => simp only [SR.W_no]
    | some b =>
      cases b with
      | false => exact trM_W
      | true =>
        dsimp only
        by_cases h : noX e = true
        · simp only [h, if_true, true_and]
          cases m e s with
          | nx e2 s2 => dsimp only; simp only [SR.W_nx]; by_cases h2 : noX e2 = true <;> simp [h2, SR.W_nx, SR.W_no]
          | rt d s2 => simp only [SR.W_rt]
          | exc => simp only [SR.W_no, SR.W_exc, Y0]
          | bk => simp only [SR.W_no, SR.W_bk]
          | ct => simp only [SR.W_no, SR.W_ct]
          | no => simp only [SR.W_no]
        · rw [if_neg h]; exact ⟨fun z => (SR.W_no.mp z).elim, fun z => absurd z.1 h⟩
theorem ws_tryM {cs : List (List Bool × Sx)} {body : Sx} : (sTryM cs body env s).W N T Y ↔ (body env s).W N T (trW N T Y cs) := by
  unfold sTryM
  cases body env s with
  | exc k e s' => simp only [SR.W_exc]; exact trM_W
  | nx e s' => simp only [SR.W_nx]
  | rt d s' => simp only [SR.W_rt]
  | bk e s' => simp only [SR.W_bk]
  | ct e s' => simp only [SR.W_ct]
  | no => simp only [SR.W_no]
theorem trW_nil {k : Nat} {e : Env} : trW N T Y [] k e s ↔ Y k e s := Iff.rfl
theorem trW_cons {ct : List Bool} {m : Sx} {r : List (List Bool × Sx)} {k : Nat} {e : Env} : trW N T Y ((ct, m) :: r) k e s ↔ trC ct[k]? (noX e = true ∧ (m e s).W (fun e2 s2 => noX e2 = true ∧ N e2 s2) T Y0) (trW N T Y r k e s) := Iff.rfl
end
theorem atI_3 {t : Type} {a b c d : t} {xs : List t} : atI (a :: b :: c :: d :: xs) 3 = some d := atI_nat (j := 3) rfl
end Gm

set_option Elab.async false
set_option linter.all false
set_option maxRecDepth 100000
set_option autoImplicit false
/-! weakest premises: list(range), zip; sequences of either kind -/
namespace Gm
open PySem L2
section
variable {s s1 : Store} {env : Env} {Q : D → Store → Prop} {X : Nat → Store → Prop} {N : Env → Store → Prop} {T : D → Store → Prop} {Y : Nat → Env → Store → Prop}
theorem wf_rngL {j : Int} : (fRngL s (.int j)).W Q X ↔ (rOk j = true ∧ j ≤ 16777216) ∧ Q (.own (.lst ((List.range j.toNat).map fun i : Nat => D.int (i : Int)))) s := by
  unfold fRngL
  dsimp only
  by_cases h : rOk j = true ∧ j ≤ 16777216
  · rw [if_pos h]; simp [h, R.W_ok]
  · rw [if_neg h]; simp [h, R.W_no]
/-- a list, as a value or in the store -/
def SqOf (s : Store) (d : D) (xs : List D) : Prop := d = .lst xs ∨ ∃ n, d = .ref n ∧ s[n]? = some (.lst xs)
theorem SqOf.pl {d : D} {xs : List D} (h : SqOf s d xs) : plainD d = true := by rcases h with rfl | ⟨n, rfl, _⟩ <;> rfl
theorem SqOf.dr {d : D} {xs : List D} (h : SqOf s d xs) : Gm.dr s d = some (.lst xs) := by
  rcases h with rfl | ⟨n, rfl, e⟩
  · rfl
  · exact e
theorem SqOf.seq {d : D} {xs : List D} (h : SqOf s d xs) : seqD s d = some xs := by
  rcases h with rfl | ⟨n, rfl, e⟩
  · rfl
  · simp only [seqD, Gm.dr, e]
theorem SqOf.len {d : D} {xs : List D} (h : SqOf s d xs) : fLen s d = .ok (.int xs.length) s := by
  rcases h with rfl | ⟨n, rfl, e⟩
  · rfl
  · simp only [fLen, Gm.dr, e]
theorem SqOf.ix {d x : D} {xs : List D} {i : Int} (h : SqOf s d xs) (hi : atI xs i = some x) : fIx s d (.int i) = .ok x s := by
  rcases h with rfl | ⟨n, rfl, e⟩
  · simp only [fIx, Gm.dr, hi]
  · simp only [fIx, Gm.dr, e, hi]
end
def exq (o : Option (Option D)) (P : Prop) : Prop := match o with
  | some (some .exn) => P
  | _ => False
theorem exq_s {P : Prop} : exq (some (some .exn)) P ↔ P := Iff.rfl
theorem we_callX {F : Fx} {i : Nat} {env : Env} {s : Store} {Q : D → Store → Prop} {X : Nat → Store → Prop} : (eCallX F i env s).W Q X ↔ exq env[i]? ((F [.exn] s).W Q X) := by
  unfold eCallX exq
  cases env[i]? with
  | none => simp [R.W_no]
  | some o => cases o with
    | none => simp [R.W_no]
    | some d => cases d <;> simp [R.W_no]
section
variable {s s1 : Store} {env : Env} {Q : D → Store → Prop} {X : Nat → Store → Prop} {N : Env → Store → Prop} {T : D → Store → Prop} {Y : Nat → Env → Store → Prop}
end
section
variable {s : Store} {Q : D → Store → Prop} {X : Nat → Store → Prop}
end
end Gm

set_option Elab.async false
set_option linter.all false
set_option maxRecDepth 100000
set_option autoImplicit false
/-! weakest premises: d.get(k) -/
namespace Gm
open PySem L2
section
variable {s : Store} {env : Env} {Q : D → Store → Prop} {X : Nat → Store → Prop} {β : Type} [En β]
theorem isDcD_t {kv : List (Key × D)} : isDcD s (.dct kv) = true := by simp only [isDcD, drM, dr]
end
/-! dicts of pairs; triples sorted -/
def asT : Option O → (List (Int × Int) → Prop) → Prop
  | some (.dT ks), f => f ks
  | _, _ => False
def asKT (f : Int × Int → Prop) (d : D) : Prop := match kT d with
  | some k => f k
  | none => False
section
variable {s : Store} {env : Env} {Q : D → Store → Prop} {X : Nat → Store → Prop} {N : Env → Store → Prop} {T : D → Store → Prop} {Y : Nat → Env → Store → Prop}
theorem asT_s {ks : List (Int × Int)} {f : List (Int × Int) → Prop} : asT (some (.dT ks)) f ↔ f ks := Iff.rfl
theorem asKT_t {i j : Int} {f : Int × Int → Prop} : asKT f (.tup [.int i, .int j]) ↔ f (i, j) := Iff.rfl
theorem we_dctT : (eDctT env s).W Q X ↔ Q (.ref s.length) (s ++ [.dT []]) := by simp only [eDctT, R.W_ok]
theorem wf_dTin {i j : Int} {n : Nat} {b : Bool} : (fDTIn b s (.tup [.int i, .int j]) (.ref n)).W Q X ↔ asT s[n]? fun ks => Q (.bl (if b then !decide ((i, j) ∈ ks) else decide ((i, j) ∈ ks))) s := by
  simp only [fDTIn, kT, dTs]
  cases s[n]? with
  | none => simp [asT, R.W_no]
  | some o => cases o <;> simp [asT, R.W_no, R.W_ok]
theorem wf_dTlist {n : Nat} : (fDTList s (.ref n)).W Q X ↔ asT s[n]? fun ks => Q (.own (.lst (ks.map e2))) s := by
  simp only [fDTList, dTs]
  cases s[n]? with
  | none => simp [asT, R.W_no]
  | some o =>
    cases o with
    | dT ks => simp only [R.W_ok]; exact Iff.rfl
    | _ => simp [asT, R.W_no]
theorem ws_dTE {o j e : Ex} : (sDTE o j e env s).W N T Y ↔ (e env s).W (fun x s1 => fz x = .bl true ∧ (o env s1).W (fun y s2 => asRf (fun n => (j env s2).W (fun z s3 => asKT (fun k => asT s3[n]? fun ks => ks.length < 16777216 ∧ N env (s3.set n (.dT (putT ks k)))) z) (fun c s1 => Y c env s1)) y) (fun c s1 => Y c env s1)) (fun c s1 => Y c env s1) := by
  unfold sDTE
  cases e env s with
  | ok d s1 =>
    simp only [R.W_ok]
    cases fz d with
    | bl b =>
      cases b with
      | false => simp [SR.W_no]
      | true =>
        simp only [true_and]
        cases o env s1 with
        | ok y s2 =>
          cases y with
          | ref n =>
            simp only [R.W_ok, asRf]
            cases j env s2 with
            | ok z s3 =>
              simp only [R.W_ok, asKT]
              cases kT z with
              | none => simp [SR.W_no]
              | some k =>
                simp only
                cases s3[n]? with
                | none => simp [asT, SR.W_no]
                | some ob =>
                  cases ob with
                  | dT ks => dsimp only [asT]; by_cases h : ks.length < 16777216 <;> simp [h, SR.W_no, SR.W_nx]
                  | _ => simp [asT, SR.W_no]
            | exc c s1 => simp only [SR.W_exc, R.W_exc]
            | no => simp only [SR.W_no, R.W_no]
          | _ => simp only [R.W_ok, asRf, SR.W_no]
        | exc c s1 => simp only [SR.W_exc, R.W_exc]
        | no => simp only [SR.W_no, R.W_no]
    | _ => simp [SR.W_no]
  | exc c s1 => simp only [SR.W_exc, R.W_exc]
  | no => simp only [SR.W_no, R.W_no]
theorem we_dTpop {o j : Ex} : (eDTPop o j env s).W Q X ↔ (o env s).W (fun y s1 => asRf (fun n => asT s1[n]? fun _ => (j env s1).W (fun z s2 => asKT (fun k => asT s2[n]? fun ks => k ∈ ks ∧ Q (.bl true) (s2.set n (.dT (dropT ks k)))) (fz z)) X) y) X := by
  unfold eDTPop
  cases o env s with
  | ok y s1 =>
    cases y with
    | ref n =>
      simp only [R.W_ok, asRf]
      cases s1[n]? with
      | none => simp [asT, R.W_no]
      | some ob => cases ob with
        | dT xs =>
          dsimp only [asT]
          cases j env s1 with
          | ok z s2 =>
            simp only [R.W_ok, asKT]
            cases kT (fz z) with
            | none => simp [R.W_no]
            | some k =>
              simp only
              cases s2[n]? with
              | none => simp [R.W_no]
              | some ob2 =>
                cases ob2 with
                | dT ks => dsimp only; by_cases h : k ∈ ks <;> simp [h, R.W_no, R.W_ok]
                | _ => simp [R.W_no]
          | exc c s1 => simp only [R.W_exc]
          | no => simp only [R.W_no]
        | _ => simp [asT, R.W_no]
    | _ => simp only [R.W_ok, asRf, R.W_no]
  | exc c s1 => simp only [R.W_exc]
  | no => simp only [R.W_no]
end
end Gm

set_option Elab.async false
set_option linter.all false
set_option maxRecDepth 100000
set_option autoImplicit false
/-! weakest premises of the words of texts -/
namespace Gm
open PySem L2
def asS (P : Str → Prop) : D → Prop
  | .str x => P x
  | _ => False
/-- the signs of a text, each a text -/
def sgn (x : Str) : List Str := x.cps.toList.map fun c => (⟨#[c]⟩ : Str)
theorem sgD_eq {x : Str} : sgD x = (sgn x).map D.str := by simp only [sgD, sgn, List.map_map]; rfl
section
variable {s : Store} {env : Env} {Q : D → Store → Prop} {X : Nat → Store → Prop}
theorem asS_s {P : Str → Prop} {x : Str} : asS P (.str x) ↔ P x := Iff.rfl
theorem strsD_map : ∀ {ys : List Str}, strsD (ys.map D.str) = some ys
  | [] => rfl
  | y :: r => by show (strsD (r.map D.str)).map (y :: ·) = some (y :: r); rw [strsD_map]; rfl
theorem we_ms {f : Store → D → D → R D} {a b : Ex} : (eMS f a b env s).W Q X ↔ (a env s).W (fun x s1 => asS (fun z => (b env s1).W (fun y s2 => (f s2 (.str z) (fz y)).W Q X) X) x) X := by
  unfold eMS
  cases a env s with
  | ok x s1 =>
    simp only [R.W_ok]
    cases x with
    | str z =>
      simp only [asS]
      cases b env s1 with
      | ok y s2 => simp only [R.W_ok]
      | exc c s2 => simp only [R.W_exc]
      | no => simp only [R.W_no]
    | _ => simp only [asS, R.W_no]
  | exc c s1 => simp only [R.W_exc]
  | no => simp only [R.W_no]
theorem we_slS {a : Ex} {l h : Ox} : (eSlS a l h env s).W Q X ↔ (a env s).W (fun x s1 => (l env s1).W (fun i s2 => (h env s2).W (fun j s3 => (fSlS s3 (fz x) i j).W Q X) X) X) X := by
  unfold eSlS
  cases a env s with
  | ok x s1 =>
    simp only [R.W_ok]
    cases l env s1 with
    | ok i s2 =>
      simp only [R.W_ok]
      cases h env s2 with
      | ok j s3 => simp only [R.W_ok]
      | exc c s3 => simp only [R.W_exc]
      | no => simp only [R.W_no]
    | exc c s2 => simp only [R.W_exc]
    | no => simp only [R.W_no]
  | exc c s1 => simp only [R.W_exc]
  | no => simp only [R.W_no]
theorem wi_txt {Q : Itr → Store → Prop} {a : Ex} : (iTxt a env s).W Q X ↔ (a env s).W (fun x s1 => asS (fun z => Q (.seq (.tup ((sgn z).map D.str))) s1) x) X := by
  unfold iTxt
  cases a env s with
  | ok x s1 =>
    simp only [R.W_ok]
    cases x with
    | str z => simp only [asS, R.W_ok, sgD_eq]
    | _ => simp only [asS, R.W_no]
  | exc c s1 => simp only [R.W_exc]
  | no => simp only [R.W_no]
theorem wf_splt {x y : Str} : (fSplt s (.str x) (.str y)).W Q X ↔ ((y.length == 0) = false ∧ x.length ≤ 100000) ∧ Q (.own (.lst ((Txt.split x y).map D.str))) s := by
  unfold fSplt
  by_cases h : (y.length == 0) = false ∧ x.length ≤ 100000
  · simp only [if_pos h, R.W_ok]; exact ⟨fun q => ⟨h, q⟩, fun q => q.2⟩
  · simp only [if_neg h, R.W_no]; exact ⟨fun q => q.elim, fun q => absurd q.1 h⟩
theorem wf_part {x y : Str} : (fPart s (.str x) (.str y)).W Q X ↔ ((y.length == 0) = false ∧ x.length ≤ 100000) ∧ Q (.tup [.str (Txt.partition x y).1, .str (Txt.partition x y).2.1, .str (Txt.partition x y).2.2]) s := by
  unfold fPart
  by_cases h : (y.length == 0) = false ∧ x.length ≤ 100000
  · simp only [if_pos h, R.W_ok]; exact ⟨fun q => ⟨h, q⟩, fun q => q.2⟩
  · simp only [if_neg h, R.W_no]; exact ⟨fun q => q.elim, fun q => absurd q.1 h⟩
theorem wf_joinL {x : Str} {ys : List Str} : (fJoin s (.str x) (.lst (ys.map D.str))).W Q X ↔ (ys.map (·.length)).sum + ys.length * x.length ≤ 16777216 ∧ Q (.str (Txt.join x ys)) s := by
  have e : (lsD s (.lst (ys.map D.str))).bind strsD = some ys := strsD_map
  simp only [fJoin, e]
  by_cases h : (ys.map (·.length)).sum + ys.length * x.length ≤ 16777216
  · simp only [if_pos h, R.W_ok]; exact ⟨fun q => ⟨h, q⟩, fun q => q.2⟩
  · simp only [if_neg h, R.W_no]; exact ⟨fun q => q.elim, fun q => absurd q.1 h⟩
theorem wf_joinB {x : Str} {ys : List Str} : (fJoin s (.str x) (.bor (.lst (ys.map D.str)))).W Q X ↔ (ys.map (·.length)).sum + ys.length * x.length ≤ 16777216 ∧ Q (.str (Txt.join x ys)) s := by
  have e : (lsD s (.bor (.lst (ys.map D.str)))).bind strsD = some ys := strsD_map
  simp only [fJoin, e]
  by_cases h : (ys.map (·.length)).sum + ys.length * x.length ≤ 16777216
  · simp only [if_pos h, R.W_ok]; exact ⟨fun q => ⟨h, q⟩, fun q => q.2⟩
  · simp only [if_neg h, R.W_no]; exact ⟨fun q => q.elim, fun q => absurd q.1 h⟩
theorem wf_find {x y : Str} : (fFind s (.str x) (.str y)).W Q X ↔ Q (.int (Txt.find x y)) s := by simp only [fFind, R.W_ok]
theorem wf_cntS {x y : Str} : (fCntS s (.str x) (.str y)).W Q X ↔ Q (.int (Txt.count x y)) s := by simp only [fCntS, R.W_ok]
theorem wf_strI {i : Int} : (fStr s (.int i)).W Q X ↔ i.natAbs.log2 < 1920 ∧ Q (.str (toString i)) s := by
  unfold fStr
  by_cases h : i.natAbs.log2 < 1920
  · simp only [if_pos h, R.W_ok]; exact ⟨fun q => ⟨h, q⟩, fun q => q.2⟩
  · simp only [if_neg h, R.W_no]; exact ⟨fun q => q.elim, fun q => absurd q.1 h⟩
theorem wf_strS {x : Str} : (fStr s (.str x)).W Q X ↔ Q (.str x) s := by simp only [fStr, R.W_ok]
theorem wf_intS {x : Str} {n : Int} (e : PySem.intText? x = some n) : (fIntS s (.str x)).W Q X ↔ x.length ≤ 640 ∧ Q (.int n) s := by
  simp only [fIntS, e]
  by_cases h : x.length ≤ 640
  · simp only [if_pos h, R.W_ok]; exact ⟨fun q => ⟨h, q⟩, fun q => q.2⟩
  · simp only [if_neg h, R.W_no]; exact ⟨fun q => q.elim, fun q => absurd q.1 h⟩
theorem wf_tupL {xs : List D} : (fTupL s (.lst xs)).W Q X ↔ Q (.tup xs) s := by simp only [fTupL, lsD, dr, R.W_ok]
theorem wf_tupB {xs : List D} : (fTupL s (.bor (.lst xs))).W Q X ↔ Q (.tup xs) s := by simp only [fTupL, lsD, dr, R.W_ok]
theorem wf_inS {b : Bool} {c : Nat} {z : Str} : (fInS b s (.str ⟨#[c]⟩) (.str z)).W Q X ↔ Q (.bl (if b then !decide (c ∈ z.cps.toList) else decide (c ∈ z.cps.toList))) s := by simp only [fInS, R.W_ok]
theorem wf_slS {x : Str} {i j : Option Int} : (fSlS s (.str x) i j).W Q X ↔ x.length ≤ 100000 ∧ Q (.str (cutS x i j)) s := by
  unfold fSlS
  by_cases h : x.length ≤ 100000
  · simp only [if_pos h, R.W_ok]; exact ⟨fun q => ⟨h, q⟩, fun q => q.2⟩
  · simp only [if_neg h, R.W_no]; exact ⟨fun q => q.elim, fun q => absurd q.1 h⟩
theorem wf_ixS {x : Str} {i : Int} {c : Nat} (e : atI x.cps.toList i = some c) : (fIxS s (.str x) (.int i)).W Q X ↔ x.length ≤ 100000 ∧ Q (.str ⟨#[c]⟩) s := by
  simp only [fIxS, e]
  by_cases h : x.length ≤ 100000
  · simp only [if_pos h, R.W_ok]; exact ⟨fun q => ⟨h, q⟩, fun q => q.2⟩
  · simp only [if_neg h, R.W_no]; exact ⟨fun q => q.elim, fun q => absurd q.1 h⟩
end
def asLs (P : List D → Prop) (d : D) : Prop := match snk (fz d) with
  | some (.lst ds) => P ds
  | _ => False
end Gm

set_option Elab.async false
set_option linter.all false
set_option maxRecDepth 100000
set_option autoImplicit false
namespace Lw
open PySem PySem.Spec PyProof.Rows L2 Gm
def tb_WANTS : List (Str × Option Int) := [("make", some 2), ("number", some 2), ("clear", some 1), ("copy", some 2), ("put", some 3), ("take", some 3), ("tell", some 1), ("same", some 2)]

/- number_of: 0=word 1=figures 2=sign -/
def b_number_of : Sx := sSeq (sSetF 1 (eIf (tq (eOp2 fEq (eSlS (eVar 0) (oNo) (oSo (eC (D.int 1)))) (eC (D.str "-")))) (eSlS (eVar 0) (oSo (eC (D.int 1))) (oNo)) (eVar 0)))
    (sSeq (sIf (tOrX (tNotX (tq (eChain fLe fLe (eC (D.int 1)) (eOp1 fLen (eVar 1)) (eC (D.int 60))))) (tAndX (tq (eOp2 fEq (eOp2 fIxS (eVar 1) (eC (D.int 0))) (eC (D.str "0")))) (tq (eOp2 fNe (eVar 0) (eC (D.str "0")))))) (sRaise 2) (sNil))
    (sSeq (sFor (Tg.nm 2) (iTxt (eVar 1)) (sIf (tq (eOp2 (fInS true) (eVar 2) (eC (D.str "0123456789")))) (sRaise 2) (sNil)))
    (sRet (eOp1 fIntS (eVar 0)))))
def f_number_of : Fx := fnX 1 3 b_number_of
theorem ar_number_of : Ar 1 f_number_of := fnX_ar

/- deed_of: 0=text 1=words 2=word -/
def b_deed_of : Sx := sSeq (sSetF 1 (eMS fSplt (eVar 0) (eC (D.str " "))))
    (sSeq (sIf (tOrX (tq (eOp1 (fTInA true tb_WANTS) (eOp2 fIx (eVar 1) (eC (D.int 0))))) (tq (eOp2 fNe (eOp1 fLen (eVar 1)) (eOp2 fAdd (eOp1 (fTGet tb_WANTS) (eOp2 fIx (eVar 1) (eC (D.int 0)))) (eC (D.int 1)))))) (sRaise 2) (sNil))
    (sRet (eOp1 fTupL (eOp2 fAdd (eLst (aCons (eOp2 fIx (eVar 1) (eC (D.int 0))) (aNil))) (eLcX (Tg.nm 2) (iSeq (eSl (eVar 1) (oSo (eC (D.int 1))) (oNo))) (tY) (eCall f_number_of (aCons (eVar 2) (aNil))) [2])))))
def f_deed_of : Fx := fnX 1 3 b_deed_of
theorem ar_deed_of : Ar 1 f_deed_of := fnX_ar

/- row_of: 0=text 1=deed 2=mark 3=rest 4=many -/
def b_row_of : Sx := sSeq (sSetT [1, 2, 3] (eMS fPart (eVar 0) (eC (D.str "; "))))
    (sSeq (sIf (tq (eOp2 fEq (eVar 2) (eC (D.str "")))) (sRet (eTup (aCons (eCall f_deed_of (aCons (eVar 1) (aNil))) (aCons (eC (D.int 0)) (aNil))))) (sNil))
    (sSeq (sSetF 4 (eCall f_number_of (aCons (eVar 3) (aNil))))
    (sSeq (sIf (tOrX (tq (eOp2 fEq (eVar 4) (eC (D.int 0)))) (tNotX (tq (eChain fLe fLe (eOp1 fNeg (eC (D.int 1))) (eVar 4) (eC (D.int 100)))))) (sRaise 2) (sNil))
    (sRet (eTup (aCons (eCall f_deed_of (aCons (eVar 1) (aNil))) (aCons (eVar 4) (aNil))))))))
def f_row_of : Fx := fnX 1 5 b_row_of
theorem ar_row_of : Ar 1 f_row_of := fnX_ar

/- read: 0=text 1=rows 2=row 3=deed 4=many -/
def b_read : Sx := sSeq (sIf (tq (eOp2 fEq (eVar 0) (eC (D.str "")))) (sRet (eTup (aCons (eAd (eLst (aNil))) (aCons (eAd (eLst (aNil))) (aNil))))) (sNil))
    (sSeq (sSetF 1 (eLcX (Tg.nm 2) (iSeq (eMS fSplt (eVar 0) (eC (D.str "\n")))) (tY) (eCall f_row_of (aCons (eVar 2) (aNil))) [2]))
    (sSeq (sIf (tq (eOp2 fGt (eOp1 fLen (eVar 1)) (eC (D.int 30)))) (sRaise 2) (sNil))
    (sRet (eTup (aCons (eAd (eLc (Tg.tp [3, 4]) (iSeq (eVar 1)) (tY) (eVar 3) [3, 4])) (aCons (eAd (eLc (Tg.tp [3, 4]) (iSeq (eVar 1)) (tY) (eVar 4) [3, 4])) (aNil)))))))
def f_read : Fx := fnX 1 5 b_read
theorem ar_read : Ar 1 f_read := fnX_ar

/- _law_number: 0=word 1=figures 2=sign -/
def b__law_number : Sx := sSeq (sSetF 1 (eVar 0))
    (sSeq (sIf (tq (eOp2 fEq (eSlS (eVar 0) (oNo) (oSo (eC (D.int 1)))) (eC (D.str "-")))) (sSetF 1 (eSlS (eVar 0) (oSo (eC (D.int 1))) (oNo))) (sNil))
    (sSeq (sIf (tOrX (tq (eOp2 fEq (eVar 1) (eC (D.str "")))) (tOrX (tq (eOp2 fGt (eOp1 fLen (eVar 1)) (eC (D.int 60)))) (tq (eOp2 fGt (eOp1 fLen (eLc (Tg.nm 2) (iTxt (eVar 1)) (tq (eOp2 fLt (eMS fFind (eC (D.str "0123456789")) (eVar 2)) (eC (D.int 0)))) (eVar 2) [2])) (eC (D.int 0)))))) (sRet (eC D.non)) (sNil))
    (sSeq (sIf (tAndX (tq (eOp2 fEq (eOp2 fIxS (eVar 1) (eC (D.int 0))) (eC (D.str "0")))) (tq (eOp2 fNe (eVar 0) (eC (D.str "0"))))) (sRet (eC D.non)) (sNil))
    (sRet (eOp1 fIntS (eVar 0))))))
def f__law_number : Fx := fnX 1 3 b__law_number
theorem ar__law_number : Ar 1 f__law_number := fnX_ar

/- _law_row: 0=text 1=many 2=at 3=words 4=wants 5=numbers 6=word -/
def b__law_row : Sx := sSeq (sSetF 1 (eC (D.int 0)))
    (sSeq (sIf (tq (eOp2 fGt (eMS fCntS (eVar 0) (eC (D.str "; "))) (eC (D.int 0)))) (sSeq (sSetF 2 (eMS fFind (eVar 0) (eC (D.str "; "))))
    (sSeq (sSetF 1 (eCall f__law_number (aCons (eSlS (eVar 0) (oSo (eOp2 fAdd (eVar 2) (eC (D.int 2)))) (oNo)) (aNil))))
    (sSeq (sSetF 0 (eSlS (eVar 0) (oNo) (oSo (eVar 2))))
    (sIf (tOrX (tq (eOp2 fIsN (eVar 1) (eC D.non))) (tOrX (tq (eOp2 fEq (eVar 1) (eC (D.int 0)))) (tOrX (tq (eOp2 fLt (eVar 1) (eOp1 fNeg (eC (D.int 1))))) (tq (eOp2 fGt (eVar 1) (eC (D.int 100))))))) (sRet (eC D.non)) (sNil))))) (sNil))
    (sSeq (sSetF 3 (eMS fSplt (eVar 0) (eC (D.str " "))))
    (sSeq (sSetF 4 (eDsp [(.inr "make", .int 2), (.inr "number", .int 2), (.inr "clear", .int 1), (.inr "copy", .int 2), (.inr "put", .int 3), (.inr "take", .int 3), (.inr "tell", .int 1), (.inr "same", .int 2)]))
    (sSeq (sSetF 5 (eLc (Tg.nm 6) (iSeq (eSl (eVar 3) (oSo (eC (D.int 1))) (oNo))) (tY) (eCall f__law_number (aCons (eVar 6) (aNil))) [6]))
    (sSeq (sIf (tOrX (tq (eOp2 fNe (eDGetD (eVar 4) (eOp2 fIx (eVar 3) (eC (D.int 0))) (eOp1 fNeg (eC (D.int 1)))) (eOp1 fLen (eVar 5)))) (tq (eOp2 (fIn false) (eC D.non) (eVar 5)))) (sRet (eC D.non)) (sNil))
    (sRet (eTup (aCons (eOp1 fTupL (eOp2 fAdd (eLst (aCons (eOp2 fIx (eVar 3) (eC (D.int 0))) (aNil))) (eVar 5))) (aCons (eVar 1) (aNil))))))))))
def f__law_row : Fx := fnX 1 7 b__law_row
theorem ar__law_row : Ar 1 f__law_row := fnX_ar

/- _law_due: 0=text 1=rows 2=row -/
def b__law_due : Sx := sSeq (sIf (tq (eOp2 fEq (eVar 0) (eC (D.str "")))) (sRet (eTup (aCons (eAd (eLst (aNil))) (aCons (eAd (eLst (aNil))) (aNil))))) (sNil))
    (sSeq (sSetF 1 (eLc (Tg.nm 2) (iSeq (eMS fSplt (eVar 0) (eC (D.str "\n")))) (tY) (eCall f__law_row (aCons (eVar 2) (aNil))) [2]))
    (sSeq (sIf (tOrX (tq (eOp2 (fInD false) (eC D.non) (eVar 1))) (tq (eOp2 fGt (eOp1 fLen (eVar 1)) (eC (D.int 30))))) (sRet (eC D.non)) (sNil))
    (sRet (eTup (aCons (eAd (eLc (Tg.nm 2) (iSeq (eVar 1)) (tY) (eOp2 fIx (eVar 2) (eC (D.int 0))) [2])) (aCons (eAd (eLc (Tg.nm 2) (iSeq (eVar 1)) (tY) (eOp2 fIx (eVar 2) (eC (D.int 1))) [2])) (aNil)))))))
def f__law_due : Fx := fnX 1 3 b__law_due
theorem ar__law_due : Ar 1 f__law_due := fnX_ar

/- _law_cell_at: 0=script 1=k -/
def b__law_cell_at : Sx := sSeq (sIf (tq (eOp2 fLt (eVar 1) (eOp1 fLen (eVar 0)))) (sRet (eOp2 fIx (eVar 0) (eVar 1))) (sNil))
    (sRet (eC (D.int 0)))
def f__law_cell_at : Fx := fnX 2 2 b__law_cell_at
theorem ar__law_cell_at : Ar 2 f__law_cell_at := fnX_ar

/- _law_changed: 0=text 1=cell 2=at 3=sign 4=odd -/
def b__law_changed : Sx := sSeq (sSetF 2 (eOp2 fMod (eOp2 fDiv (eVar 1) (eC (D.int 4))) (eOp2 fAdd (eOp1 fLen (eVar 0)) (eC (D.int 1)))))
    (sSeq (sSetF 3 (eOp2 fIxS (eC (D.str "0123456789 -;\n\tmaket+_")) (eOp2 fMod (eOp2 fDiv (eVar 1) (eC (D.int 1200))) (eC (D.int 22)))))
    (sSeq (sIf (tq (eOp2 fEq (eOp2 fMod (eVar 1) (eC (D.int 4))) (eC (D.int 0)))) (sRet (eOp2 fAdd (eSlS (eVar 0) (oNo) (oSo (eVar 2))) (eSlS (eVar 0) (oSo (eOp2 fAdd (eVar 2) (eC (D.int 1)))) (oNo)))) (sNil))
    (sSeq (sIf (tq (eOp2 fEq (eOp2 fMod (eVar 1) (eC (D.int 4))) (eC (D.int 1)))) (sRet (eOp2 fAdd (eOp2 fAdd (eSlS (eVar 0) (oNo) (oSo (eVar 2))) (eVar 3)) (eSlS (eVar 0) (oSo (eVar 2)) (oNo)))) (sNil))
    (sSeq (sIf (tq (eOp2 fEq (eOp2 fMod (eVar 1) (eC (D.int 4))) (eC (D.int 2)))) (sRet (eOp2 fAdd (eOp2 fAdd (eSlS (eVar 0) (oNo) (oSo (eVar 2))) (eVar 3)) (eSlS (eVar 0) (oSo (eOp2 fAdd (eVar 2) (eC (D.int 1)))) (oNo)))) (sNil))
    (sSeq (sSetF 4 (eLst (aCons (eC (D.str " ")) (aCons (eC (D.str "\n")) (aCons (eC (D.str "tell 0\n")) (aCons (eC (D.str "\ntell 0")) (aCons (eC (D.str "tell 00")) (aCons (eC (D.str "tell -0")) (aCons (eC (D.str "tell 0;1")) (aCons (eC (D.str "tell 0; 0")) (aCons (eC (D.str "tell 0; -2")) (aNil))))))))))))
    (sSeq (sSetF 4 (eOp2 fAdd (eVar 4) (eLst (aCons (eC (D.str "tell 0; 101")) (aCons (eC (D.str "tell 0; 100")) (aCons (eC (D.str "tell 0;  1")) (aCons (eC (D.str "tell  0")) (aCons (eC (D.str "Tell 0")) (aCons (eC (D.str "put 0 1")) (aCons (eC (D.str "tell 0; 1; 1")) (aNil)))))))))))
    (sSeq (sSetF 4 (eOp2 fAdd (eVar 4) (eLst (aCons (eC (D.str "number 7 -1000001")) (aCons (eC (D.str "tell +1")) (aNil))))))
    (sSeq (sSetF 4 (eOp2 fAdd (eVar 4) (eLst (aCons (eMS fJoin (eC (D.str "\n")) (eOp2 fMul (eLst (aCons (eC (D.str "clear 9")) (aNil))) (eC (D.int 30)))) (aCons (eMS fJoin (eC (D.str "\n")) (eOp2 fMul (eLst (aCons (eC (D.str "clear 9")) (aNil))) (eC (D.int 31)))) (aCons (eC (D.str "tell 0 ;1")) (aCons (eC (D.str "make 0 -7; -1")) (aNil))))))))
    (sRet (eOp2 fIx (eVar 4) (eOp2 fMod (eOp2 fDiv (eVar 1) (eC (D.int 4))) (eC (D.int 22)))))))))))))
def f__law_changed : Fx := fnX 2 5 b__law_changed
theorem ar__law_changed : Ar 2 f__law_changed := fnX_ar

/- _law_deed: 0=cell 1=kinds 2=kind 3=one 4=other 5=slot -/
def b__law_deed : Sx := sSeq (sSetF 1 (eLst (aCons (eC (D.str "make")) (aCons (eC (D.str "put")) (aCons (eC (D.str "take")) (aCons (eC (D.str "copy")) (aCons (eC (D.str "put")) (aCons (eC (D.str "make")) (aCons (eC (D.str "clear")) (aCons (eC (D.str "number")) (aCons (eC (D.str "tell")) (aCons (eC (D.str "same")) (aCons (eC (D.str "put")) (aCons (eC (D.str "take")) (aNil)))))))))))))))
    (sSeq (sSetF 2 (eOp2 fIx (eVar 1) (eOp2 fMod (eVar 0) (eC (D.int 12)))))
    (sSeq (sSetF 3 (eOp2 fAdd (eOp2 fMod (eOp2 fDiv (eVar 0) (eC (D.int 12))) (eC (D.int 4))) (eOp2 fMul (eC (D.int 4)) (eOp2 fMod (eOp2 fDiv (eVar 0) (eC (D.int 1152))) (eC (D.int 2))))))
    (sSeq (sSetF 4 (eOp2 fAdd (eOp2 fMod (eOp2 fDiv (eVar 0) (eC (D.int 48))) (eC (D.int 4))) (eOp2 fMul (eC (D.int 4)) (eOp2 fMod (eOp2 fDiv (eVar 0) (eC (D.int 2304))) (eC (D.int 2))))))
    (sSeq (sSetF 5 (eOp2 fAdd (eOp2 fMod (eOp2 fDiv (eVar 0) (eC (D.int 192))) (eC (D.int 3))) (eOp2 fMod (eOp2 fDiv (eVar 0) (eC (D.int 9216))) (eC (D.int 2)))))
    (sSeq (sIf (tq (eOp2 fEq (eVar 2) (eC (D.str "make")))) (sRet (eTup (aCons (eC (D.str "make")) (aCons (eVar 3) (aCons (eOp2 fAdd (eVar 5) (eOp2 fMod (eOp2 fDiv (eVar 0) (eC (D.int 576))) (eC (D.int 2)))) (aNil)))))) (sNil))
    (sSeq (sIf (tq (eOp2 fEq (eVar 2) (eC (D.str "put")))) (sRet (eTup (aCons (eC (D.str "put")) (aCons (eVar 3) (aCons (eVar 5) (aCons (eVar 4) (aNil))))))) (sNil))
    (sSeq (sIf (tq (eOp2 fEq (eVar 2) (eC (D.str "take")))) (sRet (eTup (aCons (eC (D.str "take")) (aCons (eVar 3) (aCons (eVar 4) (aCons (eVar 5) (aNil))))))) (sNil))
    (sSeq (sIf (tq (eOp2 fEq (eVar 2) (eC (D.str "number")))) (sRet (eTup (aCons (eC (D.str "number")) (aCons (eVar 3) (aCons (eOp2 fIx (eLst (aCons (eOp2 fSub (eOp2 fMod (eOp2 fDiv (eVar 0) (eC (D.int 48))) (eC (D.int 9))) (eC (D.int 4))) (aCons (eC (D.int 1000000)) (aCons (eOp1 fNeg (eC (D.int 1000000))) (aNil))))) (eOp2 fMax (eC (D.int 0)) (eOp2 fSub (eOp2 fMod (eOp2 fDiv (eVar 0) (eC (D.int 48))) (eC (D.int 11))) (eC (D.int 8))))) (aNil)))))) (sNil))
    (sSeq (sIf (tOrX (tq (eOp2 fEq (eVar 2) (eC (D.str "copy")))) (tq (eOp2 fEq (eVar 2) (eC (D.str "same"))))) (sRet (eTup (aCons (eVar 2) (aCons (eVar 3) (aCons (eVar 4) (aNil)))))) (sNil))
    (sRet (eTup (aCons (eVar 2) (aCons (eVar 3) (aNil))))))))))))))
def f__law_deed : Fx := fnX 1 6 b__law_deed
theorem ar__law_deed : Ar 1 f__law_deed := fnX_ar

/- law: 0=script 1=rows 2=k 3=deed 4=many 5=text 6=due 7=found 8=e 9=part -/
def b_law : Sx := sSeq (sSet 1 (eLst (aNil)))
    (sSeq (sFor (Tg.nm 2) (xRng1 (eOp2 fMod (eCall f__law_cell_at (aCons (eVar 0) (aCons (eC (D.int 0)) (aNil)))) (eC (D.int 8)))) (sSeq (sSetF 3 (eCall f__law_deed (aCons (eCall f__law_cell_at (aCons (eVar 0) (aCons (eOp2 fAdd (eC (D.int 3)) (eVar 2)) (aNil)))) (aNil))))
    (sSeq (sSetF 4 (eOp2 fSub (eOp2 fMod (eCall f__law_cell_at (aCons (eVar 0) (aCons (eOp2 fAdd (eC (D.int 12)) (eVar 2)) (aNil)))) (eC (D.int 12))) (eC (D.int 1))))
    (sMut 1 gApp (eOp2 fAdd (eMS fJoin (eC (D.str " ")) (eLc (Tg.nm 9) (iSeq (eVar 3)) (tY) (eOp1 fStr (eVar 9)) [9])) (eOp2 fIx (eLst (aCons (eOp2 fAdd (eC (D.str "; ")) (eOp1 fStr (eVar 4))) (aCons (eC (D.str "")) (aNil)))) (eOp1 fInt (eOp2 fEq (eVar 4) (eC (D.int 0))))))))))
    (sSeq (sPre (gFz 1) (sSetF 5 (eMS fJoin (eC (D.str "\n")) (eVar 1))))
    (sSeq (sIf (tq (eOp2 fGt (eOp2 fMod (eCall f__law_cell_at (aCons (eVar 0) (aCons (eC (D.int 1)) (aNil)))) (eC (D.int 4))) (eC (D.int 0)))) (sSetF 5 (eCall f__law_changed (aCons (eVar 5) (aCons (eCall f__law_cell_at (aCons (eVar 0) (aCons (eC (D.int 2)) (aNil)))) (aNil))))) (sNil))
    (sSeq (sSetF 6 (eCall f__law_due (aCons (eVar 5) (aNil))))
    (sSeq (sSetF 7 (eC D.non))
    (sSeq (sTryAs 8 [true, true, true] (sSetF 7 (eCall f_read (aCons (eVar 5) (aNil)))) (fun k => sSetF 7 (eTup (aCons (eIsX [false, false, true] k 8) (aCons (eIsX [true, true, true] k 8) (aCons (eIsX [false, true, false] k 8) (aNil)))))))
    (sSeq (sIf (tq (eOp2 fIsN (eVar 6) (eC D.non))) (sRet (eOp2 fEq (eVar 7) (eTup (aCons (eC (D.bl true)) (aCons (eC (D.bl true)) (aCons (eC (D.bl false)) (aNil))))))) (sNil))
    (sRet (eOp2 fEq (eVar 7) (eVar 6))))))))))
def f_law : Fx := fnX 1 10 b_law
end Lw

set_option Elab.async false
set_option linter.all false
set_option maxRecDepth 100000
set_option autoImplicit false
set_option maxHeartbeats 0
namespace Lw
open PySem PySem.Spec PyProof.Rows L2 Gm
def top (i : Nat) : Stmt := PySem.Challenge.pw_gleanyard_k17_texts_read_or_refused.main.body.getD i (.Pass ⟨0, 0, 0, 0⟩)
def acls (K : PySem.W.Frag) : Nat → Addr
  | 0 => He.ga K "YardError"
  | 1 => He.ga K "NoDeed"
  | 2 => He.ga K "NoNote"
  | _ => 0
abbrev st_number_of : Stmt := top 9
abbrev n_number_of : List Str := ["word", "figures", "sign"]
theorem sc_number_of : FnScope n_number_of ["word"] (defScope st_number_of) := ⟨rfl, rfl, rfl, by decide +kernel, rfl, by decide +kernel, by decide +kernel⟩
def d_number_of : He.DefD := ⟨("number_of", none), "number_of", "number_of", defArgs st_number_of, defBody st_number_of, defScope st_number_of, [], []⟩
abbrev st_deed_of : Stmt := top 10
abbrev n_deed_of : List Str := ["text", "words", "word"]
theorem sc_deed_of : FnScope n_deed_of ["text"] (defScope st_deed_of) := ⟨rfl, rfl, rfl, by decide +kernel, rfl, by decide +kernel, by decide +kernel⟩
def d_deed_of : He.DefD := ⟨("deed_of", none), "deed_of", "deed_of", defArgs st_deed_of, defBody st_deed_of, defScope st_deed_of, [], []⟩
abbrev st_row_of : Stmt := top 11
abbrev n_row_of : List Str := ["text", "deed", "mark", "rest", "many"]
theorem sc_row_of : FnScope n_row_of ["text"] (defScope st_row_of) := ⟨rfl, rfl, rfl, by decide +kernel, rfl, by decide +kernel, by decide +kernel⟩
def d_row_of : He.DefD := ⟨("row_of", none), "row_of", "row_of", defArgs st_row_of, defBody st_row_of, defScope st_row_of, [], []⟩
abbrev st_read : Stmt := top 12
abbrev n_read : List Str := ["text", "rows", "row", "deed", "many"]
theorem sc_read : FnScope n_read ["text"] (defScope st_read) := ⟨rfl, rfl, rfl, by decide +kernel, rfl, by decide +kernel, by decide +kernel⟩
def d_read : He.DefD := ⟨("read", none), "read", "read", defArgs st_read, defBody st_read, defScope st_read, [], []⟩
abbrev st__law_number : Stmt := top 17
abbrev n__law_number : List Str := ["word", "figures", "sign"]
theorem sc__law_number : FnScope n__law_number ["word"] (defScope st__law_number) := ⟨rfl, rfl, rfl, by decide +kernel, rfl, by decide +kernel, by decide +kernel⟩
def d__law_number : He.DefD := ⟨("_law_number", none), "_law_number", "_law_number", defArgs st__law_number, defBody st__law_number, defScope st__law_number, [], []⟩
abbrev st__law_row : Stmt := top 18
abbrev n__law_row : List Str := ["text", "many", "at", "words", "wants", "numbers", "word"]
theorem sc__law_row : FnScope n__law_row ["text"] (defScope st__law_row) := ⟨rfl, rfl, rfl, by decide +kernel, rfl, by decide +kernel, by decide +kernel⟩
def d__law_row : He.DefD := ⟨("_law_row", none), "_law_row", "_law_row", defArgs st__law_row, defBody st__law_row, defScope st__law_row, [], []⟩
abbrev st__law_due : Stmt := top 19
abbrev n__law_due : List Str := ["text", "rows", "row"]
theorem sc__law_due : FnScope n__law_due ["text"] (defScope st__law_due) := ⟨rfl, rfl, rfl, by decide +kernel, rfl, by decide +kernel, by decide +kernel⟩
def d__law_due : He.DefD := ⟨("_law_due", none), "_law_due", "_law_due", defArgs st__law_due, defBody st__law_due, defScope st__law_due, [], []⟩
abbrev st__law_cell_at : Stmt := top 14
abbrev n__law_cell_at : List Str := ["script", "k"]
theorem sc__law_cell_at : FnScope n__law_cell_at ["script", "k"] (defScope st__law_cell_at) := ⟨rfl, rfl, rfl, by decide +kernel, rfl, by decide +kernel, by decide +kernel⟩
def d__law_cell_at : He.DefD := ⟨("_law_cell_at", none), "_law_cell_at", "_law_cell_at", defArgs st__law_cell_at, defBody st__law_cell_at, defScope st__law_cell_at, [], []⟩
abbrev st__law_changed : Stmt := top 20
abbrev n__law_changed : List Str := ["text", "cell", "at", "sign", "odd"]
theorem sc__law_changed : FnScope n__law_changed ["text", "cell"] (defScope st__law_changed) := ⟨rfl, rfl, rfl, by decide +kernel, rfl, by decide +kernel, by decide +kernel⟩
def d__law_changed : He.DefD := ⟨("_law_changed", none), "_law_changed", "_law_changed", defArgs st__law_changed, defBody st__law_changed, defScope st__law_changed, [], []⟩
abbrev st__law_deed : Stmt := top 15
abbrev n__law_deed : List Str := ["cell", "kinds", "kind", "one", "other", "slot"]
theorem sc__law_deed : FnScope n__law_deed ["cell"] (defScope st__law_deed) := ⟨rfl, rfl, rfl, by decide +kernel, rfl, by decide +kernel, by decide +kernel⟩
def d__law_deed : He.DefD := ⟨("_law_deed", none), "_law_deed", "_law_deed", defArgs st__law_deed, defBody st__law_deed, defScope st__law_deed, [], []⟩
abbrev st_law : Stmt := top 21
abbrev n_law : List Str := ["script", "rows", "k", "deed", "many", "text", "due", "found", "e", "part"]
theorem sc_law : FnScope n_law ["script"] (defScope st_law) := ⟨rfl, rfl, rfl, by decide +kernel, rfl, by decide +kernel, by decide +kernel⟩
def d_law : He.DefD := ⟨("law", none), "law", "law", defArgs st_law, defBody st_law, defScope st_law, [], []⟩
structure Txt (K : PySem.W.Frag) (mg : Str → Option Value) (wl : World) : Prop where
  g_number_of : mg "number_of" = some (.ref (He.ga K "number_of"))
  g_deed_of : mg "deed_of" = some (.ref (He.ga K "deed_of"))
  g_row_of : mg "row_of" = some (.ref (He.ga K "row_of"))
  g_read : mg "read" = some (.ref (He.ga K "read"))
  g__law_number : mg "_law_number" = some (.ref (He.ga K "_law_number"))
  g__law_row : mg "_law_row" = some (.ref (He.ga K "_law_row"))
  g__law_due : mg "_law_due" = some (.ref (He.ga K "_law_due"))
  g__law_cell_at : mg "_law_cell_at" = some (.ref (He.ga K "_law_cell_at"))
  g__law_changed : mg "_law_changed" = some (.ref (He.ga K "_law_changed"))
  g__law_deed : mg "_law_deed" = some (.ref (He.ga K "_law_deed"))
  g_law : mg "law" = some (.ref (He.ga K "law"))
  g_WANTS : mg "WANTS" = some (.ref (He.ga K "WANTS"))
  g_YardError : mg "YardError" = some (.ref (He.ga K "YardError"))
  x_YardError : PySem.W.excIn K (He.ga K "YardError") He.veBase "ValueError.__new__" = true ∧ PySem.W.keepIn K (.ref (He.ga K "YardError")) = true ∧ PySem.W.subIn K (.ref (He.ga K "YardError")) (.type "BaseException") = some true ∧ PySem.W.typeIn K (.ref (He.ga K "YardError")) = some (.type "type")
  g_NoDeed : mg "NoDeed" = some (.ref (He.ga K "NoDeed"))
  x_NoDeed : PySem.W.excIn K (He.ga K "NoDeed") He.veBase "ValueError.__new__" = true ∧ PySem.W.keepIn K (.ref (He.ga K "NoDeed")) = true ∧ PySem.W.subIn K (.ref (He.ga K "NoDeed")) (.type "BaseException") = some true ∧ PySem.W.typeIn K (.ref (He.ga K "NoDeed")) = some (.type "type")
  g_NoNote : mg "NoNote" = some (.ref (He.ga K "NoNote"))
  x_NoNote : PySem.W.excIn K (He.ga K "NoNote") He.veBase "ValueError.__new__" = true ∧ PySem.W.keepIn K (.ref (He.ga K "NoNote")) = true ∧ PySem.W.subIn K (.ref (He.ga K "NoNote")) (.type "BaseException") = some true ∧ PySem.W.typeIn K (.ref (He.ga K "NoNote")) = some (.type "type")
  c_FIGURES : ∃ t, mg "FIGURES" = some (.str "0123456789" t)
  c_MOST_DEEDS : ∃ t, mg "MOST_DEEDS" = some (.int 30 t)
  c_MOST_TURN : ∃ t, mg "MOST_TURN" = some (.int 100 t)
  z_ValueError : mg "ValueError" = none
  z_int : mg "int" = none
  z_isinstance : mg "isinstance" = none
  z_len : mg "len" = none
  z_max : mg "max" = none
  z_range : mg "range" = none
  z_str : mg "str" = none
  z_tuple : mg "tuple" = none
  m_YardError_YardError : PySem.W.exmOne K (.ref (He.ga K "YardError")) (.ref (He.ga K "YardError")) = some true
  m_NoDeed_YardError : PySem.W.exmOne K (.ref (He.ga K "NoDeed")) (.ref (He.ga K "YardError")) = some true
  m_NoNote_YardError : PySem.W.exmOne K (.ref (He.ga K "NoNote")) (.ref (He.ga K "YardError")) = some true
  ec_YardError : ExcC K (He.ga K "YardError")
  ec_NoDeed : ExcC K (He.ga K "NoDeed")
  ec_NoNote : ExcC K (He.ga K "NoNote")
  kt_YardError_NoDeed : PySem.W.kitOne K (.ref (He.ga K "YardError")) (.ref (He.ga K "NoDeed")) = some false
  kt_NoDeed_NoDeed : PySem.W.kitOne K (.ref (He.ga K "NoDeed")) (.ref (He.ga K "NoDeed")) = some true
  kt_NoNote_NoDeed : PySem.W.kitOne K (.ref (He.ga K "NoNote")) (.ref (He.ga K "NoDeed")) = some false
  kt_YardError_NoNote : PySem.W.kitOne K (.ref (He.ga K "YardError")) (.ref (He.ga K "NoNote")) = some false
  kt_NoDeed_NoNote : PySem.W.kitOne K (.ref (He.ga K "NoDeed")) (.ref (He.ga K "NoNote")) = some false
  kt_NoNote_NoNote : PySem.W.kitOne K (.ref (He.ga K "NoNote")) (.ref (He.ga K "NoNote")) = some true
  kt_YardError_ValueError : PySem.W.kitOne K (.ref (He.ga K "YardError")) (.type "ValueError") = some true
  kt_NoDeed_ValueError : PySem.W.kitOne K (.ref (He.ga K "NoDeed")) (.type "ValueError") = some true
  kt_NoNote_ValueError : PySem.W.kitOne K (.ref (He.ga K "NoNote")) (.type "ValueError") = some true
  tz_WANTS : tabAB K (He.ga K "WANTS") tb_WANTS = true
  tab_WANTS : TabA K wl (He.ga K "WANTS") tb_WANTS
  f_number_of : ∃ fd, FunD K "number_of" "number_of" (defArgs st_number_of) (defBody st_number_of) (defScope st_number_of) [] [] (He.ga K "number_of") fd
  f_deed_of : ∃ fd, FunD K "deed_of" "deed_of" (defArgs st_deed_of) (defBody st_deed_of) (defScope st_deed_of) [] [] (He.ga K "deed_of") fd
  f_row_of : ∃ fd, FunD K "row_of" "row_of" (defArgs st_row_of) (defBody st_row_of) (defScope st_row_of) [] [] (He.ga K "row_of") fd
  f_read : ∃ fd, FunD K "read" "read" (defArgs st_read) (defBody st_read) (defScope st_read) [] [] (He.ga K "read") fd
  f__law_number : ∃ fd, FunD K "_law_number" "_law_number" (defArgs st__law_number) (defBody st__law_number) (defScope st__law_number) [] [] (He.ga K "_law_number") fd
  f__law_row : ∃ fd, FunD K "_law_row" "_law_row" (defArgs st__law_row) (defBody st__law_row) (defScope st__law_row) [] [] (He.ga K "_law_row") fd
  f__law_due : ∃ fd, FunD K "_law_due" "_law_due" (defArgs st__law_due) (defBody st__law_due) (defScope st__law_due) [] [] (He.ga K "_law_due") fd
  f__law_cell_at : ∃ fd, FunD K "_law_cell_at" "_law_cell_at" (defArgs st__law_cell_at) (defBody st__law_cell_at) (defScope st__law_cell_at) [] [] (He.ga K "_law_cell_at") fd
  f__law_changed : ∃ fd, FunD K "_law_changed" "_law_changed" (defArgs st__law_changed) (defBody st__law_changed) (defScope st__law_changed) [] [] (He.ga K "_law_changed") fd
  f__law_deed : ∃ fd, FunD K "_law_deed" "_law_deed" (defArgs st__law_deed) (defBody st__law_deed) (defScope st__law_deed) [] [] (He.ga K "_law_deed") fd
  f_law : ∃ fd, FunD K "law" "law" (defArgs st_law) (defBody st_law) (defScope st_law) [] [] (He.ga K "law") fd
theorem lt_of {l : List Bool} {k : Nat} {b : Bool} (h : l[k]? = some b) : k < l.length := (List.getElem?_eq_some_iff.mp h).1
theorem exm_YardError {K : PySem.W.Frag} {mg : Str → Option Value} {wl : World} (T : Txt K mg wl) : ∀ (k : Nat) (b : Bool), ([true, true, true] : List Bool)[k]? = some b → PySem.W.exmOne K (.ref (acls K k)) (.ref (He.ga K "YardError")) = some b
  | 0, _, h => by cases h; exact T.m_YardError_YardError
  | 1, _, h => by cases h; exact T.m_NoDeed_YardError
  | 2, _, h => by cases h; exact T.m_NoNote_YardError
  | n + 3, _, h => by simp at h
theorem kit_NoDeed {K : PySem.W.Frag} {mg : Str → Option Value} {wl : World} (T : Txt K mg wl) : ∀ (k : Nat) (b : Bool), ([false, true, false] : List Bool)[k]? = some b → PySem.W.kitOne K (.ref (acls K k)) (.ref (He.ga K "NoDeed")) = some b
  | 0, _, h => by cases h; exact T.kt_YardError_NoDeed
  | 1, _, h => by cases h; exact T.kt_NoDeed_NoDeed
  | 2, _, h => by cases h; exact T.kt_NoNote_NoDeed
  | n + 3, _, h => by simp at h
theorem kit_NoNote {K : PySem.W.Frag} {mg : Str → Option Value} {wl : World} (T : Txt K mg wl) : ∀ (k : Nat) (b : Bool), ([false, false, true] : List Bool)[k]? = some b → PySem.W.kitOne K (.ref (acls K k)) (.ref (He.ga K "NoNote")) = some b
  | 0, _, h => by cases h; exact T.kt_YardError_NoNote
  | 1, _, h => by cases h; exact T.kt_NoDeed_NoNote
  | 2, _, h => by cases h; exact T.kt_NoNote_NoNote
  | n + 3, _, h => by simp at h
theorem kit_ValueError {K : PySem.W.Frag} {mg : Str → Option Value} {wl : World} (T : Txt K mg wl) : ∀ (k : Nat) (b : Bool), ([true, true, true] : List Bool)[k]? = some b → PySem.W.kitOne K (.ref (acls K k)) (.type "ValueError") = some b
  | 0, _, h => by cases h; exact T.kt_YardError_ValueError
  | 1, _, h => by cases h; exact T.kt_NoDeed_ValueError
  | 2, _, h => by cases h; exact T.kt_NoNote_ValueError
  | n + 3, _, h => by simp at h
theorem ecc {K : PySem.W.Frag} {mg : Str → Option Value} {wl : World} (T : Txt K mg wl) : ∀ (k : Nat), k < 3 → ExcC K (acls K k)
  | 0, _ => T.ec_YardError
  | 1, _ => T.ec_NoDeed
  | 2, _ => T.ec_NoNote
  | n + 3, h => by omega
section
variable {P : Program} {wl : World} {K : PySem.W.Frag} {mg : Str → Option Value} {base : Heap}
theorem ok_number_of (T : Txt K mg wl) {fd : FuncData} (F : FunD K "number_of" "number_of" (defArgs st_number_of) (defBody st_number_of) (defScope st_number_of) [] [] (He.ga K "number_of") fd) : FnOk P wl K mg base (L2.CX P wl) 1 (He.ga K "number_of") fd ["word"] (spOf ⟨K, acls K, none⟩ 1 f_number_of) := by
  refine fn_ok (k := 0) F sc_number_of (by decide) fun cdv Ar outer s H E hr tk po => ?_
  exact mss_cons (ms_setF 1 sc_number_of.nd (me_if (mt_eq hr.units (me_slS (me_var 0) (mo_no) (mo_so (me_int))) (me_str)) (me_slS (me_var 0) (mo_so (me_int)) (mo_no)) (me_var 0)))
    (mss_cons (ms_if (mw_pt (mw_or (mt_not (mt_lele (me_int) (me_len rfl T.z_len (me_var 1)) (me_int))) (mw_or1 (mw_pt (mw_and (mt_eq hr.units (me_ixS (me_var 1) (me_int)) (me_str)) (mw_and1 (mt_ne hr.units (me_var 0) (me_str)))))))) (mss_one (ms_raise (k := 2) rfl tk (pmk_own PySem.F.excBase_ValueError T.x_NoNote.1 T.g_NoNote T.x_NoNote.2.1 (raises_own T.x_NoNote.2.2.1 T.x_NoNote.2.2.2) rfl))) (mss_nil))
    (mss_cons (ms_for po rfl (mi_txt (me_var 1)) (mg_nm 2 sc_number_of.nd) (mss_one (ms_if (mt_notInS (me_var 2) (me_txg rfl T.c_FIGURES)) (mss_one (ms_raise (k := 2) rfl tk (pmk_own PySem.F.excBase_ValueError T.x_NoNote.1 T.g_NoNote T.x_NoNote.2.1 (raises_own T.x_NoNote.2.2.1 T.x_NoNote.2.2.2) rfl))) (mss_nil))))
    (mss_one (ms_ret (me_intS rfl T.z_int (me_var 0))))))
theorem ok_deed_of (T : Txt K mg wl) {fd : FuncData} (F : FunD K "deed_of" "deed_of" (defArgs st_deed_of) (defBody st_deed_of) (defScope st_deed_of) [] [] (He.ga K "deed_of") fd) : FnOk P wl K mg base (L2.CX P wl) 2 (He.ga K "deed_of") fd ["text"] (spOf ⟨K, acls K, none⟩ 1 f_deed_of) := by
  obtain ⟨fd_number_of, F_number_of⟩ := T.f_number_of
  have G_number_of := ok_number_of (P := P) (wl := wl) (base := base) T F_number_of
  have b_number_of : Binds K fd_number_of ["word"] [] := F_number_of.bindsN (fun _ _ _ _ _ _ us hl => match us, hl with | [_], _ => rfl)
  have k_number_of := F_number_of.kp
  refine fn_ok (k := 1) F sc_deed_of (by decide) fun cdv Ar outer s H E hr tk po => ?_
  exact mss_cons (ms_setF 1 sc_deed_of.nd (me_splt (me_var 0) (me_str)))
    (mss_cons (ms_if (mw_pt (mw_or (mt_tninA T.tab_WANTS rfl T.g_WANTS (me_ix (me_var 1) (me_int))) (mw_or1 (mt_ne hr.units (me_len rfl T.z_len (me_var 1)) (me_add (me_tget T.tab_WANTS.k rfl T.g_WANTS (me_ix (me_var 1) (me_int))) (me_int)))))) (mss_one (ms_raise (k := 2) rfl tk (pmk_own PySem.F.excBase_ValueError T.x_NoNote.1 T.g_NoNote T.x_NoNote.2.1 (raises_own T.x_NoNote.2.2.1 T.x_NoNote.2.2.2) rfl))) (mss_nil))
    (mss_one (ms_ret (me_tupL rfl T.z_tuple (me_add (me_lst (ma_cons (me_ix (me_var 1) (me_int)) (ma_nil))) (me_lcX rfl rfl tk rfl sc_deed_of.nd (mi_seq (me_sl (me_var 1) (mo_so (me_int)) (mo_no))) (blkOk_by (N := n_deed_of) (sc := defScope st_deed_of) (own := [("word", 2)]) (by decide +kernel)) rfl (by decide) (fun _ _ _ _ _ => mg_nm 2 sc_deed_of.nd) (fun _ _ _ _ _ => mpt_nil) (fun _ _ _ _ _ _ _ tk1 => me_call G_number_of ar_number_of (hr.mono (by decide)) tk1 rfl T.g_number_of k_number_of b_number_of (ma_cons (me_var 2) (ma_nil)))))))))
theorem ok_row_of (T : Txt K mg wl) {fd : FuncData} (F : FunD K "row_of" "row_of" (defArgs st_row_of) (defBody st_row_of) (defScope st_row_of) [] [] (He.ga K "row_of") fd) : FnOk P wl K mg base (L2.CX P wl) 3 (He.ga K "row_of") fd ["text"] (spOf ⟨K, acls K, none⟩ 1 f_row_of) := by
  obtain ⟨fd_deed_of, F_deed_of⟩ := T.f_deed_of
  have G_deed_of := ok_deed_of (P := P) (wl := wl) (base := base) T F_deed_of
  have b_deed_of : Binds K fd_deed_of ["text"] [] := F_deed_of.bindsN (fun _ _ _ _ _ _ us hl => match us, hl with | [_], _ => rfl)
  have k_deed_of := F_deed_of.kp
  obtain ⟨fd_number_of, F_number_of⟩ := T.f_number_of
  have G_number_of := ok_number_of (P := P) (wl := wl) (base := base) T F_number_of
  have b_number_of : Binds K fd_number_of ["word"] [] := F_number_of.bindsN (fun _ _ _ _ _ _ us hl => match us, hl with | [_], _ => rfl)
  have k_number_of := F_number_of.kp
  refine fn_ok (k := 2) F sc_row_of (by decide) fun cdv Ar outer s H E hr tk po => ?_
  exact mss_cons (ms_setT (mg_tp rfl (mgs_cons 1 sc_row_of.nd (mgs_cons 2 sc_row_of.nd (mgs_cons 3 sc_row_of.nd (mgs_nil))))) (me_part (me_var 0) (me_str)))
    (mss_cons (ms_if (mt_eq hr.units (me_var 2) (me_str)) (mss_one (ms_ret (me_tup (ma_cons (me_call G_deed_of ar_deed_of (hr.mono (by decide)) tk rfl T.g_deed_of k_deed_of b_deed_of (ma_cons (me_var 1) (ma_nil))) (ma_cons (me_int) (ma_nil)))))) (mss_nil))
    (mss_cons (ms_setF 4 sc_row_of.nd (me_call G_number_of ar_number_of (hr.mono (by decide)) tk rfl T.g_number_of k_number_of b_number_of (ma_cons (me_var 3) (ma_nil))))
    (mss_cons (ms_if (mw_pt (mw_or (mt_eq hr.units (me_var 4) (me_int)) (mw_or1 (mt_not (mt_lele (me_neg (me_int)) (me_var 4) (me_num rfl T.c_MOST_TURN)))))) (mss_one (ms_raise (k := 2) rfl tk (pmk_own PySem.F.excBase_ValueError T.x_NoNote.1 T.g_NoNote T.x_NoNote.2.1 (raises_own T.x_NoNote.2.2.1 T.x_NoNote.2.2.2) rfl))) (mss_nil))
    (mss_one (ms_ret (me_tup (ma_cons (me_call G_deed_of ar_deed_of (hr.mono (by decide)) tk rfl T.g_deed_of k_deed_of b_deed_of (ma_cons (me_var 1) (ma_nil))) (ma_cons (me_var 4) (ma_nil)))))))))
theorem ok_read (T : Txt K mg wl) {fd : FuncData} (F : FunD K "read" "read" (defArgs st_read) (defBody st_read) (defScope st_read) [] [] (He.ga K "read") fd) : FnOk P wl K mg base (L2.CX P wl) 4 (He.ga K "read") fd ["text"] (spOf ⟨K, acls K, none⟩ 1 f_read) := by
  obtain ⟨fd_row_of, F_row_of⟩ := T.f_row_of
  have G_row_of := ok_row_of (P := P) (wl := wl) (base := base) T F_row_of
  have b_row_of : Binds K fd_row_of ["text"] [] := F_row_of.bindsN (fun _ _ _ _ _ _ us hl => match us, hl with | [_], _ => rfl)
  have k_row_of := F_row_of.kp
  refine fn_ok (k := 3) F sc_read (by decide) fun cdv Ar outer s H E hr tk po => ?_
  exact mss_cons (ms_if (mt_eq hr.units (me_var 0) (me_str)) (mss_one (ms_ret (me_tup (ma_cons (me_ad (me_lst (ma_nil))) (ma_cons (me_ad (me_lst (ma_nil))) (ma_nil)))))) (mss_nil))
    (mss_cons (ms_setLcFX rfl rfl tk rfl sc_read.nd rfl rfl (sw_true rfl rfl rfl (by decide +kernel)) (mi_seq (me_splt (me_var 0) (me_str))) (blkOk_by (N := n_read) (sc := defScope st_read) (own := [("row", 2)]) (by decide +kernel)) rfl (by decide) (fun _ _ _ _ _ => mg_nm 2 sc_read.nd) (fun _ _ _ _ _ => mpt_nil) (fun _ _ _ _ _ _ _ tk3 => me_call G_row_of ar_row_of (hr.mono (by decide)) tk3 rfl T.g_row_of k_row_of b_row_of (ma_cons (me_var 2) (ma_nil))))
    (mss_cons (ms_if (mt_gt (me_len rfl T.z_len (me_var 1)) (me_num rfl T.c_MOST_DEEDS)) (mss_one (ms_raise (k := 2) rfl tk (pmk_own PySem.F.excBase_ValueError T.x_NoNote.1 T.g_NoNote T.x_NoNote.2.1 (raises_own T.x_NoNote.2.2.1 T.x_NoNote.2.2.2) rfl))) (mss_nil))
    (mss_one (ms_ret (me_tup (ma_cons (me_ad (me_lc rfl sc_read.nd (mi_seq (me_var 1)) (blkOk_by (N := n_read) (sc := defScope st_read) (own := [("deed", 3), ("many", 4)]) (by decide +kernel)) rfl (by decide) (fun _ _ _ _ _ => mg_tp rfl (mgs_cons 3 sc_read.nd (mgs_cons 4 sc_read.nd (mgs_nil)))) (fun _ _ _ _ _ => mpt_nil) (fun _ _ _ _ _ tk2 => me_var 3))) (ma_cons (me_ad (me_lc rfl sc_read.nd (mi_seq (me_var 1)) (blkOk_by (N := n_read) (sc := defScope st_read) (own := [("deed", 3), ("many", 4)]) (by decide +kernel)) rfl (by decide) (fun _ _ _ _ _ => mg_tp rfl (mgs_cons 3 sc_read.nd (mgs_cons 4 sc_read.nd (mgs_nil)))) (fun _ _ _ _ _ => mpt_nil) (fun _ _ _ _ _ tk1 => me_var 4))) (ma_nil))))))))
theorem ok__law_number (T : Txt K mg wl) {fd : FuncData} (F : FunD K "_law_number" "_law_number" (defArgs st__law_number) (defBody st__law_number) (defScope st__law_number) [] [] (He.ga K "_law_number") fd) : FnOk P wl K mg base (L2.CX P wl) 1 (He.ga K "_law_number") fd ["word"] (spOf ⟨K, acls K, none⟩ 1 f__law_number) := by
  refine fn_ok (k := 0) F sc__law_number (by decide) fun cdv Ar outer s H E hr tk po => ?_
  exact mss_cons (ms_setF 1 sc__law_number.nd (me_var 0))
    (mss_cons (ms_if (mt_eq hr.units (me_slS (me_var 0) (mo_no) (mo_so (me_int))) (me_str)) (mss_one (ms_setF 1 sc__law_number.nd (me_slS (me_var 0) (mo_so (me_int)) (mo_no)))) (mss_nil))
    (mss_cons (ms_if (mw_pt (mw_or (mt_eq hr.units (me_var 1) (me_str)) (mw_or (mt_gt (me_len rfl T.z_len (me_var 1)) (me_int)) (mw_or1 (mt_gt (me_len rfl T.z_len (me_lc rfl sc__law_number.nd (mi_txt (me_var 1)) (blkOk_by (N := n__law_number) (sc := defScope st__law_number) (own := [("sign", 2)]) (by decide +kernel)) rfl (by decide) (fun _ _ _ _ _ => mg_nm 2 sc__law_number.nd) (fun _ _ _ _ _ => mpt_one (mt_lt (me_find (me_str) (me_var 2)) (me_int))) (fun _ _ _ _ _ tk1 => me_var 2))) (me_int)))))) (mss_one (ms_ret (me_non))) (mss_nil))
    (mss_cons (ms_if (mw_pt (mw_and (mt_eq hr.units (me_ixS (me_var 1) (me_int)) (me_str)) (mw_and1 (mt_ne hr.units (me_var 0) (me_str))))) (mss_one (ms_ret (me_non))) (mss_nil))
    (mss_one (ms_ret (me_intS rfl T.z_int (me_var 0)))))))
theorem ok__law_row (T : Txt K mg wl) {fd : FuncData} (F : FunD K "_law_row" "_law_row" (defArgs st__law_row) (defBody st__law_row) (defScope st__law_row) [] [] (He.ga K "_law_row") fd) : FnOk P wl K mg base (L2.CX P wl) 2 (He.ga K "_law_row") fd ["text"] (spOf ⟨K, acls K, none⟩ 1 f__law_row) := by
  obtain ⟨fd__law_number, F__law_number⟩ := T.f__law_number
  have G__law_number := ok__law_number (P := P) (wl := wl) (base := base) T F__law_number
  have b__law_number : Binds K fd__law_number ["word"] [] := F__law_number.bindsN (fun _ _ _ _ _ _ us hl => match us, hl with | [_], _ => rfl)
  have k__law_number := F__law_number.kp
  refine fn_ok (k := 1) F sc__law_row (by decide) fun cdv Ar outer s H E hr tk po => ?_
  exact mss_cons (ms_setF 1 sc__law_row.nd (me_int))
    (mss_cons (ms_if (mt_gt (me_cntS (me_var 0) (me_str)) (me_int)) (mss_cons (ms_setF 2 sc__law_row.nd (me_find (me_var 0) (me_str)))
    (mss_cons (ms_setF 1 sc__law_row.nd (me_call G__law_number ar__law_number (hr.mono (by decide)) tk rfl T.g__law_number k__law_number b__law_number (ma_cons (me_slS (me_var 0) (mo_so (me_add (me_var 2) (me_int))) (mo_no)) (ma_nil))))
    (mss_cons (ms_setF 0 sc__law_row.nd (me_slS (me_var 0) (mo_no) (mo_so (me_var 2))))
    (mss_one (ms_if (mw_pt (mw_or (mt_isN (me_var 1) (me_non)) (mw_or (mt_eq hr.units (me_var 1) (me_int)) (mw_or (mt_lt (me_var 1) (me_neg (me_int))) (mw_or1 (mt_gt (me_var 1) (me_int))))))) (mss_one (ms_ret (me_non))) (mss_nil)))))) (mss_nil))
    (mss_cons (ms_setF 3 sc__law_row.nd (me_splt (me_var 0) (me_str)))
    (mss_cons (ms_setF 4 sc__law_row.nd (me_dsp [(.inr "make", .int 2), (.inr "number", .int 2), (.inr "clear", .int 1), (.inr "copy", .int 2), (.inr "put", .int 3), (.inr "take", .int 3), (.inr "tell", .int 1), (.inr "same", .int 2)] (pps_cons pe_str pe_int (pps_cons pe_str pe_int (pps_cons pe_str pe_int (pps_cons pe_str pe_int (pps_cons pe_str pe_int (pps_cons pe_str pe_int (pps_cons pe_str pe_int (pps_cons pe_str pe_int (pps_nil))))))))) rfl rfl (fun h => nomatch h) (by decide) (by decide)))
    (mss_cons (ms_setLcF rfl sc__law_row.nd rfl rfl (sw_true rfl rfl rfl (by decide +kernel)) (mi_seq (me_sl (me_var 3) (mo_so (me_int)) (mo_no))) (blkOk_by (N := n__law_row) (sc := defScope st__law_row) (own := [("word", 6)]) (by decide +kernel)) rfl (by decide) (fun _ _ _ _ _ => mg_nm 6 sc__law_row.nd) (fun _ _ _ _ _ => mpt_nil) (fun _ _ _ _ _ tk1 => me_call G__law_number ar__law_number (hr.mono (by decide)) tk1 rfl T.g__law_number k__law_number b__law_number (ma_cons (me_var 6) (ma_nil))))
    (mss_cons (ms_if (mw_pt (mw_or (mt_ne hr.units (me_dgetD (u1 hr.units) (me_var 4) (me_ix (me_var 3) (me_int)) (me_neg (me_int))) (me_len rfl T.z_len (me_var 5))) (mw_or1 (mt_in (me_non) (me_var 5))))) (mss_one (ms_ret (me_non))) (mss_nil))
    (mss_one (ms_ret (me_tup (ma_cons (me_tupL rfl T.z_tuple (me_add (me_lst (ma_cons (me_ix (me_var 3) (me_int)) (ma_nil))) (me_var 5))) (ma_cons (me_var 1) (ma_nil)))))))))))
theorem ok__law_due (T : Txt K mg wl) {fd : FuncData} (F : FunD K "_law_due" "_law_due" (defArgs st__law_due) (defBody st__law_due) (defScope st__law_due) [] [] (He.ga K "_law_due") fd) : FnOk P wl K mg base (L2.CX P wl) 3 (He.ga K "_law_due") fd ["text"] (spOf ⟨K, acls K, none⟩ 1 f__law_due) := by
  obtain ⟨fd__law_row, F__law_row⟩ := T.f__law_row
  have G__law_row := ok__law_row (P := P) (wl := wl) (base := base) T F__law_row
  have b__law_row : Binds K fd__law_row ["text"] [] := F__law_row.bindsN (fun _ _ _ _ _ _ us hl => match us, hl with | [_], _ => rfl)
  have k__law_row := F__law_row.kp
  refine fn_ok (k := 2) F sc__law_due (by decide) fun cdv Ar outer s H E hr tk po => ?_
  exact mss_cons (ms_if (mt_eq hr.units (me_var 0) (me_str)) (mss_one (ms_ret (me_tup (ma_cons (me_ad (me_lst (ma_nil))) (ma_cons (me_ad (me_lst (ma_nil))) (ma_nil)))))) (mss_nil))
    (mss_cons (ms_setLcF rfl sc__law_due.nd rfl rfl (sw_true rfl rfl rfl (by decide +kernel)) (mi_seq (me_splt (me_var 0) (me_str))) (blkOk_by (N := n__law_due) (sc := defScope st__law_due) (own := [("row", 2)]) (by decide +kernel)) rfl (by decide) (fun _ _ _ _ _ => mg_nm 2 sc__law_due.nd) (fun _ _ _ _ _ => mpt_nil) (fun _ _ _ _ _ tk3 => me_call G__law_row ar__law_row (hr.mono (by decide)) tk3 rfl T.g__law_row k__law_row b__law_row (ma_cons (me_var 2) (ma_nil))))
    (mss_cons (ms_if (mw_pt (mw_or (mt_inD hr.units (me_non) (me_var 1)) (mw_or1 (mt_gt (me_len rfl T.z_len (me_var 1)) (me_int))))) (mss_one (ms_ret (me_non))) (mss_nil))
    (mss_one (ms_ret (me_tup (ma_cons (me_ad (me_lc rfl sc__law_due.nd (mi_seq (me_var 1)) (blkOk_by (N := n__law_due) (sc := defScope st__law_due) (own := [("row", 2)]) (by decide +kernel)) rfl (by decide) (fun _ _ _ _ _ => mg_nm 2 sc__law_due.nd) (fun _ _ _ _ _ => mpt_nil) (fun _ _ _ _ _ tk2 => me_ix (me_var 2) (me_int)))) (ma_cons (me_ad (me_lc rfl sc__law_due.nd (mi_seq (me_var 1)) (blkOk_by (N := n__law_due) (sc := defScope st__law_due) (own := [("row", 2)]) (by decide +kernel)) rfl (by decide) (fun _ _ _ _ _ => mg_nm 2 sc__law_due.nd) (fun _ _ _ _ _ => mpt_nil) (fun _ _ _ _ _ tk1 => me_ix (me_var 2) (me_int)))) (ma_nil))))))))
theorem ok__law_cell_at (T : Txt K mg wl) {fd : FuncData} (F : FunD K "_law_cell_at" "_law_cell_at" (defArgs st__law_cell_at) (defBody st__law_cell_at) (defScope st__law_cell_at) [] [] (He.ga K "_law_cell_at") fd) : FnOk P wl K mg base (L2.CX P wl) 1 (He.ga K "_law_cell_at") fd ["script", "k"] (spOf ⟨K, acls K, none⟩ 2 f__law_cell_at) := by
  refine fn_ok (k := 0) F sc__law_cell_at (by decide) fun cdv Ar outer s H E hr tk po => ?_
  exact mss_cons (ms_if (mt_lt (me_var 1) (me_len rfl T.z_len (me_var 0))) (mss_one (ms_ret (me_ix (me_var 0) (me_var 1)))) (mss_nil))
    (mss_one (ms_ret (me_int)))
theorem ok__law_changed (T : Txt K mg wl) {fd : FuncData} (F : FunD K "_law_changed" "_law_changed" (defArgs st__law_changed) (defBody st__law_changed) (defScope st__law_changed) [] [] (He.ga K "_law_changed") fd) : FnOk P wl K mg base (L2.CX P wl) 1 (He.ga K "_law_changed") fd ["text", "cell"] (spOf ⟨K, acls K, none⟩ 2 f__law_changed) := by
  refine fn_ok (k := 0) F sc__law_changed (by decide) fun cdv Ar outer s H E hr tk po => ?_
  exact mss_cons (ms_setF 2 sc__law_changed.nd (me_mod (me_div (me_var 1) (me_int)) (me_add (me_len rfl T.z_len (me_var 0)) (me_int))))
    (mss_cons (ms_setF 3 sc__law_changed.nd (me_ixS (me_str) (me_mod (me_div (me_var 1) (me_int)) (me_int))))
    (mss_cons (ms_if (mt_eq hr.units (me_mod (me_var 1) (me_int)) (me_int)) (mss_one (ms_ret (me_add (me_slS (me_var 0) (mo_no) (mo_so (me_var 2))) (me_slS (me_var 0) (mo_so (me_add (me_var 2) (me_int))) (mo_no))))) (mss_nil))
    (mss_cons (ms_if (mt_eq hr.units (me_mod (me_var 1) (me_int)) (me_int)) (mss_one (ms_ret (me_add (me_add (me_slS (me_var 0) (mo_no) (mo_so (me_var 2))) (me_var 3)) (me_slS (me_var 0) (mo_so (me_var 2)) (mo_no))))) (mss_nil))
    (mss_cons (ms_if (mt_eq hr.units (me_mod (me_var 1) (me_int)) (me_int)) (mss_one (ms_ret (me_add (me_add (me_slS (me_var 0) (mo_no) (mo_so (me_var 2))) (me_var 3)) (me_slS (me_var 0) (mo_so (me_add (me_var 2) (me_int))) (mo_no))))) (mss_nil))
    (mss_cons (ms_setF 4 sc__law_changed.nd (me_lst (ma_cons (me_str) (ma_cons (me_str) (ma_cons (me_str) (ma_cons (me_str) (ma_cons (me_str) (ma_cons (me_str) (ma_cons (me_str) (ma_cons (me_str) (ma_cons (me_str) (ma_nil))))))))))))
    (mss_cons (ms_setF 4 sc__law_changed.nd (me_add (me_var 4) (me_lst (ma_cons (me_str) (ma_cons (me_str) (ma_cons (me_str) (ma_cons (me_str) (ma_cons (me_str) (ma_cons (me_str) (ma_cons (me_str) (ma_nil)))))))))))
    (mss_cons (ms_setF 4 sc__law_changed.nd (me_add (me_var 4) (me_lst (ma_cons (me_str) (ma_cons (me_str) (ma_nil))))))
    (mss_cons (ms_setF 4 sc__law_changed.nd (me_add (me_var 4) (me_lst (ma_cons (me_join (me_str) (me_mul (me_lst (ma_cons (me_str) (ma_nil))) (me_int))) (ma_cons (me_join (me_str) (me_mul (me_lst (ma_cons (me_str) (ma_nil))) (me_int))) (ma_cons (me_str) (ma_cons (me_str) (ma_nil))))))))
    (mss_one (ms_ret (me_ix (me_var 4) (me_mod (me_div (me_var 1) (me_int)) (me_int)))))))))))))
theorem ok__law_deed (T : Txt K mg wl) {fd : FuncData} (F : FunD K "_law_deed" "_law_deed" (defArgs st__law_deed) (defBody st__law_deed) (defScope st__law_deed) [] [] (He.ga K "_law_deed") fd) : FnOk P wl K mg base (L2.CX P wl) 1 (He.ga K "_law_deed") fd ["cell"] (spOf ⟨K, acls K, none⟩ 1 f__law_deed) := by
  refine fn_ok (k := 0) F sc__law_deed (by decide) fun cdv Ar outer s H E hr tk po => ?_
  exact mss_cons (ms_setF 1 sc__law_deed.nd (me_lst (ma_cons (me_str) (ma_cons (me_str) (ma_cons (me_str) (ma_cons (me_str) (ma_cons (me_str) (ma_cons (me_str) (ma_cons (me_str) (ma_cons (me_str) (ma_cons (me_str) (ma_cons (me_str) (ma_cons (me_str) (ma_cons (me_str) (ma_nil)))))))))))))))
    (mss_cons (ms_setF 2 sc__law_deed.nd (me_ix (me_var 1) (me_mod (me_var 0) (me_int))))
    (mss_cons (ms_setF 3 sc__law_deed.nd (me_add (me_mod (me_div (me_var 0) (me_int)) (me_int)) (me_mul (me_int) (me_mod (me_div (me_var 0) (me_int)) (me_int)))))
    (mss_cons (ms_setF 4 sc__law_deed.nd (me_add (me_mod (me_div (me_var 0) (me_int)) (me_int)) (me_mul (me_int) (me_mod (me_div (me_var 0) (me_int)) (me_int)))))
    (mss_cons (ms_setF 5 sc__law_deed.nd (me_add (me_mod (me_div (me_var 0) (me_int)) (me_int)) (me_mod (me_div (me_var 0) (me_int)) (me_int))))
    (mss_cons (ms_if (mt_eq hr.units (me_var 2) (me_str)) (mss_one (ms_ret (me_tup (ma_cons (me_str) (ma_cons (me_var 3) (ma_cons (me_add (me_var 5) (me_mod (me_div (me_var 0) (me_int)) (me_int))) (ma_nil))))))) (mss_nil))
    (mss_cons (ms_if (mt_eq hr.units (me_var 2) (me_str)) (mss_one (ms_ret (me_tup (ma_cons (me_str) (ma_cons (me_var 3) (ma_cons (me_var 5) (ma_cons (me_var 4) (ma_nil)))))))) (mss_nil))
    (mss_cons (ms_if (mt_eq hr.units (me_var 2) (me_str)) (mss_one (ms_ret (me_tup (ma_cons (me_str) (ma_cons (me_var 3) (ma_cons (me_var 4) (ma_cons (me_var 5) (ma_nil)))))))) (mss_nil))
    (mss_cons (ms_if (mt_eq hr.units (me_var 2) (me_str)) (mss_one (ms_ret (me_tup (ma_cons (me_str) (ma_cons (me_var 3) (ma_cons (me_ix (me_lst (ma_cons (me_sub (me_mod (me_div (me_var 0) (me_int)) (me_int)) (me_int)) (ma_cons (me_int) (ma_cons (me_neg (me_int)) (ma_nil))))) (me_max rfl rfl T.z_max (me_int) (me_sub (me_mod (me_div (me_var 0) (me_int)) (me_int)) (me_int)))) (ma_nil))))))) (mss_nil))
    (mss_cons (ms_if (mw_pt (mw_or (mt_eq hr.units (me_var 2) (me_str)) (mw_or1 (mt_eq hr.units (me_var 2) (me_str))))) (mss_one (ms_ret (me_tup (ma_cons (me_var 2) (ma_cons (me_var 3) (ma_cons (me_var 4) (ma_nil))))))) (mss_nil))
    (mss_one (ms_ret (me_tup (ma_cons (me_var 2) (ma_cons (me_var 3) (ma_nil)))))))))))))))
theorem ok_law (T : Txt K mg wl) {fd : FuncData} (F : FunD K "law" "law" (defArgs st_law) (defBody st_law) (defScope st_law) [] [] (He.ga K "law") fd) : FnOk P wl K mg base (L2.CX P wl) 5 (He.ga K "law") fd ["script"] (spOf ⟨K, acls K, none⟩ 1 f_law) := by
  obtain ⟨fd__law_cell_at, F__law_cell_at⟩ := T.f__law_cell_at
  have G__law_cell_at := ok__law_cell_at (P := P) (wl := wl) (base := base) T F__law_cell_at
  have b__law_cell_at : Binds K fd__law_cell_at ["script", "k"] [] := F__law_cell_at.bindsN (fun _ _ _ _ _ _ us hl => match us, hl with | [_, _], _ => rfl)
  have k__law_cell_at := F__law_cell_at.kp
  obtain ⟨fd__law_changed, F__law_changed⟩ := T.f__law_changed
  have G__law_changed := ok__law_changed (P := P) (wl := wl) (base := base) T F__law_changed
  have b__law_changed : Binds K fd__law_changed ["text", "cell"] [] := F__law_changed.bindsN (fun _ _ _ _ _ _ us hl => match us, hl with | [_, _], _ => rfl)
  have k__law_changed := F__law_changed.kp
  obtain ⟨fd__law_deed, F__law_deed⟩ := T.f__law_deed
  have G__law_deed := ok__law_deed (P := P) (wl := wl) (base := base) T F__law_deed
  have b__law_deed : Binds K fd__law_deed ["cell"] [] := F__law_deed.bindsN (fun _ _ _ _ _ _ us hl => match us, hl with | [_], _ => rfl)
  have k__law_deed := F__law_deed.kp
  obtain ⟨fd__law_due, F__law_due⟩ := T.f__law_due
  have G__law_due := ok__law_due (P := P) (wl := wl) (base := base) T F__law_due
  have b__law_due : Binds K fd__law_due ["text"] [] := F__law_due.bindsN (fun _ _ _ _ _ _ us hl => match us, hl with | [_], _ => rfl)
  have k__law_due := F__law_due.kp
  obtain ⟨fd_read, F_read⟩ := T.f_read
  have G_read := ok_read (P := P) (wl := wl) (base := base) T F_read
  have b_read : Binds K fd_read ["text"] [] := F_read.bindsN (fun _ _ _ _ _ _ us hl => match us, hl with | [_], _ => rfl)
  have k_read := F_read.kp
  refine fn_ok (k := 4) F sc_law (by decide) fun cdv Ar outer s H E hr tk po => ?_
  exact mss_cons (ms_set 1 sc_law.nd (me_lst (ma_nil)))
    (mss_cons (ms_for po rfl (mi_rng1 (by exact rfl) T.z_range (me_mod (me_call G__law_cell_at ar__law_cell_at (hr.mono (by decide)) tk rfl T.g__law_cell_at k__law_cell_at b__law_cell_at (ma_cons (me_var 0) (ma_cons (me_int) (ma_nil)))) (me_int))) (mg_nm 2 sc_law.nd) (mss_cons (ms_setF 3 sc_law.nd (me_call G__law_deed ar__law_deed (hr.mono (by decide)) tk rfl T.g__law_deed k__law_deed b__law_deed (ma_cons (me_call G__law_cell_at ar__law_cell_at (hr.mono (by decide)) tk rfl T.g__law_cell_at k__law_cell_at b__law_cell_at (ma_cons (me_var 0) (ma_cons (me_add (me_int) (me_var 2)) (ma_nil)))) (ma_nil))))
    (mss_cons (ms_setF 4 sc_law.nd (me_sub (me_mod (me_call G__law_cell_at ar__law_cell_at (hr.mono (by decide)) tk rfl T.g__law_cell_at k__law_cell_at b__law_cell_at (ma_cons (me_var 0) (ma_cons (me_add (me_int) (me_var 2)) (ma_nil)))) (me_int)) (me_int)))
    (mss_one (ms_app 1 (me_add (me_join (me_str) (me_lc rfl sc_law.nd (mi_seq (me_var 3)) (blkOk_by (N := n_law) (sc := defScope st_law) (own := [("part", 9)]) (by decide +kernel)) rfl (by decide) (fun _ _ _ _ _ => mg_nm 9 sc_law.nd) (fun _ _ _ _ _ => mpt_nil) (fun _ _ _ _ _ tk1 => me_strC rfl T.z_str (me_var 9)))) (me_ix (me_lst (ma_cons (me_add (me_str) (me_strC rfl T.z_str (me_var 4))) (ma_cons (me_str) (ma_nil)))) (me_int1 rfl T.z_int (me_eq hr.units (me_var 4) (me_int))))))))))
    (mss_cons (ms_pre (quiet_fz 1) (ms_setF 5 sc_law.nd (me_join (me_str) (me_var 1))))
    (mss_cons (ms_if (mt_gt (me_mod (me_call G__law_cell_at ar__law_cell_at (hr.mono (by decide)) tk rfl T.g__law_cell_at k__law_cell_at b__law_cell_at (ma_cons (me_var 0) (ma_cons (me_int) (ma_nil)))) (me_int)) (me_int)) (mss_one (ms_setF 5 sc_law.nd (me_call G__law_changed ar__law_changed (hr.mono (by decide)) tk rfl T.g__law_changed k__law_changed b__law_changed (ma_cons (me_var 5) (ma_cons (me_call G__law_cell_at ar__law_cell_at (hr.mono (by decide)) tk rfl T.g__law_cell_at k__law_cell_at b__law_cell_at (ma_cons (me_var 0) (ma_cons (me_int) (ma_nil)))) (ma_nil)))))) (mss_nil))
    (mss_cons (ms_setF 6 sc_law.nd (me_call G__law_due ar__law_due (hr.mono (by decide)) tk rfl T.g__law_due k__law_due b__law_due (ma_cons (me_var 5) (ma_nil))))
    (mss_cons (ms_setF 7 sc_law.nd (me_non))
    (mss_cons (ms_tryAs (i := 8) (ct := [true, true, true]) rfl rfl sc_law.nd rfl rfl ⟨rfl, by decide, .inl T.g_YardError⟩ tk (exm_YardError T) (fun _ _ _ tk po => mss_one (ms_setF 7 sc_law.nd (me_call G_read ar_read (hr.mono (by decide)) tk rfl T.g_read k_read b_read (ma_cons (me_var 5) (ma_nil))))) (fun k hk _ _ _ hz hfd => mss_one (ms_setF 7 sc_law.nd (me_tup (ma_cons (me_isX (l := [false, false, true]) (k := k) (i := 8) (ecc T k (lt_of hk)) hz hfd (fun b hb => kit_NoNote T k b hb) rfl (Or.inl rfl) rfl T.z_isinstance rfl T.g_NoNote (by decide) (by decide) (by decide) rfl rfl rfl) (ma_cons (me_isT (l := [true, true, true]) (k := k) (i := 8) (T := "ValueError") (ecc T k (lt_of hk)) hz hfd (fun b hb => kit_ValueError T k b hb) rfl (Or.inl rfl) rfl T.z_isinstance rfl T.z_ValueError (by decide +kernel) (by decide) (by decide) (by decide) (by decide) rfl rfl rfl) (ma_cons (me_isX (l := [false, true, false]) (k := k) (i := 8) (ecc T k (lt_of hk)) hz hfd (fun b hb => kit_NoDeed T k b hb) rfl (Or.inl rfl) rfl T.z_isinstance rfl T.g_NoDeed (by decide) (by decide) (by decide) rfl rfl rfl) (ma_nil))))))))
    (mss_cons (ms_if (mt_isN (me_var 6) (me_non)) (mss_one (ms_ret (me_eq hr.units (me_var 7) (me_tup (ma_cons (me_bl) (ma_cons (me_bl) (ma_cons (me_bl) (ma_nil)))))))) (mss_nil))
    (mss_one (ms_ret (me_eq hr.units (me_var 7) (me_var 6)))))))))))
end
def fn : List He.DefD := [d_number_of, d_deed_of, d_row_of, d_read, d__law_number, d__law_row, d__law_due, d__law_cell_at, d__law_changed, d__law_deed, d_law]
def fa : List He.Fa := [.glo "number_of", .glo "deed_of", .glo "row_of", .glo "read", .glo "_law_number", .glo "_law_row", .glo "_law_due", .glo "_law_cell_at", .glo "_law_changed", .glo "_law_deed", .glo "law", .glo "WANTS", .glo "YardError", .exc "YardError", .glo "NoDeed", .exc "NoDeed", .glo "NoNote", .exc "NoNote", .str "FIGURES" "0123456789", .int "MOST_DEEDS" 30, .int "MOST_TURN" 100, .free "ValueError", .free "int", .free "isinstance", .free "len", .free "max", .free "range", .free "str", .free "tuple", .exm "YardError" "YardError" true, .exm "NoDeed" "YardError" true, .exm "NoNote" "YardError" true]
def exs : Exs := [fun K => eccB K (He.ga K "YardError"), fun K => eccB K (He.ga K "NoDeed"), fun K => eccB K (He.ga K "NoNote"), fun K => decide (PySem.W.kitOne K (.ref (He.ga K "YardError")) (.ref (He.ga K "NoDeed")) = some false), fun K => decide (PySem.W.kitOne K (.ref (He.ga K "NoDeed")) (.ref (He.ga K "NoDeed")) = some true), fun K => decide (PySem.W.kitOne K (.ref (He.ga K "NoNote")) (.ref (He.ga K "NoDeed")) = some false), fun K => decide (PySem.W.kitOne K (.ref (He.ga K "YardError")) (.ref (He.ga K "NoNote")) = some false), fun K => decide (PySem.W.kitOne K (.ref (He.ga K "NoDeed")) (.ref (He.ga K "NoNote")) = some false), fun K => decide (PySem.W.kitOne K (.ref (He.ga K "NoNote")) (.ref (He.ga K "NoNote")) = some true), fun K => decide (PySem.W.kitOne K (.ref (He.ga K "YardError")) (.type "ValueError") = some true), fun K => decide (PySem.W.kitOne K (.ref (He.ga K "NoDeed")) (.type "ValueError") = some true), fun K => decide (PySem.W.kitOne K (.ref (He.ga K "NoNote")) (.type "ValueError") = some true), fun K => tabAB K (He.ga K "WANTS") tb_WANTS]
def nm0 : List Str := ["YardError", "NoDeed", "NoNote", "MOST_DEEDS", "MOST_TURN", "WANTS", "FIGURES", "number_of", "deed_of", "row_of", "read", "_law_cell_at", "_law_deed", "_law_program", "_law_number", "_law_row", "_law_due", "_law_changed"]
def ts : List He.Tab := [((fun K => He.ga K "WANTS"), ["make", "number", "clear", "copy", "put", "take", "tell", "same"])]
theorem facts {K : PySem.W.Frag} {h : Heap} {mg : Str → Option Value} {wl : World} (X : K.In h) (G : h.Ns mainGlobals mg) (c : He.SaysD fa fn K) (ce : exK exs K = true) (ct : ∀ t ∈ ts, ∃ es n, KDict K wl (t.1 K) es n) : Txt K mg wl :=
  ⟨He.glo_ok X G (c.fact 0 rfl),
   He.glo_ok X G (c.fact 1 rfl),
   He.glo_ok X G (c.fact 2 rfl),
   He.glo_ok X G (c.fact 3 rfl),
   He.glo_ok X G (c.fact 4 rfl),
   He.glo_ok X G (c.fact 5 rfl),
   He.glo_ok X G (c.fact 6 rfl),
   He.glo_ok X G (c.fact 7 rfl),
   He.glo_ok X G (c.fact 8 rfl),
   He.glo_ok X G (c.fact 9 rfl),
   He.glo_ok X G (c.fact 10 rfl),
   He.glo_ok X G (c.fact 11 rfl),
   He.glo_ok X G (c.fact 12 rfl),
   He.exc_ok (c.fact 13 rfl),
   He.glo_ok X G (c.fact 14 rfl),
   He.exc_ok (c.fact 15 rfl),
   He.glo_ok X G (c.fact 16 rfl),
   He.exc_ok (c.fact 17 rfl),
   He.str_ok X G (c.fact 18 rfl),
   He.int_ok X G (c.fact 19 rfl),
   He.int_ok X G (c.fact 20 rfl),
   He.free_ok X G (c.fact 21 rfl),
   He.free_ok X G (c.fact 22 rfl),
   He.free_ok X G (c.fact 23 rfl),
   He.free_ok X G (c.fact 24 rfl),
   He.free_ok X G (c.fact 25 rfl),
   He.free_ok X G (c.fact 26 rfl),
   He.free_ok X G (c.fact 27 rfl),
   He.free_ok X G (c.fact 28 rfl),
   He.exm_ok (c.fact 29 rfl),
   He.exm_ok (c.fact 30 rfl),
   He.exm_ok (c.fact 31 rfl),
   eccB_ok (exK_at ce 0 rfl),
   eccB_ok (exK_at ce 1 rfl),
   eccB_ok (exK_at ce 2 rfl),
   of_decide_eq_true (exK_at ce 3 rfl),
   of_decide_eq_true (exK_at ce 4 rfl),
   of_decide_eq_true (exK_at ce 5 rfl),
   of_decide_eq_true (exK_at ce 6 rfl),
   of_decide_eq_true (exK_at ce 7 rfl),
   of_decide_eq_true (exK_at ce 8 rfl),
   of_decide_eq_true (exK_at ce 9 rfl),
   of_decide_eq_true (exK_at ce 10 rfl),
   of_decide_eq_true (exK_at ce 11 rfl),
   id (exK_at ce 12 rfl),
   ⟨⟨ct _ (List.getElem_mem (show 0 < ts.length by decide)), tabB_ok (tabAB_b (exK_at ce 12 rfl))⟩, tabAB_no (exK_at ce 12 rfl)⟩,
   c.def_ 0 (d := d_number_of) rfl,
   c.def_ 1 (d := d_deed_of) rfl,
   c.def_ 2 (d := d_row_of) rfl,
   c.def_ 3 (d := d_read) rfl,
   c.def_ 4 (d := d__law_number) rfl,
   c.def_ 5 (d := d__law_row) rfl,
   c.def_ 6 (d := d__law_due) rfl,
   c.def_ 7 (d := d__law_cell_at) rfl,
   c.def_ 8 (d := d__law_changed) rfl,
   c.def_ 9 (d := d__law_deed) rfl,
   c.def_ 10 (d := d_law) rfl⟩
abbrev Rw : PySem.W.OpenRow := PySem.W.OpenLaw.row PySem.Challenge.rw_gleanyard_k17_texts_read_or_refused
abbrev hk : PySem.W.Hook := hookX 4 fa fn exs ts
def ob (s : PySem.W.SharedT) : AlX := obsX 4 fa fn exs ts (HandSHeadRun.getT s)
theorem ob_eq (s : PySem.W.SharedT) : ob s = hk.obs s.abs := obsX_eq (HandSHeadRun.getT_eq s)
def names : List Str := nm0
abbrev RunP (w : World) : Prop := HandSHeadRun.RunEq Rw (PySem.W.view Rw.prog [21]) hk ob 20000 names w
theorem run_f (w : World) : RunP (w.withFollow "special-get-raises" false) := by intro os; kernel_rfl
theorem run_t (w : World) : RunP (w.withFollow "special-get-raises" true) := by intro os; kernel_rfl
theorem run (w : World) : RunP w := PySem.W.byRow2 "special-get-raises" (P := RunP) run_f run_t w
end Lw

set_option Elab.async false
set_option linter.all false
set_option maxRecDepth 100000
set_option autoImplicit false
set_option maxHeartbeats 1000000
namespace Lw
open PySem L2 Gm
local macro_rules | `(tactic| walk_at "ev") => `(tactic| try simp only [eOp2, eOp1, eVar, eC, tq, tNotX, tAndX, tOrX, eAnd, eOr, eNot, eIf, aNil, aCons, snk, Gm.fz, eTup, eLst, eCall, oNo, oSo, eSl, iSeq, seqD, dr, tgE, setsE, Option.map_some, List.getElem?_cons_zero, List.getElem?_cons_succ, List.set_cons_zero, List.set_cons_succ, List.length_cons, List.length_nil, Nat.reduceAdd, Nat.reduceLeDiff, if_true, Int.reduceNeg,
  fAdd_i, fSub_i, fLt_i, fLe_i, fGt_i, fGe_i, fNeg_i, fMax_i, fMin_i, fEq_i, fNe_i, fEq_b, fIsN_i, fIsN_n, fNotN_i, fNotN_n, fIsN_t, fNotN_t, fNotB_b, fIsB_b, fLen_l, fLen_t, fLen_b, fLen_s, fIx_p0, fIx_p1, Bool.not_true, Bool.not_false, decide_true, decide_false])
local macro_rules | `(tactic| simp_arith [$ls,*]) => `(tactic| simp (maxSteps := 4000000) (disch := omega) only [↓we_op2, ↓we_op1, ↓we_C, ↓we_dct0, ↓we_tY, ↓we_tq, ↓we_notX, ↓we_andX, ↓we_orX, ↓we_and, ↓we_or, ↓we_not, ↓we_if, ↓we_aNil, ↓we_aCons, ↓we_tup, ↓we_lst, ↓we_call, ↓we_oNo, ↓we_oSo, ↓we_sl, ↓we_meth, ↓we_lele, ↓we_lelt, ↓wi_seq, ↓wi_rng1, ↓wi_rng2, ↓ws_seq, ↓Kt_eq, ↓ws_nil, ↓ws_ex, ↓ws_set, ↓ws_setF, ↓asE_s, ↓ws_setT, ↓ws_if, ↓ws_ret, ↓ws_retN, ↓ws_retV, ↓ws_raise, ↓ws_pre, ↓ws_ad, ↓ws_app, ↓wq_ext, ↓ws_sub, ↓ws_rev, ↓ws_dp,
  eVar_eq, vrO_s, R.W_ok, R.W_exc, R.W_no, R.W_ite, List.getElem?_cons_zero, List.getElem?_cons_succ, List.set_cons_zero, List.set_cons_succ, vr_i, vr_b, vr_n, vr_s, vr_t, vr_l, vr_c, vr_d, vr_r, vr_o, vr_e, fz_i, fz_b, fz_n, fz_s, fz_t, fz_l, fz_c, fz_d, fz_r, fz_bo, fz_ol, fz_od, fz_e, asK_i, asK_b, asK_n, asK_s, asK_t, asK_l, asK_c, asK_d, asK_r, asK_ol, asK_od, asK_e, asR_i, asR_b, asR_n, asR_s, asR_t, asR_l, asR_c, asR_d, asR_r, asR_o, asR_e, asB_b, asI_i, rvO_i, rvO_b, rvO_n, rvO_s, rvO_t, rvO_l, rvO_c, rvO_d, rvO_r, rvO_o, rvO_e,
  muO_app, muO_rev, muO_ext, muO_seti, muO_ref, rfO_app, rfO_ext, rfO_seti, rfO_rev, isLO_own, isLO_ref, isLr_s, asL_s, duO_own, duO_ref, rdO_s, isDO_own, isDO_ref, isDr_s, asKy_i, asKy_s, gFz_1, gFz_2, fzO_o, fzO_l, fzO_d, fzO_r, fzO_i, fzO_b, fzO_t, fzO_n, fzO_z, adK_eq, adO_o, adO_r,
  aT_t, aT_f, aT_d, aT_n, aT_and, aT_or, fAdd_i, fSub_i, fLt_i, fLe_i, fGt_i, fGe_i, fNeg_i, fMax_i, fMin_i, xEq_i, xNe_i, xEq_b, xNe_b, xEq_ni, xEq_in, xEq_nn, xNe_ni, xNe_in, xNe_nn, fIsN_i, fIsN_n, fNotN_i, fNotN_n, fIsN_t, fNotN_t, fNotN_r, fNotN_l, fIsN_r, fIsN_l, fNotB_b, fIsB_b, fLen_l, fLen_t, fLen_b, fLen_s, fIsi_bb, fIsi_ib, fIsi_bi, fIsi_ii, fIsi_ll, fIsi_bl, fIsi_tt, rOk_eq,
  wf_mod, wf_div, wf_mul, cMul_eq, wf_pow, asAt_s, wf_ixL, wf_ixB, wf_ixT, wf_ixR, atI_0, atI_1, atI_2, wf_lenR, wf_lenS, wf_addS, wf_addL, wf_addBL, wf_addLB, wf_addRL, wf_repL, wf_slL, wf_slB, wf_slR, wf_listL, wf_listB, wf_listR, wf_pop, wg_dgD, wg_dgB, wg_dinD, wg_dinB, putD_dic, putD_dicB, putD_dicI, putD_dicL, List.getElem?_set_self, dic_len, dic_keys, wf_sumI, wf_allB, wf_sorted, wf_sortSet, wf_listD, wf_listDB, seqD_l', seqD_t', seqD_c', drM_l, drM_b, isLD_r, fIn_i, fIn_n, fEq_li, fNe_li, exEq, exEq', exEq1, wf_allBg, wf_sumIg,
  Bool.not_true, Bool.not_false, decide_true, decide_false, true_and, and_true, if_true, if_false, Bool.false_eq_true, true_implies, List.length_cons, List.length_nil, Nat.reduceAdd, Nat.reduceLeDiff, Int.reduceNeg, Int.reduceLT, Int.reduceLE, Nat.reduceLT, List.map_cons, List.map_nil, List.cons_append, List.nil_append, List.append_nil, Nat.reduceSub, List.replicate, List.length_map, at_map, Int.zero_add, Int.toNat_natCast, Int.reduceToNat, $ls,*])
local macro_rules | `(tactic| simp_all_arith [$ls,*]) => `(tactic| simp (maxSteps := 4000000) (disch := omega) only [↓we_op2, ↓we_op1, ↓we_C, ↓we_dct0, ↓we_tY, ↓we_tq, ↓we_notX, ↓we_andX, ↓we_orX, ↓we_and, ↓we_or, ↓we_not, ↓we_aNil, ↓we_aCons, ↓we_tup, ↓we_lst, ↓we_call, ↓we_oNo, ↓we_oSo, ↓we_sl, ↓we_meth, ↓we_lele, ↓we_lelt, ↓wi_seq, ↓wi_rng1, ↓wi_rng2, ↓ws_seq, ↓Kt_eq, ↓ws_nil, ↓ws_ex, ↓ws_set, ↓ws_setF, ↓asE_s, ↓ws_setT, ↓ws_ret, ↓ws_retN, ↓ws_retV, ↓ws_raise, ↓ws_pre, ↓ws_ad, ↓ws_app, ↓wq_ext, ↓ws_sub, ↓ws_rev, ↓ws_dp,
  eVar_eq, vrO_s, R.W_ok, R.W_exc, R.W_no, R.W_ite, List.getElem?_cons_zero, List.getElem?_cons_succ, List.set_cons_zero, List.set_cons_succ, vr_i, vr_b, vr_n, vr_s, vr_t, vr_l, vr_c, vr_d, vr_r, vr_o, vr_e, fz_i, fz_b, fz_n, fz_s, fz_t, fz_l, fz_c, fz_d, fz_r, fz_bo, fz_ol, fz_od, fz_e, asK_i, asK_b, asK_n, asK_s, asK_t, asK_l, asK_c, asK_d, asK_r, asK_ol, asK_od, asK_e, asR_i, asR_b, asR_n, asR_s, asR_t, asR_l, asR_c, asR_d, asR_r, asR_o, asR_e, asB_b, asI_i, rvO_i, rvO_b, rvO_n, rvO_s, rvO_t, rvO_l, rvO_c, rvO_d, rvO_r, rvO_o, rvO_e,
  muO_app, muO_rev, muO_ext, muO_seti, muO_ref, rfO_app, rfO_ext, rfO_seti, rfO_rev, isLO_own, isLO_ref, isLr_s, asL_s, duO_own, duO_ref, rdO_s, isDO_own, isDO_ref, isDr_s, asKy_i, asKy_s, gFz_1, gFz_2, fzO_o, fzO_l, fzO_d, fzO_r, fzO_i, fzO_b, fzO_t, fzO_n, fzO_z, adK_eq, adO_o, adO_r,
  aT_t, aT_f, aT_d, aT_n, aT_and, aT_or, fAdd_i, fSub_i, fLt_i, fLe_i, fGt_i, fGe_i, fNeg_i, fMax_i, fMin_i, xEq_i, xNe_i, xEq_b, xNe_b, xEq_ni, xEq_in, xEq_nn, xNe_ni, xNe_in, xNe_nn, fIsN_i, fIsN_n, fNotN_i, fNotN_n, fIsN_t, fNotN_t, fNotN_r, fNotN_l, fIsN_r, fIsN_l, fNotB_b, fIsB_b, fLen_l, fLen_t, fLen_b, fLen_s, fIsi_bb, fIsi_ib, fIsi_bi, fIsi_ii, fIsi_ll, fIsi_bl, fIsi_tt, rOk_eq,
  wf_mod, wf_div, wf_mul, cMul_eq, wf_pow, asAt_s, wf_ixL, wf_ixB, wf_ixT, wf_ixR, atI_0, atI_1, atI_2, wf_lenR, wf_lenS, wf_addS, wf_addL, wf_addBL, wf_addLB, wf_addRL, wf_repL, wf_slL, wf_slB, wf_slR, wf_listL, wf_listB, wf_listR, wf_pop, wg_dgD, wg_dgB, wg_dinD, wg_dinB, putD_dic, putD_dicB, putD_dicI, putD_dicL, List.getElem?_set_self, dic_len, dic_keys, wf_sumI, wf_allB, wf_sorted, wf_sortSet, wf_listD, wf_listDB, seqD_l', seqD_t', seqD_c', drM_l, drM_b, isLD_r, fIn_i, fIn_n, fEq_li, fNe_li, exEq, exEq', exEq1, wf_allBg, wf_sumIg,
  Bool.not_true, Bool.not_false, decide_true, decide_false, true_and, and_true, if_true, if_false, Bool.false_eq_true, true_implies, List.length_cons, List.length_nil, Nat.reduceAdd, Nat.reduceLeDiff, Int.reduceNeg, Int.reduceLT, Int.reduceLE, Nat.reduceLT, List.map_cons, List.map_nil, List.cons_append, List.nil_append, List.append_nil, Nat.reduceSub, List.replicate, List.length_map, at_map, Int.zero_add, Int.toNat_natCast, Int.reduceToNat, $ls,*])
def cellAt (ns : List Int) (k : Int) : Int := if k < ns.length then ns.getD k.toNat 0 else 0
theorem cell_eq {ns : List Int} {k : Int} {s : Store} (h : 0 ≤ k) : f__law_cell_at [.scr ns, .int k] s = .ok (.int (cellAt ns k)) s := by
  have key : (f__law_cell_at [.scr ns, .int k] s).W (fun d s' => d = .int (cellAt ns k) ∧ s' = s) X0 := by
    refine w_fn (env := [some (.scr ns), some (.int k)]) rfl rfl (w_seq (w_if (k := decide (k < (ns.length : Int))) (s' := s) (by walk_at "ev") (fun e => ?_) (fun e => ?_)))
    · have hlt : k < (ns.length : Int) := of_decide_eq_true e
      have : (ns.map D.int)[k.toNat]? = some (.int (ns.getD k.toNat 0)) := by
        rw [List.getElem?_map, List.getD_eq_getElem?_getD, List.getElem?_eq_getElem (by omega)]
        rfl
      refine w_ret (d := .int (ns.getD k.toNat 0)) (s' := s) ?_ rfl ⟨by unfold cellAt; rw [if_pos hlt], rfl⟩
      walk_at "ev"
      simp [fIx, dr, atI_of h this]
    · refine w_nil (w_ret (d := .int 0) (s' := s) (by walk_at "ev") rfl ⟨by unfold cellAt; rw [if_neg (of_decide_eq_false e)], rfl⟩)
  obtain ⟨d, s', e, rfl, rfl⟩ := key.eq
  exact e
inductive Val where
  | non | num (n : Int) | at_ (m : Int) | odd (m : Int)
deriving DecidableEq
instance : En Val := ⟨fun v => match v with
  | .non => .non
  | .num n => .tup [.str "is", .int n]
  | .at_ m => .tup [.str "at", .int m]
  | .odd m => .tup [.str "to", .int m], fun v => by cases v <;> rfl⟩
theorem e_non : (En.e Val.non : D) = .non := rfl
theorem e_num {n : Int} : (En.e (Val.num n) : D) = .tup [.str "is", .int n] := rfl
theorem e_at {n : Int} : (En.e (Val.at_ n) : D) = .tup [.str "at", .int n] := rfl
theorem e_odd {n : Int} : (En.e (Val.odd n) : D) = .tup [.str "to", .int n] := rfl
theorem is_ok : PyData.strOk "is" = true := by decide +kernel
theorem at_ok : PyData.strOk "at" = true := by decide +kernel
theorem to_ok : PyData.strOk "to" = true := by decide +kernel
theorem v_str {x y : Str} {a b : Int} (hx : PyData.strOk x = true) : dOk 2 (.tup [.str x, .int a]) = true := by
  unfold dOk dOkL dOkL dOkL dOk
  simp [hx]
theorem val_ok (v : Val) : dOk 2 (En.e v) = true := by
  cases v with
  | non => rfl
  | num n => exact v_str (y := "") (b := 0) is_ok
  | at_ n => exact v_str (y := "") (b := 0) at_ok
  | odd n => exact v_str (y := "") (b := 0) to_ok
theorem val_inj (a b : Val) : PyData.eqv (pyD (En.e a)) (pyD (En.e b)) = true ↔ a = b := by
  have h1 : (Str.ofString "is" == Str.ofString "at") = false := by decide +kernel
  have h2 : (Str.ofString "is" == Str.ofString "to") = false := by decide +kernel
  have h3 : (Str.ofString "at" == Str.ofString "is") = false := by decide +kernel
  have h4 : (Str.ofString "at" == Str.ofString "to") = false := by decide +kernel
  have h5 : (Str.ofString "to" == Str.ofString "is") = false := by decide +kernel
  have h6 : (Str.ofString "to" == Str.ofString "at") = false := by decide +kernel
  have h7 : ∀ x : Str, (x == x) = true := fun x => by simp
  cases a <;> cases b <;> simp only [e_non, e_num, e_at, e_odd, pyD, pyL, PyData.eqv, PyData.eqvAll, h1, h2, h3, h4, h5, h6, h7] <;> simp
instance : Eqn Val := { dep := 2, ok := val_ok, inj := val_inj }
abbrev Cel := Int × List Val
abbrev Pic := List Val × List Cel
abbrev eP (p : Pic) : D := .tup [.lst (p.1.map En.e), .lst (p.2.map En.e)]
/-- what a value leads to -/
def led : Val → Option Int
  | .at_ m => some m
  | _ => none
local macro_rules | `(tactic| simp_arith [$ls,*]) => `(tactic| simp (maxSteps := 4000000) (disch := (first | omega | (simp only [List.length_append, List.length_set, List.length_cons, List.length_nil, List.length_map]; done) | (simp only [List.length_append, List.length_set, List.length_cons, List.length_nil, List.length_map]; omega))) only [↓we_op2, ↓we_op1, ↓we_C, ↓we_dct0, ↓we_tY, ↓we_tq, ↓we_notX, ↓wz_andX, ↓wz_orX, ↓wz_and, ↓wz_or, ↓we_not, ↓wz_eif, ↓we_aNil, ↓we_aCons, ↓we_tup, ↓we_lst, ↓we_call, ↓we_oNo, ↓we_oSo, ↓we_sl, ↓we_meth, ↓we_lele, ↓we_lelt, ↓wi_seq, ↓wi_rng1, ↓wi_rng2, ↓ws_seq, ↓Kt_eq, ↓ws_nil, ↓ws_ex, ↓ws_set, ↓ws_setF, ↓asE_s, ↓ws_setT, ↓wz_if, ↓ws_ret, ↓ws_retN, ↓ws_retV, ↓ws_raise, ↓ws_pre, ↓ws_ad, ↓ws_app, ↓wq_ext, ↓ws_sub, ↓ws_rev, ↓ws_dp,
  ↓we_ad, ↓ws_tryAs, ↓ws_tryM, trW_nil, trW_cons, ↓we_isX, trC_t, trC_f, noX_0, noX_no, noX_i, noX_b, noX_n, noX_s, noX_t, noX_l, noX_d, noX_r, noX_o, noX_c, noX_e, isx_s, adO_t, adO_i, adO_b, adO_n, adO_st, adO_l, ↓ws_par, ↓ws_subE, ↓we_meth2, ↓ws_fldX, ↓we_methC, ↓we_make, ↓ws_dpE, ↓we_dpop, adR_o, adR_r, asRf_r, liO_app, liO_ext, liO_set, insO_s, asN_n, asD_s, wf_liA, wf_liE, wf_ins, wf_fld, wf_isiC, wf_intB, wf_intI, wf_absI, snk_i, snk_b, snk_n, snk_s, snk_t, snk_l, snk_d, snk_r, drM_r, setsE_2, asE_s, List.getElem?_append_left, List.getElem?_set_ne, List.length_set, List.length_append, wf_sortP, eVar_eq, vrO_s, R.W_ok, R.W_exc, R.W_no, R.W_ite, List.getElem?_cons_zero, List.getElem?_cons_succ, List.set_cons_zero, List.set_cons_succ, vr_i, vr_b, vr_n, vr_s, vr_t, vr_l, vr_c, vr_d, vr_r, vr_o, vr_e, fz_i, fz_b, fz_n, fz_s, fz_t, fz_l, fz_c, fz_d, fz_r, fz_bo, fz_ol, fz_od, fz_e, asK_i, asK_b, asK_n, asK_s, asK_t, asK_l, asK_c, asK_d, asK_r, asK_ol, asK_od, asK_e, asR_i, asR_b, asR_n, asR_s, asR_t, asR_l, asR_c, asR_d, asR_r, asR_o, asR_e, asB_b, asI_i, rvO_i, rvO_b, rvO_n, rvO_s, rvO_t, rvO_l, rvO_c, rvO_d, rvO_r, rvO_o, rvO_e,
  muO_app, muO_rev, muO_ext, muO_seti, muO_ref, rfO_app, rfO_ext, rfO_seti, rfO_rev, isLO_own, isLO_ref, isLr_s, asL_s, duO_own, duO_ref, rdO_s, isDO_own, isDO_ref, isDr_s, asKy_i, asKy_s, gFz_1, gFz_2, fzO_o, fzO_l, fzO_d, fzO_r, fzO_i, fzO_b, fzO_t, fzO_n, fzO_z, adK_eq, adO_o, adO_r,
  aT_t, aT_f, aTz_t, aTz_f, aTz_d, aTz_n, aTz_and, aTz_or, aT_d, aT_n, aT_and, aT_or, fAdd_i, fSub_i, fLt_i, fLe_i, fGt_i, fGe_i, fNeg_i, fMax_i, fMin_i, xEq_i, xNe_i, xEq_b, xNe_b, xEq_ni, xEq_in, xEq_nn, xNe_ni, xNe_in, xNe_nn, fIsN_i, fIsN_n, fNotN_i, fNotN_n, fIsN_t, fNotN_t, fNotN_r, fNotN_l, fIsN_r, fIsN_l, fNotB_b, fIsB_b, fLen_l, fLen_t, fLen_b, fLen_s, fIsi_bb, fIsi_ib, fIsi_bi, fIsi_ii, fIsi_ll, fIsi_bl, fIsi_tt, rOk_eq,
  wf_mod, wf_div, wf_mul, cMul_eq, wf_pow, asAt_s, wf_ixL, wf_ixB, wf_ixT, wf_ixR, atI_0, atI_1, atI_2, atI_3, Int.add_zero, Int.reduceAdd, wf_lenR, wf_lenS, wf_addS, wf_addL, wf_addBL, wf_addLB, wf_addRL, wf_repL, wf_slL, wf_slB, wf_slR, wf_listL, wf_listB, wf_listR, wf_pop, wg_dgD, wg_dgB, wg_dinD, wg_dinB, putD_dic, putD_dicB, putD_dicI, putD_dicL, List.getElem?_set_self, dic_len, dic_keys, wf_sumI, wf_allB, wf_sorted, wf_sortSet, wf_listD, wf_listDB, seqD_l', seqD_t', seqD_c', drM_l, drM_b, isLD_r, fIn_i, fIn_n, fEq_li, fNe_li, exEq, exEq', exEq1, wf_allBg, wf_sumIg,
  Bool.not_true, Bool.not_false, decide_true, decide_false, true_and, and_true, if_true, if_false, Bool.false_eq_true, true_implies, List.length_cons, List.length_nil, Nat.reduceAdd, Nat.reduceLeDiff, Int.reduceNeg, Int.reduceLT, Int.reduceLE, Nat.reduceLT, List.map_cons, List.map_nil, List.cons_append, List.nil_append, List.append_nil, Nat.reduceSub, List.replicate, List.length_map, at_map, Int.zero_add, Int.toNat_natCast, eq_self, not_true_eq_false, not_false_eq_true, false_implies, implies_true, reduceCtorEq, and_self, false_and, and_false, Int.reduceToNat, $ls,*])
local macro_rules | `(tactic| simp_all_arith [$ls,*]) => `(tactic| simp (maxSteps := 4000000) (disch := (first | omega | (simp only [List.length_append, List.length_set, List.length_cons, List.length_nil, List.length_map]; done) | (simp only [List.length_append, List.length_set, List.length_cons, List.length_nil, List.length_map]; omega))) only [↓we_op2, ↓we_op1, ↓we_C, ↓we_dct0, ↓we_tY, ↓we_tq, ↓we_notX, ↓wz_andX, ↓wz_orX, ↓wz_and, ↓wz_or, ↓we_not, ↓we_aNil, ↓we_aCons, ↓we_tup, ↓we_lst, ↓we_call, ↓we_oNo, ↓we_oSo, ↓we_sl, ↓we_meth, ↓we_lele, ↓we_lelt, ↓wi_seq, ↓wi_rng1, ↓wi_rng2, ↓ws_seq, ↓Kt_eq, ↓ws_nil, ↓ws_ex, ↓ws_set, ↓ws_setF, ↓asE_s, ↓ws_setT, ↓ws_ret, ↓ws_retN, ↓ws_retV, ↓ws_raise, ↓ws_pre, ↓ws_ad, ↓ws_app, ↓wq_ext, ↓ws_sub, ↓ws_rev, ↓ws_dp,
  ↓we_ad, ↓ws_tryAs, ↓ws_tryM, trW_nil, trW_cons, ↓we_isX, trC_t, trC_f, noX_0, noX_no, noX_i, noX_b, noX_n, noX_s, noX_t, noX_l, noX_d, noX_r, noX_o, noX_c, noX_e, isx_s, adO_t, adO_i, adO_b, adO_n, adO_st, adO_l, ↓ws_par, ↓ws_subE, ↓we_meth2, ↓ws_fldX, ↓we_methC, ↓we_make, ↓ws_dpE, ↓we_dpop, adR_o, adR_r, asRf_r, liO_app, liO_ext, liO_set, insO_s, asN_n, asD_s, wf_liA, wf_liE, wf_ins, wf_fld, wf_isiC, wf_intB, wf_intI, wf_absI, snk_i, snk_b, snk_n, snk_s, snk_t, snk_l, snk_d, snk_r, drM_r, setsE_2, asE_s, List.getElem?_append_left, List.getElem?_set_ne, List.length_set, List.length_append, wf_sortP, eVar_eq, vrO_s, R.W_ok, R.W_exc, R.W_no, R.W_ite, List.getElem?_cons_zero, List.getElem?_cons_succ, List.set_cons_zero, List.set_cons_succ, vr_i, vr_b, vr_n, vr_s, vr_t, vr_l, vr_c, vr_d, vr_r, vr_o, vr_e, fz_i, fz_b, fz_n, fz_s, fz_t, fz_l, fz_c, fz_d, fz_r, fz_bo, fz_ol, fz_od, fz_e, asK_i, asK_b, asK_n, asK_s, asK_t, asK_l, asK_c, asK_d, asK_r, asK_ol, asK_od, asK_e, asR_i, asR_b, asR_n, asR_s, asR_t, asR_l, asR_c, asR_d, asR_r, asR_o, asR_e, asB_b, asI_i, rvO_i, rvO_b, rvO_n, rvO_s, rvO_t, rvO_l, rvO_c, rvO_d, rvO_r, rvO_o, rvO_e,
  muO_app, muO_rev, muO_ext, muO_seti, muO_ref, rfO_app, rfO_ext, rfO_seti, rfO_rev, isLO_own, isLO_ref, isLr_s, asL_s, duO_own, duO_ref, rdO_s, isDO_own, isDO_ref, isDr_s, asKy_i, asKy_s, gFz_1, gFz_2, fzO_o, fzO_l, fzO_d, fzO_r, fzO_i, fzO_b, fzO_t, fzO_n, fzO_z, adK_eq, adO_o, adO_r,
  aT_t, aT_f, aTz_t, aTz_f, aTz_d, aTz_n, aTz_and, aTz_or, aT_d, aT_n, aT_and, aT_or, fAdd_i, fSub_i, fLt_i, fLe_i, fGt_i, fGe_i, fNeg_i, fMax_i, fMin_i, xEq_i, xNe_i, xEq_b, xNe_b, xEq_ni, xEq_in, xEq_nn, xNe_ni, xNe_in, xNe_nn, fIsN_i, fIsN_n, fNotN_i, fNotN_n, fIsN_t, fNotN_t, fNotN_r, fNotN_l, fIsN_r, fIsN_l, fNotB_b, fIsB_b, fLen_l, fLen_t, fLen_b, fLen_s, fIsi_bb, fIsi_ib, fIsi_bi, fIsi_ii, fIsi_ll, fIsi_bl, fIsi_tt, rOk_eq,
  wf_mod, wf_div, wf_mul, cMul_eq, wf_pow, asAt_s, wf_ixL, wf_ixB, wf_ixT, wf_ixR, atI_0, atI_1, atI_2, atI_3, Int.add_zero, Int.reduceAdd, wf_lenR, wf_lenS, wf_addS, wf_addL, wf_addBL, wf_addLB, wf_addRL, wf_repL, wf_slL, wf_slB, wf_slR, wf_listL, wf_listB, wf_listR, wf_pop, wg_dgD, wg_dgB, wg_dinD, wg_dinB, putD_dic, putD_dicB, putD_dicI, putD_dicL, List.getElem?_set_self, dic_len, dic_keys, wf_sumI, wf_allB, wf_sorted, wf_sortSet, wf_listD, wf_listDB, seqD_l', seqD_t', seqD_c', drM_l, drM_b, isLD_r, fIn_i, fIn_n, fEq_li, fNe_li, exEq, exEq', exEq1, wf_allBg, wf_sumIg,
  Bool.not_true, Bool.not_false, decide_true, decide_false, true_and, and_true, if_true, if_false, Bool.false_eq_true, true_implies, List.length_cons, List.length_nil, Nat.reduceAdd, Nat.reduceLeDiff, Int.reduceNeg, Int.reduceLT, Int.reduceLE, Nat.reduceLT, List.map_cons, List.map_nil, List.cons_append, List.nil_append, List.append_nil, Nat.reduceSub, List.replicate, List.length_map, at_map, Int.zero_add, Int.toNat_natCast, eq_self, not_true_eq_false, not_false_eq_true, false_implies, implies_true, reduceCtorEq, and_self, false_and, and_false, Int.reduceToNat, $ls,*])
/-! deeds -/
inductive Deed where
  | make (k z : Int) | number (k n : Int) | clear (k : Int) | copy (k m : Int) | put (k j m : Int) | take (t k j : Int) | tell (k : Int) | same (k m : Int)
instance : En Deed := ⟨fun d => match d with
  | .make k z => .tup [.str "make", .int k, .int z]
  | .number k n => .tup [.str "number", .int k, .int n]
  | .clear k => .tup [.str "clear", .int k]
  | .copy k m => .tup [.str "copy", .int k, .int m]
  | .put k j m => .tup [.str "put", .int k, .int j, .int m]
  | .take t k j => .tup [.str "take", .int t, .int k, .int j]
  | .tell k => .tup [.str "tell", .int k]
  | .same k m => .tup [.str "same", .int k, .int m], fun d => by cases d <;> rfl⟩
/-- a deed on eight roots, of sizes and slots that may be -/
def Deed.ok : Deed → Prop
  | .make k z => (0 ≤ k ∧ k < 8) ∧ 0 ≤ z ∧ z ≤ 4
  | .number k n => (0 ≤ k ∧ k < 8) ∧ -1000000 ≤ n ∧ n ≤ 1000000
  | .clear k => 0 ≤ k ∧ k < 8
  | .copy k m => (0 ≤ k ∧ k < 8) ∧ 0 ≤ m ∧ m < 8
  | .put k j m => (0 ≤ k ∧ k < 8) ∧ 0 ≤ j ∧ 0 ≤ m ∧ m < 8
  | .take t k j => (0 ≤ t ∧ t < 8) ∧ (0 ≤ k ∧ k < 8) ∧ 0 ≤ j
  | .tell k => 0 ≤ k ∧ k < 8
  | .same k m => (0 ≤ k ∧ k < 8) ∧ 0 ≤ m ∧ m < 8
def kd (x : Str) : D := .str x
theorem so_make : PyData.strOk "make" = true := by decide +kernel
theorem so_number : PyData.strOk "number" = true := by decide +kernel
theorem so_clear : PyData.strOk "clear" = true := by decide +kernel
theorem so_copy : PyData.strOk "copy" = true := by decide +kernel
theorem so_put : PyData.strOk "put" = true := by decide +kernel
theorem so_take : PyData.strOk "take" = true := by decide +kernel
theorem so_tell : PyData.strOk "tell" = true := by decide +kernel
theorem so_same : PyData.strOk "same" = true := by decide +kernel
theorem q_make_make {s : Store} : fEq s (.str "make") (.str "make") = .ok (.bl true) s := by rw [wf_eqS so_make so_make]; rfl
theorem q_make_number {s : Store} : fEq s (.str "make") (.str "number") = .ok (.bl false) s := by rw [wf_eqS so_make so_number]; rfl
theorem q_make_copy {s : Store} : fEq s (.str "make") (.str "copy") = .ok (.bl false) s := by rw [wf_eqS so_make so_copy]; rfl
theorem q_make_put {s : Store} : fEq s (.str "make") (.str "put") = .ok (.bl false) s := by rw [wf_eqS so_make so_put]; rfl
theorem q_make_take {s : Store} : fEq s (.str "make") (.str "take") = .ok (.bl false) s := by rw [wf_eqS so_make so_take]; rfl
theorem q_make_same {s : Store} : fEq s (.str "make") (.str "same") = .ok (.bl false) s := by rw [wf_eqS so_make so_same]; rfl
theorem q_number_make {s : Store} : fEq s (.str "number") (.str "make") = .ok (.bl false) s := by rw [wf_eqS so_number so_make]; rfl
theorem q_number_number {s : Store} : fEq s (.str "number") (.str "number") = .ok (.bl true) s := by rw [wf_eqS so_number so_number]; rfl
theorem q_number_copy {s : Store} : fEq s (.str "number") (.str "copy") = .ok (.bl false) s := by rw [wf_eqS so_number so_copy]; rfl
theorem q_number_put {s : Store} : fEq s (.str "number") (.str "put") = .ok (.bl false) s := by rw [wf_eqS so_number so_put]; rfl
theorem q_number_take {s : Store} : fEq s (.str "number") (.str "take") = .ok (.bl false) s := by rw [wf_eqS so_number so_take]; rfl
theorem q_number_same {s : Store} : fEq s (.str "number") (.str "same") = .ok (.bl false) s := by rw [wf_eqS so_number so_same]; rfl
theorem q_clear_make {s : Store} : fEq s (.str "clear") (.str "make") = .ok (.bl false) s := by rw [wf_eqS so_clear so_make]; rfl
theorem q_clear_number {s : Store} : fEq s (.str "clear") (.str "number") = .ok (.bl false) s := by rw [wf_eqS so_clear so_number]; rfl
theorem q_clear_copy {s : Store} : fEq s (.str "clear") (.str "copy") = .ok (.bl false) s := by rw [wf_eqS so_clear so_copy]; rfl
theorem q_clear_put {s : Store} : fEq s (.str "clear") (.str "put") = .ok (.bl false) s := by rw [wf_eqS so_clear so_put]; rfl
theorem q_clear_take {s : Store} : fEq s (.str "clear") (.str "take") = .ok (.bl false) s := by rw [wf_eqS so_clear so_take]; rfl
theorem q_clear_same {s : Store} : fEq s (.str "clear") (.str "same") = .ok (.bl false) s := by rw [wf_eqS so_clear so_same]; rfl
theorem q_copy_make {s : Store} : fEq s (.str "copy") (.str "make") = .ok (.bl false) s := by rw [wf_eqS so_copy so_make]; rfl
theorem q_copy_number {s : Store} : fEq s (.str "copy") (.str "number") = .ok (.bl false) s := by rw [wf_eqS so_copy so_number]; rfl
theorem q_copy_copy {s : Store} : fEq s (.str "copy") (.str "copy") = .ok (.bl true) s := by rw [wf_eqS so_copy so_copy]; rfl
theorem q_copy_put {s : Store} : fEq s (.str "copy") (.str "put") = .ok (.bl false) s := by rw [wf_eqS so_copy so_put]; rfl
theorem q_copy_take {s : Store} : fEq s (.str "copy") (.str "take") = .ok (.bl false) s := by rw [wf_eqS so_copy so_take]; rfl
theorem q_copy_same {s : Store} : fEq s (.str "copy") (.str "same") = .ok (.bl false) s := by rw [wf_eqS so_copy so_same]; rfl
theorem q_put_make {s : Store} : fEq s (.str "put") (.str "make") = .ok (.bl false) s := by rw [wf_eqS so_put so_make]; rfl
theorem q_put_number {s : Store} : fEq s (.str "put") (.str "number") = .ok (.bl false) s := by rw [wf_eqS so_put so_number]; rfl
theorem q_put_copy {s : Store} : fEq s (.str "put") (.str "copy") = .ok (.bl false) s := by rw [wf_eqS so_put so_copy]; rfl
theorem q_put_put {s : Store} : fEq s (.str "put") (.str "put") = .ok (.bl true) s := by rw [wf_eqS so_put so_put]; rfl
theorem q_put_take {s : Store} : fEq s (.str "put") (.str "take") = .ok (.bl false) s := by rw [wf_eqS so_put so_take]; rfl
theorem q_put_same {s : Store} : fEq s (.str "put") (.str "same") = .ok (.bl false) s := by rw [wf_eqS so_put so_same]; rfl
theorem q_take_make {s : Store} : fEq s (.str "take") (.str "make") = .ok (.bl false) s := by rw [wf_eqS so_take so_make]; rfl
theorem q_take_number {s : Store} : fEq s (.str "take") (.str "number") = .ok (.bl false) s := by rw [wf_eqS so_take so_number]; rfl
theorem q_take_copy {s : Store} : fEq s (.str "take") (.str "copy") = .ok (.bl false) s := by rw [wf_eqS so_take so_copy]; rfl
theorem q_take_put {s : Store} : fEq s (.str "take") (.str "put") = .ok (.bl false) s := by rw [wf_eqS so_take so_put]; rfl
theorem q_take_take {s : Store} : fEq s (.str "take") (.str "take") = .ok (.bl true) s := by rw [wf_eqS so_take so_take]; rfl
theorem q_take_same {s : Store} : fEq s (.str "take") (.str "same") = .ok (.bl false) s := by rw [wf_eqS so_take so_same]; rfl
theorem q_tell_make {s : Store} : fEq s (.str "tell") (.str "make") = .ok (.bl false) s := by rw [wf_eqS so_tell so_make]; rfl
theorem q_tell_number {s : Store} : fEq s (.str "tell") (.str "number") = .ok (.bl false) s := by rw [wf_eqS so_tell so_number]; rfl
theorem q_tell_copy {s : Store} : fEq s (.str "tell") (.str "copy") = .ok (.bl false) s := by rw [wf_eqS so_tell so_copy]; rfl
theorem q_tell_put {s : Store} : fEq s (.str "tell") (.str "put") = .ok (.bl false) s := by rw [wf_eqS so_tell so_put]; rfl
theorem q_tell_take {s : Store} : fEq s (.str "tell") (.str "take") = .ok (.bl false) s := by rw [wf_eqS so_tell so_take]; rfl
theorem q_tell_same {s : Store} : fEq s (.str "tell") (.str "same") = .ok (.bl false) s := by rw [wf_eqS so_tell so_same]; rfl
theorem q_same_make {s : Store} : fEq s (.str "same") (.str "make") = .ok (.bl false) s := by rw [wf_eqS so_same so_make]; rfl
theorem q_same_number {s : Store} : fEq s (.str "same") (.str "number") = .ok (.bl false) s := by rw [wf_eqS so_same so_number]; rfl
theorem q_same_copy {s : Store} : fEq s (.str "same") (.str "copy") = .ok (.bl false) s := by rw [wf_eqS so_same so_copy]; rfl
theorem q_same_put {s : Store} : fEq s (.str "same") (.str "put") = .ok (.bl false) s := by rw [wf_eqS so_same so_put]; rfl
theorem q_same_take {s : Store} : fEq s (.str "same") (.str "take") = .ok (.bl false) s := by rw [wf_eqS so_same so_take]; rfl
theorem q_same_same {s : Store} : fEq s (.str "same") (.str "same") = .ok (.bl true) s := by rw [wf_eqS so_same so_same]; rfl
local macro_rules | `(tactic| simp_arith [$ls,*]) => `(tactic| simp (maxSteps := 4000000) (disch := (first | omega | (simp only [List.length_append, List.length_set, List.length_cons, List.length_nil, List.length_map]; done) | (simp only [List.length_append, List.length_set, List.length_cons, List.length_nil, List.length_map]; omega))) only [↓we_op2, ↓we_op1, ↓we_C, ↓we_dct0, ↓we_tY, ↓we_tq, ↓we_notX, ↓wz_andX, ↓wz_orX, ↓wz_and, ↓wz_or, ↓we_not, ↓wz_eif, ↓we_aNil, ↓we_aCons, ↓we_tup, ↓we_lst, ↓we_call, ↓we_oNo, ↓we_oSo, ↓we_sl, ↓we_meth, ↓we_lele, ↓we_lelt, ↓wi_seq, ↓wi_rng1, ↓wi_rng2, ↓ws_seq, ↓Kt_eq, ↓ws_nil, ↓ws_ex, ↓ws_set, ↓ws_setF, ↓asE_s, ↓ws_setT, ↓wz_if, ↓ws_ret, ↓ws_retN, ↓ws_retV, ↓ws_raise, ↓ws_pre, ↓ws_ad, ↓ws_app, ↓wq_ext, ↓ws_sub, ↓ws_rev, ↓ws_dp,
  ↓we_ad, ↓ws_tryAs, ↓ws_tryM, trW_nil, trW_cons, ↓we_isX, trC_t, trC_f, noX_0, noX_no, noX_i, noX_b, noX_n, noX_s, noX_t, noX_l, noX_d, noX_r, noX_o, noX_c, noX_e, isx_s, adO_t, adO_i, adO_b, adO_n, adO_st, adO_l, ↓ws_par, ↓ws_subE, ↓we_meth2, ↓ws_fldX, ↓we_methC, ↓we_make, ↓ws_dpE, ↓we_dpop, adR_o, adR_r, asRf_r, liO_app, liO_ext, liO_set, insO_s, asN_n, asD_s, wf_liA, wf_liE, wf_ins, wf_fld, wf_isiC, wf_intB, wf_intI, wf_absI, snk_i, snk_b, snk_n, snk_s, snk_t, snk_l, snk_d, snk_r, drM_r, setsE_2, asE_s, List.getElem?_append_left, List.getElem?_set_ne, List.length_set, List.length_append, wf_sortP, wf_rngL, eVar_eq, vrO_s, R.W_ok, R.W_exc, R.W_no, R.W_ite, List.getElem?_cons_zero, List.getElem?_cons_succ, List.set_cons_zero, List.set_cons_succ, vr_i, vr_b, vr_n, vr_s, vr_t, vr_l, vr_c, vr_d, vr_r, vr_o, vr_e, fz_i, fz_b, fz_n, fz_s, fz_t, fz_l, fz_c, fz_d, fz_r, fz_bo, fz_ol, fz_od, fz_e, asK_i, asK_b, asK_n, asK_s, asK_t, asK_l, asK_c, asK_d, asK_r, asK_ol, asK_od, asK_e, asR_i, asR_b, asR_n, asR_s, asR_t, asR_l, asR_c, asR_d, asR_r, asR_o, asR_e, asB_b, asI_i, rvO_i, rvO_b, rvO_n, rvO_s, rvO_t, rvO_l, rvO_c, rvO_d, rvO_r, rvO_o, rvO_e,
  muO_app, muO_rev, muO_ext, muO_seti, muO_ref, rfO_app, rfO_ext, rfO_seti, rfO_rev, isLO_own, isLO_ref, isLr_s, asL_s, duO_own, duO_ref, rdO_s, isDO_own, isDO_ref, isDr_s, asKy_i, asKy_s, gFz_1, gFz_2, fzO_o, fzO_l, fzO_d, fzO_r, fzO_i, fzO_b, fzO_t, fzO_n, fzO_z, adK_eq, adO_o, adO_r,
  aT_t, aT_f, aTz_t, aTz_f, aTz_d, aTz_n, aTz_and, aTz_or, aT_d, aT_n, aT_and, aT_or, fAdd_i, fSub_i, fLt_i, fLe_i, fGt_i, fGe_i, fNeg_i, fMax_i, fMin_i, xEq_i, xNe_i, xEq_b, xNe_b, xEq_ni, xEq_in, xEq_nn, xNe_ni, xNe_in, xNe_nn, fIsN_i, fIsN_n, fNotN_i, fNotN_n, fIsN_t, fNotN_t, fNotN_r, fNotN_l, fIsN_r, fIsN_l, fNotB_b, fIsB_b, fLen_l, fLen_t, fLen_b, fLen_s, fIsi_bb, fIsi_ib, fIsi_bi, fIsi_ii, fIsi_ll, fIsi_bl, fIsi_tt, rOk_eq,
  wf_mod, wf_div, wf_mul, cMul_eq, wf_pow, asAt_s, wf_ixL, wf_ixB, wf_ixT, wf_ixR, atI_0, atI_1, atI_2, atI_3, Int.add_zero, Int.reduceAdd, wf_lenR, wf_lenS, wf_addS, wf_addL, wf_addBL, wf_addLB, wf_addRL, wf_repL, wf_slL, wf_slB, wf_slR, wf_listL, wf_listB, wf_listR, wf_pop, wg_dgD, wg_dgB, wg_dinD, wg_dinB, putD_dic, putD_dicB, putD_dicI, putD_dicL, List.getElem?_set_self, dic_len, dic_keys, wf_sumI, wf_allB, wf_sorted, wf_sortSet, wf_listD, wf_listDB, seqD_l', seqD_t', seqD_c', drM_l, drM_b, isLD_r, fIn_i, fIn_n, fEq_li, fNe_li, exEq, exEq', exEq1, wf_allBg, wf_sumIg,
  Bool.not_true, Bool.not_false, decide_true, decide_false, true_and, and_true, if_true, if_false, Bool.false_eq_true, true_implies, List.length_cons, List.length_nil, Nat.reduceAdd, Nat.reduceLeDiff, Int.reduceNeg, Int.reduceLT, Int.reduceLE, Nat.reduceLT, List.map_cons, List.map_nil, List.cons_append, List.nil_append, List.append_nil, Nat.reduceSub, List.replicate, List.length_map, at_map, Int.zero_add, Int.toNat_natCast, eq_self, not_true_eq_false, not_false_eq_true, false_implies, implies_true, reduceCtorEq, and_self, false_and, and_false, Int.reduceToNat, $ls,*])
local macro_rules | `(tactic| simp_all_arith [$ls,*]) => `(tactic| simp (maxSteps := 4000000) (disch := (first | omega | (simp only [List.length_append, List.length_set, List.length_cons, List.length_nil, List.length_map]; done) | (simp only [List.length_append, List.length_set, List.length_cons, List.length_nil, List.length_map]; omega))) only [↓we_op2, ↓we_op1, ↓we_C, ↓we_dct0, ↓we_tY, ↓we_tq, ↓we_notX, ↓wz_andX, ↓wz_orX, ↓wz_and, ↓wz_or, ↓we_not, ↓we_aNil, ↓we_aCons, ↓we_tup, ↓we_lst, ↓we_call, ↓we_oNo, ↓we_oSo, ↓we_sl, ↓we_meth, ↓we_lele, ↓we_lelt, ↓wi_seq, ↓wi_rng1, ↓wi_rng2, ↓ws_seq, ↓Kt_eq, ↓ws_nil, ↓ws_ex, ↓ws_set, ↓ws_setF, ↓asE_s, ↓ws_setT, ↓ws_ret, ↓ws_retN, ↓ws_retV, ↓ws_raise, ↓ws_pre, ↓ws_ad, ↓ws_app, ↓wq_ext, ↓ws_sub, ↓ws_rev, ↓ws_dp,
  ↓we_ad, ↓ws_tryAs, ↓ws_tryM, trW_nil, trW_cons, ↓we_isX, trC_t, trC_f, noX_0, noX_no, noX_i, noX_b, noX_n, noX_s, noX_t, noX_l, noX_d, noX_r, noX_o, noX_c, noX_e, isx_s, adO_t, adO_i, adO_b, adO_n, adO_st, adO_l, ↓ws_par, ↓ws_subE, ↓we_meth2, ↓ws_fldX, ↓we_methC, ↓we_make, ↓ws_dpE, ↓we_dpop, adR_o, adR_r, asRf_r, liO_app, liO_ext, liO_set, insO_s, asN_n, asD_s, wf_liA, wf_liE, wf_ins, wf_fld, wf_isiC, wf_intB, wf_intI, wf_absI, snk_i, snk_b, snk_n, snk_s, snk_t, snk_l, snk_d, snk_r, drM_r, setsE_2, asE_s, List.getElem?_append_left, List.getElem?_set_ne, List.length_set, List.length_append, wf_sortP, wf_rngL, eVar_eq, vrO_s, R.W_ok, R.W_exc, R.W_no, R.W_ite, List.getElem?_cons_zero, List.getElem?_cons_succ, List.set_cons_zero, List.set_cons_succ, vr_i, vr_b, vr_n, vr_s, vr_t, vr_l, vr_c, vr_d, vr_r, vr_o, vr_e, fz_i, fz_b, fz_n, fz_s, fz_t, fz_l, fz_c, fz_d, fz_r, fz_bo, fz_ol, fz_od, fz_e, asK_i, asK_b, asK_n, asK_s, asK_t, asK_l, asK_c, asK_d, asK_r, asK_ol, asK_od, asK_e, asR_i, asR_b, asR_n, asR_s, asR_t, asR_l, asR_c, asR_d, asR_r, asR_o, asR_e, asB_b, asI_i, rvO_i, rvO_b, rvO_n, rvO_s, rvO_t, rvO_l, rvO_c, rvO_d, rvO_r, rvO_o, rvO_e,
  muO_app, muO_rev, muO_ext, muO_seti, muO_ref, rfO_app, rfO_ext, rfO_seti, rfO_rev, isLO_own, isLO_ref, isLr_s, asL_s, duO_own, duO_ref, rdO_s, isDO_own, isDO_ref, isDr_s, asKy_i, asKy_s, gFz_1, gFz_2, fzO_o, fzO_l, fzO_d, fzO_r, fzO_i, fzO_b, fzO_t, fzO_n, fzO_z, adK_eq, adO_o, adO_r,
  aT_t, aT_f, aTz_t, aTz_f, aTz_d, aTz_n, aTz_and, aTz_or, aT_d, aT_n, aT_and, aT_or, fAdd_i, fSub_i, fLt_i, fLe_i, fGt_i, fGe_i, fNeg_i, fMax_i, fMin_i, xEq_i, xNe_i, xEq_b, xNe_b, xEq_ni, xEq_in, xEq_nn, xNe_ni, xNe_in, xNe_nn, fIsN_i, fIsN_n, fNotN_i, fNotN_n, fIsN_t, fNotN_t, fNotN_r, fNotN_l, fIsN_r, fIsN_l, fNotB_b, fIsB_b, fLen_l, fLen_t, fLen_b, fLen_s, fIsi_bb, fIsi_ib, fIsi_bi, fIsi_ii, fIsi_ll, fIsi_bl, fIsi_tt, rOk_eq,
  wf_mod, wf_div, wf_mul, cMul_eq, wf_pow, asAt_s, wf_ixL, wf_ixB, wf_ixT, wf_ixR, atI_0, atI_1, atI_2, atI_3, Int.add_zero, Int.reduceAdd, wf_lenR, wf_lenS, wf_addS, wf_addL, wf_addBL, wf_addLB, wf_addRL, wf_repL, wf_slL, wf_slB, wf_slR, wf_listL, wf_listB, wf_listR, wf_pop, wg_dgD, wg_dgB, wg_dinD, wg_dinB, putD_dic, putD_dicB, putD_dicI, putD_dicL, List.getElem?_set_self, dic_len, dic_keys, wf_sumI, wf_allB, wf_sorted, wf_sortSet, wf_listD, wf_listDB, seqD_l', seqD_t', seqD_c', drM_l, drM_b, isLD_r, fIn_i, fIn_n, fEq_li, fNe_li, exEq, exEq', exEq1, wf_allBg, wf_sumIg,
  Bool.not_true, Bool.not_false, decide_true, decide_false, true_and, and_true, if_true, if_false, Bool.false_eq_true, true_implies, List.length_cons, List.length_nil, Nat.reduceAdd, Nat.reduceLeDiff, Int.reduceNeg, Int.reduceLT, Int.reduceLE, Nat.reduceLT, List.map_cons, List.map_nil, List.cons_append, List.nil_append, List.append_nil, Nat.reduceSub, List.replicate, List.length_map, at_map, Int.zero_add, Int.toNat_natCast, eq_self, not_true_eq_false, not_false_eq_true, false_implies, implies_true, reduceCtorEq, and_self, false_and, and_false, Int.reduceToNat, $ls,*])
theorem seq_at {d : D} {xs : List D} {s : Store} (h : seqD s d = some xs) (i : Nat) : Itr.at s (.seq d) i = some xs[i]? := by simp only [Itr.at, h, Option.map_some]
theorem seq_fuel {d : D} {xs : List D} {s : Store} (h : seqD s d = some xs) : Itr.fuel s (.seq d) = xs.length + 1 := by simp only [Itr.fuel, h, Option.getD_some]
/-- a comprehension over any sequence -/
theorem w_lcS {α : Type} {env : Gm.Env} {s s1 : Store} {Q : D → Store → Prop} {X : Nat → Store → Prop} {l : List α} {enc : α → D} {d : D} {tg : Tg} {ix : Ix} {tt : Tx} {el : Ex} {vs : List Nat} (p : α → Bool) (f : α → D) (hd : seqD s1 d = some (l.map enc)) (hx : (ix env s).W (fun it s' => s' = s1 ∧ it = .seq d) X0) (hl : l.length ≤ 16777216)
    (he : ∀ a ∈ l, ∃ e1, tgE tg (enc a) (wipeE env vs) = some e1 ∧ (tt e1 s1).W (fun b s' => s' = s1 ∧ b = p a) X0 ∧ (p a = true → (el e1 s1).W (fun d s' => s' = s1 ∧ snk (fz d) = some (f a)) X0))
    (hQ : Q (.own (.lst ((l.filter p).map f))) s1) : (eLc tg ix tt el vs env s).W Q X := by
  let P : Option D → Bool := fun _ => true
  have e := W_eq0 (s := s1) hx
  have key : ∀ (n i : Nat) (acc : List D), i ≤ l.length → l.length < n + i → acc.length + (l.length - i) ≤ 16777216 → lcX tg tt el vs (.seq d) n i acc env s1 = .ok (.own (.lst (acc ++ ((l.drop i).filter p).map f))) s1 := by
    intro n
    induction n with
    | zero => intro i acc h1 h2; omega
    | succ n ih =>
      intro i acc h1 h2 h3
      have ha := seq_at hd i
      cases q : l[i]? with
      | none =>
        rw [List.getElem?_map, q] at ha
        have : l.length ≤ i := List.getElem?_eq_none_iff.mp q
        simp only [lcX, ha, Option.map_none]
        rw [List.drop_eq_nil_of_le this]
        simp
      | some x =>
        rw [List.getElem?_map, q] at ha
        obtain ⟨hlt, ex⟩ := List.getElem?_eq_some_iff.mp q
        obtain ⟨e1, k1, k2, k3⟩ := he x (List.mem_of_getElem? q)
        have hdr : l.drop i = x :: l.drop (i + 1) := by rw [List.drop_eq_getElem_cons hlt, ex]
        have k2' := W_eq0 (s := s1) k2
        cases hp : p x with
        | false =>
          rw [hp] at k2'
          simp only [lcX, ha, k1, k2', Option.map_some]
          rw [ih (i + 1) acc (by omega) (by omega) (by omega), hdr, List.filter_cons_of_neg (by rw [hp]; exact Bool.false_ne_true)]
        | true =>
          rw [hp] at k2'
          obtain ⟨dd, s', k4, hs', k5⟩ := (k3 hp).eq
          rw [hs'] at k4
          simp only [lcX, ha, k1, k2', k4, k5, Option.map_some]
          rw [if_pos (by omega), ih (i + 1) (acc ++ [f x]) (by omega) (by omega) (by rw [List.length_append]; simp; omega), hdr, List.filter_cons_of_pos hp]
          simp
  have e2 : eLc tg ix tt el vs env s = .ok (.own (.lst ((l.filter p).map f))) s1 := by
    simp only [eLc, e, seq_fuel hd, List.length_map]
    rw [key _ 0 [] (Nat.zero_le _) (by omega) (by simp; omega)]
    simp
  rw [e2]; exact .ok hQ
/-- a loop over any sequence that stays -/
theorem w_forS {α : Type} {env : Gm.Env} {s s1 : Store} {N : Gm.Env → Store → Prop} {T : D → Store → Prop} {Y : Nat → Gm.Env → Store → Prop} {l : List α} {enc : α → D} {d : D} {tg : Tg} {ix : Ix} {body : Sx} (I : List α → Gm.Env → Store → Prop) (hx : (ix env s).W (fun it s' => s' = s1 ∧ it = .seq d) X0) (h0 : I [] env s1)
    (hd : ∀ pre e s, I pre e s → seqD s d = some (l.map enc)) (hd1 : seqD s1 d = some (l.map enc))
    (hs : ∀ pre a post e s, l = pre ++ a :: post → I pre e s → ∃ e1, tgE tg (enc a) e = some e1 ∧ (body e1 s).W (I (pre ++ [a])) T Y) (hn : ∀ e s, I l e s → N e s) : (sFor tg ix body env s).W N T Y := by
  have e := W_eq0 (s := s1) hx
  refine w_for (xs := l.map enc) e (by rw [seq_fuel hd1]) (fun i e s => I (l.take i) e s) (by simpa using h0) (fun i e s _ hI => seq_at (hd _ _ _ hI) i) (fun i x e s hx hI => ?_) (fun e s h => hn e s ?_)
  · rw [List.getElem?_map] at hx
    cases q : l[i]? with
    | none => rw [q] at hx; cases hx
    | some a =>
      rw [q] at hx
      simp only [Option.map_some, Option.some.injEq] at hx
      subst hx
      obtain ⟨hlt, ex⟩ := List.getElem?_eq_some_iff.mp q
      have h1 : l = l.take i ++ a :: l.drop (i + 1) := by
        rw [← ex, ← List.drop_eq_getElem_cons hlt, List.take_append_drop]
      obtain ⟨e1, k1, k2⟩ := hs _ a _ e s h1 hI
      refine ⟨e1, k1, ?_⟩
      have : l.take (i + 1) = l.take i ++ [a] := by rw [List.take_succ, q]; rfl
      rw [this]; exact k2
  · rw [List.length_map, List.take_length] at h; exact h
local macro_rules | `(tactic| simp_arith [$ls,*]) => `(tactic| simp (maxSteps := 4000000) (disch := (first | omega | (simp only [List.length_append, List.length_set, List.length_cons, List.length_nil, List.length_map]; done) | (simp only [List.length_append, List.length_set, List.length_cons, List.length_nil, List.length_map]; omega))) only [↓we_ms, ↓we_slS, ↓wi_txt, asS_s, wf_splt, wf_part, wf_find, wf_cntS, wf_strI, wf_strS, wf_slS, wf_tupL, wf_tupB, wf_inS, wf_joinL, wf_joinB, ↓we_op2, ↓we_op1, ↓we_C, ↓we_dct0, ↓we_tY, ↓we_tq, ↓we_notX, ↓wz_andX, ↓wz_orX, ↓wz_and, ↓wz_or, ↓we_not, ↓wz_eif, ↓we_aNil, ↓we_aCons, ↓we_tup, ↓we_lst, ↓we_call, ↓we_oNo, ↓we_oSo, ↓we_sl, ↓we_meth, ↓we_lele, ↓we_lelt, ↓wi_seq, ↓wi_rng1, ↓wi_rng2, ↓ws_seq, ↓Kt_eq, ↓ws_nil, ↓ws_ex, ↓ws_set, ↓ws_setF, ↓asE_s, ↓ws_setT, ↓wz_if, ↓ws_ret, ↓ws_retN, ↓ws_retV, ↓ws_raise, ↓ws_pre, ↓ws_ad, ↓ws_app, ↓wq_ext, ↓ws_sub, ↓ws_rev, ↓ws_dp,
  ↓we_ad, ↓we_dctT, ↓ws_dTE, ↓we_dTpop, wf_dTin, wf_dTlist, asT_s, asKT_t, ↓ws_tryAs, ↓ws_tryM, trW_nil, trW_cons, ↓we_isX, ↓we_callX, exq_s, trC_t, trC_f, noX_0, noX_no, noX_i, noX_b, noX_n, noX_s, noX_t, noX_l, noX_d, noX_r, noX_o, noX_c, noX_e, isx_s, adO_t, adO_i, adO_b, adO_n, adO_st, adO_l, ↓ws_par, ↓ws_subE, ↓we_meth2, ↓ws_fldX, ↓we_methC, ↓we_make, ↓ws_dpE, ↓we_dpop, adR_o, adR_r, asRf_r, liO_app, liO_ext, liO_set, insO_s, asN_n, asD_s, wf_liA, wf_liE, wf_ins, wf_fld, wf_isiC, wf_intB, wf_intI, wf_absI, snk_i, snk_b, snk_n, snk_s, snk_t, snk_l, snk_d, snk_r, drM_r, setsE_2, asE_s, List.getElem?_append_left, List.getElem?_set_ne, List.length_set, List.length_append, wf_sortP, wf_rngL, eVar_eq, vrO_s, R.W_ok, R.W_exc, R.W_no, R.W_ite, List.getElem?_cons_zero, List.getElem?_cons_succ, List.set_cons_zero, List.set_cons_succ, vr_i, vr_b, vr_n, vr_s, vr_t, vr_l, vr_c, vr_d, vr_r, vr_o, vr_e, fz_i, fz_b, fz_n, fz_s, fz_t, fz_l, fz_c, fz_d, fz_r, fz_bo, fz_ol, fz_od, fz_e, asK_i, asK_b, asK_n, asK_s, asK_t, asK_l, asK_c, asK_d, asK_r, asK_ol, asK_od, asK_e, asR_i, asR_b, asR_n, asR_s, asR_t, asR_l, asR_c, asR_d, asR_r, asR_o, asR_e, asB_b, asI_i, rvO_i, rvO_b, rvO_n, rvO_s, rvO_t, rvO_l, rvO_c, rvO_d, rvO_r, rvO_o, rvO_e,
  muO_app, muO_rev, muO_ext, muO_seti, muO_ref, rfO_app, rfO_ext, rfO_seti, rfO_rev, isLO_own, isLO_ref, isLr_s, asL_s, duO_own, duO_ref, rdO_s, isDO_own, isDO_ref, isDr_s, asKy_i, asKy_s, gFz_1, gFz_2, fzO_o, fzO_l, fzO_d, fzO_r, fzO_i, fzO_b, fzO_t, fzO_n, fzO_z, adK_eq, adO_o, adO_r,
  aT_t, aT_f, aTz_t, aTz_f, aTz_d, aTz_n, aTz_and, aTz_or, aT_d, aT_n, aT_and, aT_or, fAdd_i, fSub_i, fLt_i, fLe_i, fGt_i, fGe_i, fNeg_i, fMax_i, fMin_i, xEq_i, xNe_i, xEq_b, xNe_b, xEq_ni, xEq_in, xEq_nn, xNe_ni, xNe_in, xNe_nn, fIsN_i, fIsN_n, fNotN_i, fNotN_n, fIsN_t, fNotN_t, fNotN_r, fNotN_l, fIsN_r, fIsN_l, fNotB_b, fIsB_b, fLen_l, fLen_t, fLen_b, fLen_s, fIsi_bb, fIsi_ib, fIsi_bi, fIsi_ii, fIsi_ll, fIsi_bl, fIsi_tt, rOk_eq,
  wf_mod, wf_div, wf_mul, cMul_eq, wf_pow, asAt_s, wf_ixL, wf_ixB, wf_ixT, wf_ixR, atI_0, atI_1, atI_2, atI_3, Int.add_zero, Int.reduceAdd, Int.reduceEq, Int.reduceMod, wf_lenR, wf_lenS, wf_addS, wf_addL, wf_addBL, wf_addLB, wf_addRL, wf_repL, wf_slL, wf_slB, wf_slR, wf_listL, wf_listB, wf_listR, wf_pop, wg_dgD, wg_dgB, wg_dinD, wg_dinB, putD_dic, putD_dicB, putD_dicI, putD_dicL, List.getElem?_set_self, dic_len, dic_keys, wf_sumI, wf_allB, wf_sorted, wf_sortSet, wf_listD, wf_listDB, seqD_l', seqD_t', seqD_c', drM_l, drM_b, isLD_r, fIn_i, fIn_n, fEq_li, fNe_li, exEq, exEq', exEq1, wf_allBg, wf_sumIg,
  Bool.not_true, Bool.not_false, decide_true, decide_false, true_and, and_true, if_true, if_false, Bool.false_eq_true, true_implies, List.length_cons, List.length_nil, Nat.reduceAdd, Nat.reduceLeDiff, Int.reduceNeg, Int.reduceLT, Int.reduceLE, Nat.reduceLT, List.map_cons, List.map_nil, List.cons_append, List.nil_append, List.append_nil, Nat.reduceSub, List.replicate, List.length_map, at_map, Int.zero_add, Int.toNat_natCast, eq_self, not_true_eq_false, not_false_eq_true, false_implies, implies_true, reduceCtorEq, and_self, false_and, and_false, Int.reduceToNat, $ls,*])
local macro_rules | `(tactic| simp_all_arith [$ls,*]) => `(tactic| simp (maxSteps := 4000000) (disch := (first | omega | (simp only [List.length_append, List.length_set, List.length_cons, List.length_nil, List.length_map]; done) | (simp only [List.length_append, List.length_set, List.length_cons, List.length_nil, List.length_map]; omega))) only [↓we_ms, ↓we_slS, ↓wi_txt, asS_s, wf_splt, wf_part, wf_find, wf_cntS, wf_strI, wf_strS, wf_slS, wf_tupL, wf_tupB, wf_inS, wf_joinL, wf_joinB, ↓we_op2, ↓we_op1, ↓we_C, ↓we_dct0, ↓we_tY, ↓we_tq, ↓we_notX, ↓wz_andX, ↓wz_orX, ↓wz_and, ↓wz_or, ↓we_not, ↓we_aNil, ↓we_aCons, ↓we_tup, ↓we_lst, ↓we_call, ↓we_oNo, ↓we_oSo, ↓we_sl, ↓we_meth, ↓we_lele, ↓we_lelt, ↓wi_seq, ↓wi_rng1, ↓wi_rng2, ↓ws_seq, ↓Kt_eq, ↓ws_nil, ↓ws_ex, ↓ws_set, ↓ws_setF, ↓asE_s, ↓ws_setT, ↓ws_ret, ↓ws_retN, ↓ws_retV, ↓ws_raise, ↓ws_pre, ↓ws_ad, ↓ws_app, ↓wq_ext, ↓ws_sub, ↓ws_rev, ↓ws_dp,
  ↓we_ad, ↓we_dctT, ↓ws_dTE, ↓we_dTpop, wf_dTin, wf_dTlist, asT_s, asKT_t, ↓ws_tryAs, ↓ws_tryM, trW_nil, trW_cons, ↓we_isX, ↓we_callX, exq_s, trC_t, trC_f, noX_0, noX_no, noX_i, noX_b, noX_n, noX_s, noX_t, noX_l, noX_d, noX_r, noX_o, noX_c, noX_e, isx_s, adO_t, adO_i, adO_b, adO_n, adO_st, adO_l, ↓ws_par, ↓ws_subE, ↓we_meth2, ↓ws_fldX, ↓we_methC, ↓we_make, ↓ws_dpE, ↓we_dpop, adR_o, adR_r, asRf_r, liO_app, liO_ext, liO_set, insO_s, asN_n, asD_s, wf_liA, wf_liE, wf_ins, wf_fld, wf_isiC, wf_intB, wf_intI, wf_absI, snk_i, snk_b, snk_n, snk_s, snk_t, snk_l, snk_d, snk_r, drM_r, setsE_2, asE_s, List.getElem?_append_left, List.getElem?_set_ne, List.length_set, List.length_append, wf_sortP, wf_rngL, eVar_eq, vrO_s, R.W_ok, R.W_exc, R.W_no, R.W_ite, List.getElem?_cons_zero, List.getElem?_cons_succ, List.set_cons_zero, List.set_cons_succ, vr_i, vr_b, vr_n, vr_s, vr_t, vr_l, vr_c, vr_d, vr_r, vr_o, vr_e, fz_i, fz_b, fz_n, fz_s, fz_t, fz_l, fz_c, fz_d, fz_r, fz_bo, fz_ol, fz_od, fz_e, asK_i, asK_b, asK_n, asK_s, asK_t, asK_l, asK_c, asK_d, asK_r, asK_ol, asK_od, asK_e, asR_i, asR_b, asR_n, asR_s, asR_t, asR_l, asR_c, asR_d, asR_r, asR_o, asR_e, asB_b, asI_i, rvO_i, rvO_b, rvO_n, rvO_s, rvO_t, rvO_l, rvO_c, rvO_d, rvO_r, rvO_o, rvO_e,
  muO_app, muO_rev, muO_ext, muO_seti, muO_ref, rfO_app, rfO_ext, rfO_seti, rfO_rev, isLO_own, isLO_ref, isLr_s, asL_s, duO_own, duO_ref, rdO_s, isDO_own, isDO_ref, isDr_s, asKy_i, asKy_s, gFz_1, gFz_2, fzO_o, fzO_l, fzO_d, fzO_r, fzO_i, fzO_b, fzO_t, fzO_n, fzO_z, adK_eq, adO_o, adO_r,
  aT_t, aT_f, aTz_t, aTz_f, aTz_d, aTz_n, aTz_and, aTz_or, aT_d, aT_n, aT_and, aT_or, fAdd_i, fSub_i, fLt_i, fLe_i, fGt_i, fGe_i, fNeg_i, fMax_i, fMin_i, xEq_i, xNe_i, xEq_b, xNe_b, xEq_ni, xEq_in, xEq_nn, xNe_ni, xNe_in, xNe_nn, fIsN_i, fIsN_n, fNotN_i, fNotN_n, fIsN_t, fNotN_t, fNotN_r, fNotN_l, fIsN_r, fIsN_l, fNotB_b, fIsB_b, fLen_l, fLen_t, fLen_b, fLen_s, fIsi_bb, fIsi_ib, fIsi_bi, fIsi_ii, fIsi_ll, fIsi_bl, fIsi_tt, rOk_eq,
  wf_mod, wf_div, wf_mul, cMul_eq, wf_pow, asAt_s, wf_ixL, wf_ixB, wf_ixT, wf_ixR, atI_0, atI_1, atI_2, atI_3, Int.add_zero, Int.reduceAdd, Int.reduceEq, Int.reduceMod, wf_lenR, wf_lenS, wf_addS, wf_addL, wf_addBL, wf_addLB, wf_addRL, wf_repL, wf_slL, wf_slB, wf_slR, wf_listL, wf_listB, wf_listR, wf_pop, wg_dgD, wg_dgB, wg_dinD, wg_dinB, putD_dic, putD_dicB, putD_dicI, putD_dicL, List.getElem?_set_self, dic_len, dic_keys, wf_sumI, wf_allB, wf_sorted, wf_sortSet, wf_listD, wf_listDB, seqD_l', seqD_t', seqD_c', drM_l, drM_b, isLD_r, fIn_i, fIn_n, fEq_li, fNe_li, exEq, exEq', exEq1, wf_allBg, wf_sumIg,
  Bool.not_true, Bool.not_false, decide_true, decide_false, true_and, and_true, if_true, if_false, Bool.false_eq_true, true_implies, List.length_cons, List.length_nil, Nat.reduceAdd, Nat.reduceLeDiff, Int.reduceNeg, Int.reduceLT, Int.reduceLE, Nat.reduceLT, List.map_cons, List.map_nil, List.cons_append, List.nil_append, List.append_nil, Nat.reduceSub, List.replicate, List.length_map, at_map, Int.zero_add, Int.toNat_natCast, eq_self, not_true_eq_false, not_false_eq_true, false_implies, implies_true, reduceCtorEq, and_self, false_and, and_false, Int.reduceToNat, $ls,*])
/-! the texts of whole numbers -/
section
open TL
/-- str(i) -/
def nt (i : Int) : Str := Str.ofString (toString i)
theorem nt_pos (n : Nat) : tl (nt (n : Int)) = numL n := tl_num n
theorem nt_neg (n : Nat) : tl (nt (-((n + 1 : Nat) : Int))) = 45 :: numL (n + 1) := by
  show tl (Str.ofString ("-" ++ Nat.repr (n + 1))) = _
  rw [tl_ofString, String.toList_append, Nat.toList_repr, List.map_append]
  rfl
/-- the figures of a number -/
theorem nt_cases (i : Int) : (0 ≤ i ∧ tl (nt i) = numL i.natAbs) ∨ (i < 0 ∧ tl (nt i) = 45 :: numL i.natAbs) := by
  by_cases h : 0 ≤ i
  · obtain ⟨n, rfl⟩ := Int.eq_ofNat_of_zero_le h
    exact .inl ⟨h, nt_pos n⟩
  · obtain ⟨n, e⟩ := Int.eq_ofNat_of_zero_le (a := -i - 1) (by omega)
    have e2 : i = -((n + 1 : Nat) : Int) := by omega
    subst e2
    refine .inr ⟨by omega, ?_⟩
    rw [nt_neg, show (-((n + 1 : Nat) : Int)).natAbs = n + 1 by omega]
theorem nt_sign (i : Int) : ∀ c ∈ tl (nt i), c = 45 ∨ (48 ≤ c ∧ c ≤ 57) := by
  intro c hc
  rcases nt_cases i with ⟨_, e⟩ | ⟨_, e⟩
  · rw [e] at hc; exact .inr (numL_digits _ c hc)
  · rw [e] at hc
    rcases List.mem_cons.mp hc with h | h
    · exact .inl h
    · exact .inr (numL_digits _ c h)
theorem nt_len {i : Int} (h : i.natAbs < 10 ^ 60) : (nt i).length ≤ 61 := by
  have := numL_len (n := i.natAbs) (k := 60) (by omega) h
  rcases nt_cases i with ⟨_, e⟩ | ⟨_, e⟩ <;> rw [len_tl, e] <;> simp <;> omega
/-- a text of plain signs -/
def Pl (x : Str) : Prop := ∀ c ∈ tl x, c < 128
theorem Pl.ok {x : Str} (h : Pl x) : PyData.strOk x = true := by
  unfold PyData.strOk
  rw [← Array.all_toList, List.all_eq_true]
  intro c hc
  have := h c hc
  simp only [decide_eq_true_eq]; omega
theorem nt_pl (i : Int) : Pl (nt i) := fun c hc => by rcases nt_sign i c hc with h | h <;> omega
theorem Pl.app {x y : Str} (h : Pl x) (k : Pl y) : Pl (x ++ y) := fun c hc => by
  rw [tl_append] at hc
  rcases List.mem_append.mp hc with q | q
  · exact h c q
  · exact k c q
theorem Pl.cut {x : Str} {i j : Option Int} (h : Pl x) : Pl (cutS x i j) := fun c hc => h c (List.mem_of_mem_drop (List.mem_of_mem_take hc))
end
/-! number_of reads str(i) back -/
section
open TL
variable {s : Store}
theorem fEqP {x y : Str} (hx : Pl x) (hy : Pl y) : fEq s (.str x) (.str y) = .ok (.bl (x == y)) s := wf_eqS hx.ok hy.ok
theorem fNeP {x y : Str} (hx : Pl x) (hy : Pl y) : fNe s (.str x) (.str y) = .ok (.bl (!(x == y))) s := wf_neS hx.ok hy.ok
theorem pl_lit {x : Str} (h : (tl x).all (· < 128) = true) : Pl x := fun c hc => by
  have := List.all_eq_true.mp h c hc
  simpa using this
theorem str_beq {x y : Str} : (x == y) = decide (tl x = tl y) := by
  by_cases h : tl x = tl y
  · rw [ext_tl h]; simp
  · have : x ≠ y := fun e => h (by rw [e])
    simp [h, this]
/-- the figures of i -/
def fig (i : Int) : Str := ⟨(numL i.natAbs).toArray⟩
end
/-! k17: any word as a number -/
def allS {α β : Type} (p : α → Option β) : List α → Option (List β)
  | [] => some []
  | a :: r => match p a with
    | none => none
    | some b => (allS p r).map (b :: ·)
section
variable {α : Type} {env : Gm.Env} {s s1 : Store} {Q : D → Store → Prop} {X : Nat → Store → Prop}
theorem lcXX_eq {l : List α} {enc : α → D} {tg : Tg} {el : Ex} {vs : List Nat} {c : Nat} (p : α → Option D) (hi : ∀ i, Itr.at s1 (.seq (.lst (l.map enc))) i = some (l.map enc)[i]?)
    (he : ∀ a ∈ l, ∃ e1, tgE tg (enc a) (wipeE env vs) = some e1 ∧ (el e1 s1).W (fun d s' => s' = s1 ∧ ∃ f, p a = some f ∧ snk (fz d) = some f) (fun k s' => s' = s1 ∧ k = c ∧ p a = none)) :
    ∀ (n i : Nat) (acc : List D), i ≤ l.length → l.length < n + i → acc.length + (l.length - i) ≤ 16777216 → lcXX tg tY el vs (.seq (.lst (l.map enc))) n i acc env s1 = (match allS p (l.drop i) with
      | some fs => .ok (.own (.lst (acc ++ fs))) s1
      | none => .exc c s1)
  | 0, i, acc, h1, h2, _ => by omega
  | n + 1, i, acc, h1, h2, h3 => by
    have ha := hi i
    cases q : l[i]? with
    | none =>
      rw [List.getElem?_map, q] at ha
      have : l.length ≤ i := List.getElem?_eq_none_iff.mp q
      simp only [lcXX, ha, Option.map_none]
      rw [List.drop_eq_nil_of_le this]
      simp [allS]
    | some x =>
      rw [List.getElem?_map, q] at ha
      obtain ⟨hlt, ex⟩ := List.getElem?_eq_some_iff.mp q
      obtain ⟨e1, k1, k3⟩ := he x (List.mem_of_getElem? q)
      have hd : l.drop i = x :: l.drop (i + 1) := by rw [List.drop_eq_getElem_cons hlt, ex]
      rw [hd]
      cases em : el e1 s1 with
      | ok d s' =>
        rw [em, Gm.R.W_ok] at k3
        obtain ⟨hs', f, hf, k5⟩ := k3
        rw [hs'] at em
        simp only [lcXX, ha, k1, tY, em, k5, Option.map_some]
        rw [if_pos (by omega), lcXX_eq p hi he n (i + 1) (acc ++ [f]) (by omega) (by omega) (by rw [List.length_append]; simp; omega)]
        simp only [allS, hf]
        cases allS p (l.drop (i + 1)) with
        | none => rfl
        | some fs => simp
      | exc k s' =>
        rw [em, Gm.R.W_exc] at k3
        obtain ⟨hs', hk, hf⟩ := k3
        rw [hs', hk] at em
        simp only [lcXX, ha, k1, tY, em, Option.map_some, allS, hf]
      | no => rw [em] at k3; cases k3
/-- [el for tg in e], where el may raise -/
theorem w_lcT {l : List α} {enc : α → D} {tg : Tg} {ix : Ix} {el : Ex} {vs : List Nat} {c : Nat} (p : α → Option D) (hx : (ix env s).W (fun it s' => s' = s1 ∧ it = .seq (.lst (l.map enc))) X0) (hl : l.length ≤ 16777216)
    (he : ∀ a ∈ l, ∃ e1, tgE tg (enc a) (wipeE env vs) = some e1 ∧ (el e1 s1).W (fun d s' => s' = s1 ∧ ∃ f, p a = some f ∧ snk (fz d) = some f) (fun k s' => s' = s1 ∧ k = c ∧ p a = none))
    (hQ : ∀ fs, allS p l = some fs → Q (.own (.lst fs)) s1) (hX : allS p l = none → X c s1) : (eLcX tg ix tY el vs env s).W Q X := by
  have e := W_eq0 (s := s1) hx
  have e2 : eLcX tg ix tY el vs env s = (match allS p l with
      | some fs => .ok (.own (.lst fs)) s1
      | none => .exc c s1) := by
    simp only [eLcX, e, Itr.fuel, seqD, dr, Option.getD_some, List.length_map]
    rw [lcXX_eq (c := c) p (fun i => rfl) he _ 0 [] (Nat.zero_le _) (by omega) (by simp; omega)]
    simp
  rw [e2]
  cases q : allS p l with
  | none => exact .exc (hX q)
  | some fs => exact .ok (hQ fs q)
end
section
open TL
variable {s : Store}
theorem tl_cutA (x : Str) (i : Nat) : tl (cutS x none (some (i : Int))) = (tl x).take i := by
  show ((tl x).drop 0).take (HT.sIx _ _ (some (i : Int)) - 0) = _
  rw [HT.sIx_nat, List.drop_zero, Nat.sub_zero, len_tl, ← List.take_take, List.take_length]
theorem tl_cutB (x : Str) (i : Nat) : tl (cutS x (some (i : Int)) none) = (tl x).drop i := by
  show ((tl x).drop (HT.sIx x.length 0 (some (i : Int)))).take (HT.sIx x.length x.length none - HT.sIx x.length 0 (some (i : Int))) = _
  rw [HT.sIx_nat, HT.sIx_none, len_tl]
  by_cases q : i ≤ (tl x).length
  · rw [Nat.min_eq_left q]
    exact List.take_of_length_le (by rw [List.length_drop]; omega)
  · rw [Nat.min_eq_right (by omega), List.drop_eq_nil_of_le (Nat.le_refl _), List.drop_eq_nil_of_le (by omega)]
    simp
def figS (w : Str) : Str := if (cutS w none (some 1) == ("-" : Str)) = true then cutS w (some 1) none else w
def hdS (f : Str) : Str := ⟨#[(tl f).headD 0]⟩
def okN (w : Str) : Bool := decide (1 ≤ (figS w).length) && decide ((figS w).length ≤ 60) && !((hdS (figS w) == ("0" : Str)) && !(w == ("0" : Str))) && (tl (figS w)).all (fun c => decide (c ∈ ("0123456789" : Str).cps.toList))
/-- the number that a word writes -/
def numP (w : Str) : Option Int := if okN w = true then intText? w else none
theorem dig_iff {c : Nat} : c ∈ ("0123456789" : Str).cps.toList ↔ 48 ≤ c ∧ c ≤ 57 := by
  rw [show ("0123456789" : Str).cps.toList = [48, 49, 50, 51, 52, 53, 54, 55, 56, 57] from rfl]
  simp only [List.mem_cons, List.not_mem_nil, or_false]
  omega
theorem figS_pl {w : Str} (h : Pl w) : Pl (figS w) := by
  unfold figS
  split
  · exact h.cut
  · exact h
theorem neg_tl {w : Str} (h : (cutS w none (some 1) == ("-" : Str)) = true) : tl w = 45 :: tl (cutS w (some 1) none) := by
  rw [str_beq, decide_eq_true_eq] at h
  have h1 := tl_cutA w 1
  have h2 := tl_cutB w 1
  have h1 : tl (cutS w none (some 1)) = (tl w).take 1 := h1
  have h2 : tl (cutS w (some 1) none) = (tl w).drop 1 := h2
  rw [h1] at h
  rw [h2]
  cases e : tl w with
  | nil => rw [e] at h; cases h
  | cons c r =>
    rw [e] at h
    have : c = 45 := (List.cons.inj h).1
    rw [this]; rfl
theorem num_some {w : Str} (h : okN w = true) : w.length ≤ 61 ∧ ∃ n, intText? w = some n := by
  unfold okN at h
  simp only [Bool.and_eq_true, decide_eq_true_eq] at h
  obtain ⟨⟨⟨h1, h60⟩, _⟩, hd⟩ := h
  have hd : ∀ c ∈ tl (figS w), 48 ≤ c ∧ c ≤ 57 := fun c hc => by
    have := List.all_eq_true.mp hd c hc
    exact dig_iff.mp (of_decide_eq_true this)
  unfold figS at h1 h60 hd
  by_cases q : (cutS w none (some 1) == ("-" : Str)) = true
  · rw [if_pos q] at h1 h60 hd
    have e := neg_tl q
    have hl : w.length = (cutS w (some 1) none).length + 1 := by rw [len_tl, len_tl, e]; rfl
    have hne : tl (cutS w (some 1) none) ≠ [] := fun z => by rw [len_tl, z] at h1; simp at h1
    exact ⟨by omega, _, PySem.intText_neg (x := w) e hd hne (by omega)⟩
  · rw [if_neg q] at h1 h60 hd
    have hne : tl w ≠ [] := fun z => by rw [len_tl, z] at h1; simp at h1
    exact ⟨by omega, _, PySem.intText_digits (x := w) hd hne (by omega)⟩
theorem numP_none {w : Str} (h : okN w = false) : numP w = none := by unfold numP; rw [h]; rfl
theorem sg_dig {a : Str} {f : Str} (ha : a ∈ sgn f) : ∃ k ∈ tl f, a = ⟨#[k]⟩ := by
  unfold sgn at ha
  obtain ⟨k, hk, rfl⟩ := List.mem_map.mp ha
  exact ⟨k, hk, rfl⟩
theorem number_any {w : Str} (hp : Pl w) (hl : w.length ≤ 100000) : (f_number_of [.str w] s).W (fun d s' => s' = s ∧ ∃ n, numP w = some n ∧ d = .int n) (fun c s' => s' = s ∧ c = 2 ∧ numP w = none) := by
  obtain ⟨f, hf⟩ : ∃ f, figS w = f := ⟨_, rfl⟩
  have hfp : Pl f := by rw [← hf]; exact figS_pl hp
  have p0 : Pl "-" := pl_lit rfl
  have p1 : Pl "0" := pl_lit rfl
  have q1 := fEqP (s := s) (hp.cut (i := none) (j := some 1)) p0
  have q3 := fNeP (s := s) hp p1
  have hfl : f.length ≤ 100000 := by
    rw [← hf]; unfold figS
    split
    · rename_i q
      have := neg_tl q
      have h2 : w.length = (cutS w (some 1) none).length + 1 := by rw [len_tl, len_tl, this]; rfl
      omega
    · exact hl
  have hfl2 : f.length ≤ 16777216 := by omega
  refine w_fnW rfl ?_
  unfold b_number_of
  simp only [ws_seq, Kt_eq]
  refine w_cut (fun e t => t = s ∧ e = [some (.str w), some (.str f), none]) ?_ ?_
  · unfold figS at hf
    by_cases q : (cutS w none (some 1) == ("-" : Str)) = true
    · rw [if_pos q] at hf
      rw [q] at q1
      simp_arith [q1, hf, hl]
    · rw [if_neg q] at hf
      rw [Bool.eq_false_iff.mpr q] at q1
      subst hf
      simp_arith [q1, hl]
  rintro e t ⟨rfl, rfl⟩
  have okf : ∀ b : Bool, okN w = b → (decide (1 ≤ f.length) && decide (f.length ≤ 60) && !((hdS f == ("0" : Str)) && !(w == ("0" : Str))) && (tl f).all (fun c => decide (c ∈ ("0123456789" : Str).cps.toList))) = b := fun b h => by rw [← hf]; exact h
  have nok : ∀ b : Bool, (decide (1 ≤ f.length) && decide (f.length ≤ 60) && !((hdS f == ("0" : Str)) && !(w == ("0" : Str))) && (tl f).all (fun c => decide (c ∈ ("0123456789" : Str).cps.toList))) = b → okN w = b := fun b h => by unfold okN; rw [hf]; exact h
  simp only [ws_seq, Kt_eq]
  by_cases h1 : ¬ 1 ≤ f.length
  · have hno : numP w = none := numP_none (nok false (by simp [h1]))
    have h1' : ¬ ((1 : Int) ≤ (f.length : Nat)) := by omega
    refine w_cut (fun e t => False) ?_ (fun _ _ h => h.elim)
    simp_arith [hfl2, decide_eq_false h1', hno]
  have h1 := Decidable.of_not_not h1
  by_cases h60 : ¬ f.length ≤ 60
  · have hno : numP w = none := numP_none (nok false (by simp [h60]))
    have h1' : ((1 : Int) ≤ (f.length : Nat)) := by omega
    have h60' : ¬ (((f.length : Nat) : Int) ≤ 60) := by omega
    refine w_cut (fun e t => False) ?_ (fun _ _ h => h.elim)
    simp_arith [hfl2, h1', decide_eq_false h60', hno]
  have h60 := Decidable.of_not_not h60
  have h1' : ((1 : Int) ≤ (f.length : Nat)) := by omega
  have h60' : (((f.length : Nat) : Int) ≤ 60) := by omega
  obtain ⟨c, r, ec⟩ : ∃ c r, tl f = c :: r := by
    cases e : tl f with
    | nil => rw [len_tl, e] at h1; simp at h1
    | cons c r => exact ⟨c, r, rfl⟩
  have ehd : hdS f = ⟨#[c]⟩ := by unfold hdS; rw [ec]; rfl
  have q2 := fEqP (s := t) (x := ⟨#[c]⟩) (y := "0") (fun x hx => by rw [show tl (⟨#[c]⟩ : Str) = [c] from rfl, List.mem_singleton] at hx; rw [hx]; exact hfp c (by rw [ec]; exact List.mem_cons_self ..)) p1
  have a0 : atI f.cps.toList 0 = some c := by
    rw [show f.cps.toList = c :: r from ec]; simp [atI, ixN]
  by_cases hz : (hdS f == ("0" : Str)) = true ∧ (w == ("0" : Str)) = false
  · have hno : numP w = none := numP_none (nok false (by simp [hz.1, hz.2]))
    rw [ehd] at hz
    rw [hz.1] at q2
    rw [hz.2] at q3
    refine w_cut (fun e t => False) ?_ (fun _ _ h => h.elim)
    simp_arith [wf_ixS a0, q2, q3, hfl2, hfl, h1', h60', hno]
  refine w_cut (fun e t' => t' = t ∧ e = [some (.str w), some (.str f), none]) ?_ ?_
  · cases hb : ((⟨#[c]⟩ : Str) == ("0" : Str)) with
    | false =>
      rw [hb] at q2
      simp_arith [wf_ixS a0, q2, hfl2, hfl, h1', h60']
    | true =>
      rw [hb] at q2
      have hw : (w == ("0" : Str)) = true := by
        cases hw : (w == ("0" : Str)) with
        | true => rfl
        | false => exact absurd ⟨by rw [ehd]; exact hb, hw⟩ hz
      rw [hw] at q3
      simp_arith [wf_ixS a0, q2, q3, hfl2, hfl, h1', h60']
  rintro e t' ⟨rfl, rfl⟩
  simp only [ws_seq, Kt_eq]
  refine w_cut (fun e t => t = t' ∧ (∀ k ∈ tl f, decide (k ∈ ("0123456789" : Str).cps.toList) = true) ∧ ∃ v, e = [some (.str w), some (.str f), v]) ?_ ?_
  · refine w_forS (s1 := t') (l := sgn f) (enc := D.str) (d := .tup ((sgn f).map D.str)) (fun pre e t => t = t' ∧ (∀ a ∈ pre, ∀ k, a = (⟨#[k]⟩ : Str) → decide (k ∈ ("0123456789" : Str).cps.toList) = true) ∧ ∃ v, e = [some (.str w), some (.str f), v]) ?_ ⟨rfl, (fun a ha => nomatch ha), _, rfl⟩ ?_ rfl ?_ ?_
    · simp_arith []
    · rintro pre e t ⟨rfl, _, v, rfl⟩; rfl
    · rintro pre a post e t hl ⟨rfl, hpre, v, rfl⟩
      have ha : a ∈ sgn f := by rw [hl]; simp
      obtain ⟨k, hk, rfl⟩ := sg_dig ha
      refine ⟨_, rfl, ?_⟩
      cases hd : decide (k ∈ ("0123456789" : Str).cps.toList) with
      | true =>
        simp_arith [hd]
        refine ⟨fun a ha2 k2 e2 => ?_, _, rfl⟩
        rcases List.mem_append.mp ha2 with z | z
        · exact hpre a z k2 e2
        · rw [List.mem_singleton.mp z] at e2
          have : k2 = k := by
            have := congrArg tl e2
            exact (List.cons.inj this).1.symm
          rw [this]; exact hd
      | false =>
        have hno : numP w = none := by
          refine numP_none (nok false ?_)
          have : (tl f).all (fun c => decide (c ∈ ("0123456789" : Str).cps.toList)) = false := by
            rw [List.all_eq_false]
            exact ⟨k, hk, by rw [hd]; decide⟩
          rw [this, Bool.and_false]
        simp_arith [hd, hno]
    · rintro e t ⟨rfl, hpre, v, rfl⟩
      exact ⟨rfl, fun k hk => hpre ⟨#[k]⟩ (List.mem_map.mpr ⟨k, hk, rfl⟩) k rfl, v, rfl⟩
  rintro e t ⟨rfl, hall, v, rfl⟩
  have hok : okN w = true := by
    refine nok true ?_
    have hA : (tl f).all (fun c => decide (c ∈ ("0123456789" : Str).cps.toList)) = true := List.all_eq_true.mpr hall
    have hB : ((hdS f == ("0" : Str)) && !(w == ("0" : Str))) = false := by
      cases x : (hdS f == ("0" : Str)) with
      | false => rfl
      | true =>
        cases y : (w == ("0" : Str)) with
        | true => rfl
        | false => exact absurd ⟨x, y⟩ hz
    rw [hA, hB, decide_eq_true h1, decide_eq_true h60]
    rfl
  obtain ⟨hw61, n, hn⟩ := num_some hok
  have hnp : numP w = some n := by unfold numP; rw [hok]; exact hn
  simp only [Kt_eq]
  have hw640 : w.length ≤ 640 := by omega
  simp_arith [wf_intS hn, hw640, hnp]
  try exact ⟨n, rfl, rfl⟩
end
/-! k17: the law's own reading of a number -/
theorem tOrX_t {t u : Tx} {env : Gm.Env} {s s' : Store} (h : t env s = .ok true s') : tOrX t u env s = .ok true s' := by
  unfold tOrX; rw [h]
theorem tOrX_f {t u : Tx} {env : Gm.Env} {s s1 s' : Store} {k : Bool} (h : t env s = .ok false s1) (h2 : u env s1 = .ok k s') : tOrX t u env s = .ok k s' := by
  unfold tOrX; rw [h]; exact h2
section
open TL
variable {s : Store}
def numD (w : Str) : D := match numP w with
  | some n => .int n
  | none => .non
theorem find_sg (k : Nat) : decide (Txt.find "0123456789" ⟨#[k]⟩ < 0) = !decide (k ∈ ("0123456789" : Str).cps.toList) := by
  have h := PySem.StrLaws.found_one ("0123456789" : Str) k
  unfold Txt.find
  rw [← h]
  cases e : Builtin.Str.occurrences ("0123456789" : Str) ⟨#[k]⟩ 0 ("0123456789" : Str).length 1 with
  | nil => rfl
  | cons i r => simp
def badS (f : Str) : List Str := (sgn f).filter fun a => decide (Txt.find "0123456789" a < 0)
theorem bad_all (f : Str) : (badS f = []) ↔ (tl f).all (fun c => decide (c ∈ ("0123456789" : Str).cps.toList)) = true := by
  unfold badS
  rw [List.filter_eq_nil_iff, List.all_eq_true]
  constructor
  · intro h k hk
    have := h ⟨#[k]⟩ (List.mem_map.mpr ⟨k, hk, rfl⟩)
    rw [find_sg] at this
    simpa using this
  · intro h a ha
    obtain ⟨k, hk, rfl⟩ := sg_dig ha
    rw [find_sg, h k hk]
    simp
theorem lnum_eq {w : Str} (hp : Pl w) (hl : w.length ≤ 100000) : f__law_number [.str w] s = .ok (numD w) s := by
  obtain ⟨f, hf⟩ : ∃ f, figS w = f := ⟨_, rfl⟩
  have hfp : Pl f := by rw [← hf]; exact figS_pl hp
  have p0 : Pl "-" := pl_lit rfl
  have p1 : Pl "0" := pl_lit rfl
  have pE : Pl "" := pl_lit rfl
  have q1 := fEqP (s := s) (hp.cut (i := none) (j := some 1)) p0
  have q3 := fNeP (s := s) hp p1
  have q4 := fEqP (s := s) hfp pE
  have hfl : f.length ≤ 100000 := by
    rw [← hf]; unfold figS
    split
    · rename_i q
      have := neg_tl q
      have h2 : w.length = (cutS w (some 1) none).length + 1 := by rw [len_tl, len_tl, this]; rfl
      omega
    · exact hl
  have hfl2 : f.length ≤ 16777216 := by omega
  have nok : ∀ b : Bool, (decide (1 ≤ f.length) && decide (f.length ≤ 60) && !((hdS f == ("0" : Str)) && !(w == ("0" : Str))) && (tl f).all (fun c => decide (c ∈ ("0123456789" : Str).cps.toList))) = b → okN w = b := fun b h => by unfold okN; rw [hf]; exact h
  have hE : (f == ("" : Str)) = decide (f.length = 0) := by
    rw [str_beq]
    by_cases h : f.length = 0
    · rw [decide_eq_true h, decide_eq_true_eq, show tl ("" : Str) = [] from rfl]; exact (len0_tl f).mp h
    · rw [decide_eq_false h, decide_eq_false_iff_not, show tl ("" : Str) = [] from rfl]; exact fun z => h ((len0_tl f).mpr z)
  have hsl : (sgn f).length = f.length := by unfold sgn; rw [List.length_map]; exact (len_tl f).symm
  have hbl : (badS f).length ≤ f.length := by rw [← hsl]; exact List.length_filter_le ..
  refine w_fnE rfl ?_
  unfold b__law_number
  simp only [ws_seq, Kt_eq]
  refine w_cut (fun e t => t = s ∧ e = [some (.str w), some (.str w), none]) ?_ ?_
  · simp_arith []
  rintro e t ⟨rfl, rfl⟩
  simp only [ws_seq, Kt_eq]
  refine w_cut (fun e u => u = t ∧ e = [some (.str w), some (.str f), none]) ?_ ?_
  · unfold figS at hf
    by_cases q : (cutS w none (some 1) == ("-" : Str)) = true
    · rw [if_pos q] at hf
      rw [q] at q1
      simp_arith [q1, hf, hl]
    · rw [if_neg q] at hf
      rw [Bool.eq_false_iff.mpr q] at q1
      subst hf
      simp_arith [q1, hl]
  rintro e u ⟨rfl, rfl⟩
  have hlc : (eLc (Tg.nm 2) (iTxt (eVar 1)) (tq (eOp2 fLt (eMS fFind (eC (D.str "0123456789")) (eVar 2)) (eC (D.int 0)))) (eVar 2) [2]) [some (.str w), some (.str f), none] u = .ok (.own (.lst ((badS f).map D.str))) u := by
    refine W_eq0 (s := u) (w_lcS (s1 := u) (l := sgn f) (enc := D.str) (d := .tup ((sgn f).map D.str)) (fun a => decide (Txt.find "0123456789" a < 0)) D.str rfl ?_ (by omega) (fun a ha => ⟨_, rfl, ?_, fun _ => ?_⟩) ?_)
    · simp_arith []
    · simp_arith [wipeE]
    · simp_arith [wipeE]
    · exact ⟨rfl, rfl⟩
  have hbT : (tq (eOp2 fGt (eOp1 fLen (eLc (Tg.nm 2) (iTxt (eVar 1)) (tq (eOp2 fLt (eMS fFind (eC (D.str "0123456789")) (eVar 2)) (eC (D.int 0)))) (eVar 2) [2])) (eC (D.int 0)))) [some (.str w), some (.str f), none] u = .ok (decide (0 < (((badS f).length : Nat) : Int))) u := by
    have hb1 : (badS f).length ≤ 16777216 := by omega
    refine W_eq0 (s := u) ?_
    simp_arith [hlc]
    try simp
  have hgo : ∀ (b : Bool), (b = true ↔ (f.length = 0 ∨ 60 < f.length ∨ badS f ≠ [])) → (tOrX (tq (eOp2 fEq (eVar 1) (eC (D.str "")))) (tOrX (tq (eOp2 fGt (eOp1 fLen (eVar 1)) (eC (D.int 60)))) (tq (eOp2 fGt (eOp1 fLen (eLc (Tg.nm 2) (iTxt (eVar 1)) (tq (eOp2 fLt (eMS fFind (eC (D.str "0123456789")) (eVar 2)) (eC (D.int 0)))) (eVar 2) [2])) (eC (D.int 0)))))) [some (.str w), some (.str f), none] u = .ok b u := by
    intro b hb
    rw [hE] at q4
    by_cases h0 : f.length = 0
    · rw [decide_eq_true h0] at q4
      rw [hb.mpr (.inl h0)]
      exact tOrX_t (W_eq0 (s := u) (by simp_arith [q4]))
    · rw [decide_eq_false h0] at q4
      refine tOrX_f (s1 := u) (W_eq0 (s := u) (by simp_arith [q4])) ?_
      by_cases h6 : 60 < f.length
      · rw [hb.mpr (.inr (.inl h6))]
        have h6' : (60 : Int) < ((f.length : Nat) : Int) := by omega
        refine tOrX_t (s' := u) (W_eq0 (s := u) ?_)
        simp_arith [hfl2]
        try exact decide_eq_true h6'
      · have h6' : ¬ (60 : Int) < ((f.length : Nat) : Int) := by omega
        refine tOrX_f (s1 := u) (W_eq0 (s := u) (by simp_arith [hfl2, decide_eq_false h6'])) ?_
        rw [hbT]
        congr 1
        rw [Bool.eq_iff_iff, hb, decide_eq_true_eq]
        constructor
        · intro h
          exact .inr (.inr (fun z => by rw [z] at h; simp at h))
        · rintro (h | h | h)
          · exact absurd h h0
          · exact absurd h h6
          · have := List.length_pos_iff.mpr h; omega
  simp only [ws_seq, Kt_eq]
  by_cases hbad : f.length = 0 ∨ 60 < f.length ∨ badS f ≠ []
  · have hno : numD w = .non := by
      unfold numD
      rw [numP_none (nok false ?_)]
      rcases hbad with h | h | h
      · rw [decide_eq_false (by omega : ¬ 1 ≤ f.length)]; rfl
      · rw [decide_eq_false (by omega : ¬ f.length ≤ 60), Bool.and_false]; rfl
      · rw [Bool.eq_false_iff.mpr (fun z => h ((bad_all f).mpr z)), Bool.and_false]
    refine w_cut (fun e t => False) (w_ifT (hgo true (iff_of_true rfl hbad)) ?_) (fun _ _ h => h.elim)
    rw [hno]
    simp_arith []
  refine w_cut (fun e t => t = u ∧ e = [some (.str w), some (.str f), none]) (w_ifF (hgo false ⟨fun z => Bool.noConfusion z, fun z => absurd z hbad⟩) ?_) ?_
  · simp_arith []
  rintro e t ⟨rfl, rfl⟩
  have h1 : 1 ≤ f.length := Nat.pos_of_ne_zero fun z => hbad (.inl z)
  have h60 : f.length ≤ 60 := Nat.le_of_not_lt fun z => hbad (.inr (.inl z))
  have hba : badS f = [] := Decidable.byContradiction fun z => hbad (.inr (.inr z))
  have hall := (bad_all f).mp hba
  obtain ⟨c, r, ec⟩ : ∃ c r, tl f = c :: r := by
    cases e : tl f with
    | nil => rw [len_tl, e] at h1; simp at h1
    | cons c r => exact ⟨c, r, rfl⟩
  have ehd : hdS f = ⟨#[c]⟩ := by unfold hdS; rw [ec]; rfl
  have q2 := fEqP (s := t) (x := ⟨#[c]⟩) (y := "0") (fun x hx => by rw [show tl (⟨#[c]⟩ : Str) = [c] from rfl, List.mem_singleton] at hx; rw [hx]; exact hfp c (by rw [ec]; exact List.mem_cons_self ..)) p1
  have a0 : atI f.cps.toList 0 = some c := by
    rw [show f.cps.toList = c :: r from ec]; simp [atI, ixN]
  simp only [ws_seq, Kt_eq]
  by_cases hz : (hdS f == ("0" : Str)) = true ∧ (w == ("0" : Str)) = false
  · have hno : numD w = .non := by
      unfold numD
      rw [numP_none (nok false (by simp [hz.1, hz.2]))]
    rw [ehd] at hz
    rw [hz.1] at q2
    rw [hz.2] at q3
    refine w_cut (fun e t => False) ?_ (fun _ _ h => h.elim)
    simp_arith [wf_ixS a0, q2, q3, hfl, hno]
  have hok : okN w = true := by
    refine nok true ?_
    have hB : ((hdS f == ("0" : Str)) && !(w == ("0" : Str))) = false := by
      cases x : (hdS f == ("0" : Str)) with
      | false => rfl
      | true =>
        cases y : (w == ("0" : Str)) with
        | true => rfl
        | false => exact absurd ⟨x, y⟩ hz
    rw [hall, hB, decide_eq_true h1, decide_eq_true h60]
    rfl
  obtain ⟨hw61, n, hn⟩ := num_some hok
  have hnd : numD w = .int n := by unfold numD numP; rw [hok, if_pos rfl, hn]
  have hw640 : w.length ≤ 640 := by omega
  refine w_cut (fun e t' => t' = t ∧ e = [some (.str w), some (.str f), none]) ?_ ?_
  · cases hb : ((⟨#[c]⟩ : Str) == ("0" : Str)) with
    | false =>
      rw [hb] at q2
      simp_arith [wf_ixS a0, q2, hfl]
    | true =>
      rw [hb] at q2
      have hw : (w == ("0" : Str)) = true := by
        cases hw : (w == ("0" : Str)) with
        | true => rfl
        | false => exact absurd ⟨by rw [ehd]; exact hb, hw⟩ hz
      rw [hw] at q3
      simp_arith [wf_ixS a0, q2, q3, hfl]
  rintro e t' ⟨rfl, rfl⟩
  simp only [Kt_eq]
  rw [hnd]
  simp_arith [wf_intS hn, hw640]
end
/-! the text of a deed, read back -/
section
open TL
/-- a deed's word, a deed's numbers -/
def wd : Deed → Str
  | .make _ _ => "make"
  | .number _ _ => "number"
  | .clear _ => "clear"
  | .copy _ _ => "copy"
  | .put _ _ _ => "put"
  | .take _ _ _ => "take"
  | .tell _ => "tell"
  | .same _ _ => "same"
def pn : Deed → List Int
  | .make k z => [k, z]
  | .number k n => [k, n]
  | .clear k => [k]
  | .copy k m => [k, m]
  | .put k j m => [k, j, m]
  | .take q k j => [q, k, j]
  | .tell k => [k]
  | .same k m => [k, m]
theorem e_deed (d : Deed) : (En.e d : D) = .tup (.str (wd d) :: (pn d).map D.int) := by cases d <;> rfl
/-- a row of a deed -/
def rowB (d : Deed) : Str := Txt.join " " (wd d :: (pn d).map nt)
theorem tl_rowB (d : Deed) : tl (rowB d) = joinL [32] (tl (wd d) :: (pn d).map fun x => tl (nt x)) := by
  unfold rowB
  rw [join_eq, tl_join, show tl (" " : Str) = [32] from rfl, List.map_cons, List.map_map]
  rfl
/-- signs of a row: small letters, figures, - and blanks -/
def rowS (c : Nat) : Prop := c = 32 ∨ c = 45 ∨ (48 ≤ c ∧ c ≤ 57) ∨ (97 ≤ c ∧ c ≤ 122)
theorem joinL_mem {S : List Nat} {c : Nat} : ∀ {ps : List (List Nat)}, c ∈ joinL S ps → c ∈ S ∨ ∃ p ∈ ps, c ∈ p
  | [], h => by cases h
  | [p], h => .inr ⟨p, List.mem_singleton.mpr rfl, h⟩
  | p :: q :: r, h => by
    rcases List.mem_append.mp h with h | h
    · exact .inr ⟨p, List.mem_cons_self .., h⟩
    · rcases List.mem_append.mp h with h | h
      · exact .inl h
      · rcases joinL_mem h with h | ⟨x, hx, hc⟩
        · exact .inl h
        · exact .inr ⟨x, List.mem_cons_of_mem _ hx, hc⟩
theorem wd_sign (d : Deed) : ∀ c ∈ tl (wd d), 97 ≤ c ∧ c ≤ 122 := by
  have key : (tl (wd d)).all (fun c => decide (97 ≤ c) && decide (c ≤ 122)) = true := by cases d <;> rfl
  intro c hc
  have := List.all_eq_true.mp key c hc
  simpa using this
theorem rowB_sign (d : Deed) : ∀ c ∈ tl (rowB d), rowS c := by
  intro c hc
  rw [tl_rowB] at hc
  rcases joinL_mem hc with h | ⟨p, hp, h⟩
  · exact .inl (List.mem_singleton.mp h)
  · rcases List.mem_cons.mp hp with rfl | hp
    · exact .inr (.inr (.inr (wd_sign d c h)))
    · obtain ⟨x, _, rfl⟩ := List.mem_map.mp hp
      rcases nt_sign x c h with h | h
      · exact .inr (.inl h)
      · exact .inr (.inr (.inl h))
theorem rowB_pl (d : Deed) : Pl (rowB d) := fun c hc => by rcases rowB_sign d c hc with h | h | h | h <;> omega
theorem joinL_len {S : List Nat} {b : Nat} : ∀ {ps : List (List Nat)}, (∀ p ∈ ps, p.length ≤ b) → (joinL S ps).length ≤ ps.length * (b + S.length)
  | [], _ => by simp [joinL]
  | [p], h => by have := h p (List.mem_singleton.mpr rfl); show p.length ≤ _; simp; omega
  | p :: q :: r, h => by
    have h1 := h p (List.mem_cons_self ..)
    have h2 := joinL_len (S := S) (b := b) (ps := q :: r) fun z hz => h z (List.mem_cons_of_mem _ hz)
    show (p ++ (S ++ joinL S (q :: r))).length ≤ _
    rw [List.length_append, List.length_append, List.length_cons, Nat.add_one_mul]
    omega
/-- numbers that a text bears -/
def Deed.sh (d : Deed) : Prop := ∀ i ∈ pn d, i.natAbs < 10 ^ 60
theorem rowB_len {d : Deed} (h : d.sh) : (rowB d).length ≤ 248 := by
  rw [len_tl, tl_rowB]
  have h1 := joinL_len (S := [32]) (b := 61) (ps := tl (wd d) :: (pn d).map fun x => tl (nt x)) fun p hp => by
    rcases List.mem_cons.mp hp with rfl | hp
    · have : (tl (wd d)).length ≤ 6 := by cases d <;> (simp only [wd]; decide +kernel)
      omega
    · obtain ⟨x, hx, rfl⟩ := List.mem_map.mp hp
      have := nt_len (h x hx); rw [len_tl] at this; exact this
  have h2 : (pn d).length ≤ 3 := by cases d <;> simp [pn]
  rw [List.length_cons, List.length_map, List.length_singleton] at h1
  have h3 : ((pn d).length + 1) * (61 + 1) ≤ 4 * (61 + 1) := Nat.mul_le_mul_right _ (by omega)
  omega
theorem cut_tail {x : D} {l : List D} : cutD (x :: l) (some 1) none = l := by
  unfold cutD
  have e : HT.sIx (x :: l).length 0 (some 1) = 1 := by
    rw [show (some (1 : Int)) = some ((1 : Nat) : Int) from rfl, HT.sIx_nat, List.length_cons]; omega
  rw [e, HT.sIx_none, List.drop_succ_cons, List.drop_zero, List.length_cons, Nat.add_sub_cancel]
  exact List.take_length
end
/-! k17: a row's deed -/
theorem we_dgetD {a b c : Ex} {env : Gm.Env} {s : Store} {Q : D → Store → Prop} {X : Nat → Store → Prop} : (eDGetD a b c env s).W Q X ↔ (a env s).W (fun x s1 => isDcD s1 (fz x) = true ∧ (b env s1).W (fun y s2 => (c env s2).W (fun z s3 => isIN (fz z) = true ∧ (fDGetD (fz z) s3 (fz x) (fz y)).W Q X) X) X) X := by
  unfold eDGetD
  cases a env s with
  | ok x s1 =>
    simp only [R.W_ok]
    by_cases h : isDcD s1 (fz x) = true
    · rw [if_pos h]
      cases b env s1 with
      | ok y s2 =>
        simp only [R.W_ok]
        cases c env s2 with
        | ok z s3 =>
          simp only [R.W_ok]
          by_cases h2 : isIN (fz z) = true
          · rw [if_pos h2]; simp [h, h2]
          · rw [if_neg h2]; simp [h2, R.W_no]
        | exc c s3 => simp [h, R.W_exc]
        | no => simp [R.W_no]
      | exc c s2 => simp [h, R.W_exc]
      | no => simp [R.W_no]
    · rw [if_neg h]; simp [h, R.W_no]
  | exc c s1 => simp [R.W_exc]
  | no => simp [R.W_no]
section
open TL
theorem spl_in {S : List Nat} : ∀ (l : List Nat) (k : Nat) (acc : List Nat), ∀ p ∈ spl S k acc l, (∀ c ∈ p, c ∈ acc ∨ c ∈ l) ∧ p.length ≤ acc.length + l.length
  | [], k, acc, p, hp => by
    rw [spl_nil, List.mem_singleton] at hp
    subst hp
    exact ⟨fun c hc => .inl hc, by simp⟩
  | c :: r, k + 1, acc, p, hp => by
    have hp : p ∈ spl S k acc r := hp
    obtain ⟨h1, h2⟩ := spl_in r k acc p hp
    exact ⟨fun x hx => (h1 x hx).imp id (List.mem_cons_of_mem _), by rw [List.length_cons]; omega⟩
  | c :: r, 0, acc, p, hp => by
    cases hq : pre S (c :: r) with
    | true =>
      rw [spl_hit hq] at hp
      rcases List.mem_cons.mp hp with rfl | hp
      · exact ⟨fun x hx => .inl hx, by simp⟩
      · obtain ⟨h1, h2⟩ := spl_in r (S.length - 1) [] p hp
        refine ⟨fun x hx => .inr ((h1 x hx).elim (fun z => nomatch z) (List.mem_cons_of_mem _)), ?_⟩
        simp only [List.length_nil, Nat.zero_add] at h2
        rw [List.length_cons]; omega
    | false =>
      rw [spl_miss hq] at hp
      obtain ⟨h1, h2⟩ := spl_in r 0 (acc ++ [c]) p hp
      refine ⟨fun x hx => ?_, by rw [List.length_append, List.length_singleton] at h2; rw [List.length_cons]; omega⟩
      rcases h1 x hx with z | z
      · rcases List.mem_append.mp z with z | z
        · exact .inl z
        · rw [List.mem_singleton.mp z]; exact .inr (List.mem_cons_self ..)
      · exact .inr (List.mem_cons_of_mem _ z)
theorem spl_ne {S : List Nat} : ∀ (l : List Nat) (k : Nat) (acc : List Nat), spl S k acc l ≠ []
  | [], k, acc => by rw [spl_nil]; exact List.cons_ne_nil _ _
  | c :: r, k + 1, acc => by
    show spl S k acc r ≠ []
    exact spl_ne r k acc
  | c :: r, 0, acc => by
    cases hq : pre S (c :: r) with
    | true => rw [spl_hit hq]; exact List.cons_ne_nil _ _
    | false => rw [spl_miss hq]; exact spl_ne r 0 (acc ++ [c])
theorem spl_cnt {S : List Nat} : ∀ (l : List Nat) (k : Nat) (acc : List Nat), (spl S k acc l).length ≤ l.length + 1
  | [], k, acc => by rw [spl_nil]; simp
  | c :: r, k + 1, acc => by
    have := spl_cnt (S := S) r k acc
    show (spl S k acc r).length ≤ _
    rw [List.length_cons]; omega
  | c :: r, 0, acc => by
    cases hq : pre S (c :: r) with
    | true =>
      have := spl_cnt (S := S) r (S.length - 1) []
      rw [spl_hit hq, List.length_cons, List.length_cons]; omega
    | false =>
      have := spl_cnt (S := S) r 0 (acc ++ [c])
      rw [spl_miss hq, List.length_cons]; omega
/-- the parts of a plain text -/
theorem split_ok {x y : Str} (hy : tl y ≠ []) (hk : y.cps.all (· < 256) = true) (hp : Pl x) : Txt.split x y ≠ [] ∧ (Txt.split x y).length ≤ x.length + 1 ∧ ∀ p ∈ Txt.split x y, Pl p ∧ p.length ≤ x.length := by
  have e := split_spl x y hy (kind_ok hk)
  refine ⟨fun z => ?_, ?_, fun p hq => ?_⟩
  · rw [z] at e; exact spl_ne _ _ _ e.symm
  · have := spl_cnt (S := tl y) (tl x) 0 []
    rw [← e, List.length_map] at this
    rw [len_tl]; exact this
  · have hm : tl p ∈ spl (tl y) 0 [] (tl x) := by rw [← e]; exact List.mem_map.mpr ⟨p, hq, rfl⟩
    obtain ⟨h1, h2⟩ := spl_in _ _ _ _ hm
    refine ⟨fun c hc => hp c ((h1 c hc).elim (fun z => nomatch z) id), ?_⟩
    rw [len_tl, len_tl x]
    simpa using h2
def wantsK (w : Str) : Option Int := (tb_WANTS.lookup w).join
def wl17 : List (Str × Int) := [("make", 2), ("number", 2), ("clear", 1), ("copy", 2), ("put", 3), ("take", 3), ("tell", 1), ("same", 2)]
theorem lookup_some {w : Str} : ∀ l : List (Str × Int), ((l.map fun p => (p.1, some p.2)).lookup w).join = l.lookup w
  | [] => rfl
  | (k, v) :: r => by
    rw [List.map_cons, List.lookup_cons, List.lookup_cons]
    cases w == k with
    | true => rfl
    | false => exact lookup_some r
theorem wantsK_eq (w : Str) : wantsK w = wl17.lookup w := lookup_some wl17
theorem valD_map {w : Str} : ∀ l : List (Str × Int), valD (l.map fun p => ((Sum.inr p.1 : Key), D.int p.2)) (.inr w) = (l.lookup w).map D.int
  | [] => rfl
  | (k, v) :: r => by
    have ih := valD_map (w := w) r
    unfold valD at ih ⊢
    rw [List.map_cons, List.find?_cons, List.lookup_cons]
    by_cases e : w = k
    · subst e; simp
    · have h1 : (w == k) = false := by simpa using e
      have h2 : decide ((Sum.inr k : Key) = .inr w) = false := by simpa using fun z => e z.symm
      simp only [h1, h2]
      exact ih
theorem dsp17 {env : Gm.Env} {s : Store} : eDsp [(.inr "make", .int 2), (.inr "number", .int 2), (.inr "clear", .int 1), (.inr "copy", .int 2), (.inr "put", .int 3), (.inr "take", .int 3), (.inr "tell", .int 1), (.inr "same", .int 2)] env s = .ok (.own (.dK (wl17.map fun p => ((Sum.inr p.1 : Key), D.int p.2)))) s := by
  kernel_rfl
theorem fTIn17 {w : Str} {s : Store} : fTInA true tb_WANTS s (.str w) = .ok (.bl (!(wantsK w).isSome)) s := rfl
theorem fTGet17 {w : Str} {k : Int} {s : Store} (h : wantsK w = some k) : fTGet tb_WANTS s (.str w) = .ok (.int k) s := by
  unfold wantsK at h
  unfold fTGet
  cases e : tb_WANTS.lookup w with
  | none => rw [e] at h; cases h
  | some r =>
    rw [e] at h
    have h : r = some k := h
    rw [h] at e
    simp only [e]
/-- the deed that a row writes -/
def deedP (a : Str) : Option (List D) := match Txt.split a " " with
  | [] => none
  | w :: r => match wantsK w with
    | none => none
    | some k => if ((r.length + 1 : Nat) : Int) = k + 1 then (allS (fun x => (numP x).map D.int) r).map (D.str w :: ·) else none
theorem tl_sp : tl (" " : Str) ≠ [] := by rw [show tl (" " : Str) = [32] from rfl]; exact List.cons_ne_nil _ _
theorem allS_len {α β : Type} {p : α → Option β} : ∀ {l : List α} {fs : List β}, allS p l = some fs → fs.length = l.length
  | [], fs, h => by cases h; rfl
  | a :: r, fs, h => by
    unfold allS at h
    split at h
    · cases h
    · cases e : allS p r with
      | none => rw [e] at h; cases h
      | some gs =>
        rw [e] at h
        cases h
        rw [List.length_cons, List.length_cons, allS_len e]
variable {s : Store}
theorem deed_any {a : Str} (hp : Pl a) (hl : a.length ≤ 100000) : (f_deed_of [.str a] s).W (fun d s' => s' = s ∧ ∃ ds, deedP a = some ds ∧ d = .tup ds) (fun c s' => s' = s ∧ c = 2 ∧ deedP a = none) := by
  obtain ⟨h1, h2, h3⟩ := split_ok (y := " ") tl_sp (by decide +kernel) hp
  obtain ⟨w, r, hws⟩ : ∃ w r, Txt.split a " " = w :: r := by
    cases e : Txt.split a " " with
    | nil => exact absurd e h1
    | cons w r => exact ⟨w, r, rfl⟩
  have hsep : ((" " : Str).length == 0) = false := rfl
  have hrl : r.length ≤ 100000 := by rw [hws, List.length_cons] at h2; omega
  have hdP : deedP a = match wantsK w with
    | none => none
    | some k => if ((r.length + 1 : Nat) : Int) = k + 1 then (allS (fun x => (numP x).map D.int) r).map (D.str w :: ·) else none := by
    unfold deedP; rw [hws]
  refine w_fnW rfl ?_
  unfold b_deed_of
  simp only [ws_seq, Kt_eq]
  refine w_cut (fun e t => t = s ∧ e = [some (.str a), some (.lst ((w :: r).map D.str)), none]) ?_ ?_
  · simp_arith [hws, hsep, hl]
  rintro e t ⟨rfl, rfl⟩
  have hln : ((w :: r).map D.str).length ≤ 16777216 := by simp; omega
  simp only [ws_seq, Kt_eq]
  cases hw : wantsK w with
  | none =>
    rw [hw] at hdP
    have hdP : deedP a = none := hdP
    have ht := @fTIn17 w t
    rw [hw] at ht
    have ht : fTInA true tb_WANTS t (.str w) = .ok (.bl true) t := ht
    refine w_cut (fun e t => False) ?_ (fun _ _ h => h.elim)
    simp_arith [List.map_cons, atI_0, ht, hdP]
    try simp
  | some k =>
    rw [hw] at hdP
    have hdP : deedP a = if ((r.length + 1 : Nat) : Int) = k + 1 then (allS (fun x => (numP x).map D.int) r).map (D.str w :: ·) else none := hdP
    have ht := @fTIn17 w t
    rw [hw] at ht
    have ht : fTInA true tb_WANTS t (.str w) = .ok (.bl false) t := ht
    have hg := fTGet17 (s := t) hw
    by_cases hk : ((r.length + 1 : Nat) : Int) = k + 1
    · rw [if_pos hk] at hdP
      have hk2 : ((r.length : Nat) : Int) + 1 = k + 1 := by omega
      refine w_cut (fun e t' => t' = t ∧ e = [some (.str a), some (.lst ((w :: r).map D.str)), none]) ?_ ?_
      · simp_arith [List.map_cons, atI_0, ht, hg]
        try simp [hk2]
        try omega
      rintro e t' ⟨rfl, rfl⟩
      simp only [Kt_eq]
      have hcut : cutD (D.str w :: List.map D.str r) (some 1) none = r.map D.str := cut_tail
      simp_arith [List.map_cons, atI_0]
      refine w_lcT (s1 := t') (l := r) (enc := D.str) (c := 2) (fun x => (numP x).map D.int) ?_ (by omega) (fun x hx => ⟨_, rfl, ?_⟩) ?_ ?_
      · simp_arith [hcut]
      · obtain ⟨hxp, hxl⟩ := h3 x (by rw [hws]; exact List.mem_cons_of_mem _ hx)
        simp_arith [wipeE]
        refine (number_any (s := t') hxp (by omega)).imp (fun d s' h => ?_) (fun c s' h => ?_)
        · obtain ⟨rfl, n, hn, rfl⟩ := h
          exact ⟨rfl, D.int n, by rw [hn]; rfl, rfl⟩
        · obtain ⟨rfl, rfl, hn⟩ := h
          exact ⟨rfl, rfl, by rw [hn]; rfl⟩
      · intro fs hfs
        rw [hfs] at hdP
        have hfl : fs.length ≤ 100000 := by rw [allS_len hfs]; exact hrl
        simp_arith [List.cons_append, List.nil_append, hdP]
        try exact ⟨by omega, _, rfl, rfl⟩
      · intro hno
        rw [hno] at hdP
        have hdP : deedP a = none := hdP
        simp_arith [hdP]
    · rw [if_neg hk] at hdP
      refine w_cut (fun e t => False) ?_ (fun _ _ h => h.elim)
      simp_arith [List.map_cons, atI_0, ht, hg, hdP]
      try simp
      try omega
end
/-! the text of a deed with its turn, and of a program, read back -/
section
open TL
/-- a row with its turn -/
def rowT (d : Deed) (n : Int) : Str := if n = 0 then rowB d else rowB d ++ ("; " : Str) ++ nt n
theorem nt_small {n : Int} (h : -1 ≤ n ∧ n ≤ 100) : n.natAbs < 10 ^ 60 := by
  have : n.natAbs ≤ 100 := by omega
  have h2 : (100 : Nat) < 10 ^ 60 := by decide +kernel
  omega
theorem rowT_len {d : Deed} {n : Int} (h : d.sh) (hn : -1 ≤ n ∧ n ≤ 100) : (rowT d n).length ≤ 400 := by
  have h1 := rowB_len h
  have h2 := nt_len (nt_small hn)
  unfold rowT
  split
  · omega
  · rw [len_tl, tl_append, tl_append, List.length_append, List.length_append, ← len_tl, ← len_tl, ← len_tl]
    have : ("; " : Str).length = 2 := rfl
    omega
theorem rowT_pl (d : Deed) (n : Int) : Pl (rowT d n) := by
  unfold rowT
  split
  · exact rowB_pl d
  · exact ((rowB_pl d).app (pl_lit rfl)).app (nt_pl n)
theorem tg3 {a b c x : D} {e1 e2 e3 e4 : Option D} : tgE (Tg.tp [1, 2, 3]) (.tup [a, b, c]) [some x, e1, e2, e3, e4] = some [some x, some a, some b, some c, e4] := rfl
/-- the text of a program -/
def txtP (p : List (Deed × Int)) : Str := Txt.join "\n" (p.map fun x => rowT x.1 x.2)
end
/-! k17: rows -/
section
open TL
def ptS (x : Str) : Option Nat := (Builtin.Str.occurrences x "; " 0 x.length 1).head?
theorem part17 (x : Str) : Txt.partition x "; " = match ptS x with
    | some i => (Builtin.Str.strSub x 0 i, "; ", Builtin.Str.strSub x (i + 2) x.length)
    | none => (x, Str.empty, Str.empty) := by
  unfold Txt.partition ptS
  cases Builtin.Str.occurrences x "; " 0 x.length 1 with
  | nil => rfl
  | cons i r => rfl
theorem find17 {x : Str} {i : Nat} (h : ptS x = some i) : Txt.find x "; " = (i : Int) := by
  unfold ptS at h
  unfold Txt.find
  cases e : Builtin.Str.occurrences x "; " 0 x.length 1 with
  | nil => rw [e] at h; cases h
  | cons j r => rw [e] at h; cases h; rfl
theorem occ1_nil (x : Str) : ptS x = none ↔ ∀ i, i + ("; " : Str).length ≤ x.length → Builtin.Str.subAt x "; " i = false := by
  have h := PySem.StrLaws.found_iff x "; "
  unfold ptS
  constructor
  · intro e i hi
    cases hs : Builtin.Str.subAt x "; " i with
    | false => rfl
    | true =>
      have := h.mpr ⟨i, hi, hs⟩
      rw [List.head?_eq_none_iff] at e
      rw [e] at this; cases this
  · intro hn
    rw [List.head?_eq_none_iff]
    cases e : Builtin.Str.occurrences x "; " 0 x.length 1 with
    | nil => rfl
    | cons i r =>
      have : (!(Builtin.Str.occurrences x "; " 0 x.length 1).isEmpty) = true := by rw [e]; rfl
      obtain ⟨j, hj, hs⟩ := h.mp this
      rw [hn j hj] at hs; cases hs
theorem cnt17 (x : Str) : decide (0 < Txt.count x "; ") = (ptS x).isSome := by
  unfold Txt.count
  cases hp : ptS x with
  | none =>
    have := PySem.W.occ_nil_of_no x "; " (x.length + 1) ((occ1_nil x).mp hp)
    rw [this]; rfl
  | some i =>
    have hne : Builtin.Str.occurrences x "; " 0 x.length (x.length + 1) ≠ [] := fun z => by
      obtain ⟨f, g, hn⟩ := PySem.StrLaws.occ_tight x "; " (by decide)
      rw [z] at g
      have : ptS x = none := (occ1_nil x).mpr fun j hj => by
        cases hs : Builtin.Str.subAt x "; " j with
        | false => rfl
        | true => exact absurd ⟨hj, hs⟩ (hn j (by have g : f = 0 := g; omega))
      rw [hp] at this; cases this
    have := List.length_pos_iff.mpr hne
    simp only [Option.isSome_some, decide_eq_true_eq]
    omega
def bodyOk (n : Int) : Bool := !decide (n = 0) && decide (-1 ≤ n) && decide (n ≤ 100)
/-- the deed and the turn that a row writes -/
def rowP (x : Str) : Option (List D × Int) := match ptS x with
  | none => (deedP x).map fun ds => (ds, 0)
  | some i => match numP (Builtin.Str.strSub x (i + 2) x.length) with
    | none => none
    | some n => if bodyOk n = true then (deedP (Builtin.Str.strSub x 0 i)).map fun ds => (ds, n) else none
theorem sub_pl {x : Str} {i j : Nat} (h : Pl x) : Pl (Builtin.Str.strSub x i j) := fun c hc => by
  rw [tl_strSub] at hc
  exact h c (List.mem_of_mem_drop (List.mem_of_mem_take hc))
theorem sub_len {x : Str} {i j : Nat} : (Builtin.Str.strSub x i j).length ≤ x.length := by
  rw [len_tl, tl_strSub, List.length_take, List.length_drop, len_tl]; omega
theorem cutA_sub {x : Str} {i : Nat} : cutS x none (some (i : Int)) = Builtin.Str.strSub x 0 i := ext_tl (by rw [tl_cutA, tl_strSub, List.drop_zero, Nat.sub_zero])
theorem cutB_sub {x : Str} {i : Nat} : cutS x (some (i : Int)) none = Builtin.Str.strSub x i x.length := ext_tl (by rw [tl_cutB, tl_strSub_end])
variable {s : Store}
theorem row_any {x : Str} (hp : Pl x) (hl : x.length ≤ 100000) : (f_row_of [.str x] s).W (fun d s' => s' = s ∧ ∃ ds n, rowP x = some (ds, n) ∧ d = .tup [.tup ds, .int n]) (fun c s' => s' = s ∧ c = 2 ∧ rowP x = none) := by
  have hsep : (("; " : Str).length == 0) = false := rfl
  have q1 := fEqP (s := s) (x := "; ") (y := "") (pl_lit rfl) (pl_lit rfl)
  have q2 := fEqP (s := s) (x := Str.empty) (y := "") (pl_lit rfl) (pl_lit rfl)
  have b1 : (("; " : Str) == ("" : Str)) = false := by rw [str_beq]; decide +kernel
  have b2 : (Str.empty == ("" : Str)) = true := by rw [str_beq]; decide +kernel
  rw [b1] at q1
  rw [b2] at q2
  have hpt := part17 x
  refine w_fnW rfl ?_
  unfold b_row_of
  simp only [ws_seq, Kt_eq]
  cases h : ptS x with
  | none =>
    rw [h] at hpt
    have hpt : Txt.partition x "; " = (x, Str.empty, Str.empty) := hpt
    have hrP : rowP x = (deedP x).map fun ds => (ds, 0) := by unfold rowP; rw [h]
    refine w_cut (fun e t => t = s ∧ e = [some (.str x), some (.str x), some (.str Str.empty), some (.str Str.empty), none]) ?_ ?_
    · simp_arith [hpt, hl, hsep, tg3]
    rintro e t ⟨rfl, rfl⟩
    simp only [ws_seq, Kt_eq]
    refine w_cut (fun e t => False) ?_ (fun _ _ h => h.elim)
    refine w_ifT (s' := t) (W_eq0 (s := t) (by simp_arith [q2])) ?_
    simp_arith []
    refine (deed_any (s := t) hp hl).imp (fun d s' h => ?_) (fun c s' h => ?_)
    · obtain ⟨rfl, ds, hd, rfl⟩ := h
      simp_arith [hrP, hd]
      first | exact ⟨ds, 0, rfl, rfl⟩ | exact ⟨ds, 0, ⟨rfl, rfl⟩, rfl, rfl⟩
    · obtain ⟨rfl, rfl, hd⟩ := h
      exact ⟨rfl, rfl, by rw [hrP, hd]; rfl⟩
  | some i =>
    rw [h] at hpt
    have hpt : Txt.partition x "; " = (Builtin.Str.strSub x 0 i, ("; " : Str), Builtin.Str.strSub x (i + 2) x.length) := hpt
    have hrP : rowP x = match numP (Builtin.Str.strSub x (i + 2) x.length) with
      | none => none
      | some n => if bodyOk n = true then (deedP (Builtin.Str.strSub x 0 i)).map fun ds => (ds, n) else none := by unfold rowP; rw [h]
    have ha := sub_pl (i := 0) (j := i) hp
    have hb := sub_pl (i := i + 2) (j := x.length) hp
    have la := sub_len (x := x) (i := 0) (j := i)
    have lb := sub_len (x := x) (i := i + 2) (j := x.length)
    generalize Builtin.Str.strSub x 0 i = a at *
    generalize Builtin.Str.strSub x (i + 2) x.length = b at *
    refine w_cut (fun e t => t = s ∧ e = [some (.str x), some (.str a), some (.str "; "), some (.str b), none]) ?_ ?_
    · simp_arith [hpt, hl, hsep, tg3]
    rintro e t ⟨rfl, rfl⟩
    simp only [ws_seq, Kt_eq]
    refine w_cut (fun e t' => t' = t ∧ e = [some (.str x), some (.str a), some (.str "; "), some (.str b), none]) ?_ ?_
    · refine w_ifF (s' := t) (W_eq0 (s := t) (by simp_arith [q1])) ?_
      simp_arith []
    rintro e t' ⟨rfl, rfl⟩
    simp only [ws_seq, Kt_eq]
    refine w_cut (fun e t => t = t' ∧ ∃ n, numP b = some n ∧ e = [some (.str x), some (.str a), some (.str "; "), some (.str b), some (.int n)]) ?_ ?_
    · simp_arith []
      refine (number_any (s := t') hb (by omega)).imp (fun d s' h => ?_) (fun c s' h => ?_)
      · obtain ⟨rfl, n, hn, rfl⟩ := h
        simp_arith [hn]
        try exact ⟨n, rfl, rfl⟩
      · obtain ⟨rfl, rfl, hn⟩ := h
        exact ⟨rfl, rfl, by rw [hrP, hn]⟩
    rintro e t ⟨rfl, n, hn, rfl⟩
    rw [hn] at hrP
    have hrP : rowP x = if bodyOk n = true then (deedP a).map fun ds => (ds, n) else none := hrP
    simp only [ws_seq, Kt_eq]
    by_cases hb : bodyOk n = true
    · rw [if_pos hb] at hrP
      unfold bodyOk at hb
      simp only [Bool.and_eq_true, Bool.not_eq_true', decide_eq_true_eq, decide_eq_false_iff_not] at hb
      obtain ⟨⟨h0, h1⟩, h2⟩ := hb
      refine w_cut (fun e t' => t' = t ∧ e = [some (.str x), some (.str a), some (.str "; "), some (.str b), some (.int n)]) ?_ ?_
      · simp_arith [h0, h1, h2]
      rintro e t' ⟨rfl, rfl⟩
      simp only [Kt_eq]
      simp_arith []
      refine (deed_any (s := t') ha (by omega)).imp (fun d s' h => ?_) (fun c s' h => ?_)
      · obtain ⟨rfl, ds, hd, rfl⟩ := h
        simp_arith [hrP, hd]
        first | exact ⟨ds, n, rfl, rfl⟩ | exact ⟨ds, n, ⟨rfl, rfl⟩, rfl, rfl⟩
      · obtain ⟨rfl, rfl, hd⟩ := h
        exact ⟨rfl, rfl, by rw [hrP, hd]; rfl⟩
    · rw [if_neg hb] at hrP
      refine w_cut (fun e t => False) ?_ (fun _ _ h => h.elim)
      unfold bodyOk at hb
      by_cases h0 : n = 0
      · subst h0
        have hrP : rowP x = none := by assumption
        simp_arith [hrP]
      · by_cases h1 : -1 ≤ n
        · have h2 : ¬ n ≤ 100 := fun z => hb (by simp [h0, h1, z])
          simp_arith [h0, h1, decide_eq_false h2, hrP]
        · simp_arith [h0, decide_eq_false h1, hrP]
/-! the law's own -/
theorem inNone {s : Store} (r : List Str) : fIn false s .non (.lst (r.map numD)) = .ok (.bl (allS (fun x => (numP x).map D.int) r).isNone) s := by
  have h : ∀ l : List Str, (l.map numD).mapM flD = some (l.map fun x => match numP x with | some n => V.int n | none => V.non) := fun l => by
    induction l with
    | nil => rfl
    | cons a r ih =>
      have ha : flD (numD a) = some (match numP a with | some n => V.int n | none => V.non) := by unfold numD; cases numP a <;> rfl
      rw [List.map_cons, List.mapM_cons, ha, ih]; rfl
  have h2 : ∀ l : List Str, inV V.non (l.map fun x => match numP x with | some n => V.int n | none => V.non) = (allS (fun x => (numP x).map D.int) l).isNone := fun l => by
    induction l with
    | nil => rfl
    | cons a r ih =>
      simp only [inV, List.map_cons, List.any_cons] at ih ⊢
      rw [ih]
      cases e : numP a with
      | none => simp [allS, e, eqV]
      | some n =>
        simp only [allS, e, Option.map_some]
        cases allS (fun x => (numP x).map D.int) r <;> simp [eqV]
  simp only [fIn, flD, seqD, dr, Option.bind_some, h, h2]
  rfl
theorem allS_map : ∀ {r : List Str} {ns : List D}, allS (fun x => (numP x).map D.int) r = some ns → r.map numD = ns
  | [], ns, h => by cases h; rfl
  | a :: r, ns, h => by
    unfold allS at h
    cases e : numP a with
    | none => rw [e] at h; cases h
    | some n =>
      rw [e] at h
      cases e2 : allS (fun x => (numP x).map D.int) r with
      | none => rw [e2] at h; cases h
      | some ms =>
        rw [e2] at h
        cases h
        rw [List.map_cons, allS_map e2]
        unfold numD; rw [e]
def rowD (x : Str) : D := match rowP x with
  | some (ds, n) => .tup [.tup ds, .int n]
  | none => .non
end
/-! k17: the law's rows; read, and what is due -/
section
open TL
variable {s : Store}
theorem getK {w : Str} {s : Store} : fDGetD (.int (-1)) s (.dct (wl17.map fun p => ((Sum.inr p.1 : Key), D.int p.2))) (.str w) = .ok (.int ((wantsK w).getD (-1))) s := by
  have h : fDGetD (.int (-1)) s (.dct (wl17.map fun p => ((Sum.inr p.1 : Key), D.int p.2))) (.str w) = .ok ((valD (wl17.map fun p => ((Sum.inr p.1 : Key), D.int p.2)) (.inr w)).getD (.int (-1))) s := by simp only [fDGetD, drM, dr, kD]
  rw [h, valD_map, ← wantsK_eq]
  cases wantsK w <;> rfl
theorem wk_pos {w : Str} {k : Int} (h : wantsK w = some k) : 0 ≤ k := by
  rw [wantsK_eq] at h
  have : ∀ l : List (Str × Int), (∀ p ∈ l, 0 ≤ p.2) → l.lookup w = some k → 0 ≤ k := fun l => by
    induction l with
    | nil => intro _ h; cases h
    | cons p r ih =>
      intro hp h
      rw [List.lookup_cons] at h
      split at h
      · cases h; exact hp p (List.mem_cons_self ..)
      · exact ih (fun q hq => hp q (List.mem_cons_of_mem _ hq)) h
  refine this wl17 ?_ h
  intro p hp
  simp only [wl17, List.mem_cons, List.not_mem_nil, or_false] at hp
  rcases hp with rfl | rfl | rfl | rfl | rfl | rfl | rfl | rfl <;> decide
def deedD (a : Str) (n : Int) : D := match deedP a with
  | some ds => .tup [.tup ds, .int n]
  | none => .non
/-- the rest of a row, once its turn is known -/
def rtB : Sx := sSeq (sSetF 3 (eMS fSplt (eVar 0) (eC (D.str " "))))
    (sSeq (sSetF 4 (eDsp [(.inr "make", .int 2), (.inr "number", .int 2), (.inr "clear", .int 1), (.inr "copy", .int 2), (.inr "put", .int 3), (.inr "take", .int 3), (.inr "tell", .int 1), (.inr "same", .int 2)]))
    (sSeq (sSetF 5 (eLc (Tg.nm 6) (iSeq (eSl (eVar 3) (oSo (eC (D.int 1))) (oNo))) (tY) (eCall f__law_number (aCons (eVar 6) (aNil))) [6]))
    (sSeq (sIf (tOrX (tq (eOp2 fNe (eDGetD (eVar 4) (eOp2 fIx (eVar 3) (eC (D.int 0))) (eOp1 fNeg (eC (D.int 1)))) (eOp1 fLen (eVar 5)))) (tq (eOp2 (fIn false) (eC D.non) (eVar 5)))) (sRet (eC D.non)) (sNil))
    (sRet (eTup (aCons (eOp1 fTupL (eOp2 fAdd (eLst (aCons (eOp2 fIx (eVar 3) (eC (D.int 0))) (aNil))) (eVar 5))) (aCons (eVar 1) (aNil))))))))
theorem rt_eq {a : Str} {n : Int} {v2 : Option D} (hp : Pl a) (hl : a.length ≤ 100000) {N : Gm.Env → Store → Prop} {T : D → Store → Prop} {Y : Nat → Gm.Env → Store → Prop} (k : T (deedD a n) s) : (rtB [some (.str a), some (.int n), v2, none, none, none, none] s).W N T Y := by
  obtain ⟨h1, h2, h3⟩ := split_ok (y := " ") tl_sp (by decide +kernel) hp
  obtain ⟨w, r, hws⟩ : ∃ w r, Txt.split a " " = w :: r := by
    cases e : Txt.split a " " with
    | nil => exact absurd e h1
    | cons w r => exact ⟨w, r, rfl⟩
  have hsep : ((" " : Str).length == 0) = false := rfl
  have hrl : r.length ≤ 100000 := by rw [hws, List.length_cons] at h2; omega
  have hdP : deedP a = match wantsK w with
    | none => none
    | some k => if ((r.length + 1 : Nat) : Int) = k + 1 then (allS (fun x => (numP x).map D.int) r).map (D.str w :: ·) else none := by
    unfold deedP; rw [hws]; try rfl
  unfold rtB
  simp only [ws_seq, Kt_eq]
  refine w_cut (fun e t => t = s ∧ e = [some (.str a), some (.int n), v2, some (.lst ((w :: r).map D.str)), none, none, none]) ?_ ?_
  · simp_arith [hws, hsep, hl]
  rintro e t ⟨rfl, rfl⟩
  simp only [ws_seq, Kt_eq]
  refine w_cut (fun e t' => t' = t ∧ e = [some (.str a), some (.int n), v2, some (.lst ((w :: r).map D.str)), some (.dct (wl17.map fun p => ((Sum.inr p.1 : Key), D.int p.2))), none, none]) ?_ ?_
  · simp_arith [dsp17]
    try exact ⟨rfl, rfl⟩
  rintro e t' ⟨rfl, rfl⟩
  have hcut : cutD (D.str w :: List.map D.str r) (some 1) none = r.map D.str := cut_tail
  simp only [ws_seq, Kt_eq]
  refine w_cut (fun e t => t = t' ∧ e = [some (.str a), some (.int n), v2, some (.lst ((w :: r).map D.str)), some (.dct (wl17.map fun p => ((Sum.inr p.1 : Key), D.int p.2))), some (.lst (r.map numD)), none]) ?_ ?_
  · simp_arith [List.map_cons]
    refine w_lcY (s1 := t') (l := r) (enc := D.str) numD ?_ (by omega) (fun x hx => ⟨_, rfl, ?_⟩) ?_
    · simp_arith [hcut]
    · obtain ⟨hxp, hxl⟩ := h3 x (by rw [hws]; exact List.mem_cons_of_mem _ hx)
      have e := lnum_eq (s := t') hxp (by omega)
      have hsn : snk (fz (numD x)) = some (numD x) := by unfold numD; cases numP x <;> rfl
      simp_arith [wipeE, e, hsn]
    · simp_arith []
      try simp
  rintro e t ⟨rfl, rfl⟩
  have hg := @getK w t
  have hlen : (r.map numD).length = r.length := List.length_map ..
  have hin := @inNone t r
  simp only [ws_seq, Kt_eq]
  -- the test
  have htest : (tOrX (tq (eOp2 fNe (eDGetD (eVar 4) (eOp2 fIx (eVar 3) (eC (D.int 0))) (eOp1 fNeg (eC (D.int 1)))) (eOp1 fLen (eVar 5)))) (tq (eOp2 (fIn false) (eC D.non) (eVar 5)))) [some (.str a), some (.int n), v2, some (.lst ((w :: r).map D.str)), some (.dct (wl17.map fun p => ((Sum.inr p.1 : Key), D.int p.2))), some (.lst (r.map numD)), none] t = .ok (deedP a).isNone t := by
    have hne : (tq (eOp2 fNe (eDGetD (eVar 4) (eOp2 fIx (eVar 3) (eC (D.int 0))) (eOp1 fNeg (eC (D.int 1)))) (eOp1 fLen (eVar 5)))) [some (.str a), some (.int n), v2, some (.lst ((w :: r).map D.str)), some (.dct (wl17.map fun p => ((Sum.inr p.1 : Key), D.int p.2))), some (.lst (r.map numD)), none] t = .ok (!decide ((wantsK w).getD (-1) = ((r.length : Nat) : Int))) t := by
      refine W_eq0 (s := t) ?_
      simp_arith [↓we_dgetD, isDcD_t, List.map_cons, atI_0, hg, isIN]
      first | done | (simp [isIN]; done) | (refine ⟨rfl, ?_⟩; simp_arith [hg]; try simp) | skip
    have hno : (tq (eOp2 (fIn false) (eC D.non) (eVar 5))) [some (.str a), some (.int n), v2, some (.lst ((w :: r).map D.str)), some (.dct (wl17.map fun p => ((Sum.inr p.1 : Key), D.int p.2))), some (.lst (r.map numD)), none] t = .ok (allS (fun x => (numP x).map D.int) r).isNone t := by
      refine W_eq0 (s := t) ?_
      simp_arith [hin]
    rw [hdP]
    cases hw : wantsK w with
    | none =>
      rw [hw] at hne
      have : (!decide (((none : Option Int).getD (-1)) = ((r.length : Nat) : Int))) = true := by
        rw [Bool.not_eq_true', decide_eq_false_iff_not, Option.getD_none]
        omega
      rw [this] at hne
      exact tOrX_t hne
    | some k =>
      rw [hw] at hne
      have hk0 := wk_pos hw
      by_cases hk : ((r.length + 1 : Nat) : Int) = k + 1
      · have : (!decide (((some k : Option Int).getD (-1)) = ((r.length : Nat) : Int))) = false := by simp; omega
        rw [this] at hne
        refine tOrX_f hne ?_
        rw [hno]
        simp only [if_pos hk]
        cases allS (fun x => (numP x).map D.int) r <;> rfl
      · have : (!decide (((some k : Option Int).getD (-1)) = ((r.length : Nat) : Int))) = true := by simp; omega
        rw [this] at hne
        simp only [if_neg hk]
        exact tOrX_t hne
  cases hd : deedP a with
  | none =>
    rw [hd] at htest
    have hD : deedD a n = .non := by unfold deedD; rw [hd]
    refine w_cut (fun e t => False) (w_ifT htest ?_) (fun _ _ h => h.elim)
    rw [hD] at k
    simp_arith []
    exact k
  | some ds =>
    rw [hd] at htest
    have hD : deedD a n = .tup [.tup ds, .int n] := by unfold deedD; rw [hd]
    rw [hD] at k
    have hns : D.str w :: r.map numD = ds := by
      rw [hd] at hdP
      cases hw : wantsK w with
      | none => rw [hw] at hdP; cases hdP
      | some k =>
        rw [hw] at hdP
        have hdP : some ds = if ((r.length + 1 : Nat) : Int) = k + 1 then (allS (fun x => (numP x).map D.int) r).map (D.str w :: ·) else none := hdP
        split at hdP
        · cases e : allS (fun x => (numP x).map D.int) r with
          | none => rw [e] at hdP; cases hdP
          | some fs =>
            rw [e] at hdP
            cases hdP
            rw [allS_map e]
        · cases hdP
    refine w_cut (fun e t' => t' = t ∧ e = [some (.str a), some (.int n), v2, some (.lst ((w :: r).map D.str)), some (.dct (wl17.map fun p => ((Sum.inr p.1 : Key), D.int p.2))), some (.lst (r.map numD)), none]) (w_ifF htest ?_) ?_
    · simp_arith []
    rintro e t' ⟨rfl, rfl⟩
    simp only [Kt_eq]
    simp_arith [List.map_cons, atI_0, List.cons_append, List.nil_append, hns]
    first | exact k | exact ⟨by omega, k⟩ | (simp only [List.length_map]; exact ⟨by omega, k⟩)
theorem lrow_eq {x : Str} (hp : Pl x) (hl : x.length ≤ 100000) : f__law_row [.str x] s = .ok (rowD x) s := by
  have hcn := cnt17 x
  refine w_fnE rfl ?_
  have eb : b__law_row = sSeq (sSetF 1 (eC (D.int 0)))
    (sSeq (sIf (tq (eOp2 fGt (eMS fCntS (eVar 0) (eC (D.str "; "))) (eC (D.int 0)))) (sSeq (sSetF 2 (eMS fFind (eVar 0) (eC (D.str "; "))))
    (sSeq (sSetF 1 (eCall f__law_number (aCons (eSlS (eVar 0) (oSo (eOp2 fAdd (eVar 2) (eC (D.int 2)))) (oNo)) (aNil))))
    (sSeq (sSetF 0 (eSlS (eVar 0) (oNo) (oSo (eVar 2))))
    (sIf (tOrX (tq (eOp2 fIsN (eVar 1) (eC D.non))) (tOrX (tq (eOp2 fEq (eVar 1) (eC (D.int 0)))) (tOrX (tq (eOp2 fLt (eVar 1) (eOp1 fNeg (eC (D.int 1))))) (tq (eOp2 fGt (eVar 1) (eC (D.int 100))))))) (sRet (eC D.non)) (sNil))))) (sNil)) rtB) := rfl
  rw [eb]
  simp only [ws_seq, Kt_eq]
  refine w_cut (fun e t => t = s ∧ e = [some (.str x), some (.int 0), none, none, none, none, none]) ?_ ?_
  · simp_arith []
  rintro e t ⟨rfl, rfl⟩
  simp only [ws_seq, Kt_eq]
  cases h : ptS x with
  | none =>
    rw [h] at hcn
    have hcn : decide (0 < Txt.count x "; ") = false := hcn
    have hrD : rowD x = deedD x 0 := by
      unfold rowD rowP deedD
      rw [h]
      cases deedP x <;> rfl
    refine w_cut (fun e t' => t' = t ∧ e = [some (.str x), some (.int 0), none, none, none, none, none]) ?_ ?_
    · refine w_ifF (s' := t) (W_eq0 (s := t) (by simp_arith []; try exact hcn)) ?_
      simp_arith []
    rintro e t' ⟨rfl, rfl⟩
    try simp only [Kt_eq]
    rw [hrD]
    exact rt_eq hp hl ⟨rfl, rfl⟩
  | some i =>
    rw [h] at hcn
    have hcn : decide (0 < Txt.count x "; ") = true := hcn
    have hfi := find17 h
    have hcA := cutA_sub (x := x) (i := i)
    have hcB := cutB_sub (x := x) (i := i + 2)
    have ha := sub_pl (i := 0) (j := i) hp
    have hb := sub_pl (i := i + 2) (j := x.length) hp
    have la := sub_len (x := x) (i := 0) (j := i)
    have lb := sub_len (x := x) (i := i + 2) (j := x.length)
    have hrP : rowP x = match numP (Builtin.Str.strSub x (i + 2) x.length) with
      | none => none
      | some n => if bodyOk n = true then (deedP (Builtin.Str.strSub x 0 i)).map fun ds => (ds, n) else none := by unfold rowP; rw [h]; try rfl
    generalize Builtin.Str.strSub x 0 i = a at *
    generalize Builtin.Str.strSub x (i + 2) x.length = b at *
    have en := lnum_eq (s := t) hb (by omega)
    have hsn : snk (fz (numD b)) = some (numD b) := by unfold numD; cases numP b <;> rfl
    have hcB : cutS x (some ((i : Int) + 2)) none = b := hcB
    cases hn : numP b with
    | none =>
      rw [hn] at hrP
      have hrD : rowD x = .non := by unfold rowD; rw [hrP]
      have hnd : numD b = .non := by unfold numD; rw [hn]
      rw [hnd] at en
      refine w_cut (fun e t => False) ?_ (fun _ _ h => h.elim)
      refine w_ifT (s' := t) (W_eq0 (s := t) (by simp_arith []; try exact hcn)) ?_
      rw [hrD]
      simp_arith [hfi, hcB, hl, en, hcA]
    | some n =>
      rw [hn] at hrP
      have hrP : rowP x = if bodyOk n = true then (deedP a).map fun ds => (ds, n) else none := hrP
      have hnd : numD b = .int n := by unfold numD; rw [hn]
      rw [hnd] at en
      by_cases hb : bodyOk n = true
      · rw [if_pos hb] at hrP
        have hrD : rowD x = deedD a n := by
          unfold rowD deedD
          rw [hrP]
          cases deedP a <;> rfl
        unfold bodyOk at hb
        simp only [Bool.and_eq_true, Bool.not_eq_true', decide_eq_true_eq, decide_eq_false_iff_not] at hb
        obtain ⟨⟨h0, h1⟩, h2⟩ := hb
        have h1' : ¬ n < -1 := by omega
        have h2' : ¬ (100 : Int) < n := by omega
        refine w_cut (fun e t' => t' = t ∧ e = [some (.str a), some (.int n), some (.int i), none, none, none, none]) ?_ ?_
        · refine w_ifT (s' := t) (W_eq0 (s := t) (by simp_arith []; try exact hcn)) ?_
          simp_arith [hfi, hcB, hl, en, hcA, h0, h1', h2', decide_eq_false h1', decide_eq_false h2']
        rintro e t' ⟨rfl, rfl⟩
        try simp only [Kt_eq]
        rw [hrD]
        exact rt_eq ha (by omega) ⟨rfl, rfl⟩
      · rw [if_neg hb] at hrP
        have hrD : rowD x = .non := by unfold rowD; rw [hrP]
        refine w_cut (fun e t => False) ?_ (fun _ _ h => h.elim)
        refine w_ifT (s' := t) (W_eq0 (s := t) (by simp_arith []; try exact hcn)) ?_
        rw [hrD]
        unfold bodyOk at hb
        by_cases h0 : n = 0
        · simp_arith [hfi, hcB, hl, en, hcA, h0]
        · by_cases h1 : n < -1
          · simp_arith [hfi, hcB, hl, en, hcA, h0, h1, decide_eq_true h1]
          · have h2 : (100 : Int) < n := by
              by_cases z : n ≤ 100
              · exact absurd (by simp [h0, z]; omega) hb
              · omega
            simp_arith [hfi, hcB, hl, en, hcA, h0, h1, decide_eq_false h1, h2, decide_eq_true h2]
end
/-! k17: whole texts -/
theorem allS_mapo {α β γ : Type} {p : α → Option β} {g : β → γ} : ∀ l : List α, allS (fun a => (p a).map g) l = (allS p l).map (List.map g)
  | [] => rfl
  | a :: r => by
    unfold allS
    cases p a with
    | none => rfl
    | some b =>
      simp only [Option.map_some]
      rw [allS_mapo r]
      cases allS p r <;> rfl
theorem allS_all {α β : Type} {p : α → Option β} : ∀ {l : List α} {fs : List β}, allS p l = some fs → ∀ y ∈ l, ∃ r, p y = some r
  | [], fs, h, y, hy => nomatch hy
  | a :: r, fs, h, y, hy => by
    unfold allS at h
    cases e : p a with
    | none => rw [e] at h; cases h
    | some b =>
      rw [e] at h
      cases e2 : allS p r with
      | none => rw [e2] at h; cases h
      | some gs =>
        rcases List.mem_cons.mp hy with rfl | hy
        · exact ⟨b, e⟩
        · exact allS_all e2 y hy
section
open TL
variable {s : Store}
theorem allS_int {n : Nat} : ∀ {r : List Str} {fs : List D}, allS (fun x => (numP x).map D.int) r = some fs → dOkL (n + 1) fs = true
  | [], fs, h => by cases h; rfl
  | a :: r, fs, h => by
    unfold allS at h
    cases e : numP a with
    | none => rw [e] at h; cases h
    | some k =>
      rw [e] at h
      cases e2 : allS (fun x => (numP x).map D.int) r with
      | none => rw [e2] at h; cases h
      | some ms =>
        rw [e2] at h
        cases h
        unfold dOkL
        rw [allS_int (n := n) e2]
        rfl
theorem deedP_ok {a : Str} (hp : Pl a) {ds : List D} (h : deedP a = some ds) (n : Nat) : dOkL (n + 1) ds = true := by
  obtain ⟨h1, h2, h3⟩ := split_ok (y := " ") tl_sp (by decide +kernel) hp
  unfold deedP at h
  cases e : Txt.split a " " with
  | nil => exact absurd e h1
  | cons w r =>
    rw [e] at h
    have hw := (h3 w (by rw [e]; exact List.mem_cons_self ..)).1.ok
    cases e2 : wantsK w with
    | none => simp only [e2] at h; cases h
    | some k =>
      simp only [e2] at h
      split at h
      · cases e3 : allS (fun x => (numP x).map D.int) r with
        | none => rw [e3] at h; cases h
        | some fs =>
          rw [e3] at h
          cases h
          unfold dOkL
          rw [allS_int (n := n) e3, Bool.and_true]
          unfold dOk
          exact hw
      · cases h
theorem rowP_ok {x : Str} (hp : Pl x) {ds : List D} {k : Int} (h : rowP x = some (ds, k)) (n : Nat) : dOk (n + 2) (.tup ds) = true := by
  unfold dOk
  unfold rowP at h
  cases e : ptS x with
  | none =>
    simp only [e] at h
    cases e2 : deedP x with
    | none => rw [e2] at h; cases h
    | some es => rw [e2] at h; cases h; exact deedP_ok hp e2 n
  | some i =>
    simp only [e] at h
    cases e3 : numP (Builtin.Str.strSub x (i + 2) x.length) with
    | none => simp only [e3] at h; cases h
    | some m =>
      simp only [e3] at h
      split at h
      · cases e2 : deedP (Builtin.Str.strSub x 0 i) with
        | none => rw [e2] at h; cases h
        | some es => rw [e2] at h; cases h; exact deedP_ok (sub_pl hp) e2 n
      · cases h
theorem rowD_ok {x : Str} (hp : Pl x) : dOk 8 (rowD x) = true := by
  unfold rowD
  cases e : rowP x with
  | none => rfl
  | some r =>
    obtain ⟨ds, k⟩ := r
    simp only
    unfold dOk dOkL dOkL dOkL
    rw [rowP_ok hp e 5]
    rfl
theorem rowsD_ok : ∀ {l : List Str}, (∀ x ∈ l, Pl x) → dOkL 8 (l.map rowD) = true
  | [], _ => rfl
  | a :: r, h => by
    rw [List.map_cons]
    unfold dOkL
    rw [rowD_ok (h a (List.mem_cons_self ..)), rowsD_ok fun x hx => h x (List.mem_cons_of_mem _ hx)]
    rfl
theorem inRows {l : List Str} (h : ∀ x ∈ l, Pl x) : fInD false s .non (.lst (l.map rowD)) = .ok (.bl (allS rowP l).isNone) s := by
  have ok : dOk 9 (.lst (l.map rowD)) = true := by unfold dOk; exact rowsD_ok h
  obtain ⟨h1, h2⟩ := toPy_of s 9 _ ok
  have h0 : toPy s 9 .non = some .none := rfl
  have h3 : (PyData.none).canLay0 = true := rfl
  have key : ∀ l : List Str, ((pyL (l.map rowD)).any fun y => PyData.eqv y .none) = (allS rowP l).isNone := fun l => by
    induction l with
    | nil => rfl
    | cons a r ih =>
      rw [List.map_cons]
      unfold pyL
      rw [List.any_cons, ih]
      unfold rowD
      cases e : rowP a with
      | none => simp [allS, e, pyD, PyData.eqv]
      | some q =>
        obtain ⟨ds, k⟩ := q
        simp only [allS, e, pyD, PyData.eqv, Bool.false_or]
        cases allS rowP r <;> rfl
  have h1 : toPy s 9 (.lst (l.map rowD)) = some (.list (pyL (l.map rowD))) := h1
  have h2 : (PyData.list (pyL (l.map rowD))).canLay0 = true := h2
  unfold fInD
  simp only [h0, h1, h2, h3, and_self, if_true, key]
  rfl
/-- the rows that a text writes -/
def readP (x : Str) : Option (List (List D × Int)) := if (x == ("" : Str)) = true then some [] else match allS rowP (Txt.split x "\n") with
  | none => none
  | some rows => if rows.length ≤ 30 then some rows else none
def encR (r : List D × Int) : D := .tup [.tup r.1, .int r.2]
abbrev dsL (rows : List (List D × Int)) : List D := rows.map fun r => D.tup r.1
abbrev nsL (rows : List (List D × Int)) : List D := rows.map fun r => D.int r.2
theorem tl_nl : tl ("\n" : Str) ≠ [] := by rw [show tl ("\n" : Str) = [10] from rfl]; exact List.cons_ne_nil _ _
theorem tgE_row {env : Gm.Env} {i j : Nat} {r : List D × Int} : tgE (Tg.tp [i, j]) (encR r) env = some ((env.set i (some (.tup r.1))).set j (some (.int r.2))) := rfl
theorem read_any {x : Str} (hp : Pl x) (hl : x.length ≤ 90000) : (f_read [.str x] s).W (fun d s' => ∃ rows, readP x = some rows ∧ d = .tup [.ref s.length, .ref (s.length + 1)] ∧ s' = s ++ [.lst (dsL rows)] ++ [.lst (nsL rows)]) (fun c s' => s' = s ∧ c = 2 ∧ readP x = none) := by
  obtain ⟨h1, h2, h3⟩ := split_ok (y := "\n") tl_nl (by decide +kernel) hp
  have hsep : (("\n" : Str).length == 0) = false := rfl
  have q1 := fEqP (s := s) (y := "") hp (pl_lit rfl)
  refine w_fnW rfl ?_
  cases hE : (x == ("" : Str)) with
  | true =>
    rw [hE] at q1
    have hr : readP x = some [] := by unfold readP; rw [hE]; rfl
    simp_arith [b_read, q1, hr]
    try exact ⟨[], rfl, rfl, rfl⟩
    try (refine ⟨[], rfl, ?_⟩; simp)
  | false =>
    rw [hE] at q1
    have hr : readP x = match allS rowP (Txt.split x "\n") with
      | none => none
      | some rows => if rows.length ≤ 30 then some rows else none := by unfold readP; rw [hE]; rfl
    obtain ⟨l, hsl⟩ : ∃ l, Txt.split x "\n" = l := ⟨_, rfl⟩
    rw [hsl] at h1 h2 h3 hr
    have hll : l.length ≤ 16777216 := by omega
    unfold b_read
    simp only [ws_seq, Kt_eq]
    refine w_cut (fun e t => t = s ∧ e = [some (.str x), none, none, none, none]) ?_ ?_
    · simp_arith [q1]
    rintro e t ⟨rfl, rfl⟩
    simp only [ws_seq, Kt_eq]
    refine w_cut (fun e t' => t' = t ∧ ∃ rows, allS rowP l = some rows ∧ e = [some (.str x), some (.lst (rows.map encR)), none, none, none]) ?_ ?_
    · simp_arith []
      refine w_lcT (s1 := t) (l := l) (enc := D.str) (c := 2) (fun x => (rowP x).map encR) ?_ hll (fun y hy => ⟨_, rfl, ?_⟩) ?_ ?_
      · have hl2 : x.length ≤ 100000 := by omega
        simp_arith [hsl, hl2, hsep]
        try rfl
      · obtain ⟨hyp, hyl⟩ := h3 y hy
        simp_arith [wipeE]
        refine (row_any (s := t) hyp (by omega)).imp (fun d s' h => ?_) (fun c s' h => ?_)
        · obtain ⟨rfl, ds, n, hn, rfl⟩ := h
          exact ⟨rfl, encR (ds, n), by rw [hn]; rfl, rfl⟩
        · obtain ⟨rfl, rfl, hn⟩ := h
          exact ⟨rfl, rfl, by rw [hn]; rfl⟩
      · intro fs hfs
        rw [allS_mapo] at hfs
        cases e : allS rowP l with
        | none => rw [e] at hfs; cases hfs
        | some rows =>
          rw [e] at hfs
          cases hfs
          simp_arith []
          try exact ⟨rows, rfl, rfl⟩
      · intro hno
        rw [allS_mapo] at hno
        cases e : allS rowP l with
        | none =>
          rw [e] at hr
          exact ⟨rfl, rfl, hr⟩
        | some rows => rw [e] at hno; cases hno
    rintro e t' ⟨rfl, rows, hro, rfl⟩
    rw [hro] at hr
    have hr : readP x = if rows.length ≤ 30 then some rows else none := hr
    have hrl : rows.length ≤ 16777216 := by rw [allS_len hro]; exact hll
    simp only [ws_seq, Kt_eq]
    by_cases h30 : rows.length ≤ 30
    · rw [if_pos h30] at hr
      have h30' : ¬ ((30 : Int) < rows.length) := by omega
      refine w_cut (fun e t => t = t' ∧ e = [some (.str x), some (.lst (rows.map encR)), none, none, none]) ?_ ?_
      · simp_arith [h30', decide_eq_false h30', hrl]
      rintro e t ⟨rfl, rfl⟩
      simp only [Kt_eq]
      simp_arith []
      refine w_lcY (s1 := t) (l := rows) (enc := encR) (fun r => D.tup r.1) ?_ hrl (fun r hr => ⟨_, tgE_row, ?_⟩) ?_
      · simp_arith []
      · simp_arith [wipeE]
      simp_arith []
      refine w_lcY (s1 := t ++ [.lst (dsL rows)]) (l := rows) (enc := encR) (fun r => D.int r.2) ?_ hrl (fun r hr => ⟨_, tgE_row, ?_⟩) ?_
      · simp_arith []
        try rfl
      · simp_arith [wipeE]
      simp_arith [hr]
      try exact ⟨rows, rfl, rfl⟩
      try exact ⟨rows, rfl, rfl, rfl⟩
    · rw [if_neg h30] at hr
      have h30' : (30 : Int) < rows.length := by omega
      refine w_cut (fun e t => False) ?_ (fun _ _ h => h.elim)
      simp_arith [h30', decide_eq_true h30', hrl, hr]
theorem tgE_rd2 {env : Gm.Env} {x : Str} {i : Nat} : tgE (Tg.nm i) (rowD x) env = some (env.set i (some (rowD x))) := by
  unfold rowD
  cases rowP x <;> rfl
theorem rows_ds : ∀ {l : List Str} {rows : List (List D × Int)}, allS rowP l = some rows → (l.map fun y => match rowP y with | some r => D.tup r.1 | none => .non) = dsL rows ∧ (l.map fun y => match rowP y with | some r => D.int r.2 | none => .non) = nsL rows
  | [], rows, h => by cases h; exact ⟨rfl, rfl⟩
  | a :: r, rows, h => by
    unfold allS at h
    cases e : rowP a with
    | none => rw [e] at h; cases h
    | some q =>
      rw [e] at h
      cases e2 : allS rowP r with
      | none => rw [e2] at h; cases h
      | some qs =>
        rw [e2] at h
        cases h
        obtain ⟨i1, i2⟩ := rows_ds e2
        rw [List.map_cons, List.map_cons, i1, i2, e]
        exact ⟨rfl, rfl⟩
theorem due_eq {x : Str} (hp : Pl x) (hl : x.length ≤ 90000) : f__law_due [.str x] s = match readP x with
    | some rows => .ok (.tup [.ref s.length, .ref (s.length + 1)]) (s ++ [.lst (dsL rows)] ++ [.lst (nsL rows)])
    | none => .ok .non s := by
  obtain ⟨h1, h2, h3⟩ := split_ok (y := "\n") tl_nl (by decide +kernel) hp
  have hsep : (("\n" : Str).length == 0) = false := rfl
  have q1 := fEqP (s := s) (y := "") hp (pl_lit rfl)
  cases hE : (x == ("" : Str)) with
  | true =>
    rw [hE] at q1
    have hr : readP x = some [] := by unfold readP; rw [hE]; rfl
    rw [hr]
    refine w_fnE rfl ?_
    simp_arith [b__law_due, q1]
    try rfl
    try simp
  | false =>
    rw [hE] at q1
    have hr : readP x = match allS rowP (Txt.split x "\n") with
      | none => none
      | some rows => if rows.length ≤ 30 then some rows else none := by unfold readP; rw [hE]; rfl
    obtain ⟨l, hsl⟩ : ∃ l, Txt.split x "\n" = l := ⟨_, rfl⟩
    rw [hsl] at h1 h2 h3 hr
    have hll : l.length ≤ 16777216 := by omega
    have hin := inRows (s := s) (l := l) fun y hy => (h3 y hy).1
    have hlen : (l.map rowD).length = l.length := List.length_map ..
    have pre : ∀ (Q : D → Store → Prop), (∀ b : Bool, b = ((allS rowP l).isNone || decide (30 < l.length)) → (b = true → Q .non s) ∧ (b = false → Q (.tup [.ref s.length, .ref (s.length + 1)]) (s ++ [.lst (l.map fun y => match rowP y with | some r => D.tup r.1 | none => .non)] ++ [.lst (l.map fun y => match rowP y with | some r => D.int r.2 | none => .non)]))) → (f__law_due [.str x] s).W Q X0 := by
      intro Q hQ
      refine w_fnW rfl ?_
      unfold b__law_due
      simp only [ws_seq, Kt_eq]
      refine w_cut (fun e t => t = s ∧ e = [some (.str x), none, none]) ?_ ?_
      · simp_arith [q1]
      rintro e t ⟨rfl, rfl⟩
      simp only [ws_seq, Kt_eq]
      refine w_cut (fun e t' => t' = t ∧ e = [some (.str x), some (.lst (l.map rowD)), none]) ?_ ?_
      · simp_arith []
        refine w_lcY (s1 := t) (l := l) (enc := D.str) rowD ?_ hll (fun y hy => ⟨_, rfl, ?_⟩) ?_
        · have hl2 : x.length ≤ 100000 := by omega
          simp_arith [hsl, hl2, hsep]
          try rfl
        · obtain ⟨hyp, hyl⟩ := h3 y hy
          have e := lrow_eq (s := t) hyp (by omega)
          have hsn : snk (fz (rowD y)) = some (rowD y) := by unfold rowD; cases rowP y <;> rfl
          simp_arith [wipeE, e, hsn]
        · simp_arith []
      rintro e t' ⟨rfl, rfl⟩
      simp only [ws_seq, Kt_eq]
      cases hn : (allS rowP l).isNone with
      | true =>
        rw [hn] at hin
        have := (hQ true (by rw [hn]; rfl)).1 rfl
        refine w_cut (fun e t => False) ?_ (fun _ _ h => h.elim)
        simp_arith [hin]
        exact this
      | false =>
        rw [hn] at hin
        by_cases h30 : 30 < l.length
        · have h30' : (30 : Int) < l.length := by omega
          have := (hQ true (by rw [hn, decide_eq_true h30]; rfl)).1 rfl
          refine w_cut (fun e t => False) ?_ (fun _ _ h => h.elim)
          simp_arith [hin, h30', decide_eq_true h30', hll]
          exact this
        · have h30' : ¬ (30 : Int) < l.length := by omega
          have := (hQ false (by rw [hn, decide_eq_false h30]; rfl)).2 rfl
          refine w_cut (fun e t => t = t' ∧ e = [some (.str x), some (.lst (l.map rowD)), none]) ?_ ?_
          · simp_arith [hin, h30', decide_eq_false h30', hll]
          rintro e t ⟨rfl, rfl⟩
          obtain ⟨rows, hro⟩ : ∃ rows, allS rowP l = some rows := by
            cases e : allS rowP l with
            | none => rw [e] at hn; cases hn
            | some rows => exact ⟨rows, rfl⟩
          have hsome : ∀ y ∈ l, ∃ r, rowP y = some r := allS_all hro
          simp only [Kt_eq]
          simp_arith []
          refine w_lcY (s1 := t) (l := l) (enc := rowD) (fun y => match rowP y with | some r => D.tup r.1 | none => .non) ?_ hll (fun y hy => ⟨_, tgE_rd2, ?_⟩) ?_
          · simp_arith []
          · obtain ⟨r, hr⟩ := hsome y hy
            have e : rowD y = encR r := by unfold rowD encR; rw [hr]
            simp only [hr]
            simp_arith [wipeE, e, encR, atI_0]
          simp_arith []
          refine w_lcY (s1 := t ++ [.lst (l.map fun y => match rowP y with | some r => D.tup r.1 | none => .non)]) (l := l) (enc := rowD) (fun y => match rowP y with | some r => D.int r.2 | none => .non) ?_ hll (fun y hy => ⟨_, tgE_rd2, ?_⟩) ?_
          · simp_arith []
            try rfl
          · obtain ⟨r, hr⟩ := hsome y hy
            have e : rowD y = encR r := by unfold rowD encR; rw [hr]
            simp only [hr]
            simp_arith [wipeE, e, encR]
            try rfl
            try exact ⟨_, rfl, rfl⟩
          simp_arith []
          try exact this
    rw [hr]
    obtain ⟨d, s', he, hq⟩ := (pre (fun d s' => ∀ b : Bool, b = ((allS rowP l).isNone || decide (30 < l.length)) → (b = true → d = .non ∧ s' = s) ∧ (b = false → d = (.tup [.ref s.length, .ref (s.length + 1)]) ∧ s' = (s ++ [.lst (l.map fun y => match rowP y with | some r => D.tup r.1 | none => .non)] ++ [.lst (l.map fun y => match rowP y with | some r => D.int r.2 | none => .non)]))) fun b hb => ⟨fun h => fun b' hb' => ⟨fun _ => ⟨rfl, rfl⟩, fun h' => (by rw [hb', ← hb, h] at h'; cases h')⟩, fun h => fun b' hb' => ⟨fun h' => (by rw [hb', ← hb, h] at h'; cases h'), fun _ => ⟨rfl, rfl⟩⟩⟩).eq
    rw [he]
    obtain ⟨g1, g2⟩ := hq _ rfl
    cases hro : allS rowP l with
    | none =>
      obtain ⟨rfl, rfl⟩ := g1 (by rw [hro]; rfl)
      rfl
    | some rows =>
      have hlen := allS_len hro
      by_cases h30 : rows.length ≤ 30
      · obtain ⟨rfl, rfl⟩ := g2 (by rw [hro, ← hlen, decide_eq_false (by omega)]; rfl)
        obtain ⟨i1, i2⟩ := rows_ds hro
        rw [i1, i2]
        simp only [h30, if_true]
      · obtain ⟨rfl, rfl⟩ := g1 (by rw [hro, ← hlen, decide_eq_true (by omega)]; rfl)
        simp only [h30, if_false]
end
theorem shS {d : Deed} (h : ∀ i ∈ pn d, -10000000000 ≤ i ∧ i ≤ 10000000000) : d.sh := fun i hi => by
  have h1 := h i hi
  have h2 : i.natAbs ≤ 10000000000 := by omega
  exact Nat.lt_of_le_of_lt h2 (by decide +kernel)
theorem deedS {c : Int} {s : Store} : ∃ d : Deed, d.sh ∧ f__law_deed [.int c] s = .ok (En.e d) s := by
  have key : (f__law_deed [.int c] s).W (fun r s' => s' = s ∧ ∃ d : Deed, d.sh ∧ r = En.e d) X0 := by
    refine w_fnW rfl ?_
    generalize h1 : c / 12 % 4 + 4 * (c / 1152 % 2) = one
    generalize h2 : c / 48 % 4 + 4 * (c / 2304 % 2) = other
    generalize h3 : c / 192 % 3 + c / 9216 % 2 = slot
    have b1 : 0 ≤ one ∧ one < 8 := by omega
    have b2 : 0 ≤ other ∧ other < 8 := by omega
    have b3 : 0 ≤ slot ∧ slot ≤ 3 := by omega
    have hw : c % 12 = 0 ∨ c % 12 = 1 ∨ c % 12 = 2 ∨ c % 12 = 3 ∨ c % 12 = 4 ∨ c % 12 = 5 ∨ c % 12 = 6 ∨ c % 12 = 7 ∨ c % 12 = 8 ∨ c % 12 = 9 ∨ c % 12 = 10 ∨ c % 12 = 11 := by omega
    rcases hw with hw | hw | hw | hw | hw | hw | hw | hw | hw | hw | hw | hw
    · have hx : atI [D.str "make", D.str "put", D.str "take", D.str "copy", D.str "put", D.str "make", D.str "clear", D.str "number", D.str "tell", D.str "same", D.str "put", D.str "take"] (c % 12) = some (.str "make") := by rw [hw]; rfl
      simp_arith [b__law_deed, hx, h1, h2, h3, q_make_make, q_make_put, q_make_take, q_make_number, q_make_copy, q_make_same]
      exact ⟨.inl trivial, .inl trivial, .make one (slot + c / 576 % 2), shS (by intro i hi; simp only [pn, List.mem_cons, List.not_mem_nil, or_false] at hi; omega), rfl⟩
    · have hx : atI [D.str "make", D.str "put", D.str "take", D.str "copy", D.str "put", D.str "make", D.str "clear", D.str "number", D.str "tell", D.str "same", D.str "put", D.str "take"] (c % 12) = some (.str "put") := by rw [hw]; rfl
      simp_arith [b__law_deed, hx, h1, h2, h3, q_put_make, q_put_put, q_put_take, q_put_number, q_put_copy, q_put_same]
      exact ⟨.inl trivial, .inl trivial, .put one slot other, shS (by intro i hi; simp only [pn, List.mem_cons, List.not_mem_nil, or_false] at hi; omega), rfl⟩
    · have hx : atI [D.str "make", D.str "put", D.str "take", D.str "copy", D.str "put", D.str "make", D.str "clear", D.str "number", D.str "tell", D.str "same", D.str "put", D.str "take"] (c % 12) = some (.str "take") := by rw [hw]; rfl
      simp_arith [b__law_deed, hx, h1, h2, h3, q_take_make, q_take_put, q_take_take, q_take_number, q_take_copy, q_take_same]
      exact ⟨.inl trivial, .inl trivial, .take one other slot, shS (by intro i hi; simp only [pn, List.mem_cons, List.not_mem_nil, or_false] at hi; omega), rfl⟩
    · have hx : atI [D.str "make", D.str "put", D.str "take", D.str "copy", D.str "put", D.str "make", D.str "clear", D.str "number", D.str "tell", D.str "same", D.str "put", D.str "take"] (c % 12) = some (.str "copy") := by rw [hw]; rfl
      simp_arith [b__law_deed, hx, h1, h2, h3, q_copy_make, q_copy_put, q_copy_take, q_copy_number, q_copy_copy, q_copy_same]
      exact ⟨.inl trivial, .inl trivial, .copy one other, shS (by intro i hi; simp only [pn, List.mem_cons, List.not_mem_nil, or_false] at hi; omega), rfl⟩
    · have hx : atI [D.str "make", D.str "put", D.str "take", D.str "copy", D.str "put", D.str "make", D.str "clear", D.str "number", D.str "tell", D.str "same", D.str "put", D.str "take"] (c % 12) = some (.str "put") := by rw [hw]; rfl
      simp_arith [b__law_deed, hx, h1, h2, h3, q_put_make, q_put_put, q_put_take, q_put_number, q_put_copy, q_put_same]
      exact ⟨.inl trivial, .inl trivial, .put one slot other, shS (by intro i hi; simp only [pn, List.mem_cons, List.not_mem_nil, or_false] at hi; omega), rfl⟩
    · have hx : atI [D.str "make", D.str "put", D.str "take", D.str "copy", D.str "put", D.str "make", D.str "clear", D.str "number", D.str "tell", D.str "same", D.str "put", D.str "take"] (c % 12) = some (.str "make") := by rw [hw]; rfl
      simp_arith [b__law_deed, hx, h1, h2, h3, q_make_make, q_make_put, q_make_take, q_make_number, q_make_copy, q_make_same]
      exact ⟨.inl trivial, .inl trivial, .make one (slot + c / 576 % 2), shS (by intro i hi; simp only [pn, List.mem_cons, List.not_mem_nil, or_false] at hi; omega), rfl⟩
    · have hx : atI [D.str "make", D.str "put", D.str "take", D.str "copy", D.str "put", D.str "make", D.str "clear", D.str "number", D.str "tell", D.str "same", D.str "put", D.str "take"] (c % 12) = some (.str "clear") := by rw [hw]; rfl
      simp_arith [b__law_deed, hx, h1, h2, h3, q_clear_make, q_clear_put, q_clear_take, q_clear_number, q_clear_copy, q_clear_same]
      exact ⟨.inl trivial, .inl trivial, .clear one, shS (by intro i hi; simp only [pn, List.mem_cons, List.not_mem_nil, or_false] at hi; omega), rfl⟩
    · have hx : atI [D.str "make", D.str "put", D.str "take", D.str "copy", D.str "put", D.str "make", D.str "clear", D.str "number", D.str "tell", D.str "same", D.str "put", D.str "take"] (c % 12) = some (.str "number") := by rw [hw]; rfl
      simp_arith [b__law_deed, hx, h1, h2, h3, q_number_make, q_number_put, q_number_take, q_number_number, q_number_copy, q_number_same]
      refine ⟨.inl trivial, .inl trivial, ?_⟩
      have hi : ∃ n : Int, atI [D.int (c / 48 % 9 - 4), D.int 1000000, D.int (-1000000)] (if c / 48 % 11 - 8 > 0 then c / 48 % 11 - 8 else 0) = some (.int n) ∧ -1000000 ≤ n ∧ n ≤ 1000000 := by
        have : (if c / 48 % 11 - 8 > 0 then c / 48 % 11 - 8 else 0) = 0 ∨ (if c / 48 % 11 - 8 > 0 then c / 48 % 11 - 8 else 0) = 1 ∨ (if c / 48 % 11 - 8 > 0 then c / 48 % 11 - 8 else 0) = 2 := by split <;> omega
        rcases this with e | e | e <;> rw [e]
        · exact ⟨_, rfl, by omega, by omega⟩
        · exact ⟨_, rfl, by omega, by omega⟩
        · exact ⟨_, rfl, by omega, by omega⟩
      obtain ⟨n, hn, n0, n1⟩ := hi
      rw [hn]
      exact ⟨.number one n, shS (by intro i hi; simp only [pn, List.mem_cons, List.not_mem_nil, or_false] at hi; omega), rfl⟩
    · have hx : atI [D.str "make", D.str "put", D.str "take", D.str "copy", D.str "put", D.str "make", D.str "clear", D.str "number", D.str "tell", D.str "same", D.str "put", D.str "take"] (c % 12) = some (.str "tell") := by rw [hw]; rfl
      simp_arith [b__law_deed, hx, h1, h2, h3, q_tell_make, q_tell_put, q_tell_take, q_tell_number, q_tell_copy, q_tell_same]
      exact ⟨.inl trivial, .inl trivial, .tell one, shS (by intro i hi; simp only [pn, List.mem_cons, List.not_mem_nil, or_false] at hi; omega), rfl⟩
    · have hx : atI [D.str "make", D.str "put", D.str "take", D.str "copy", D.str "put", D.str "make", D.str "clear", D.str "number", D.str "tell", D.str "same", D.str "put", D.str "take"] (c % 12) = some (.str "same") := by rw [hw]; rfl
      simp_arith [b__law_deed, hx, h1, h2, h3, q_same_make, q_same_put, q_same_take, q_same_number, q_same_copy, q_same_same]
      exact ⟨.inl trivial, .inl trivial, .same one other, shS (by intro i hi; simp only [pn, List.mem_cons, List.not_mem_nil, or_false] at hi; omega), rfl⟩
    · have hx : atI [D.str "make", D.str "put", D.str "take", D.str "copy", D.str "put", D.str "make", D.str "clear", D.str "number", D.str "tell", D.str "same", D.str "put", D.str "take"] (c % 12) = some (.str "put") := by rw [hw]; rfl
      simp_arith [b__law_deed, hx, h1, h2, h3, q_put_make, q_put_put, q_put_take, q_put_number, q_put_copy, q_put_same]
      exact ⟨.inl trivial, .inl trivial, .put one slot other, shS (by intro i hi; simp only [pn, List.mem_cons, List.not_mem_nil, or_false] at hi; omega), rfl⟩
    · have hx : atI [D.str "make", D.str "put", D.str "take", D.str "copy", D.str "put", D.str "make", D.str "clear", D.str "number", D.str "tell", D.str "same", D.str "put", D.str "take"] (c % 12) = some (.str "take") := by rw [hw]; rfl
      simp_arith [b__law_deed, hx, h1, h2, h3, q_take_make, q_take_put, q_take_take, q_take_number, q_take_copy, q_take_same]
      exact ⟨.inl trivial, .inl trivial, .take one other slot, shS (by intro i hi; simp only [pn, List.mem_cons, List.not_mem_nil, or_false] at hi; omega), rfl⟩
  obtain ⟨r, s', e, rfl, d, h, rfl⟩ := key.eq
  exact ⟨d, h, e⟩
/-! k17: a text changed at one sign, or an odd one -/
section
open TL
variable {s : Store}
def oddL : List Str := [" ", "\n", "tell 0\n", "\ntell 0", "tell 00", "tell -0", "tell 0;1", "tell 0; 0", "tell 0; -2", "tell 0; 101", "tell 0; 100", "tell 0;  1", "tell  0", "Tell 0", "put 0 1", "tell 0; 1; 1", "number 7 -1000001", "tell +1",
  Txt.join "\n" (List.replicate 30 "clear 9"), Txt.join "\n" (List.replicate 31 "clear 9"), "tell 0 ;1", "make 0 -7; -1"]
theorem oddL_ok : ∀ y ∈ oddL, Pl y ∧ y.length ≤ 90000 := by
  have key : oddL.all (fun y => (tl y).all (· < 128) && decide ((tl y).length ≤ 90000)) = true := by decide +kernel
  intro y hy
  have := List.all_eq_true.mp key y hy
  rw [Bool.and_eq_true] at this
  exact ⟨pl_lit this.1, by rw [len_tl]; exact of_decide_eq_true this.2⟩
theorem odd_at {i : Int} (h0 : 0 ≤ i) (h1 : i < 22) : ∃ y, (Pl y ∧ y.length ≤ 90000) ∧ atI (oddL.map D.str) i = some (.str y) := by
  have hl : oddL.length = 22 := rfl
  have hi : i.toNat < oddL.length := by omega
  refine ⟨oddL[i.toNat], oddL_ok _ (List.getElem_mem hi), atI_of h0 ?_⟩
  rw [List.getElem?_map, List.getElem?_eq_getElem hi]; rfl
theorem sign_at {i : Int} (h0 : 0 ≤ i) (h1 : i < 22) : ∃ y : Str, Pl y ∧ y.length = 1 ∧ fIxS s (.str "0123456789 -;\n\tmaket+_") (.int i) = .ok (.str y) s := by
  have hl : ("0123456789 -;\n\tmaket+_" : Str).cps.toList.length = 22 := rfl
  have hi : i.toNat < ("0123456789 -;\n\tmaket+_" : Str).cps.toList.length := by omega
  have hz : ("0123456789 -;\n\tmaket+_" : Str).length ≤ 100000 := by decide +kernel
  have hp : Pl ("0123456789 -;\n\tmaket+_" : Str) := pl_lit rfl
  obtain ⟨c, hc⟩ : ∃ c, ("0123456789 -;\n\tmaket+_" : Str).cps.toList[i.toNat]? = some c := ⟨_, List.getElem?_eq_getElem hi⟩
  refine ⟨⟨#[c]⟩, fun k hk => ?_, rfl, ?_⟩
  · have : k = c := by simpa [tl] using hk
    rw [this]
    exact hp c (List.mem_of_getElem? hc)
  · simp only [fIxS, if_pos hz, atI_of h0 hc]
theorem join_rep {n : Nat} (h : n ≤ 100) : fJoin s (.str "\n") (.lst (List.replicate n [D.str "clear 9"]).flatten) = .ok (.str (Txt.join "\n" (List.replicate n "clear 9"))) s := by
  have e0 : (List.replicate n [D.str "clear 9"]).flatten = (List.replicate n ("clear 9" : Str)).map D.str := by
    induction n with
    | zero => rfl
    | succ k ih => rw [List.replicate_succ, List.replicate_succ, List.flatten_cons, ih (by omega)]; rfl
  have e : (lsD s (.lst ((List.replicate n ("clear 9" : Str)).map D.str))).bind strsD = some (List.replicate n ("clear 9" : Str)) := strsD_map
  have hs : ((List.replicate n ("clear 9" : Str)).map (·.length)).sum + (List.replicate n ("clear 9" : Str)).length * ("\n" : Str).length ≤ 16777216 := by
    have h3 : ("\n" : Str).length = 1 := rfl
    have h7 : ("clear 9" : Str).length = 7 := rfl
    rw [List.map_replicate, List.sum_replicate_nat, List.length_replicate, h3, h7]
    omega
  rw [e0]
  simp only [fJoin, e, if_pos hs]
theorem chg_any {x : Str} {c : Int} (hp : Pl x) (hl : x.length ≤ 5000) : (f__law_changed [.str x, .int c] s).W (fun d s' => s' = s ∧ ∃ y, Pl y ∧ y.length ≤ 90000 ∧ d = .str y) X0 := by
  obtain ⟨g, hg, hg1, hgs⟩ := sign_at (s := s) (i := c / 1200 % 22) (by omega) (by omega)
  obtain ⟨o, ho, hoa⟩ := odd_at (i := c / 4 % 22) (by omega) (by omega)
  have hl2 : x.length ≤ 100000 := by omega
  have hcut : ∀ i j, Pl (cutS x i j) := fun i j => hp.cut
  have hcl : ∀ i j, (cutS x i j).length ≤ x.length := fun i j => by
    rw [len_tl, len_tl]
    exact Nat.le_trans (List.length_take_le' _ _) (by rw [List.length_drop]; exact Nat.sub_le _ _)
  refine w_fnW rfl ?_
  unfold b__law_changed
  simp only [ws_seq, Kt_eq]
  refine w_cut (fun e t => t = s ∧ ∃ a : Int, e = [some (.str x), some (.int c), some (.int a), none, none]) ?_ ?_
  · simp_arith []
    exact ⟨by omega, by omega, _, rfl⟩
  rintro e t ⟨rfl, a, rfl⟩
  simp only [ws_seq, Kt_eq]
  refine w_cut (fun e t' => t' = t ∧ e = [some (.str x), some (.int c), some (.int a), some (.str g), none]) ?_ ?_
  · simp_arith [hgs]
  rintro e t' ⟨rfl, rfl⟩
  have h4 : c % 4 = 0 ∨ c % 4 = 1 ∨ c % 4 = 2 ∨ c % 4 = 3 := by omega
  have hlen : ∀ a b : Str, (a ++ b).length = a.length + b.length := fun a b => by
    rw [len_tl, tl_append, List.length_append, ← len_tl, ← len_tl]
  have k1 := hcl none (some a)
  have k2 := hcl (some a) none
  have k3 := hcl (some (a + 1)) none
  rcases h4 with h4 | h4 | h4 | h4
  · simp_arith [h4, hl2]
    exact ⟨by omega, _, (hcut _ _).app (hcut _ _), by rw [hlen]; omega, rfl⟩
  · simp_arith [h4, hl2]
    exact ⟨by omega, by rw [hlen]; omega, _, ((hcut _ _).app hg).app (hcut _ _), by rw [hlen, hlen]; omega, rfl⟩
  · simp_arith [h4, hl2]
    exact ⟨by omega, by rw [hlen]; omega, _, ((hcut _ _).app hg).app (hcut _ _), by rw [hlen, hlen]; omega, rfl⟩
  · have j30 := join_rep (s := t') (n := 30) (by omega)
    have j31 := join_rep (s := t') (n := 31) (by omega)
    obtain ⟨y30, h30⟩ : ∃ y : Str, Txt.join "\n" (List.replicate 30 ("clear 9" : Str)) = y := ⟨_, rfl⟩
    obtain ⟨y31, h31⟩ : ∃ y : Str, Txt.join "\n" (List.replicate 31 ("clear 9" : Str)) = y := ⟨_, rfl⟩
    rw [h30] at j30
    rw [h31] at j31
    have hx : atI [D.str " ", D.str "\n", D.str "tell 0\n", D.str "\ntell 0", D.str "tell 00", D.str "tell -0", D.str "tell 0;1", D.str "tell 0; 0", D.str "tell 0; -2", D.str "tell 0; 101", D.str "tell 0; 100", D.str "tell 0;  1", D.str "tell  0", D.str "Tell 0", D.str "put 0 1", D.str "tell 0; 1; 1", D.str "number 7 -1000001", D.str "tell +1", D.str y30, D.str y31, D.str "tell 0 ;1", D.str "make 0 -7; -1"] (c / 4 % 22) = some (.str o) := by
      rw [← h30, ← h31]; exact hoa
    simp only [List.replicate] at j30 j31
    simp only [ws_seq, Kt_eq]
    simp_arith [h4, hl2, j30, j31, hx]
    exact ⟨by omega, by omega, o, ho.1, ho.2, rfl⟩
end
/-! read(text of a program) -/
section
open TL
theorem tl_txtP (p : List (Deed × Int)) : tl (txtP p) = joinL [10] (p.map fun x => tl (rowT x.1 x.2)) := by
  unfold txtP
  rw [join_eq, tl_join, show tl ("\n" : Str) = [10] from rfl, List.map_map]
  rfl
theorem txtP_pl (p : List (Deed × Int)) : Pl (txtP p) := fun c hc => by
  rw [tl_txtP] at hc
  rcases joinL_mem hc with h | ⟨q, hq, h⟩
  · rw [List.mem_singleton.mp h]; decide
  · obtain ⟨x, _, rfl⟩ := List.mem_map.mp hq
    exact rowT_pl _ _ c h
/-- programs that a text bears -/
def PP (p : List (Deed × Int)) : Prop := p.length ≤ 30 ∧ ∀ x ∈ p, x.1.sh ∧ -1 ≤ x.2 ∧ x.2 ≤ 100
end
/-! shown(program, turns) -/
section
open TL
def strD : D → D
  | .int i => .str (nt i)
  | x => x
theorem sum_le {α : Type} {f : α → Nat} {b : Nat} : ∀ {l : List α}, (∀ x ∈ l, f x ≤ b) → (l.map f).sum ≤ l.length * b
  | [], _ => by simp
  | x :: r, h => by
    have h1 := h x (List.mem_cons_self ..)
    have h2 := sum_le (f := f) (b := b) (l := r) fun y hy => h y (List.mem_cons_of_mem _ hy)
    rw [List.map_cons, List.sum_cons, List.length_cons, Nat.add_one_mul]
    omega
theorem row_sum {d : Deed} (h : d.sh) : ((wd d :: (pn d).map nt).map (·.length)).sum + (wd d :: (pn d).map nt).length * (" " : Str).length ≤ 16777216 := by
  have h1 := sum_le (f := fun x : Str => x.length) (b := 61) (l := wd d :: (pn d).map nt) fun x hx => by
    rcases List.mem_cons.mp hx with rfl | hx
    · have : (tl (wd d)).length ≤ 6 := by cases d <;> (simp only [wd]; decide +kernel)
      rw [len_tl]; omega
    · obtain ⟨i, hi, rfl⟩ := List.mem_map.mp hx
      exact nt_len (h i hi)
  have h2 : (pn d).length ≤ 3 := by cases d <;> simp [pn]
  have h3 : (" " : Str).length = 1 := rfl
  rw [List.length_cons, List.length_map] at h1 ⊢
  rw [h3]
  omega
theorem txt_sum {p : List (Deed × Int)} (h : PP p) : ((p.map fun x => rowT x.1 x.2).map (·.length)).sum + (p.map fun x => rowT x.1 x.2).length * ("\n" : Str).length ≤ 16777216 := by
  have h1 := sum_le (f := fun x : Str => x.length) (b := 400) (l := p.map fun x => rowT x.1 x.2) fun x hx => by
    obtain ⟨i, hi, rfl⟩ := List.mem_map.mp hx
    exact rowT_len (h.2 i hi).1 (h.2 i hi).2
  have h3 : ("\n" : Str).length = 1 := rfl
  have h4 := h.1
  rw [List.length_map] at h1 ⊢
  rw [h3]
  omega
theorem nt_def (i : Int) : Str.ofString (toString i) = nt i := rfl
theorem log_ok {n : Nat} (h : n < 10 ^ 60) : n.log2 < 1920 := by
  by_cases h0 : n = 0
  · subst h0; decide +kernel
  · exact (Nat.log2_lt h0).mpr (Nat.lt_of_lt_of_le h (by decide +kernel))
end
/-! == over lists of the store -/
theorem toPy_ref {n r : Nat} {xs : List D} {s : Store} (h : s[r]? = some (.lst xs)) : toPy s n (.ref r) = toPy s n (.lst xs) := by
  cases n with
  | zero => rfl
  | succ n => simp only [toPy, dr, h]
theorem toPy_t2 {s : Store} {n : Nat} {a b c d : D} (h1 : toPy s n a = toPy s n c) (h2 : toPy s n b = toPy s n d) : toPy s (n + 1) (.tup [a, b]) = toPy s (n + 1) (.tup [c, d]) := by
  simp only [toPy, List.mapM_cons, h1, h2]
theorem fEq_py {s : Store} {a b c : D} (ha : toPy s 9 a = toPy s 9 c) (hb : toPy s 9 b = toPy s 9 c) (h : dOk 9 c = true) : fEq s a b = .ok (.bl true) s := by
  obtain ⟨h1, h2⟩ := toPy_of s 9 c h
  rw [h1] at ha hb
  simp only [fEq, ha, hb, h2, eqv_self _ h2, and_self, if_true]
/-! law k17 -/
section
open TL
theorem dsL_ok : ∀ {l : List Str} {rows : List (List D × Int)}, (∀ x ∈ l, Pl x) → allS rowP l = some rows → dOkL 7 (dsL rows) = true ∧ dOkL 7 (nsL rows) = true
  | [], rows, hp, h => by cases h; exact ⟨rfl, rfl⟩
  | a :: r, rows, hp, h => by
    unfold allS at h
    cases e : rowP a with
    | none => rw [e] at h; cases h
    | some q =>
      rw [e] at h
      cases e2 : allS rowP r with
      | none => rw [e2] at h; cases h
      | some qs =>
        rw [e2] at h
        cases h
        obtain ⟨i1, i2⟩ := dsL_ok (fun x hx => hp x (List.mem_cons_of_mem _ hx)) e2
        obtain ⟨ds, k⟩ := q
        constructor
        · show dOkL 7 (D.tup ds :: dsL qs) = true
          unfold dOkL
          rw [i1, rowP_ok (hp a (List.mem_cons_self ..)) e 5]; rfl
        · show dOkL 7 (D.int k :: nsL qs) = true
          unfold dOkL
          rw [i2]; rfl
theorem readP_ok {x : Str} (hp : Pl x) {rows : List (List D × Int)} (h : readP x = some rows) : dOk 9 (.tup [.lst (dsL rows), .lst (nsL rows)]) = true := by
  have key : dOkL 7 (dsL rows) = true ∧ dOkL 7 (nsL rows) = true := by
    unfold readP at h
    split at h
    · cases h; exact ⟨rfl, rfl⟩
    · cases e : allS rowP (Txt.split x "\n") with
      | none => rw [e] at h; cases h
      | some r2 =>
        rw [e] at h
        have h : (if r2.length ≤ 30 then some r2 else none) = some rows := h
        split at h
        · cases h
          exact dsL_ok (fun y hy => ((split_ok (y := "\n") tl_nl (by decide +kernel) hp).2.2 y hy).1) e
        · cases h
  have h1 : dOk 8 (.lst (dsL rows)) = true := by unfold dOk; exact key.1
  have h2 : dOk 8 (.lst (nsL rows)) = true := by unfold dOk; exact key.2
  unfold dOk dOkL dOkL dOkL
  rw [h1, h2]; rfl
theorem main (ns : List Int) (hn : ns.length ≤ 63) : ∃ s', f_law [.scr ns] [] = .ok (.bl true) s' := by
  have key : (f_law [.scr ns] []).W (fun d _ => d = .bl true) X0 := by
    have hc0 := @cell_eq ns 0 [] (by omega)
    have hc1 := @cell_eq ns 1 [] (by omega)
    have hc2 := @cell_eq ns 2 [] (by omega)
    have hm0 : 0 ≤ cellAt ns 0 % 8 ∧ cellAt ns 0 % 8 < 8 := by omega
    generalize cellAt ns 0 = z0 at hc0 hm0
    generalize cellAt ns 1 = z1 at hc1
    generalize cellAt ns 2 = z2 at hc2
    refine w_fnW rfl ?_
    unfold b_law
    simp only [ws_seq, Kt_eq]
    refine w_cut (fun e t => t = [] ∧ e = [some (.scr ns), some (.own (.lst [])), none, none, none, none, none, none, none, none]) ?_ ?_
    · simp_arith []
    rintro e t ⟨rfl, rfl⟩
    simp only [ws_seq, Kt_eq]
    refine w_cut (fun e t => t = [] ∧ ∃ (p : List (Deed × Int)) (v2 v3 v4 v9 : Option D), p.length ≤ 7 ∧ PP p ∧ noX [v2, v3, v4, v9] = true ∧ e = [some (.scr ns), some (.own (.lst ((p.map fun x => rowT x.1 x.2).map D.str))), v2, v3, v4, none, none, none, none, v9]) ?_ ?_
    · refine w_forN (s1 := []) (lo := 0) (n := (z0 % 8).toNat) (fun i e t => t = [] ∧ ∃ (p : List (Deed × Int)) (v2 v3 v4 v9 : Option D), p.length = i ∧ (∀ x ∈ p, x.1.sh ∧ -1 ≤ x.2 ∧ x.2 ≤ 100) ∧ noX [v2, v3, v4, v9] = true ∧
        e = [some (.scr ns), some (.own (.lst ((p.map fun x => rowT x.1 x.2).map D.str))), v2, v3, v4, none, none, none, none, v9]) ?_ ⟨rfl, [], none, none, none, none, rfl, fun _ h => (nomatch h), rfl, rfl⟩ ?_ ?_
      · simp_arith [hc0]
        try omega
      · rintro i e t hi ⟨rfl, p, v2, v3, v4, v9, hpl, hp, hx, rfl⟩
        have c1 := @cell_eq ns (3 + i) [] (by omega)
        have c2 := @cell_eq ns (12 + i) [] (by omega)
        generalize cellAt ns (3 + i) = a at c1
        generalize cellAt ns (12 + i) = b at c2
        obtain ⟨d, hd, hde⟩ := @deedS a []
        have hi8 : i < 8 := by omega
        have hb : -1 ≤ b % 12 - 1 ∧ b % 12 - 1 ≤ 100 := by omega
        simp only [List.set_cons_succ, List.set_cons_zero, ws_seq, Kt_eq]
        refine w_cut (fun e t => t = [] ∧ e = [some (.scr ns), some (.own (.lst ((p.map fun x => rowT x.1 x.2).map D.str))), some (.int (0 + (i : Nat))), some (En.e d), v4, none, none, none, none, v9]) ?_ ?_
        · simp_arith [c1, hde, snk_e]
        rintro e t ⟨rfl, rfl⟩
        simp only [ws_seq, Kt_eq]
        refine w_cut (fun e t => t = [] ∧ e = [some (.scr ns), some (.own (.lst ((p.map fun x => rowT x.1 x.2).map D.str))), some (.int (0 + (i : Nat))), some (En.e d), some (.int (b % 12 - 1)), none, none, none, none, v9]) ?_ ?_
        · simp_arith [c2]
        rintro e t ⟨rfl, rfl⟩
        generalize b % 12 - 1 = m at hb
        have hx9 : ∀ (d : Deed) (m : Int), noX [some (.int (i : Nat)), some (En.e d), some (.int m), v9] = true := fun d m => by
          rw [e_deed]
          simp only [noX, List.all_cons, List.all_nil, Bool.and_true, Bool.and_eq_true] at hx ⊢
          exact ⟨trivial, trivial, trivial, hx.2.2.2⟩
        have hmem : ∀ x ∈ p ++ [(d, m)], x.1.sh ∧ -1 ≤ x.2 ∧ x.2 ≤ 100 := fun x hx => by
          rcases List.mem_append.mp hx with hx | hx
          · exact hp x hx
          · rw [List.mem_singleton.mp hx]; exact ⟨hd, hb⟩
        have hrs := row_sum hd
        have hB := rowB_len hd
        have hN := nt_len (nt_small hb)
        have hpz : p.length < 16777216 := by omega
        have hq0 : ("; " : Str).length = 2 := rfl
        have hq1 : ("; " : Str).length + (nt m).length ≤ 16777216 := by omega
        have hq2 : (rowB d).length + (("; " : Str) ++ nt m).length ≤ 16777216 := by
          rw [len_tl (("; " : Str) ++ nt m), tl_append, List.length_append, ← len_tl, ← len_tl]; omega
        have hq3 : (rowB d).length + ("" : Str).length ≤ 16777216 := by
          have : ("" : Str).length = 0 := rfl
          omega
        have hlg := log_ok (nt_small hb)
        have hlast : ∀ r, rowT d m = r → ((p.map fun x => rowT x.1 x.2).map D.str) ++ [D.str r] = (((p ++ [(d, m)]).map fun x => rowT x.1 x.2).map D.str) := by
          rintro r rfl
          rw [List.map_append, List.map_append]; rfl
        simp_arith [snk_e]
        have hfl : ((D.str (wd d) :: (pn d).map D.int).filter fun _ => true).map strD = (wd d :: (pn d).map nt).map D.str := by
          rw [List.filter_eq_self.mpr fun _ _ => rfl, List.map_cons, List.map_map, List.map_cons, List.map_map]; rfl
        have h3 : (pn d).length ≤ 3 := by cases d <;> simp [pn]
        refine w_lcS (s1 := []) (l := .str (wd d) :: (pn d).map D.int) (enc := fun x => x) (d := En.e d) (fun _ => true) strD (by rw [e_deed, List.map_id']; rfl) ?_ (by rw [List.length_cons, List.length_map]; omega) ?_ ?_
        · simp_arith [e_deed, seqD]
        · intro x hxx
          rcases List.mem_cons.mp hxx with rfl | hxx
          · refine ⟨_, rfl, we_tY.mpr ⟨rfl, rfl⟩, fun _ => ?_⟩
            simp_arith [wipeE, strD]
          · obtain ⟨i, hi, rfl⟩ := List.mem_map.mp hxx
            refine ⟨_, rfl, we_tY.mpr ⟨rfl, rfl⟩, fun _ => ?_⟩
            simp_arith [wipeE, strD, log_ok (hd i hi), nt_def]
        · rw [hfl]
          have hj : fJoin [] (D.str " ") (D.lst ((wd d :: (pn d).map nt).map D.str)) = .ok (.str (rowB d)) [] := by
            have e : (lsD [] (.lst ((wd d :: (pn d).map nt).map D.str))).bind strsD = some (wd d :: (pn d).map nt) := strsD_map
            simp only [fJoin, e, if_pos hrs]; rfl
          simp only [List.map_cons] at hj
          by_cases h0 : m = 0
          · have e0 : rowT d m = rowB d ++ ("" : Str) := by
              unfold rowT; rw [if_pos h0]
              exact ext_tl (by rw [tl_append, show tl ("" : Str) = [] from rfl, List.append_nil])
            rw [h0] at hlg hq1 hmem
            simp_arith [hj, h0, hq1, hq3, hlg, nt_def, hlast _ e0, atI_1]
            exact ⟨by omega, p ++ [(d, 0)], _, _, _, v9, by simp [hpl], hmem, hx9 d _, rfl⟩
          · have e0 : rowT d m = rowB d ++ (("; " : Str) ++ nt m) := by
              unfold rowT; rw [if_neg h0]
              exact ext_tl (by simp only [tl_append, List.append_assoc])
            simp_arith [hj, h0, hq1, hq2, hlg, nt_def, hlast _ e0, atI_0]
            exact ⟨by omega, p ++ [(d, m)], _, _, _, v9, by simp [hpl], hmem, hx9 d _, rfl⟩
      · rintro e t ⟨rfl, p, v2, v3, v4, v9, hpl, hp, hx, rfl⟩
        exact ⟨rfl, p, v2, v3, v4, v9, by omega, ⟨by omega, hp⟩, hx, rfl⟩
    rintro e t ⟨rfl, p, v2, v3, v4, v9, hp7, hP, hx, rfl⟩
    have hsum := txt_sum hP
    rw [List.length_map] at hsum
    have hlp : (txtP p).length ≤ 5000 := by
      rw [len_tl, tl_txtP]
      have h1 := joinL_len (S := [10]) (b := 400) (ps := p.map fun x => tl (rowT x.1 x.2)) fun q hq => by
        obtain ⟨x, hx, rfl⟩ := List.mem_map.mp hq
        have := rowT_len (hP.2 x hx).1 (hP.2 x hx).2
        rw [len_tl] at this; exact this
      rw [List.length_map, List.length_singleton] at h1
      have h2 : p.length * (400 + 1) ≤ 7 * (400 + 1) := Nat.mul_le_mul_right _ hp7
      omega
    have hpp := txtP_pl p
    have hjt : ∀ t : Store, fJoin t (D.str "\n") (D.lst ((p.map fun x => rowT x.1 x.2).map D.str)) = .ok (.str (txtP p)) t := fun t => by
      have e : (lsD t (.lst ((p.map fun x => rowT x.1 x.2).map D.str))).bind strsD = some (p.map fun x => rowT x.1 x.2) := strsD_map
      have hs := txt_sum hP
      simp only [fJoin, e, if_pos hs, txtP]
    generalize txtP p = x at hlp hpp hjt
    generalize (p.map fun x => rowT x.1 x.2).map D.str = rl at hjt
    simp only [ws_seq, Kt_eq]
    refine w_cut (fun e t => t = [] ∧ ∃ v1, noX [v1] = true ∧ e = [some (.scr ns), v1, v2, v3, v4, some (.str x), none, none, none, v9]) ?_ ?_
    · simp only [ws_pre]
      simp_arith [hjt]
      exact ⟨_, rfl, rfl⟩
    rintro e t ⟨rfl, v1, hx1, rfl⟩
    have hxx : ∀ a b c : D, noX [some a, some b, some c] = true → noX [some (.scr ns), v1, v2, v3, v4, some a, some b, some c, none, v9] = true := fun a b c h => by
      simp only [noX, List.all_cons, List.all_nil, Bool.and_true, Bool.and_eq_true] at hx hx1 h ⊢
      exact ⟨trivial, hx1, hx.1, hx.2.1, hx.2.2.1, h.1, h.2.1, h.2.2, trivial, hx.2.2.2⟩
    simp only [ws_seq, Kt_eq]
    refine w_cut (fun e t => t = [] ∧ ∃ y, Pl y ∧ y.length ≤ 90000 ∧ e = [some (.scr ns), v1, v2, v3, v4, some (.str y), none, none, none, v9]) ?_ ?_
    · by_cases h4 : z1 % 4 > 0
      · have hch := chg_any (s := []) (c := z2) hpp hlp
        simp_arith [hc1, hc2, h4]
        refine hch.imp (fun d s' h => ?_) (fun c s' h => h.elim)
        obtain ⟨rfl, y, hy, hyl, rfl⟩ := h
        simp_arith []
        exact ⟨y, hy, hyl, rfl⟩
      · simp_arith [hc1, hc2, h4]
        exact ⟨x, hpp, by omega, rfl⟩
    rintro e t ⟨rfl, y, hpy, hly, rfl⟩
    have hdu := due_eq (s := []) hpy hly
    simp only [ws_seq, Kt_eq]
    cases hr : readP y with
    | none =>
      have hdu : f__law_due [.str y] [] = .ok .non [] := by rw [hdu, hr]
      have hrd : ∀ t : Store, f_read [.str y] t = .exc 2 t := fun t => by
        have k := read_any (s := t) hpy hly
        have k2 : (f_read [.str y] t).W (fun _ _ => False) (fun c s' => s' = t ∧ c = 2) := k.imp (fun d s' h => by obtain ⟨rows, h, _⟩ := h; rw [hr] at h; cases h) (fun c s' h => ⟨h.1, h.2.1⟩)
        obtain ⟨c', s2, e, h1, h2⟩ := k2.exq
        rw [e, h1, h2]
      have q : fEq ([] : Store) (.tup [.bl true, .bl true, .bl false]) (.tup [.bl true, .bl true, .bl false]) = .ok (.bl true) [] := by kernel_rfl
      refine w_cut (fun e t => t = [] ∧ e = [some (.scr ns), v1, v2, v3, v4, some (.str y), some .non, none, none, v9]) ?_ ?_
      · simp_arith [hdu]
      rintro e t ⟨rfl, rfl⟩
      simp only [ws_seq, Kt_eq]
      refine w_cut (fun e t => t = [] ∧ e = [some (.scr ns), v1, v2, v3, v4, some (.str y), some .non, some .non, none, v9]) ?_ ?_
      · simp_arith []
      rintro e t ⟨rfl, rfl⟩
      simp only [ws_seq, Kt_eq]
      refine w_cut (fun e t => t = [] ∧ e = [some (.scr ns), v1, v2, v3, v4, some (.str y), some .non, some (.tup [.bl true, .bl true, .bl false]), none, v9]) ?_ ?_
      · simp_arith [hrd]
        exact ⟨hxx (.str y) .non .non rfl, hxx (.str y) .non (.tup [.bl true, .bl true, .bl false]) rfl⟩
      rintro e t ⟨rfl, rfl⟩
      simp_arith [q]
    | some rows =>
      have hdu : f__law_due [.str y] [] = .ok (.tup [.ref 0, .ref 1]) [.lst (dsL rows), .lst (nsL rows)] := by rw [hdu, hr]; rfl
      have hrd : f_read [.str y] [.lst (dsL rows), .lst (nsL rows)] = .ok (.tup [.ref 2, .ref 3]) [.lst (dsL rows), .lst (nsL rows), .lst (dsL rows), .lst (nsL rows)] := by
        have k := read_any (s := [.lst (dsL rows), .lst (nsL rows)]) hpy hly
        have k2 : (f_read [.str y] [.lst (dsL rows), .lst (nsL rows)]).W (fun d s' => d = (.tup [.ref 2, .ref 3]) ∧ s' = [.lst (dsL rows), .lst (nsL rows), .lst (dsL rows), .lst (nsL rows)]) X0 := k.imp (fun d s' h => by
          obtain ⟨rows', h, rfl, rfl⟩ := h
          rw [hr] at h; cases h
          exact ⟨rfl, rfl⟩) (fun c s' h => by rw [hr] at h; exact nomatch h.2.2)
        obtain ⟨d, s', e, rfl, rfl⟩ := k2.eq
        exact e
      have hok := readP_ok hpy hr
      have q : fEq [.lst (dsL rows), .lst (nsL rows), .lst (dsL rows), .lst (nsL rows)] (.tup [.ref 2, .ref 3]) (.tup [.ref 0, .ref 1]) = .ok (.bl true) [.lst (dsL rows), .lst (nsL rows), .lst (dsL rows), .lst (nsL rows)] :=
        fEq_py (toPy_t2 (toPy_ref rfl) (toPy_ref rfl)) (toPy_t2 (toPy_ref rfl) (toPy_ref rfl)) hok
      refine w_cut (fun e t => t = [.lst (dsL rows), .lst (nsL rows)] ∧ e = [some (.scr ns), v1, v2, v3, v4, some (.str y), some (.tup [.ref 0, .ref 1]), none, none, v9]) ?_ ?_
      · simp_arith [hdu]
      rintro e t ⟨rfl, rfl⟩
      simp only [ws_seq, Kt_eq]
      refine w_cut (fun e t => t = [.lst (dsL rows), .lst (nsL rows)] ∧ e = [some (.scr ns), v1, v2, v3, v4, some (.str y), some (.tup [.ref 0, .ref 1]), some .non, none, v9]) ?_ ?_
      · simp_arith []
      rintro e t ⟨rfl, rfl⟩
      simp only [ws_seq, Kt_eq]
      refine w_cut (fun e t => t = [.lst (dsL rows), .lst (nsL rows), .lst (dsL rows), .lst (nsL rows)] ∧ e = [some (.scr ns), v1, v2, v3, v4, some (.str y), some (.tup [.ref 0, .ref 1]), some (.tup [.ref 2, .ref 3]), none, v9]) ?_ ?_
      · simp_arith [hrd]
      rintro e t ⟨rfl, rfl⟩
      simp_arith [q]
  obtain ⟨d, s', e, rfl⟩ := key.eq
  exact ⟨s', e⟩
end
end Lw
open PySem PySem.W PySem.Calls PyProof.Rows
set_option maxRecDepth 100000 in
set_option maxHeartbeats 0 in
theorem PySem.Challenge.cw_gleanyard_k17_texts_read_or_refused_holds : PySem.Challenge.rw_gleanyard_k17_texts_read_or_refused.Holds := by
  w_on; o_law
  refine HandSHeadRun.head_any (r := OpenLaw.row PySem.Challenge.rw_gleanyard_k17_texts_read_or_refused) (q := view (OpenLaw.row PySem.Challenge.rw_gleanyard_k17_texts_read_or_refused).prog [21]) (H := Lw.hk) (ob := Lw.ob) (M := 20000) (loose := Lw.names) (d := HandSHeadRun.topDef (OpenLaw.row PySem.Challenge.rw_gleanyard_k17_texts_read_or_refused).prog 21) (kwd := []) Lw.ob_eq
    (by kernel_rfl) (fun s => by kernel_rfl) Lw.run (by kernel_rfl) (by kernel_rfl) (by kernel_rfl) (by rfl) (by first | assumption | decide +kernel) (by decide +kernel) ⟨rfl, rfl, rfl, rfl, rfl, by decide +kernel⟩ ?hw ?hc
  case hw => w_witness2
  case hc =>
    refine Gm.walk_w (l := PySem.Challenge.rw_gleanyard_k17_texts_read_or_refused) (n := 63) (k := 5) (x := "script") (CX := fun w => L2.CX (PySem.Challenge.rw_gleanyard_k17_texts_read_or_refused).prog w) rfl (by decide) (by kernel_rfl) ⟨rfl, by decide, by decide⟩ ?F (fun w H s e s' z => Gm.cx_false H s e s' z)
    intro w mg fa h Y G hmg0
    obtain ⟨K, KX, c, ce, ct⟩ := Y
    have hmg : mg ("law" : PySem.Str) = some (.ref fa) := by
      have e : (HandSHeadRun.topDef (OpenLaw.row PySem.Challenge.rw_gleanyard_k17_texts_read_or_refused).prog 21).name = ("law" : PySem.Str) := by kernel_rfl
      rw [← e]
      exact hmg0
    have T := Lw.facts KX G c ce ct
    have ea := hmg.symm.trans T.g_law
    cases ea
    obtain ⟨fd, F⟩ := T.f_law
    have b := L2.FunD.bindsA (ps := ["script"]) F fun _ _ _ _ _ _ us hl => match us, hl with | [_], _ => rfl
    refine ⟨K, fd, Gm.spOf ⟨K, Lw.acls K, none⟩ 1 Lw.f_law, KX, fun s v => b s [v] rfl, Gm.law_in Lw.main, fun base _ _ => ?_⟩
    exact Lw.ok_law T F
