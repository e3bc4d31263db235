import PyProof.Rows.All
import Wide.All
import OpenK.AllK
import Wide.FinOn
import HandS.ForMost
import HandS.Wide
import HandS.Walk
import HandS.Defaults
import HandS.HeadEnd
import HandS.HeadHook2
import HandS.TupAny
import HandS.Style
import HandS.Gcd
import HandS.IsInst
import HandS.Deep
import KE.SortData
import HandS.TupLen
import HandS.WordsDict
import HandS.DictComp
import HandS.Head0
import HandS.Head1
import HandS.Head2
import HandS.HeadHook1
import HandS.SetFor
import HandS.Strs
import HandS.Head3
import PySem.Challenge.RW_loomwork_k49_families_of_kin
set_option Elab.async false
set_option linter.all false
set_option maxRecDepth 100000
set_option maxHeartbeats 1000000
namespace Y
open PySem L2
abbrev D := PyData

/-! ### two ways to say what is computed: Option (no draws), Gen (draws) -/
class PM (μ : Type → Type) where
  pur : {α : Type} → α → μ α
  bnd : {α β : Type} → μ α → (α → μ β) → μ β
  lif : {α : Type} → Option α → μ α
  den : {α : Type} → μ α → (α → Prop) → Prop
  den_pur : ∀ {α : Type} {a : α} {Q : α → Prop}, den (pur a) Q → Q a
  den_bnd : ∀ {α β : Type} {x : μ α} {f : α → μ β} {Q : β → Prop}, den (bnd x f) Q → den x (fun a => den (f a) Q)
  den_lif : ∀ {α : Type} {o : Option α} {Q : α → Prop}, den (lif o) Q → ∃ a, o = some a ∧ Q a
  den_mono : ∀ {α : Type} {x : μ α} {Q Q' : α → Prop}, (∀ a, Q a → Q' a) → den x Q → den x Q'
  den_pur' : ∀ {α : Type} {a : α} {Q : α → Prop}, Q a → den (pur a) Q
  den_bnd' : ∀ {α β : Type} {x : μ α} {f : α → μ β} {Q : β → Prop}, den x (fun a => den (f a) Q) → den (bnd x f) Q
open PM
instance : PM Option where
  pur := some
  bnd := Option.bind
  lif := id
  den := fun o Q => ∃ a, o = some a ∧ Q a
  den_pur := fun ⟨_, e, q⟩ => by cases e; exact q
  den_bnd := by
    intro α β x f Q h
    obtain ⟨b, e, q⟩ := h
    cases x with
    | none => cases e
    | some a => exact ⟨a, rfl, b, e, q⟩
  den_lif := fun h => h
  den_mono := fun h ⟨a, e, q⟩ => ⟨a, e, h a q⟩
  den_pur' := fun q => ⟨_, rfl, q⟩
  den_bnd' := fun ⟨_, e, b, e2, q⟩ => ⟨b, by rw [e]; exact e2, q⟩
inductive Gen (α : Type) : Type where
  | ret (a : α)
  | fail
  | draw (n : Int) (f : Int → Gen α)
namespace Gen
def bind {α β : Type} : Gen α → (α → Gen β) → Gen β
  | .ret a, f => f a
  | .fail, _ => .fail
  | .draw n g, f => .draw n fun k => bind (g k) f
def all {α : Type} : Gen α → (α → Prop) → Prop
  | .ret a, Q => Q a
  | .fail, _ => False
  | .draw n g, Q => 0 < n ∧ ∀ k, 0 ≤ k → k < n → all (g k) Q
def lift {α : Type} : Option α → Gen α
  | some a => .ret a
  | none => .fail
theorem all_bind {α β : Type} {f : α → Gen β} {Q : β → Prop} : ∀ {x : Gen α}, (bind x f).all Q → x.all fun a => (f a).all Q
  | .ret _, h => h
  | .fail, h => h
  | .draw _ _, h => ⟨h.1, fun k h0 h1 => all_bind (h.2 k h0 h1)⟩
theorem all_bind' {α β : Type} {f : α → Gen β} {Q : β → Prop} : ∀ {x : Gen α}, (x.all fun a => (f a).all Q) → (bind x f).all Q
  | .ret _, h => h
  | .fail, h => h
  | .draw _ _, h => ⟨h.1, fun k h0 h1 => all_bind' (h.2 k h0 h1)⟩
theorem all_mono {α : Type} {Q Q' : α → Prop} (m : ∀ a, Q a → Q' a) : ∀ {x : Gen α}, x.all Q → x.all Q'
  | .ret _, h => m _ h
  | .fail, h => h
  | .draw _ _, h => ⟨h.1, fun k h0 h1 => all_mono m (h.2 k h0 h1)⟩
end Gen
instance : PM Gen where
  pur := .ret
  bnd := Gen.bind
  lif := Gen.lift
  den := Gen.all
  den_pur := fun h => h
  den_bnd := Gen.all_bind
  den_lif := by
    intro α o Q h
    cases o with
    | none => exact h.elim
    | some a => exact ⟨a, rfl, h⟩
  den_mono := fun h x => Gen.all_mono h x
  den_pur' := fun q => q
  den_bnd' := Gen.all_bind'

/-! ### data in a heap -/
def keyD : Key → D
  | .inl i => .int i
  | .inr x => .str x
mutual
inductive Rep (K : PySem.W.Frag) (F : Hp) : V → D → Prop
  | non : Rep K F .non .none
  | bl (b : Bool) : Rep K F (.bl b) (.bool b)
  | int (i : Int) : Rep K F (.int i) (.int i)
  | str (x : Str) : Rep K F (.str x) (.str x)
  | lst {a : Addr} {xs : List V} {ds : List D} : F a = some (.lst xs) → Reps K F xs ds → Rep K F (.ref a) (.list ds)
  | tup {a : Addr} {xs : List V} {ds : List D} : F a = some (.tup xs) → Reps K F xs ds → Rep K F (.ref a) (.tuple ds)
  | dK {a : Addr} {kvs : List (Key × V)} {ds : List (D × D)} : Rd F a (.dK kvs) → RepK K F kvs ds → Rep K F (.ref a) (.dict ds)
  | dT {a : Addr} {kvs : List (List Key × V)} {ds : List (D × D)} : Rd F a (.dT kvs) → RepT K F kvs ds → Rep K F (.ref a) (.dict ds)
inductive Reps (K : PySem.W.Frag) (F : Hp) : List V → List D → Prop
  | nil : Reps K F [] []
  | cons {v : V} {vs : List V} {d : D} {ds : List D} : Rep K F v d → Reps K F vs ds → Reps K F (v :: vs) (d :: ds)
inductive RepK (K : PySem.W.Frag) (F : Hp) : List (Key × V) → List (D × D) → Prop
  | nil : RepK K F [] []
  | cons {k : Key} {v : V} {kvs : List (Key × V)} {d : D} {ds : List (D × D)} : Rep K F v d → RepK K F kvs ds → RepK K F ((k, v) :: kvs) ((keyD k, d) :: ds)
inductive RepT (K : PySem.W.Frag) (F : Hp) : List (List Key × V) → List (D × D) → Prop
  | nil : RepT K F [] []
  | cons {k : List Key} {v : V} {kvs : List (List Key × V)} {d : D} {ds : List (D × D)} : Rep K F v d → RepT K F kvs ds → RepT K F ((k, v) :: kvs) ((.tuple (k.map keyD), d) :: ds)
end

/-- dicts: a loop locks them -/
def isD : HO → Prop
  | .dK _ => True
  | .dT _ => True
  | _ => False
/-- the frozen part lies in the heap -/
def FH (F H : Hp) : Prop := ∀ a o, F a = some o → H a = some o ∨ (isD o ∧ ∃ ob, H a = some (.frz ob o))
section
variable {K : PySem.W.Frag} {F F' H H' : Hp}
theorem FH.l (f : FH F H) {a : Addr} {xs : List V} (h : SqL K F a xs) : SqL K H a xs := by
  rcases h with (h | ⟨o, h⟩) | h
  · rcases f a _ h with q | ⟨z, _⟩
    · exact .inl (.inl q)
    · exact z.elim
  · rcases f a _ h with q | ⟨z, _⟩
    · exact .inl (.inr ⟨o, q⟩)
    · exact z.elim
  · exact .inr h
theorem FH.lst (f : FH F H) {a : Addr} {xs : List V} (h : F a = some (.lst xs)) : H a = some (.lst xs) := by
  rcases f a _ h with q | ⟨z, _⟩
  · exact q
  · exact z.elim
theorem FH.tup (f : FH F H) {a : Addr} {xs : List V} (h : F a = some (.tup xs)) : H a = some (.tup xs) := by
  rcases f a _ h with q | ⟨z, _⟩
  · exact q
  · exact z.elim
theorem FH.t (f : FH F H) {a : Addr} {xs : List V} (h : SqT K F a xs) : SqT K H a xs := by
  rcases h with (h | ⟨o, h⟩) | h
  · rcases f a _ h with q | ⟨z, _⟩
    · exact .inl (.inl q)
    · exact z.elim
  · rcases f a _ h with q | ⟨z, _⟩
    · exact .inl (.inr ⟨o, q⟩)
    · exact z.elim
  · exact .inr h
theorem FH.d (f : FH F H) {a : Addr} {u : HO} (hu : isD u) (h : Rd F a u) : Rd H a u := by
  rcases h with h | ⟨o, h⟩
  · rcases f a _ h with q | ⟨_, ob, q⟩
    · exact .inl q
    · exact .inr ⟨ob, q⟩
  · rcases f a _ h with q | ⟨z, _⟩
    · exact .inr ⟨o, q⟩
    · exact z.elim
mutual
theorem Rep.up (f : FH F H) : ∀ {v : V} {d : D}, Rep K F v d → Rep K H v d
  | _, _, .non => .non
  | _, _, .bl b => .bl b
  | _, _, .int i => .int i
  | _, _, .str x => .str x
  | _, _, .lst h r => .lst (f.lst h) (Reps.up f r)
  | _, _, .tup h r => .tup (f.tup h) (Reps.up f r)
  | _, _, .dK h r => .dK (f.d trivial h) (RepK.up f r)
  | _, _, .dT h r => .dT (f.d trivial h) (RepT.up f r)
theorem Reps.up (f : FH F H) : ∀ {vs : List V} {ds : List D}, Reps K F vs ds → Reps K H vs ds
  | _, _, .nil => .nil
  | _, _, .cons h r => .cons (Rep.up f h) (Reps.up f r)
theorem RepK.up (f : FH F H) : ∀ {vs : List (Key × V)} {ds : List (D × D)}, RepK K F vs ds → RepK K H vs ds
  | _, _, .nil => .nil
  | _, _, .cons h r => .cons (Rep.up f h) (RepK.up f r)
theorem RepT.up (f : FH F H) : ∀ {vs : List (List Key × V)} {ds : List (D × D)}, RepT K F vs ds → RepT K H vs ds
  | _, _, .nil => .nil
  | _, _, .cons h r => .cons (Rep.up f h) (RepT.up f r)
end
theorem FH.of_same (s : ∀ a o, F a = some o → H a = some o) : FH F H := fun a o e => .inl (s a o e)

theorem Reps.length : ∀ {vs : List V} {ds : List D}, Reps K F vs ds → vs.length = ds.length
  | _, _, .nil => rfl
  | _, _, .cons _ r => by simp [r.length]
theorem Reps.get : ∀ {vs : List V} {ds : List D} {i : Nat} {d : D}, Reps K F vs ds → ds[i]? = some d → ∃ v, vs[i]? = some v ∧ Rep K F v d
  | _, _, _, _, .nil, e => by simp at e
  | _, _, 0, _, .cons r _, e => by simp at e; subst e; exact ⟨_, rfl, r⟩
  | _, _, i + 1, d, .cons _ t, e => by
    obtain ⟨u, h1, h2⟩ := Reps.get (i := i) (d := d) t (by simpa using e)
    exact ⟨u, by simpa using h1, h2⟩
theorem Reps.app : ∀ {vs us : List V} {ds es : List D}, Reps K F vs ds → Reps K F us es → Reps K F (vs ++ us) (ds ++ es)
  | _, _, _, _, .nil, h => h
  | _, _, _, _, .cons r t, h => .cons r (t.app h)
theorem Reps.drop : ∀ {vs : List V} {ds : List D} (n : Nat), Reps K F vs ds → Reps K F (vs.drop n) (ds.drop n)
  | _, _, 0, r => r
  | _, _, _ + 1, .nil => .nil
  | _, _, n + 1, .cons _ t => t.drop n
theorem Reps.take : ∀ {vs : List V} {ds : List D} (n : Nat), Reps K F vs ds → Reps K F (vs.take n) (ds.take n)
  | _, _, 0, _ => .nil
  | _, _, _ + 1, .nil => .nil
  | _, _, n + 1, .cons r t => .cons r (t.take n)
theorem Reps.set {v : V} {d : D} (r : Rep K F v d) : ∀ {vs : List V} {ds : List D} (i : Nat), Reps K F vs ds → Reps K F (vs.set i v) (ds.set i d)
  | _, _, _, .nil => .nil
  | _, _, 0, .cons _ t => .cons r t
  | _, _, i + 1, .cons q t => .cons q (t.set r i)
theorem Reps.ints : ∀ {ns : List Int}, Reps K F (ns.map V.int) (ns.map .int)
  | [] => .nil
  | n :: _ => .cons (.int n) Reps.ints
theorem Reps.of_ints : ∀ {vs : List V} {ns : List Int}, Reps K F vs (ns.map .int) → vs = ns.map V.int
  | _, [], h => by cases h; rfl
  | _, n :: ns, h => by
    have h' : Reps K F _ (PyData.int n :: ns.map .int) := h
    cases h' with
    | cons r t => cases r; rw [Reps.of_ints t]; rfl
end

/-! ### growth -/
def PoolOk (K : PySem.W.Frag) (F H : Hp) (p : Option Addr) : Prop := ∀ a, p = some a → F a = none ∧
  ∃ (sa : Addr) (i j k : Int) (ns : List Int), H a = some (.lst [.ref sa, .int i, .int j, .int k]) ∧ SqL K F sa (ns.map V.int)
structure Grow (K : PySem.W.Frag) (p : Option Addr) (F H F' H' : Hp) : Prop where
  ff : ∀ a o, F a = some o → F' a = some o
  nw : ∀ a, H a ≠ none → F' a = F a
  hh : ∀ a o, H a = some o → p ≠ some a → H' a = some o
  dm : ∀ a, H a ≠ none → H' a ≠ none
  fh : FH F' H'
  pl : PoolOk K F H p → PoolOk K F' H' p
section
variable {K : PySem.W.Frag} {p : Option Addr} {F F' F1 F2 H H' H1 H2 : Hp}
theorem Grow.refl (f : FH F H) : Grow K p F H F H := ⟨fun _ _ h => h, fun _ _ => rfl, fun _ _ h _ => h, fun _ h => h, f, fun h => h⟩
theorem Grow.trans (a : Grow K p F H F1 H1) (b : Grow K p F1 H1 F2 H2) : Grow K p F H F2 H2 :=
  ⟨fun x o h => b.ff x o (a.ff x o h), fun x h => (b.nw x (a.dm x h)).trans (a.nw x h), fun x o h n => b.hh x o (a.hh x o h n) n, fun x h => b.dm x (a.dm x h), b.fh, fun h => b.pl (a.pl h)⟩
theorem ne_none_of {x : Addr} {o : HO} (h : H x = some o) : H x ≠ none := by rw [h]; exact fun e => nomatch e
theorem FH.dom (f : FH F H) {a : Addr} (h : H a = none) : F a = none := by
  cases e : F a with
  | none => rfl
  | some o =>
    rcases f a o e with q | ⟨_, _, q⟩ <;> (rw [h] at q; cases q)
theorem Grow.up (g : Grow K p F H F' H') : FH F F' := FH.of_same g.ff
/-- a new object, frozen at once -/
theorem Grow.new {a : Addr} {o : HO} (f : FH F H) (h : H a = none) : Grow K p F H (upd F a o) (upd H a o) where
  ff := fun b u e => by rw [upd_ne (fun z => by subst z; rw [f.dom h] at e; cases e)]; exact e
  nw := fun b hb => by rw [upd_ne (fun z => hb (by rw [z]; exact h))]
  hh := fun b u e _ => by rw [upd_ne (fun z => by subst z; rw [h] at e; cases e)]; exact e
  dm := fun b hb => by
    rw [upd_ne (fun z => hb (by rw [z]; exact h))]; exact hb
  fh := fun b u e => by
    by_cases hb : b = a
    · subst hb; rw [upd_same] at e; cases e; exact .inl upd_same
    · rw [upd_ne hb] at e; rw [upd_ne hb]; exact f b u e
  pl := fun q b e => by
    obtain ⟨h1, sa, i, j, k, ns, h2, h3⟩ := q b e
    have hb : b ≠ a := fun z => by subst z; rw [h] at h2; cases h2
    refine ⟨by rw [upd_ne hb]; exact h1, sa, i, j, k, ns, by rw [upd_ne hb]; exact h2, ?_⟩
    refine FH.l (FH.of_same fun c u q => ?_) h3
    rw [upd_ne (fun z => by subst z; rw [f.dom h] at q; cases q)]; exact q
/-- a new object, not frozen -/
theorem Grow.raw {a : Addr} {o : HO} (f : FH F H) (h : H a = none) : Grow K p F H F (upd H a o) where
  ff := fun b u e => e
  nw := fun b hb => rfl
  hh := fun b u e _ => by rw [upd_ne (fun z => by subst z; rw [h] at e; cases e)]; exact e
  dm := fun b hb => by
    rw [upd_ne (fun z => hb (by rw [z]; exact h))]; exact hb
  fh := fun b u e => by
    have hb : b ≠ a := fun z => by subst z; rw [f.dom h] at e; cases e
    rw [upd_ne hb]; exact f b u e
  pl := fun q b e => by
    obtain ⟨h1, sa, i, j, k, ns, h2, h3⟩ := q b e
    have hb : b ≠ a := fun z => by subst z; rw [h] at h2; cases h2
    exact ⟨h1, sa, i, j, k, ns, by rw [upd_ne hb]; exact h2, h3⟩
/-- a new object of the heap is frozen later -/
theorem Grow.freeze {a : Addr} {o : HO} (g : Grow K p F H F' H') (h : H a = none) (hp : p ≠ some a) (h1 : F' a = none) (h2 : H' a = some o) : Grow K p F H (upd F' a o) H' where
  ff := fun b u e => by
    have := g.ff b u e
    rw [upd_ne (fun z => by subst z; rw [h1] at this; cases this)]; exact this
  nw := fun b hb => by rw [upd_ne (fun z => hb (by rw [z]; exact h))]; exact g.nw b hb
  hh := g.hh
  dm := g.dm
  fh := fun b u e => by
    by_cases hb : b = a
    · subst hb; rw [upd_same] at e; cases e; exact .inl h2
    · rw [upd_ne hb] at e; exact g.fh b u e
  pl := fun q b e => by
    obtain ⟨h1', sa, i, j, k, ns, h2', h3⟩ := g.pl q b e
    have hb : b ≠ a := fun z => hp (z ▸ e)
    refine ⟨by rw [upd_ne hb]; exact h1', sa, i, j, k, ns, h2', ?_⟩
    refine FH.l (FH.of_same fun c u q => ?_) h3
    rw [upd_ne (fun z => by subst z; rw [h1] at q; cases q)]; exact q
end

/-! ### a node whose parts are frozen -/
def Node (K : PySem.W.Frag) (F H : Hp) (l : Addr) : D → Prop
  | .list ds => ∃ xs, H l = some (.lst xs) ∧ Reps K F xs ds
  | .dict ds => (∃ kvs, H l = some (.dK kvs) ∧ RepK K F kvs ds) ∨ (∃ kvs, H l = some (.dT kvs) ∧ RepT K F kvs ds)
  | _ => False
section
variable {K : PySem.W.Frag} {p : Option Addr} {F F' F1 F2 H H' H1 H2 : Hp} {l : Addr} {d : D} {v : V}
theorem Node.here (n : Node K F H l d) : ∃ o, H l = some o := by
  cases d with
  | list ds => exact ⟨_, n.choose_spec.1⟩
  | dict ds => rcases n with ⟨_, h, _⟩ | ⟨_, h, _⟩ <;> exact ⟨_, h⟩
  | _ => exact n.elim
theorem Node.mono (f : FH F F') (h : ∀ o, H l = some o → H' l = some o) (n : Node K F H l d) : Node K F' H' l d := by
  cases d with
  | list ds => obtain ⟨xs, e, r⟩ := n; exact ⟨xs, h _ e, r.up f⟩
  | dict ds =>
    rcases n with ⟨kvs, e, r⟩ | ⟨kvs, e, r⟩
    · exact .inl ⟨kvs, h _ e, r.up f⟩
    · exact .inr ⟨kvs, h _ e, r.up f⟩
  | _ => exact n.elim
theorem Node.grow (g : Grow K p F H F' H') (hp : p ≠ some l) (n : Node K F H l d) : Node K F' H' l d := n.mono g.up fun o e => g.hh l o e hp
theorem Node.rep (f : FH F H) (n : Node K F H l d) : Rep K H (.ref l) d := by
  cases d with
  | list ds => obtain ⟨xs, e, r⟩ := n; exact .lst e (r.up f)
  | dict ds =>
    rcases n with ⟨kvs, e, r⟩ | ⟨kvs, e, r⟩
    · exact .dK (.inl e) (r.up f)
    · exact .dT (.inl e) (r.up f)
  | _ => exact n.elim
/-- a node's object frozen: it reads in the frozen part -/
theorem Node.frozen {o : HO} (n : Node K F H l d) (e : H l = some o) (h1 : F l = none) : Rep K (upd F l o) (.ref l) d := by
  have f : FH F (upd F l o) := FH.of_same fun c u q => by
    rw [upd_ne (fun z => by subst z; rw [h1] at q; cases q)]; exact q
  cases d with
  | list ds => obtain ⟨xs, e', r⟩ := n; rw [e] at e'; cases e'; exact .lst upd_same (r.up f)
  | dict ds =>
    rcases n with ⟨kvs, e', r⟩ | ⟨kvs, e', r⟩
    · rw [e] at e'; cases e'; exact .dK (.inl upd_same) (r.up f)
    · rw [e] at e'; cases e'; exact .dT (.inl upd_same) (r.up f)
  | _ => exact n.elim
/-- frozen, or a node of the heap whose parts are frozen -/
def Top (K : PySem.W.Frag) (p : Option Addr) (F H : Hp) (v : V) (d : D) : Prop := Rep K F v d ∨ ∃ l, v = .ref l ∧ p ≠ some l ∧ Node K F H l d
theorem Top.rep (f : FH F H) (t : Top K p F H v d) : Rep K H v d := by
  rcases t with r | ⟨l, rfl, _, n⟩
  · exact r.up f
  · exact n.rep f
theorem Top.grow (g : Grow K p F H F' H') (t : Top K p F H v d) : Top K p F' H' v d := by
  rcases t with r | ⟨l, e, hp, n⟩
  · exact .inl (r.up g.up)
  · exact .inr ⟨l, e, hp, n.grow g hp⟩
theorem Top.list {ds : List D} (f : FH F H) (t : Top K p F H v (.list ds)) : ∃ l xs, v = .ref l ∧ H l = some (.lst xs) ∧ Reps K F xs ds := by
  rcases t with r | ⟨l, rfl, _, n⟩
  · cases r with
    | lst h r => exact ⟨_, _, rfl, f.lst h, r⟩
  · obtain ⟨xs, e, r⟩ := n
    exact ⟨l, xs, rfl, e, r⟩
theorem Top.tuple {ds : List D} (f : FH F H) (t : Top K p F H v (.tuple ds)) : ∃ l xs, v = .ref l ∧ H l = some (.tup xs) ∧ Reps K F xs ds := by
  rcases t with r | ⟨l, rfl, _, n⟩
  · cases r with
    | tup h r => exact ⟨_, _, rfl, f.tup h, r⟩
  · exact n.elim
theorem Top.tup_rep {ds : List D} (t : Top K p F H v (.tuple ds)) : Rep K F v (.tuple ds) := by
  rcases t with r | ⟨l, rfl, _, n⟩
  · exact r
  · exact n.elim
theorem Top.dict {ds : List (D × D)} (f : FH F H) (t : Top K p F H v (.dict ds)) : ∃ l, v = .ref l ∧ ((∃ kvs, Rd H l (.dK kvs) ∧ RepK K F kvs ds) ∨ ∃ kvs, Rd H l (.dT kvs) ∧ RepT K F kvs ds) := by
  rcases t with r | ⟨l, rfl, _, n⟩
  · cases r with
    | dK h r => exact ⟨_, rfl, .inl ⟨_, f.d trivial h, r⟩⟩
    | dT h r => exact ⟨_, rfl, .inr ⟨_, f.d trivial h, r⟩⟩
  · rcases n with ⟨kvs, e, r⟩ | ⟨kvs, e, r⟩
    · exact ⟨l, rfl, .inl ⟨kvs, .inl e, r⟩⟩
    · exact ⟨l, rfl, .inr ⟨kvs, .inl e, r⟩⟩
theorem Top.int {i : Int} (t : Top K p F H v (.int i)) : v = .int i := by
  rcases t with r | ⟨l, rfl, _, n⟩
  · cases r; rfl
  · exact n.elim
theorem Top.bool {i : Bool} (t : Top K p F H v (.bool i)) : v = .bl i := by
  rcases t with r | ⟨l, rfl, _, n⟩
  · cases r; rfl
  · exact n.elim
theorem Top.str {i : Str} (t : Top K p F H v (.str i)) : v = .str i := by
  rcases t with r | ⟨l, rfl, _, n⟩
  · cases r; rfl
  · exact n.elim
theorem Top.none (t : Top K p F H v .none) : v = .non := by
  rcases t with r | ⟨l, rfl, _, n⟩
  · cases r; rfl
  · exact n.elim
end

/-! ### slots -/
inductive Slot where
  | any
  | val (d : D)
  | lkd (d : D)
  | own (d : D)
  | top (d : D)
  | pool
structure Ent where
  p : Option Addr
  F : Hp
  H : Hp
  L : List (Addr × Obj × HO) := []
def SlotOk (K : PySem.W.Frag) (Z : Ent) (F : Hp) (O : Addr → Option Nat) (H : Hp) (i : Nat) : Slot → Option (Option V) → Prop
  | .any, _ => True
  | .val d, v => ∃ x, v = some (some x) ∧ Rep K F x d
  | .lkd d, v => ∃ a od u, v = some (some (.ref a)) ∧ (a, od, u) ∈ Z.L ∧ Rep K F (.ref a) d
  | .own d, v => ∃ l, v = some (some (.ref l)) ∧ O l = some i ∧ Node K F H l d
  | .top d, v => ∃ x, v = some (some x) ∧ (Rep K F x d ∨ ∃ l, x = .ref l ∧ Z.p ≠ some l ∧ O l = none ∧ Node K F H l d)
  | .pool, v => ∃ a, v = some (some (.ref a)) ∧ Z.p = some a
structure Bk (K : PySem.W.Frag) (Z : Ent) (F : Hp) (O : Addr → Option Nat) (H : Hp) : Prop where
  fh : FH F H
  zf : ∀ a o, Z.F a = some o → F a = some o
  zn : ∀ a, Z.H a ≠ none → F a = Z.F a
  zh : ∀ a o, Z.H a = some o → Z.p ≠ some a → (∀ q ∈ Z.L, q.1 ≠ a) → H a = some o
  zd : ∀ a, Z.H a ≠ none → H a ≠ none
  zl : ∀ q ∈ Z.L, H q.1 = some (.frz q.2.1 q.2.2)
  zo : ∀ a, Z.H a ≠ none → O a = none
  fo : ∀ a, F a ≠ none → O a = none
  ho : ∀ a, H a = none → O a = none
  po : ∀ a, Z.p = some a → O a = none
  pl : PoolOk K F H Z.p
structure Ok (K : PySem.W.Frag) (Z : Ent) (Γ : List Slot) (F : Hp) (O : Addr → Option Nat) (H : Hp) (σ : St) : Prop extends Bk K Z F O H where
  ln : σ.length = Γ.length
  sl : ∀ (i : Nat) (s : Slot), Γ[i]? = some s → SlotOk K Z F O H i s σ[i]?
section
variable {K : PySem.W.Frag} {Z : Ent} {Γ Γ' : List Slot} {F F' H H' : Hp} {O : Addr → Option Nat} {σ : St} {d : D} {i : Nat}
theorem Bk.np (ok : Bk K Z F O H) {l : Addr} {j : Nat} (h : O l = some j) : Z.p ≠ some l := fun e => by rw [ok.po l e] at h; cases h
theorem Bk.grow (ok : Bk K Z F O H) (g : Grow K Z.p F H F' H') : Bk K Z F' O H' where
  fh := g.fh
  zf := fun a o h => g.ff a o (ok.zf a o h)
  zn := fun a h => (g.nw a (ok.zd a h)).trans (ok.zn a h)
  zh := fun a o h n q => g.hh a o (ok.zh a o h n q) n
  zd := fun a h => g.dm a (ok.zd a h)
  zl := fun q hq => g.hh _ _ (ok.zl q hq) fun e => by
    obtain ⟨_, _, _, _, _, _, h2, _⟩ := ok.pl q.1 e
    rw [ok.zl q hq] at h2; cases h2
  zo := ok.zo
  fo := fun a h => by
    cases e : H a with
    | none => exact ok.ho a e
    | some o => rw [g.nw a (ne_none_of e)] at h; exact ok.fo a h
  ho := fun a h => by
    cases e : H a with
    | none => exact ok.ho a e
    | some o => exact absurd h (g.dm a (ne_none_of e))
  po := ok.po
  pl := g.pl ok.pl
theorem Ok.grow (ok : Ok K Z Γ F O H σ) (g : Grow K Z.p F H F' H') : Ok K Z Γ F' O H' σ where
  toBk := ok.toBk.grow g
  ln := ok.ln
  sl := fun i s e => by
    have q := ok.sl i s e
    cases s with
    | any => trivial
    | val d => obtain ⟨x, e1, r⟩ := q; exact ⟨x, e1, r.up g.up⟩
    | lkd d => obtain ⟨a, od, u, e1, e2, r⟩ := q; exact ⟨a, od, u, e1, e2, r.up g.up⟩
    | own d => obtain ⟨l, e1, e2, n⟩ := q; exact ⟨l, e1, e2, n.grow g (ok.np e2)⟩
    | top d =>
      obtain ⟨x, e1, t⟩ := q
      refine ⟨x, e1, ?_⟩
      rcases t with r | ⟨l, e2, e3, e4, n⟩
      · exact .inl (r.up g.up)
      · exact .inr ⟨l, e2, e3, e4, n.grow g e3⟩
    | pool => exact q
theorem Ok.top_own (ok : Ok K Z Γ F O H σ) (h : Γ[i]? = some (.own d)) : ∃ x, σ[i]? = some (some x) ∧ Top K Z.p F H x d := by
  obtain ⟨l, e1, e2, n⟩ := ok.sl i _ h
  exact ⟨_, e1, .inr ⟨l, rfl, ok.np e2, n⟩⟩
theorem Ok.top_top (ok : Ok K Z Γ F O H σ) (h : Γ[i]? = some (.top d)) : ∃ x, σ[i]? = some (some x) ∧ Top K Z.p F H x d := by
  obtain ⟨x, e1, t⟩ := ok.sl i _ h
  refine ⟨x, e1, ?_⟩
  rcases t with r | ⟨l, e2, e3, e4, n⟩
  · exact .inl r
  · exact .inr ⟨l, e2, e3, n⟩
end

/-! ### families of contexts -/
structure Fam (ι : Type) where
  X : ι → Cx
  P : Program
  w : World
  K : PySem.W.Frag
  mg : Str → Option Value
  base : Heap
  N : List Str
  k : Nat
  eP : ∀ i, (X i).prog = P
  ew : ∀ i, (X i).w = w
  eK : ∀ i, (X i).K = K
  eg : ∀ i, (X i).mg = mg
  eb : ∀ i, (X i).base = base
  eN : ∀ i, (X i).N = N
  ec : ∀ i, (X i).calm = true
  rm : ∀ i, Room k (X i).A
  nd : N.Nodup
abbrev Fam.nx {ι : Type} (f : Fam ι) : ι → Cx := f.X
section
variable {ι : Type} {μ : Type → Type} [PM μ]
/-- t gives what m says: frozen | as a node with frozen parts | as a new node with frozen parts -/
def RD (K : PySem.W.Frag) (Γ : List Slot) (t : TE) (m : μ D) : Prop := ∀ (Z : Ent) (F : Hp) (O : Addr → Option Nat) (H : Hp) (σ : St) (Q : VK), Ok K Z Γ F O H σ →
  den m (fun d => ∀ v F' H', Grow K Z.p F H F' H' → Rep K F' v d → Q v H') → t σ H Q
def RDT (K : PySem.W.Frag) (Γ : List Slot) (t : TE) (m : μ D) : Prop := ∀ (Z : Ent) (F : Hp) (O : Addr → Option Nat) (H : Hp) (σ : St) (Q : VK), Ok K Z Γ F O H σ →
  den m (fun d => ∀ v F' H', Grow K Z.p F H F' H' → Top K Z.p F' H' v d → Q v H') → t σ H Q
def RDN (K : PySem.W.Frag) (Γ : List Slot) (t : TE) (m : μ D) : Prop := ∀ (Z : Ent) (F : Hp) (O : Addr → Option Nat) (H : Hp) (σ : St) (Q : VK), Ok K Z Γ F O H σ →
  den m (fun d => ∀ l F' H', Grow K Z.p F H F' H' → H l = none → F' l = none → Node K F' H' l d → Q (.ref l) H') → t σ H Q
/-- a test -/
def RDB (K : PySem.W.Frag) (Γ : List Slot) (t : TT) (m : μ Bool) : Prop := ∀ (Z : Ent) (F : Hp) (O : Addr → Option Nat) (H : Hp) (σ : St) (Q : Bool → Hp → Prop), Ok K Z Γ F O H σ →
  den m (fun b => ∀ F' H', Grow K Z.p F H F' H' → Q b H') → t σ H Q
def EX (f : Fam ι) (Γ : List Slot) (e : Expr) (m : μ D) : Prop := ∃ t, (∀ i, PE (f.X i) e t) ∧ RD f.K Γ t m
def EXT (f : Fam ι) (Γ : List Slot) (e : Expr) (m : μ D) : Prop := ∃ t, (∀ i, PE (f.X i) e t) ∧ RDT f.K Γ t m
def EXN (f : Fam ι) (Γ : List Slot) (e : Expr) (m : μ D) : Prop := ∃ t, (∀ i, PE (f.X i) e t) ∧ RDN f.K Γ t m
def EXB (f : Fam ι) (Γ : List Slot) (e : Expr) (m : μ Bool) : Prop := ∃ t, (∀ i, PT (f.X i) e t) ∧ RDB f.K Γ t m
/-- a test within and, or -/
def EXW (f : Fam ι) (Γ : List Slot) (e : Expr) (m : μ Bool) : Prop := ∃ t, (∀ i, PW (f.X i) e t) ∧ RDB f.K Γ t m
variable {f : Fam ι} {Γ : List Slot} {e a b c : Expr} {m ma mb mc : μ D} {pos : Pos}
theorem EX.t (h : EX f Γ e m) : EXT f Γ e m := by
  obtain ⟨t, h1, h2⟩ := h
  exact ⟨t, h1, fun Z F O H σ Q ok hd => h2 Z F O H σ Q ok (den_mono (fun d h v F' H' g r => h v F' H' g (.inl r)) hd)⟩
theorem EXN.x (h : EXN f Γ e m) : EX f Γ e m := by
  obtain ⟨t, h1, h2⟩ := h
  refine ⟨t, h1, fun Z F O H σ Q ok hd => h2 Z F O H σ Q ok (den_mono (fun d h l F' H' g hl hf n => ?_) hd)⟩
  obtain ⟨o, e⟩ := n.here
  have hp : Z.p ≠ some l := fun z => by
    obtain ⟨_, _, _, _, _, _, h2, _⟩ := ok.pl l z
    rw [hl] at h2; cases h2
  exact h _ _ _ (g.freeze hl hp hf e) (n.frozen e hf)
theorem EXN.t (h : EXN f Γ e m) : EXT f Γ e m := h.x.t

/-! names, constants -/
theorem ex_val {i : Nat} {x : Str} {d : D} (h : Γ[i]? = some (.val d)) (hN : ∀ j, (f.X j).N[i]? = some x) (hv : ∀ j, Vis (f.X j).env.scope x)
    (hd : (x == ("__debug__" : Str)) = false := by decide) (hcd : (x == ("__classdict__" : Str)) = false := by decide) : EX f Γ (.Name x pos) (pur d : μ D) := by
  refine ⟨tVar i, fun j => pe_var (hN j) (hv j) hd hcd, fun Z F O H σ Q ok q => ?_⟩
  obtain ⟨v, e, r⟩ := ok.sl i _ h
  exact ⟨v, e, den_pur q v F H (.refl ok.fh) r⟩
theorem ex_lkd {i : Nat} {x : Str} {d : D} (h : Γ[i]? = some (.lkd d)) (hN : ∀ j, (f.X j).N[i]? = some x) (hv : ∀ j, Vis (f.X j).env.scope x)
    (hd : (x == ("__debug__" : Str)) = false := by decide) (hcd : (x == ("__classdict__" : Str)) = false := by decide) : EX f Γ (.Name x pos) (pur d : μ D) := by
  refine ⟨tVar i, fun j => pe_var (hN j) (hv j) hd hcd, fun Z F O H σ Q ok q => ?_⟩
  obtain ⟨a, od, u, e, _, r⟩ := ok.sl i _ h
  exact ⟨_, e, den_pur q _ F H (.refl ok.fh) r⟩
theorem ex_own {i : Nat} {x : Str} {d : D} (h : Γ[i]? = some (.own d)) (hN : ∀ j, (f.X j).N[i]? = some x) (hv : ∀ j, Vis (f.X j).env.scope x)
    (hd : (x == ("__debug__" : Str)) = false := by decide) (hcd : (x == ("__classdict__" : Str)) = false := by decide) : EXT f Γ (.Name x pos) (pur d : μ D) := by
  refine ⟨tVar i, fun j => pe_var (hN j) (hv j) hd hcd, fun Z F O H σ Q ok q => ?_⟩
  obtain ⟨v, e, r⟩ := ok.top_own h
  exact ⟨v, e, den_pur q v F H (.refl ok.fh) r⟩
theorem ex_top {i : Nat} {x : Str} {d : D} (h : Γ[i]? = some (.top d)) (hN : ∀ j, (f.X j).N[i]? = some x) (hv : ∀ j, Vis (f.X j).env.scope x)
    (hd : (x == ("__debug__" : Str)) = false := by decide) (hcd : (x == ("__classdict__" : Str)) = false := by decide) : EXT f Γ (.Name x pos) (pur d : μ D) := by
  refine ⟨tVar i, fun j => pe_var (hN j) (hv j) hd hcd, fun Z F O H σ Q ok q => ?_⟩
  obtain ⟨v, e, r⟩ := ok.top_top h
  exact ⟨v, e, den_pur q v F H (.refl ok.fh) r⟩
theorem ex_const {v : V} {d : D} (h : ∀ i, PE (f.X i) e (tC v)) (r : ∀ K F, Rep K F v d) : EX f Γ e (pur d : μ D) :=
  ⟨tC v, h, fun Z F O H σ Q ok q => den_pur q v F H (.refl ok.fh) (r _ _)⟩
theorem ex_int {i : Int} {j : Nat} : EX f Γ (.Constant (.int i) j pos) (pur (.int i) : μ D) := ex_const (fun _ => pe_int) fun _ _ => .int i
theorem ex_bl {i : Bool} {j : Nat} : EX f Γ (.Constant (.bool i) j pos) (pur (.bool i) : μ D) := ex_const (fun _ => pe_bl) fun _ _ => .bl i
theorem ex_non {j : Nat} : EX f Γ (.Constant .none j pos) (pur .none : μ D) := ex_const (fun _ => pe_non) fun _ _ => .non
theorem ex_str {x : Str} {j : Nat} : EX f Γ (.Constant (.str x) j pos) (pur (.str x) : μ D) := ex_const (fun _ => pe_str) fun _ _ => .str x

/-! operators -/
/-- the reading r of an operation on values does what dop says of data -/
def ROp (K : PySem.W.Frag) (r : R2) (dop : D → D → Option D) : Prop := ∀ (p : Option Addr) (F H : Hp) (x y : V) (d e z : D) (Q : VK), FH F H → Top K p F H x d → Top K p F H y e → dop d e = some z →
  (∀ v F' H', Grow K p F H F' H' → Rep K F' v z → Q v H') → r x y H Q
theorem ex_op2 {r : R2} {dop : D → D → Option D} (hp : ∀ ta tb, (∀ i, PE (f.X i) a ta) → (∀ i, PE (f.X i) b tb) → ∀ i, PE (f.X i) e (tOp r ta tb)) (hr : ROp f.K r dop) (ha : EXT f Γ a ma) (hb : EXT f Γ b mb) :
    EX f Γ e (bnd ma fun x => bnd mb fun y => lif (dop x y)) := by
  obtain ⟨ta, a1, a2⟩ := ha
  obtain ⟨tb, b1, b2⟩ := hb
  refine ⟨_, hp ta tb a1 b1, fun Z F O H σ Q ok q => ?_⟩
  refine a2 Z F O H σ _ ok (den_mono (fun d h x F1 H1 g1 t1 => ?_) (den_bnd q))
  refine b2 Z F1 O H1 σ _ (ok.grow g1) (den_mono (fun e h y F2 H2 g2 t2 => ?_) (den_bnd h))
  obtain ⟨z, ez, h⟩ := den_lif h
  exact hr Z.p F2 H2 x y d e z _ g2.fh (t1.grow g2) t2 ez fun v F3 H3 g3 r3 => h v F3 H3 ((g1.trans g2).trans g3) r3
theorem ex_bin {op : Operator} {r : R2} {dop : D → D → Option D} (ho : ∀ i, OpR (f.X i) (binaryOp op) r) (hr : ROp f.K r dop) (ha : EXT f Γ a ma) (hb : EXT f Γ b mb) :
    EX f Γ (.BinOp a op b pos) (bnd ma fun x => bnd mb fun y => lif (dop x y)) := ex_op2 (fun _ _ p q i => pe_op (ho i) (p i) (q i)) hr ha hb
theorem ex_cmp {op : CmpOp} {r : R2} {dop : D → D → Option D} (ho : ∀ i, OpR (f.X i) (compareOp op) r) (hr : ROp f.K r dop) (ha : EXT f Γ a ma) (hb : EXT f Γ b mb) (hm : behindInMarks op b = false) :
    EX f Γ (.Compare a [op] [b] pos) (bnd ma fun x => bnd mb fun y => lif (dop x y)) := ex_op2 (fun _ _ p q i => pe_cmpR (ho i) (p i) (q i) hm) hr ha hb
/-- an int operation -/
theorem rop_int {C : Int → Int → Prop} [∀ i j, Decidable (C i j)] {g : Int → Int → V} {gd : Int → Int → D} (K : PySem.W.Frag) (hg : ∀ i j K F, Rep K F (g i j) (gd i j)) :
    ROp K (rI C g) (fun x y => match x, y with | .int i, .int j => if C i j then some (gd i j) else none | _, _ => none) := by
  intro p F H x y d e z Q fh t1 t2 ez q
  dsimp only at ez
  split at ez
  · rename_i i j
    split at ez
    · rename_i hc
      cases ez
      cases t1.int
      cases t2.int
      exact ⟨i, j, rfl, rfl, hc, q _ F H (.refl fh) (hg i j _ _)⟩
    · cases ez
  · cases ez
theorem rop_int0 {g : Int → Int → V} {gd : Int → Int → D} (K : PySem.W.Frag) (hg : ∀ i j K F, Rep K F (g i j) (gd i j)) :
    ROp K (rI0 g) (fun x y => match x, y with | .int i, .int j => some (gd i j) | _, _ => none) := by
  intro p F H x y d e z Q fh t1 t2 ez q
  dsimp only at ez
  split at ez
  · rename_i i j
    cases ez
    cases t1.int
    cases t2.int
    exact ⟨i, j, rfl, rfl, q _ F H (.refl fh) (hg i j _ _)⟩
  · cases ez
end
end Y

set_option maxRecDepth 100000
set_option maxHeartbeats 1000000
namespace Y
open PySem L2 PM
section
variable {ι : Type} {μ : Type → Type} [PM μ] {f : Fam ι} {Γ : List Slot} {e a b c : Expr} {m ma mb : μ D} {tA tB : μ Bool} {pos : Pos} {rest es : List Expr}
/-! comparisons that give a Bool -/
def RBp (K : PySem.W.Frag) (r : R2) (dop : D → D → Option Bool) : Prop := ∀ (p : Option Addr) (F H : Hp) (x y : V) (d e : D) (z : Bool) (Q : VK), FH F H → Top K p F H x d → Top K p F H y e → dop d e = some z → Q (.bl z) H → r x y H Q
def vB (b : Bool) : D := .bool b
theorem RBp.rop {K : PySem.W.Frag} {r : R2} {dop : D → D → Option Bool} (h : RBp K r dop) : ROp K r (fun x y => (dop x y).map vB) := by
  intro p F H x y d e z Q fh t1 t2 ez q
  cases ed : dop d e with
  | none => simp [ed] at ez
  | some k =>
    simp [ed] at ez
    subst ez
    exact h p F H x y d e k Q fh t1 t2 ed (q _ F H (.refl fh) (.bl k))
theorem exv_cmp {op : CmpOp} {r : R2} {dop : D → D → Option Bool} (ho : ∀ i, OpR (f.X i) (compareOp op) r) (hr : RBp f.K r dop) (ha : EXT f Γ a ma) (hb : EXT f Γ b mb) (hm : behindInMarks op b = false := by rfl) :
    EX f Γ (.Compare a [op] [b] pos) (bnd ma fun x => bnd mb fun y => lif ((dop x y).map vB)) := ex_cmp ho hr.rop ha hb hm
theorem exb_cmp {op : CmpOp} {r : R2} {dop : D → D → Option Bool} (ho : ∀ i, OpR (f.X i) (compareOp op) r) (hr : RBp f.K r dop) (ha : EXT f Γ a ma) (hb : EXT f Γ b mb) (hm : behindInMarks op b = false := by rfl) :
    EXB f Γ (.Compare a [op] [b] pos) (bnd ma fun x => bnd mb fun y => lif (dop x y)) := by
  obtain ⟨ta, a1, a2⟩ := ha
  obtain ⟨tb, b1, b2⟩ := hb
  refine ⟨_, fun i => pt_cmpR (ho i) (a1 i) (b1 i) hm, fun Z F O H σ Q ok q => ?_⟩
  refine a2 Z F O H σ _ ok (den_mono (fun d h x F1 H1 g1 t1 => ?_) (den_bnd q))
  refine b2 Z F1 O H1 σ _ (ok.grow g1) (den_mono (fun e h y F2 H2 g2 t2 => ?_) (den_bnd h))
  obtain ⟨z, ez, h⟩ := den_lif h
  exact hr Z.p F2 H2 x y d e z _ g2.fh (t1.grow g2) t2 ez ⟨z, rfl, h F2 H2 (g1.trans g2)⟩
/-- a op b op' c -/
def chainM (dop dop' : D → D → Option Bool) (ma mb mc : μ D) : μ Bool := bnd ma fun x => bnd mb fun y => bnd (lif (dop x y)) fun k => if k then bnd mc fun z => lif (dop' y z) else pur false
theorem exb_chain {op op' : CmpOp} {r r' : R2} {dop dop' : D → D → Option Bool} {mc : μ D} (ho : ∀ i, OpR (f.X i) (compareOp op) r) (ho' : ∀ i, OpR (f.X i) (compareOp op') r') (hr : RBp f.K r dop) (hr' : RBp f.K r' dop')
    (ha : EXT f Γ a ma) (hb : EXT f Γ b mb) (hc : EXT f Γ c mc) (hp : ∀ ta tb tc, (∀ i, PE (f.X i) a ta) → (∀ i, PE (f.X i) b tb) → (∀ i, PE (f.X i) c tc) → ∀ i, PT (f.X i) e (tTest (tChain r r' ta tb tc))) :
    EXB f Γ e (chainM dop dop' ma mb mc) := by
  obtain ⟨ta, a1, a2⟩ := ha
  obtain ⟨tb, b1, b2⟩ := hb
  obtain ⟨tc, c1, c2⟩ := hc
  refine ⟨_, hp ta tb tc a1 b1 c1, fun Z F O H σ Q ok q => ?_⟩
  refine a2 Z F O H σ _ ok (den_mono (fun d h x F1 H1 g1 t1 => ?_) (den_bnd q))
  refine b2 Z F1 O H1 σ _ (ok.grow g1) (den_mono (fun e h y F2 H2 g2 t2 => ?_) (den_bnd h))
  obtain ⟨z, ez, h⟩ := den_lif (den_mono (fun k h => h) (den_bnd h))
  refine hr Z.p F2 H2 x y d e z _ g2.fh (t1.grow g2) t2 ez ⟨z, rfl, ?_⟩
  cases z with
  | true =>
    rw [if_pos rfl] at h ⊢
    refine c2 Z F2 O H2 σ _ (ok.grow (g1.trans g2)) (den_mono (fun w h y' F3 H3 g3 t3 => ?_) (den_bnd h))
    obtain ⟨z', ez', h⟩ := den_lif h
    exact hr' Z.p F3 H3 y y' e w z' _ g3.fh (t2.grow g3) t3 ez' ⟨z', rfl, h F3 H3 ((g1.trans g2).trans g3)⟩
  | false =>
    rw [if_neg (by decide)] at h ⊢
    have h' := den_pur h
    exact ⟨false, rfl, h' F2 H2 (g1.trans g2)⟩
/-- a value that is a bool, as a test -/
def dB : D → Option Bool
  | .bool b => some b
  | _ => none
theorem exb_val (h : EXT f Γ e m) (he : ∀ i whole, isTrue e (f.X i).env whole = (do let v ← whole; standAt e.pos; holding [v] (truthy v)) := by intro _ _; rfl) : EXB f Γ e (bnd m fun d => lif (dB d)) := by
  obtain ⟨t, h1, h2⟩ := h
  refine ⟨_, fun i => pt_val (h1 i) (he i), fun Z F O H σ Q ok q => ?_⟩
  refine h2 Z F O H σ _ ok (den_mono (fun d h x F1 H1 g1 t1 => ?_) (den_bnd q))
  obtain ⟨z, ez, hq⟩ := den_lif h
  clear h
  cases d with
  | bool b' => cases ez; exact ⟨_, t1.bool, hq F1 H1 g1⟩
  | _ => cases ez
/-- truth of any data -/
def dTru : D → Option Bool
  | .none => some false
  | .bool b => some b
  | .int i => some (i != 0)
  | .str x => if x.length < 16000000 then some ((x.length : Int) != 0) else none
  | .list ds => some (!ds.isEmpty)
  | .tuple ds => some (!ds.isEmpty)
  | .dict _ => none
theorem big_le {n : Nat} (h : n < 16000000) : n ≤ sizeLine := by rw [sizeLine_eq]; omega
theorem big_lt {n : Nat} (h : n < 16000000) : n < sizeLine := by rw [sizeLine_eq]; omega
theorem isEmpty_len {α β : Type} {xs : List α} {ys : List β} (h : xs.length = ys.length) : xs.isEmpty = ys.isEmpty := by
  cases xs <;> cases ys <;> first | rfl | (simp at h)
theorem RepK.length {K : PySem.W.Frag} {F : Hp} : ∀ {vs : List (Key × V)} {ds : List (D × D)}, RepK K F vs ds → vs.length = ds.length
  | _, _, .nil => rfl
  | _, _, .cons _ r => by simp [r.length]
theorem RepT.length {K : PySem.W.Frag} {F : Hp} : ∀ {vs : List (List Key × V)} {ds : List (D × D)}, RepT K F vs ds → vs.length = ds.length
  | _, _, .nil => rfl
  | _, _, .cons _ r => by simp [r.length]
theorem truV_of {K : PySem.W.Frag} {p : Option Addr} {F H : Hp} {x : V} {d : D} {k : Bool} (fh : FH F H) (t : Top K p F H x d) (e : dTru d = some k) : TruV K x H k := by
  cases d with
  | none => cases e; rw [t.none]; rfl
  | bool b => cases e; rw [t.bool]; rfl
  | int i => cases e; rw [t.int]; rfl
  | str z =>
    have e' : (if z.length < 16000000 then some ((z.length : Int) != 0) else none) = some k := e
    split at e'
    · rename_i hz; cases e'; rw [t.str]; exact ⟨big_le hz, rfl⟩
    · cases e'
  | list ds =>
    cases e
    obtain ⟨l, xs, rfl, h, r⟩ := t.list fh
    exact .inl ⟨xs, SqL.of h, by rw [isEmpty_len r.length]⟩
  | tuple ds =>
    cases e
    obtain ⟨l, xs, rfl, h, r⟩ := t.tuple fh
    exact .inr (.inl ⟨xs, .inl (.inl h), by rw [isEmpty_len r.length]⟩)
  | dict ds => cases e
theorem exb_tru (h : EXT f Γ e m) (he : ∀ i whole, isTrue e (f.X i).env whole = (do let v ← whole; standAt e.pos; holding [v] (truthy v)) := by intro _ _; rfl) : EXB f Γ e (bnd m fun d => lif (dTru d)) := by
  obtain ⟨t, h1, h2⟩ := h
  refine ⟨_, fun i => by have q := pt_truth (h1 i) (he i); rw [f.eK i] at q; exact q, fun Z F O H σ Q ok q => ?_⟩
  refine h2 Z F O H σ _ ok (den_mono (fun d h x F1 H1 g1 t1 => ?_) (den_bnd q))
  obtain ⟨z, ez, h⟩ := den_lif h
  exact ⟨z, truV_of g1.fh t1 ez, h F1 H1 g1⟩

/-! and, or, not; one if test else other -/
def andM (ma mb : μ Bool) : μ Bool := bnd ma fun k => if k then mb else pur false
def orM (ma mb : μ Bool) : μ Bool := bnd ma fun k => if k then pur true else mb
def andV (ma mb : μ D) : μ D := bnd ma fun d => bnd (lif (dB d)) fun k => if k then mb else pur (.bool false)
def orV (ma mb : μ D) : μ D := bnd ma fun d => bnd (lif (dB d)) fun k => if k then pur (.bool true) else mb
theorem dB_eq {d : D} {k : Bool} (h : dB d = some k) : d = .bool k := by
  cases d with
  | bool b => cases h; rfl
  | _ => cases h
theorem EXW.bb (h : EXW f Γ e tA) : EXB f Γ e tA := by
  obtain ⟨t, h1, h2⟩ := h
  exact ⟨t, fun i => (h1 i).pt, h2⟩
theorem exw_and1 (h : EXB f Γ a tA) : EXW f Γ (.BoolOp .And [a] pos) tA := by
  obtain ⟨t, h1, h2⟩ := h
  exact ⟨t, fun i => pw_and1 (h1 i), h2⟩
theorem exw_or1 (h : EXB f Γ a tA) : EXW f Γ (.BoolOp .Or [a] pos) tA := by
  obtain ⟨t, h1, h2⟩ := h
  exact ⟨t, fun i => pw_or1 (h1 i), h2⟩
theorem exw_and (ha : EXB f Γ a tA) (hb : EXW f Γ (.BoolOp .And (b :: rest) pos) tB) : EXW f Γ (.BoolOp .And (a :: b :: rest) pos) (andM tA tB) := by
  obtain ⟨t, h1, h2⟩ := ha
  obtain ⟨u, h3, h4⟩ := hb
  refine ⟨_, fun i => pw_and (h1 i) (h3 i), fun Z F O H σ Q ok q => ?_⟩
  refine h2 Z F O H σ _ ok (den_mono (fun k h F1 H1 g1 => ?_) (den_bnd q))
  cases k with
  | true =>
    rw [if_pos rfl] at h ⊢
    exact h4 Z F1 O H1 σ _ (ok.grow g1) (den_mono (fun z h F2 H2 g2 => h F2 H2 (g1.trans g2)) h)
  | false =>
    rw [if_neg (by decide)] at h ⊢
    have h' := den_pur h
    exact h' F1 H1 g1
theorem exw_or (ha : EXB f Γ a tA) (hb : EXW f Γ (.BoolOp .Or (b :: rest) pos) tB) : EXW f Γ (.BoolOp .Or (a :: b :: rest) pos) (orM tA tB) := by
  obtain ⟨t, h1, h2⟩ := ha
  obtain ⟨u, h3, h4⟩ := hb
  refine ⟨_, fun i => pw_or (h1 i) (h3 i), fun Z F O H σ Q ok q => ?_⟩
  refine h2 Z F O H σ _ ok (den_mono (fun k h F1 H1 g1 => ?_) (den_bnd q))
  cases k with
  | true =>
    rw [if_pos rfl] at h ⊢
    have h' := den_pur h
    exact h' F1 H1 g1
  | false =>
    rw [if_neg (by decide)] at h ⊢
    exact h4 Z F1 O H1 σ _ (ok.grow g1) (den_mono (fun z h F2 H2 g2 => h F2 H2 (g1.trans g2)) h)
theorem exb_not (h : EXB f Γ a tA) : EXB f Γ (.UnaryOp .Not a pos) (bnd tA fun k => pur (!k)) := by
  obtain ⟨t, h1, h2⟩ := h
  refine ⟨_, fun i => pt_not (h1 i), fun Z F O H σ Q ok q => ?_⟩
  refine h2 Z F O H σ _ ok (den_mono (fun k h F1 H1 g1 => ?_) (den_bnd q))
  have h' := den_pur h
  exact h' F1 H1 g1
theorem exv_not (h : EX f Γ a m) : EX f Γ (.UnaryOp .Not a pos) (bnd m fun d => bnd (lif (dB d)) fun k => pur (.bool (!k))) := by
  obtain ⟨t, h1, h2⟩ := h
  refine ⟨_, fun i => pe_not (h1 i), fun Z F O H σ Q ok q => ?_⟩
  refine h2 Z F O H σ _ ok (den_mono (fun d h x F1 H1 g1 t1 => ?_) (den_bnd q))
  obtain ⟨z, ez, hq⟩ := den_lif (den_bnd h)
  clear h
  cases dB_eq ez
  cases t1
  have hq' := den_pur hq
  exact ⟨z, rfl, hq' _ F1 H1 g1 (.bl _)⟩
theorem exv_one {op : BoolOp} (h : EX f Γ a m) : EX f Γ (.BoolOp op [a] pos) m := by
  obtain ⟨t, h1, h2⟩ := h
  exact ⟨t, fun i => pe_one (h1 i), h2⟩
theorem exv_and (ha : EX f Γ a ma) (hb : EX f Γ (.BoolOp .And (b :: rest) pos) mb) : EX f Γ (.BoolOp .And (a :: b :: rest) pos) (andV ma mb) := by
  obtain ⟨t, h1, h2⟩ := ha
  obtain ⟨u, h3, h4⟩ := hb
  refine ⟨_, fun i => pe_and (h1 i) (h3 i), fun Z F O H σ Q ok q => ?_⟩
  refine h2 Z F O H σ _ ok (den_mono (fun d h x F1 H1 g1 t1 => ?_) (den_bnd q))
  obtain ⟨k, ez, hq⟩ := den_lif (den_bnd h)
  clear h
  have h := hq
  clear hq
  cases dB_eq ez
  cases t1
  refine ⟨k, rfl, ?_⟩
  cases k with
  | true =>
    rw [if_pos rfl] at h ⊢
    exact h4 Z F1 O H1 σ _ (ok.grow g1) (den_mono (fun z h v F2 H2 g2 => h v F2 H2 (g1.trans g2)) h)
  | false =>
    rw [if_neg (by decide)] at h ⊢
    have h' := den_pur h
    exact h' _ F1 H1 g1 (.bl _)
theorem exv_or (ha : EX f Γ a ma) (hb : EX f Γ (.BoolOp .Or (b :: rest) pos) mb) : EX f Γ (.BoolOp .Or (a :: b :: rest) pos) (orV ma mb) := by
  obtain ⟨t, h1, h2⟩ := ha
  obtain ⟨u, h3, h4⟩ := hb
  refine ⟨_, fun i => pe_or (h1 i) (h3 i), fun Z F O H σ Q ok q => ?_⟩
  refine h2 Z F O H σ _ ok (den_mono (fun d h x F1 H1 g1 t1 => ?_) (den_bnd q))
  obtain ⟨k, ez, hq⟩ := den_lif (den_bnd h)
  clear h
  have h := hq
  clear hq
  cases dB_eq ez
  cases t1
  refine ⟨k, rfl, ?_⟩
  cases k with
  | true =>
    rw [if_pos rfl] at h ⊢
    have h' := den_pur h
    exact h' _ F1 H1 g1 (.bl _)
  | false =>
    rw [if_neg (by decide)] at h ⊢
    exact h4 Z F1 O H1 σ _ (ok.grow g1) (den_mono (fun z h v F2 H2 g2 => h v F2 H2 (g1.trans g2)) h)
def iteM (tA : μ Bool) (ma mb : μ D) : μ D := bnd tA fun k => if k then ma else mb
theorem ex_ifExp (hc : EXB f Γ c tA) (ha : EX f Γ a ma) (hb : EX f Γ b mb) : EX f Γ (.IfExp c a b pos) (iteM tA ma mb) := by
  obtain ⟨t, h1, h2⟩ := hc
  obtain ⟨u, h3, h4⟩ := ha
  obtain ⟨v, h5, h6⟩ := hb
  refine ⟨_, fun i => pe_ifExp (h1 i) (h3 i) (h5 i), fun Z F O H σ Q ok q => ?_⟩
  refine h2 Z F O H σ _ ok (den_mono (fun k h F1 H1 g1 => ?_) (den_bnd q))
  cases k with
  | true =>
    rw [if_pos rfl] at h ⊢
    exact h4 Z F1 O H1 σ _ (ok.grow g1) (den_mono (fun z h v F2 H2 g2 => h v F2 H2 (g1.trans g2)) h)
  | false =>
    rw [if_neg (by decide)] at h ⊢
    exact h6 Z F1 O H1 σ _ (ok.grow g1) (den_mono (fun z h v F2 H2 g2 => h v F2 H2 (g1.trans g2)) h)

/-! one-place operations on values -/
def RUn (K : PySem.W.Frag) (r : V → Hp → VK → Prop) (dop : D → Option D) : Prop := ∀ (p : Option Addr) (F H : Hp) (x : V) (d z : D) (Q : VK), FH F H → Top K p F H x d → dop d = some z →
  (∀ v F' H', Grow K p F H F' H' → Rep K F' v z → Q v H') → r x H Q
theorem ex_un {op : UnaryOp} {r : V → Hp → VK → Prop} {dop : D → Option D} (ho : ∀ i, UnR (f.X i) (unaryOp op) r) (hr : RUn f.K r dop) (ha : EXT f Γ a ma) : EX f Γ (.UnaryOp op a pos) (bnd ma fun x => lif (dop x)) := by
  obtain ⟨ta, a1, a2⟩ := ha
  refine ⟨_, fun i => pe_un (ho i) (a1 i), fun Z F O H σ Q ok q => ?_⟩
  refine a2 Z F O H σ _ ok (den_mono (fun d h x F1 H1 g1 t1 => ?_) (den_bnd q))
  obtain ⟨z, ez, h⟩ := den_lif h
  exact hr Z.p F1 H1 x d z _ g1.fh t1 ez fun v F3 H3 g3 r3 => h v F3 H3 (g1.trans g3) r3
def dNeg : D → Option D
  | .int i => some (.int (-i))
  | _ => none
theorem ex_neg (ha : EXT f Γ a ma) : EX f Γ (.UnaryOp .USub a pos) (bnd ma fun x => lif (dNeg x)) := ex_un (fun _ => un_neg) (by
  intro p F H x d z Q fh t ez q
  cases d with
  | int i => cases ez; cases t.int; exact ⟨i, rfl, q _ F H (.refl fh) (.int _)⟩
  | _ => cases ez) ha
end

/-! lists of expressions; displays -/
section
variable {ι : Type} {μ : Type → Type} [PM μ] {f : Fam ι} {Γ : List Slot} {e a b c : Expr} {m ma mb : μ D} {tA tB : μ Bool} {pos : Pos} {rest es : List Expr} {α : Type}
/-- arguments, all frozen, from the left; k: what is done with them -/
def RDA (K : PySem.W.Frag) (Γ : List Slot) (t : TA) (M : (List D → μ α) → μ α) : Prop := ∀ (k : List D → μ α) (Z : Ent) (F : Hp) (O : Addr → Option Nat) (H : Hp) (σ : St) (R : α → Prop) (Q : List V → Hp → Prop), Ok K Z Γ F O H σ →
  den (M k) R → (∀ vs ds F' H', Grow K Z.p F H F' H' → Reps K F' vs ds → den (k ds) R → Q vs H') → t σ H Q
def EXA (f : Fam ι) (Γ : List Slot) (es : List Expr) (M : (List D → μ α) → μ α) : Prop := ∃ t, (∀ i, PA (f.X i) es t) ∧ RDA f.K Γ t M
theorem exa_nil : EXA f Γ [] (fun k : List D → μ α => k []) := ⟨_, fun _ => pa_nil, fun k Z F O H σ R Q ok h q => q [] [] F H (.refl ok.fh) .nil h⟩
theorem exa_cons {M : (List D → μ α) → μ α} (ha : EX f Γ e m) (hr : EXA f Γ es M) (hs : ∀ i, starEach (e :: es) (f.X i).env = (false, eval e (f.X i).env) :: starEach es (f.X i).env := by intro _; rfl) :
    EXA f Γ (e :: es) (fun k => bnd m fun d => M fun ds => k (d :: ds)) := by
  obtain ⟨t, h1, h2⟩ := ha
  obtain ⟨u, h3, h4⟩ := hr
  refine ⟨_, fun i => pa_cons (h1 i) (h3 i) (hs i), fun k Z F O H σ R Q ok h q => ?_⟩
  refine h2 Z F O H σ _ ok (den_mono (fun d h x F1 H1 g1 r1 => ?_) (den_bnd h))
  refine h4 _ Z F1 O H1 σ R _ (ok.grow g1) h fun vs ds F2 H2 g2 r2 h => ?_
  exact q _ _ F2 H2 (g1.trans g2) (.cons (r1.up g2.up) r2) h
theorem exn_list {M : (List D → μ D) → μ D} (h : EXA f Γ es M) : EXN f Γ (.List es pos) (M fun ds => if ds.length < 16000000 then pur (.list ds) else lif none) := by
  obtain ⟨t, h1, h2⟩ := h
  refine ⟨_, fun i => pe_lst (h1 i), fun Z F O H σ Q ok q => ?_⟩
  refine h2 _ Z F O H σ _ _ ok q fun vs ds F1 H1 g1 r1 h => ?_
  split at h
  · rename_i hl
    refine ⟨by rw [r1.length]; exact big_le hl, fun l hn => ?_⟩
    have hl0 : H l = none := by
      cases e : H l with
      | none => rfl
      | some o => exact absurd hn (g1.dm l (ne_none_of e))
    have h' := den_pur h
    exact h' l F1 _ (g1.trans (.raw g1.fh hn)) hl0 (g1.fh.dom hn) ⟨vs, upd_same, r1⟩
  · obtain ⟨_, z, _⟩ := den_lif h
    cases z
theorem ex_tuple {x1 : Nat} {M : (List D → μ D) → μ D} (h : EXA f Γ es M) : EX f Γ (.Tuple es x1 pos) (M fun ds => if ds.length < 16000000 then pur (.tuple ds) else lif none) := by
  obtain ⟨t, h1, h2⟩ := h
  refine ⟨_, fun i => pe_tup (h1 i), fun Z F O H σ Q ok q => ?_⟩
  refine h2 _ Z F O H σ _ _ ok q fun vs ds F1 H1 g1 r1 h => ?_
  split at h
  · rename_i hl
    refine ⟨by rw [r1.length]; exact big_le hl, fun l hn => ?_⟩
    have g2 : Grow f.K Z.p F1 H1 (upd F1 l (.tup vs)) (upd H1 l (.tup vs)) := .new g1.fh hn
    have h' := den_pur h
    exact h' _ _ _ (g1.trans g2) (.tup upd_same (r1.up g2.up))
  · obtain ⟨_, z, _⟩ := den_lif h
    cases z

/-! x[i] -/
def dIx : D → D → Option D
  | .list ds, .int i => atI ds i
  | .tuple ds, .int i => atI ds i
  | .str z, .int i => if z.length < 16000000 then (atI z.cps.toList i).map fun c => .str ⟨#[c]⟩ else none
  | _, _ => none
theorem at_reps {K : PySem.W.Frag} {F : Hp} {vs : List V} {ds : List D} {i : Int} {d : D} (r : Reps K F vs ds) (h : atI ds i = some d) : ∃ v, atI vs i = some v ∧ Rep K F v d := by
  unfold atI at h ⊢
  rw [r.length]
  cases e : ixN ds.length i with
  | none => rw [e] at h; cases h
  | some j =>
    rw [e] at h
    obtain ⟨v, h1, h2⟩ := r.get (show ds[j]? = some d from h)
    exact ⟨v, h1, h2⟩
theorem ex_ix (ha : EXT f Γ a ma) (hb : EXT f Γ b mb) (hs : PlainIx b := by intro _ _; rfl) : EX f Γ (.Subscript a b pos) (bnd ma fun x => bnd mb fun y => lif (dIx x y)) := by
  refine ex_op2 (r := rIx f.K) (fun _ _ p q i => ?_) (fun p F H x y d e z Q fh t1 t2 ez q => ?_) ha hb
  · have h := pe_ix (pos := pos) (X := f.X i) ix_seq (p i) (q i) hs
    rw [f.eK i] at h
    exact h
  · cases e with
    | int j =>
      cases t2.int
      cases d with
      | list ds =>
        obtain ⟨l, xs, rfl, h, r⟩ := t1.list fh
        obtain ⟨v, h1, h2⟩ := at_reps r (show atI ds j = some z from ez)
        exact .inl ⟨l, xs, j, v, rfl, rfl, SqL.of h, h1, q v F H (.refl fh) h2⟩
      | tuple ds =>
        obtain ⟨l, xs, rfl, h, r⟩ := t1.tuple fh
        obtain ⟨v, h1, h2⟩ := at_reps r (show atI ds j = some z from ez)
        exact .inr (.inl ⟨l, xs, j, v, rfl, rfl, .inl (.inl h), h1, q v F H (.refl fh) h2⟩)
      | str s =>
        cases t1.str
        have ez' : (if s.length < 16000000 then (atI s.cps.toList j).map fun c => (.str ⟨#[c]⟩ : D) else none) = some z := ez
        split at ez'
        · rename_i hl
          cases ec : atI s.cps.toList j with
          | none => rw [ec] at ez'; cases ez'
          | some c =>
            rw [ec] at ez'
            cases ez'
            exact .inr (.inr ⟨s, j, c, rfl, rfl, big_le hl, ec, q _ F H (.refl fh) (.str _)⟩)
        · cases ez'
      | _ => cases ez
    | _ => cases d <;> cases ez
end
end Y

set_option maxRecDepth 100000
set_option maxHeartbeats 1000000
namespace Y
open PySem L2 PM
/-! ### what a def promises -/
inductive AK where
  | val
  | top
  | pool
inductive Args (K : PySem.W.Frag) (p : Option Addr) (F H : Hp) : List AK → List V → List D → Prop
  | nil : Args K p F H [] [] []
  | val {v : V} {d : D} {ks : List AK} {vs : List V} {ds : List D} : Rep K F v d → Args K p F H ks vs ds → Args K p F H (.val :: ks) (v :: vs) (d :: ds)
  | top {v : V} {d : D} {ks : List AK} {vs : List V} {ds : List D} : Top K p F H v d → Args K p F H ks vs ds → Args K p F H (.top :: ks) (v :: vs) (d :: ds)
  | pool {a : Addr} {ks : List AK} {vs : List V} {ds : List D} : p = some a → Args K p F H ks vs ds → Args K p F H (.pool :: ks) (.ref a :: vs) (.none :: ds)
theorem Args.length {K : PySem.W.Frag} {p : Option Addr} {F H : Hp} : ∀ {ks : List AK} {vs : List V} {ds : List D}, Args K p F H ks vs ds → vs.length = ks.length
  | _, _, _, .nil => rfl
  | _, _, _, .val _ r => by simp [r.length]
  | _, _, _, .top _ r => by simp [r.length]
  | _, _, _, .pool _ r => by simp [r.length]
theorem Args.grow {K : PySem.W.Frag} {p : Option Addr} {F H F' H' : Hp} (g : Grow K p F H F' H') : ∀ {ks : List AK} {vs : List V} {ds : List D}, Args K p F H ks vs ds → Args K p F' H' ks vs ds
  | _, _, _, .nil => .nil
  | _, _, _, .val h r => .val (h.up g.up) (r.grow g)
  | _, _, _, .top h r => .top (h.grow g) (r.grow g)
  | _, _, _, .pool h r => .pool h (r.grow g)
/-- called with data ds it gives what g says; what stood stands (but the pool) -/
def spM {μ : Type → Type} [PM μ] (K : PySem.W.Frag) (ks : List AK) (g : List D → μ D) : Sp := fun vs H Q _ => ∃ (F : Hp) (p : Option Addr) (ds : List D), FH F H ∧ PoolOk K F H p ∧ Args K p F H ks vs ds ∧
  den (g ds) fun d => ∀ v F' H', Grow K p F H F' H' → Rep K F' v d → Q v H'

section
variable {ι : Type} {μ ν : Type → Type} [PM μ] [PM ν] {f : Fam ι} {Γ : List Slot} {e a b c : Expr} {m ma mb : μ D} {pos : Pos} {rest es : List Expr} {α : Type}
/-- arguments by kinds -/
def RDK (K : PySem.W.Frag) (Γ : List Slot) (ks : List AK) (t : TA) (M : (List D → μ α) → μ α) : Prop := ∀ (k : List D → μ α) (Z : Ent) (F : Hp) (O : Addr → Option Nat) (H : Hp) (σ : St) (R : α → Prop) (Q : List V → Hp → Prop), Ok K Z Γ F O H σ →
  den (M k) R → (∀ vs ds F' H', Grow K Z.p F H F' H' → Args K Z.p F' H' ks vs ds → den (k ds) R → Q vs H') → t σ H Q
def EXK (f : Fam ι) (Γ : List Slot) (ks : List AK) (es : List Expr) (M : (List D → μ α) → μ α) : Prop := ∃ t, (∀ i, PA (f.X i) es t) ∧ RDK f.K Γ ks t M
theorem exk_nil : EXK f Γ [] [] (fun k : List D → μ α => k []) := ⟨_, fun _ => pa_nil, fun k Z F O H σ R Q ok h q => q [] [] F H (.refl ok.fh) .nil h⟩
theorem exk_val {M : (List D → μ α) → μ α} {ks : List AK} (ha : EX f Γ e m) (hr : EXK f Γ ks es M) (hs : ∀ i, starEach (e :: es) (f.X i).env = (false, eval e (f.X i).env) :: starEach es (f.X i).env := by intro _; rfl) :
    EXK f Γ (.val :: ks) (e :: es) (fun k => bnd m fun d => M fun ds => k (d :: ds)) := by
  obtain ⟨t, h1, h2⟩ := ha
  obtain ⟨u, h3, h4⟩ := hr
  refine ⟨_, fun i => pa_cons (h1 i) (h3 i) (hs i), fun k Z F O H σ R Q ok h q => ?_⟩
  refine h2 Z F O H σ _ ok (den_mono (fun d h x F1 H1 g1 r1 => ?_) (den_bnd h))
  refine h4 _ Z F1 O H1 σ R _ (ok.grow g1) h fun vs ds F2 H2 g2 r2 h => ?_
  exact q _ _ F2 H2 (g1.trans g2) (.val (r1.up g2.up) r2) h
theorem exk_top {M : (List D → μ α) → μ α} {ks : List AK} (ha : EXT f Γ e m) (hr : EXK f Γ ks es M) (hs : ∀ i, starEach (e :: es) (f.X i).env = (false, eval e (f.X i).env) :: starEach es (f.X i).env := by intro _; rfl) :
    EXK f Γ (.top :: ks) (e :: es) (fun k => bnd m fun d => M fun ds => k (d :: ds)) := by
  obtain ⟨t, h1, h2⟩ := ha
  obtain ⟨u, h3, h4⟩ := hr
  refine ⟨_, fun i => pa_cons (h1 i) (h3 i) (hs i), fun k Z F O H σ R Q ok h q => ?_⟩
  refine h2 Z F O H σ _ ok (den_mono (fun d h x F1 H1 g1 r1 => ?_) (den_bnd h))
  refine h4 _ Z F1 O H1 σ R _ (ok.grow g1) h fun vs ds F2 H2 g2 r2 h => ?_
  exact q _ _ F2 H2 (g1.trans g2) (.top (r1.grow g2) r2) h
theorem exk_pool {M : (List D → μ α) → μ α} {ks : List AK} {i : Nat} {x : Str} (h : Γ[i]? = some .pool) (hr : EXK f Γ ks es M) (hN : ∀ j, (f.X j).N[i]? = some x) (hv : ∀ j, Vis (f.X j).env.scope x)
    (hs : ∀ i, starEach (.Name x pos :: es) (f.X i).env = (false, eval (.Name x pos) (f.X i).env) :: starEach es (f.X i).env := by intro _; rfl)
    (hd : (x == ("__debug__" : Str)) = false := by decide) (hcd : (x == ("__classdict__" : Str)) = false := by decide) :
    EXK f Γ (.pool :: ks) (.Name x pos :: es) (fun k => M fun ds => k (.none :: ds)) := by
  obtain ⟨u, h3, h4⟩ := hr
  refine ⟨_, fun j => pa_cons (pe_var (hN j) (hv j) hd hcd) (h3 j) (hs j), fun k Z F O H σ R Q ok hk q => ?_⟩
  obtain ⟨l, e1, e2⟩ := ok.sl i _ h
  refine ⟨_, e1, h4 _ Z F O H σ R _ ok hk fun vs ds F2 H2 g2 r2 h => ?_⟩
  exact q _ _ F2 H2 g2 (.pool e2 r2) h
/-- from one way to say it to another -/
class Into (μ ν : Type → Type) [PM μ] [PM ν] where
  into : {α : Type} → μ α → ν α
  den_into : ∀ {α : Type} {x : μ α} {Q : α → Prop}, den (into x) Q → den x Q
instance : Into Option Option := ⟨fun x => x, fun h => h⟩
instance : Into Option Gen := ⟨fun x => Gen.lift x, fun h => den_lif (μ := Gen) h⟩
instance : Into Gen Gen := ⟨fun x => x, fun h => h⟩
open Into
theorem ex_call {k : Nat} {fn : Addr} {fd : FuncData} {ps : List Str} {ks : List AK} {g : List D → ν D} {x : Str} {p : Pos} {M : (List D → μ D) → μ D} [Into ν μ]
    (G : FnOk f.P f.w f.K f.mg f.base CX0 k fn fd ps (spM f.K ks g)) (hm : f.mg x = some (.ref fn)) (hk : PySem.W.keepIn f.K (.ref fn) = true) (hb : Binds f.K fd ps []) (hle : k ≤ f.k) (hg : ∀ i, Gl (f.X i) x)
    (ha : EXK f Γ ks (e :: es) M) (hdb : (x == ("__debug__" : Str)) = false := by decide) (he : ∀ i, starEach (e :: es) (f.X i).env = (false, eval e (f.X i).env) :: starEach es (f.X i).env := by intro _; rfl)
    (hpl : ∀ i, (backTo pos (starEach es (f.X i).env)).any (·.1) = false := by intro _; rfl) :
    EX f Γ (.Call (.Name x p) (e :: es) [] pos) (M fun ds => into (g ds)) := by
  obtain ⟨t, h1, h2⟩ := ha
  refine ⟨_, fun i => pe_call (k := k) (fd := fd) (ps := ps) (sp := spM f.K ks g) (E := E0) (ds := []) (dvs := []) (by rw [f.eP i, f.ew i, f.eK i, f.eg i, f.eb i]; exact G) ((f.rm i).mono hle) (hg i) (by rw [f.eg i]; exact hm) (by rw [f.eK i]; exact hk) (by rw [f.eK i]; exact hb) .nil pass0 (h1 i) hdb (he i) (hpl i), fun Z F O H σ Q ok q => ?_⟩
  refine h2 _ Z F O H σ _ _ ok q fun vs ds F1 H1 g1 r1 h => ?_
  refine ⟨F1, Z.p, ds, g1.fh, g1.pl ok.pl, by rw [List.append_nil]; exact r1, den_mono (fun d h v F2 H2 g2 r2 => ?_) (den_into h)⟩
  exact h v F2 H2 (g1.trans g2) r2
end

/-! ### blocks -/
abbrev Pst (R : Type) := R → Ent → Hp → (Addr → Option Nat) → Hp → St → Ends → Prop
def pRet (K : PySem.W.Frag) : Pst D := fun d _ F _ H _ E => ∀ v, Rep K F v d → E.rt v H
def pFall {S : Type} (K : PySem.W.Frag) (Γf : S → List Slot) : Pst S := fun s Z F O H σ E => Ok K Z (Γf s) F O H σ → E.nx σ H
inductive Ctl (S : Type) where
  | nxt (s : S)
  | brk (s : S)
  | ret (d : D)
def pCtl {S : Type} (K : PySem.W.Frag) (Γf : S → List Slot) : Pst (Ctl S) := fun r Z F O H σ E => match r with
  | .nxt s => Ok K Z (Γf s) F O H σ → E.ct σ H
  | .brk s => Ok K Z (Γf s) F O H σ → E.bk σ H
  | .ret d => ∀ v, Rep K F v d → E.rt v H
/-- falls to what follows, or goes elsewhere -/
def pMix {S R : Type} (K : PySem.W.Frag) (Γf : S → List Slot) (post : Pst R) : Pst (Sum S R) := fun r Z F O H σ E => match r with
  | .inl s => Ok K Z (Γf s) F O H σ → E.nx σ H
  | .inr r => post r Z F O H σ E
def NxFree {R : Type} (post : Pst R) : Prop := ∀ r Z F O H σ E nx, post r Z F O H σ { E with nx := nx } → post r Z F O H σ E
def NxFree' {R : Type} (post : Pst R) : Prop := ∀ r Z F O H σ E nx, post r Z F O H σ E → post r Z F O H σ { E with nx := nx }
theorem nx_ret {K : PySem.W.Frag} : NxFree' (pRet K) := fun _ _ _ _ _ _ _ _ h => h
theorem nx_ctl {S : Type} {K : PySem.W.Frag} {Γf : S → List Slot} : NxFree' (pCtl K Γf) := fun r _ _ _ _ _ _ _ h => by cases r <;> exact h
/-- what is known of the ends -/
def tAny : Ends → Prop := fun _ => True
def tLoop : Ends → Prop := fun E => ∀ σ H, E.ct σ H → E.nx σ H
def tFun : Ends → Prop := fun E => ∀ σ H, E.rt .non H → E.nx σ H
section
variable {ι : Type} {μ : Type → Type} [PM μ]
def GX {R : Type} (f : Fam ι) (T : Ends → Prop) (Γ : List Slot) (b : List Stmt) (m : μ R) (post : Pst R) : Prop := ∃ t, (∀ i, PSs (f.X i) b t) ∧
  ∀ (Z : Ent) (F : Hp) (O : Addr → Option Nat) (H : Hp) (σ : St) (E : Ends), T E → Ok f.K Z Γ F O H σ → den m (fun r => ∀ F' O' H' σ', Bk f.K Z F' O' H' → post r Z F' O' H' σ' E) → t E σ H
/-- slots forgotten -/
inductive Le : List Slot → List Slot → Prop
  | nil : Le [] []
  | same {s : Slot} {a b : List Slot} : Le a b → Le (s :: a) (s :: b)
  | drop {s : Slot} {a b : List Slot} : Le a b → Le (s :: a) (.any :: b)
  | unl {d : D} {a b : List Slot} : Le a b → Le (.lkd d :: a) (.val d :: b)
theorem Le.len : ∀ {a b : List Slot}, Le a b → a.length = b.length
  | _, _, .nil => rfl
  | _, _, .same h => by simp [h.len]
  | _, _, .drop h => by simp [h.len]
  | _, _, .unl h => by simp [h.len]
theorem Le.get : ∀ {a b : List Slot}, Le a b → ∀ (i : Nat) (s : Slot), b[i]? = some s → s = .any ∨ a[i]? = some s ∨ ∃ d, s = .val d ∧ a[i]? = some (.lkd d)
  | _, _, .nil, _, _, e => by simp at e
  | _, _, .same h, 0, s, e => .inr (.inl e)
  | _, _, .drop h, 0, s, e => by simp at e; exact .inl e.symm
  | _, _, .unl h, 0, s, e => by simp at e; exact .inr (.inr ⟨_, e.symm, rfl⟩)
  | _, _, .same h, i + 1, s, e => by simpa using h.get i s (by simpa using e)
  | _, _, .drop h, i + 1, s, e => by simpa using h.get i s (by simpa using e)
  | _, _, .unl h, i + 1, s, e => by simpa using h.get i s (by simpa using e)
theorem Ok.le {K : PySem.W.Frag} {Z : Ent} {Γ Γ' : List Slot} {F H : Hp} {O : Addr → Option Nat} {σ : St} (ok : Ok K Z Γ F O H σ) (h : Le Γ Γ') : Ok K Z Γ' F O H σ :=
  { toBk := ok.toBk, ln := ok.ln.trans h.len, sl := fun i s e => by
      rcases h.get i s e with z | z | ⟨d, z, z2⟩
      · subst z; trivial
      · exact ok.sl i s z
      · subst z
        obtain ⟨a, od, u, e1, _, r⟩ := ok.sl i _ z2
        exact ⟨_, e1, r⟩ }
/-- a slot gets a frozen value -/
theorem Ok.setv {K : PySem.W.Frag} {Z : Ent} {Γ : List Slot} {F H : Hp} {O : Addr → Option Nat} {σ : St} {i : Nat} {v : V} {d : D} (ok : Ok K Z Γ F O H σ) (hi : i < Γ.length) (r : Rep K F v d) : Ok K Z (Γ.set i (.val d)) F O H (σ.set i (some v)) :=
  { toBk := ok.toBk, ln := by simp [ok.ln], sl := fun j s e => by
      by_cases hj : i = j
      · subst hj
        rw [List.getElem?_set_self hi] at e
        cases e
        refine ⟨v, ?_, r⟩
        rw [List.getElem?_set_self (by rw [ok.ln]; exact hi)]
      · rw [List.getElem?_set_ne hj] at e
        rw [List.getElem?_set_ne hj]
        exact ok.sl j s e }
/-- a slot gets a new node -/
def own1 (O : Addr → Option Nat) (l : Addr) (i : Nat) : Addr → Option Nat := fun a => if a = l then some i else O a
theorem own1_same {O : Addr → Option Nat} {l : Addr} {i : Nat} : own1 O l i l = some i := by simp [own1]
theorem own1_ne {O : Addr → Option Nat} {l a : Addr} {i : Nat} (h : a ≠ l) : own1 O l i a = O a := by simp [own1, h]
theorem Ok.setn {K : PySem.W.Frag} {Z : Ent} {Γ : List Slot} {F H F' H' : Hp} {O : Addr → Option Nat} {σ : St} {i : Nat} {l : Addr} {d : D} (ok0 : Ok K Z Γ F O H σ) (g : Grow K Z.p F H F' H') (hi : i < Γ.length) (h0 : H l = none) (h1 : F' l = none) (n : Node K F' H' l d) :
    Ok K Z (Γ.set i (.own d)) F' (own1 O l i) H' (σ.set i (some (.ref l))) := by
  have ok := ok0.grow g
  obtain ⟨o, eo⟩ := n.here
  have nl : ∀ {a : Addr}, H a ≠ none → a ≠ l := fun h z => h (by rw [z]; exact h0)
  have zl : Z.H l = none := by
    cases e : Z.H l with
    | none => rfl
    | some u => exact absurd h0 (ok0.zd l (ne_none_of e))
  refine { fh := ok.fh, zf := ok.zf, zn := ok.zn, zh := ok.zh, zd := ok.zd, zl := ok.zl, zo := fun a h => ?_, fo := fun a h => ?_, ho := fun a h => ?_, po := fun a h => ?_, pl := ok.pl, ln := by simp [ok.ln], sl := fun j s e => ?_ }
  · rw [own1_ne (fun z => h (by rw [z]; exact zl))]; exact ok.zo a h
  · rw [own1_ne (fun z => h (by rw [z]; exact h1))]; exact ok.fo a h
  · rw [own1_ne (fun z => by rw [z, eo] at h; cases h)]; exact ok.ho a h
  · obtain ⟨_, _, _, _, _, _, h2, _⟩ := ok0.pl a h
    rw [own1_ne (nl (ne_none_of h2))]; exact ok.po a h
  · by_cases hj : i = j
    · subst hj
      rw [List.getElem?_set_self hi] at e
      cases e
      refine ⟨l, ?_, own1_same, n⟩
      rw [List.getElem?_set_self (by rw [ok.ln]; exact hi)]
    · rw [List.getElem?_set_ne hj] at e
      rw [List.getElem?_set_ne hj]
      have q0 := ok0.sl j s e
      have q := ok.sl j s e
      cases s with
      | any => trivial
      | val d => exact q
      | lkd d => exact q
      | own d =>
        obtain ⟨l0, e0, e1, n0⟩ := q0
        obtain ⟨l', e2, e3, n'⟩ := q
        rw [e0] at e2; cases e2
        obtain ⟨o0, eo0⟩ := n0.here
        exact ⟨l0, e0, by rw [own1_ne (nl (ne_none_of eo0))]; exact e1, n'⟩
      | top d =>
        obtain ⟨x, e0, t0⟩ := q0
        obtain ⟨x', e2, t⟩ := q
        rw [e0] at e2; cases e2
        refine ⟨x, e0, ?_⟩
        rcases t0 with r0 | ⟨l0, e3, e4, e5, n0⟩
        · exact .inl (r0.up g.up)
        · obtain ⟨o0, eo0⟩ := n0.here
          exact .inr ⟨l0, e3, e4, by rw [own1_ne (nl (ne_none_of eo0))]; exact e5, n0.grow g e4⟩
      | pool => exact q
/-- an own node is written -/
theorem Ok.mut {K : PySem.W.Frag} {Z : Ent} {Γ : List Slot} {F H : Hp} {O : Addr → Option Nat} {σ : St} {i : Nat} {l : Addr} {d d' : D} {o : HO} (ok : Ok K Z Γ F O H σ) (hi : Γ[i]? = some (.own d)) (he : σ[i]? = some (some (.ref l))) (ho : O l = some i)
    (n : Node K F (upd H l o) l d') : Ok K Z (Γ.set i (.own d')) F O (upd H l o) σ := by
  have hl : i < Γ.length := by
    obtain ⟨h, _⟩ := List.getElem?_eq_some_iff.mp hi
    exact h
  have hF : F l = none := by
    cases e : F l with
    | none => rfl
    | some u =>
      have := ok.fo l (ne_none_of e)
      rw [ho] at this; cases this
  have hZ : Z.H l = none := by
    cases e : Z.H l with
    | none => rfl
    | some u =>
      have := ok.zo l (ne_none_of e)
      rw [ho] at this; cases this
  have hH : H l ≠ none := fun e => by
    have := ok.ho l e
    rw [ho] at this; cases this
  refine { fh := fun a u e => ?_, zf := ok.zf, zn := ok.zn, zh := fun a u e n q => ?_, zd := fun a h => ?_, zl := fun q hq => ?_, zo := ok.zo, fo := ok.fo, ho := fun a h => ?_, po := ok.po, pl := fun a e => ?_, ln := by simp [ok.ln], sl := fun j s e => ?_ }
  · rw [upd_ne (fun z => by subst z; rw [hF] at e; cases e)]; exact ok.fh a u e
  · rw [upd_ne (fun z => by subst z; rw [hZ] at e; cases e)]; exact ok.zh a u e n q
  · rw [upd_ne (fun z => h (by rw [z]; exact hZ))]; exact ok.zd a h
  · by_cases hq' : q.1 = l
    · exfalso
      obtain ⟨l0, e0, e1, n0⟩ := ok.sl i _ hi
      rw [he] at e0; cases e0
      have := ok.zl q hq
      rw [hq'] at this
      cases d with
      | list ds => obtain ⟨xs, e2, _⟩ := n0; rw [this] at e2; cases e2
      | dict ds => rcases n0 with ⟨xs, e2, _⟩ | ⟨xs, e2, _⟩ <;> (rw [this] at e2; cases e2)
      | _ => exact n0.elim
    · rw [upd_ne hq']; exact ok.zl q hq
  · by_cases ha : a = l
    · subst ha; rw [upd_same] at h; cases h
    · rw [upd_ne ha] at h; exact ok.ho a h
  · obtain ⟨h1, sa, i1, j1, k1, ns, h2, h3⟩ := ok.pl a e
    have ha : a ≠ l := fun z => by
      have := ok.po a e
      rw [z, ho] at this; cases this
    exact ⟨h1, sa, i1, j1, k1, ns, by rw [upd_ne ha]; exact h2, h3⟩
  · by_cases hj : i = j
    · subst hj
      rw [List.getElem?_set_self hl] at e
      cases e
      exact ⟨l, he, ho, n⟩
    · rw [List.getElem?_set_ne hj] at e
      have q := ok.sl j s e
      cases s with
      | any => trivial
      | val d => exact q
      | lkd d => exact q
      | own d =>
        obtain ⟨l0, e0, e1, n0⟩ := q
        have hne : l0 ≠ l := fun z => by rw [z, ho] at e1; cases e1; exact hj rfl
        exact ⟨l0, e0, e1, n0.mono (FH.of_same fun _ _ h => h) fun u h => by rw [upd_ne hne]; exact h⟩
      | top d =>
        obtain ⟨x, e0, t0⟩ := q
        refine ⟨x, e0, ?_⟩
        rcases t0 with r0 | ⟨l0, e3, e4, e5, n0⟩
        · exact .inl r0
        · have hne : l0 ≠ l := fun z => by rw [z, ho] at e5; cases e5
          exact .inr ⟨l0, e3, e4, e5, n0.mono (FH.of_same fun _ _ h => h) fun u h => by rw [upd_ne hne]; exact h⟩
      | pool => exact q
/-- an own node is frozen -/
theorem Ok.frz {K : PySem.W.Frag} {Z : Ent} {Γ : List Slot} {F H : Hp} {O : Addr → Option Nat} {σ : St} {i : Nat} {d : D} (ok : Ok K Z Γ F O H σ) (hi : Γ[i]? = some (.own d)) : ∃ F' O', Ok K Z (Γ.set i (.val d)) F' O' H σ := by
  obtain ⟨l, e0, e1, n⟩ := ok.sl i _ hi
  obtain ⟨o, eo⟩ := n.here
  have hl : i < Γ.length := by
    obtain ⟨h, _⟩ := List.getElem?_eq_some_iff.mp hi
    exact h
  have hF : F l = none := by
    cases e : F l with
    | none => rfl
    | some u =>
      have := ok.fo l (ne_none_of e)
      rw [e1] at this; cases this
  have hZ : Z.H l = none := by
    cases e : Z.H l with
    | none => rfl
    | some u =>
      have := ok.zo l (ne_none_of e)
      rw [e1] at this; cases this
  have up : FH F (upd F l o) := FH.of_same fun c u q => by
    rw [upd_ne (fun z => by subst z; rw [hF] at q; cases q)]; exact q
  let O' : Addr → Option Nat := fun a => if a = l then none else O a
  have O'ne : ∀ {a : Addr}, a ≠ l → O' a = O a := fun {a} h => by simp [O', h]
  have O'l : O' l = none := by simp [O']
  have O'n : ∀ {a : Addr}, O a = none → O' a = none := fun {a} h => by
    by_cases z : a = l
    · rw [z]; exact O'l
    · rw [O'ne z]; exact h
  refine ⟨upd F l o, O', { fh := fun a u e => ?_, zf := fun a u e => ?_, zn := fun a h => ?_, zh := ok.zh, zd := ok.zd, zl := ok.zl, zo := fun a h => O'n (ok.zo a h), fo := fun a h => ?_, ho := fun a h => O'n (ok.ho a h), po := fun a h => O'n (ok.po a h), pl := fun a e => ?_, ln := by simp [ok.ln], sl := fun j s e => ?_ }⟩
  · by_cases z : a = l
    · subst z; rw [upd_same] at e; cases e; exact .inl eo
    · rw [upd_ne z] at e; exact ok.fh a u e
  · have := ok.zf a u e
    rw [upd_ne (fun z => by subst z; rw [hF] at this; cases this)]; exact this
  · rw [upd_ne (fun z => h (by rw [z]; exact hZ))]; exact ok.zn a h
  · by_cases z : a = l
    · rw [z]; exact O'l
    · rw [upd_ne z] at h; rw [O'ne z]; exact ok.fo a h
  · obtain ⟨h1, sa, i1, j1, k1, ns, h2, h3⟩ := ok.pl a e
    have ha : a ≠ l := fun z => by
      have := ok.po a e
      rw [z, e1] at this; cases this
    exact ⟨by rw [upd_ne ha]; exact h1, sa, i1, j1, k1, ns, h2, up.l h3⟩
  · by_cases hj : i = j
    · subst hj
      rw [List.getElem?_set_self hl] at e
      cases e
      exact ⟨_, e0, n.frozen eo hF⟩
    · rw [List.getElem?_set_ne hj] at e
      have q := ok.sl j s e
      cases s with
      | any => trivial
      | val d => obtain ⟨x, e2, r⟩ := q; exact ⟨x, e2, r.up up⟩
      | lkd d => obtain ⟨x, od, u, e2, e3, r⟩ := q; exact ⟨x, od, u, e2, e3, r.up up⟩
      | own d =>
        obtain ⟨l0, e2, e3, n0⟩ := q
        have hne : l0 ≠ l := fun z => by rw [z, e1] at e3; cases e3; exact hj rfl
        exact ⟨l0, e2, by rw [O'ne hne]; exact e3, n0.mono up fun u h => h⟩
      | top d =>
        obtain ⟨x, e2, t0⟩ := q
        refine ⟨x, e2, ?_⟩
        rcases t0 with r0 | ⟨l0, e3, e4, e5, n0⟩
        · exact .inl (r0.up up)
        · exact .inr ⟨l0, e3, e4, O'n e5, n0.mono up fun u h => h⟩
      | pool => exact q
end
end Y

set_option maxRecDepth 100000
set_option maxHeartbeats 1000000
namespace Y
open PySem L2 PM
section
variable {ι : Type} {μ : Type → Type} [PM μ] {f : Fam ι} {T : Ends → Prop} {Γ : List Slot} {e a b c : Expr} {m : μ D} {pos : Pos} {rest : List Stmt} {R S S' : Type} {post : Pst R} {d : D}
theorem gx_ret (h : EX f Γ e m) : GX f T Γ [.Return (some e) pos] m (pRet f.K) := by
  obtain ⟨t, h1, h2⟩ := h
  refine ⟨_, fun i => pss_one (ps_ret (h1 i)), fun Z F O H σ E _ ok q => ?_⟩
  exact h2 Z F O H σ _ ok (den_mono (fun d h v F' H' g r => h F' O H' σ (ok.toBk.grow g) v r) q)
theorem gx_retN : GX f T Γ [.Return none pos] (pur .none : μ D) (pRet f.K) := by
  refine ⟨_, fun i => pss_one ps_retN, fun Z F O H σ E _ ok q => ?_⟩
  exact den_pur q F O H σ ok.toBk _ .non
theorem gx_retC {Γf : S → List Slot} (h : EX f Γ e m) : GX f T Γ [.Return (some e) pos] (bnd m fun d => pur (Ctl.ret d)) (pCtl f.K Γf) := by
  obtain ⟨t, h1, h2⟩ := h
  refine ⟨_, fun i => pss_one (ps_ret (h1 i)), fun Z F O H σ E _ ok q => ?_⟩
  refine h2 Z F O H σ _ ok (den_mono (fun d h v F' H' g r => ?_) (den_bnd q))
  have h' := den_pur h
  exact h' F' O H' σ (ok.toBk.grow g) v r
theorem gx_brk {Γf : S → List Slot} {s : S} (hl : Le Γ (Γf s)) : GX f T Γ [.Break pos] (pur (Ctl.brk s) : μ (Ctl S)) (pCtl f.K Γf) := by
  refine ⟨_, fun i => pss_one ps_break, fun Z F O H σ E _ ok q => ?_⟩
  have h' := den_pur q
  exact h' F O H σ ok.toBk (ok.le hl)
theorem gx_cont {Γf : S → List Slot} {s : S} (hl : Le Γ (Γf s)) : GX f T Γ [.Continue pos] (pur (Ctl.nxt s) : μ (Ctl S)) (pCtl f.K Γf) := by
  refine ⟨_, fun i => pss_one ps_continue, fun Z F O H σ E _ ok q => ?_⟩
  have h' := den_pur q
  exact h' F O H σ ok.toBk (ok.le hl)
/-- the end of a block -/
theorem gx_end {Γf : S → List Slot} {s : S} (hl : Le Γ (Γf s)) : GX f T Γ [] (pur s : μ S) (pFall f.K Γf) := by
  refine ⟨_, fun i => pss_nil, fun Z F O H σ E _ ok q => ?_⟩
  have h' := den_pur q
  exact h' F O H σ ok.toBk (ok.le hl)
theorem gx_endC {Γf : S → List Slot} {s : S} (hl : Le Γ (Γf s)) : GX f tLoop Γ [] (pur (Ctl.nxt s) : μ (Ctl S)) (pCtl f.K Γf) := by
  refine ⟨_, fun i => pss_nil, fun Z F O H σ E hT ok q => ?_⟩
  have h' := den_pur q
  exact hT σ H (h' F O H σ ok.toBk (ok.le hl))
theorem gx_endF : GX f tFun Γ [] (pur .none : μ D) (pRet f.K) := by
  refine ⟨_, fun i => pss_nil, fun Z F O H σ E hT ok q => ?_⟩
  have h' := den_pur q
  exact hT σ H (h' F O H σ ok.toBk _ .non)
theorem gx_endM {Γf : S → List Slot} {s : S} (hl : Le Γ (Γf s)) : GX f T Γ [] (pur (Sum.inl s) : μ (Sum S R)) (pMix f.K Γf post) := by
  refine ⟨_, fun i => pss_nil, fun Z F O H σ E _ ok q => ?_⟩
  have h' := den_pur q
  exact h' F O H σ ok.toBk (ok.le hl)
/-- a block that goes elsewhere, among others that fall -/
theorem GX.mix {Γf : S → List Slot} {bl : List Stmt} {m : μ R} (h : GX f T Γ bl m post) : GX f T Γ bl (bnd m fun r => pur (Sum.inr r)) (pMix f.K Γf post) := by
  obtain ⟨t, h1, h2⟩ := h
  refine ⟨t, h1, fun Z F O H σ E hT ok q => h2 Z F O H σ E hT ok (den_mono (fun r h F' O' H' σ' bk => ?_) (den_bnd q))⟩
  have h' := den_pur h
  exact h' F' O' H' σ' bk
theorem GX.any {bl : List Stmt} {m : μ R} (h : GX f tAny Γ bl m post) : GX f T Γ bl m post := by
  obtain ⟨t, h1, h2⟩ := h
  exact ⟨t, h1, fun Z F O H σ E _ ok q => h2 Z F O H σ E trivial ok q⟩
/-- an own node frozen, silently -/
theorem gx_frz {bl : List Stmt} {m : μ R} {i : Nat} (hi : Γ[i]? = some (.own d)) (h : GX f T (Γ.set i (.val d)) bl m post) : GX f T Γ bl m post := by
  obtain ⟨t, h1, h2⟩ := h
  refine ⟨t, h1, fun Z F O H σ E hT ok q => ?_⟩
  obtain ⟨F', O', ok'⟩ := ok.frz hi
  exact h2 Z F' O' H σ E hT ok' q
theorem lt_of_get {α : Type} {l : List α} {i : Nat} {x : α} (h : l[i]? = some x) : i < l.length := (List.getElem?_eq_some_iff.mp h).1
/-! single statements -/
def SX {R : Type} (f : Fam ι) (T : Ends → Prop) (Γ : List Slot) (b : Stmt) (m : μ R) (post : Pst R) : Prop := ∃ t, (∀ i, PS (f.X i) b t) ∧
  ∀ (Z : Ent) (F : Hp) (O : Addr → Option Nat) (H : Hp) (σ : St) (E : Ends), T E → Ok f.K Z Γ F O H σ → den m (fun r => ∀ F' O' H' σ', Bk f.K Z F' O' H' → post r Z F' O' H' σ' E) → t E σ H
theorem SX.gx {st : Stmt} {m : μ R} (h : SX f T Γ st m post) : GX f T Γ [st] m post := by
  obtain ⟨t, h1, h2⟩ := h
  exact ⟨t, fun i => pss_one (h1 i), h2⟩
theorem gx_seq {st : Stmt} {Γf : S → List Slot} {m1 : μ S} {k : S → μ R} (h1 : SX f tAny Γ st m1 (pFall f.K Γf)) (h2 : ∀ s, GX f T (Γf s) rest (k s) post) : GX f T Γ (st :: rest) (bnd m1 k) post := by
  obtain ⟨u, u1, u2⟩ := h1
  let w : TS := fun E σ H => ∃ s, (h2 s).choose E σ H
  refine ⟨tSeq u w, fun j => pss_cons (u1 j) ⟨fun pins s σ H E I q => ?_⟩, fun Z F O H σ E hT ok q => ?_⟩
  · obtain ⟨d, q⟩ := q
    exact ((h2 d).choose_spec.1 j).run pins s σ H E I q
  · refine u2 Z F O H σ _ trivial ok (den_mono (fun s h F' O' H' σ' bk ok' => ?_) (den_bnd q))
    exact ⟨s, (h2 s).choose_spec.2 Z F' O' H' σ' E hT ok' h⟩
/-- a statement that falls or goes elsewhere -/
def mixK {S R : Type} (k : S → μ R) : Sum S R → μ R
  | .inl s => k s
  | .inr r => pur r
theorem gx_seqM {st : Stmt} {Γf : S → List Slot} {m1 : μ (Sum S R)} {k : S → μ R} (hp : NxFree' post) (h1 : SX f tAny Γ st m1 (pMix f.K Γf post)) (h2 : ∀ s, GX f T (Γf s) rest (k s) post) : GX f T Γ (st :: rest) (bnd m1 (mixK k)) post := by
  obtain ⟨u, u1, u2⟩ := h1
  let w : TS := fun E σ H => ∃ s, (h2 s).choose E σ H
  refine ⟨tSeq u w, fun j => pss_cons (u1 j) ⟨fun pins s σ H E I q => ?_⟩, fun Z F O H σ E hT ok q => ?_⟩
  · obtain ⟨d, q⟩ := q
    exact ((h2 d).choose_spec.1 j).run pins s σ H E I q
  · refine u2 Z F O H σ _ trivial ok (den_mono (fun s h F' O' H' σ' bk => ?_) (den_bnd q))
    cases s with
    | inl s => exact fun ok' => ⟨s, (h2 s).choose_spec.2 Z F' O' H' σ' E hT ok' h⟩
    | inr r =>
      have h' := den_pur h
      exact hp r Z F' O' H' σ' E _ (h' F' O' H' σ' bk)
/-- x = e -/
theorem sx_set {i : Nat} {x : Str} {pos' : Pos} (he : EX f Γ e m) (hi : ∀ j, (f.X j).N[i]? = some x) (hl : i < Γ.length) (hx : ∀ j, Loc (f.X j).env.scope x)
    (hf : ∀ j, (f.X j).fn x = true ∨ (f.X j).env.scope.names.lookup x = some .local) (hs : ∀ j, swapsWith e (some (.Name x pos')) pos.line (f.X j).env = pure false := by intro _; rfl) :
    SX f T Γ (.Assign [.Name x pos'] e pos) m (pFall f.K fun d => Γ.set i (.val d)) := by
  obtain ⟨t, h1, h2⟩ := he
  refine ⟨tAsg t (gName i), fun j => ps_set (by rw [f.eN j]; exact f.nd) (hi j) (hx j) (h1 j) (hs j) (hf j), fun Z F O H σ E hT ok q => ?_⟩
  exact h2 Z F O H σ _ ok (den_mono (fun d h v F' H' g r => h F' O H' _ (ok.toBk.grow g) ((ok.grow g).setv hl r)) q)
/-- x = a new list, dict -/
theorem sx_setN {i : Nat} {x : Str} {pos' : Pos} (he : EXN f Γ e m) (hi : ∀ j, (f.X j).N[i]? = some x) (hl : i < Γ.length) (hx : ∀ j, Loc (f.X j).env.scope x)
    (hf : ∀ j, (f.X j).fn x = true ∨ (f.X j).env.scope.names.lookup x = some .local) (hs : ∀ j, swapsWith e (some (.Name x pos')) pos.line (f.X j).env = pure false := by intro _; rfl) :
    SX f T Γ (.Assign [.Name x pos'] e pos) m (pFall f.K fun d => Γ.set i (.own d)) := by
  obtain ⟨t, h1, h2⟩ := he
  refine ⟨tAsg t (gName i), fun j => ps_set (by rw [f.eN j]; exact f.nd) (hi j) (hx j) (h1 j) (hs j) (hf j), fun Z F O H σ E hT ok q => ?_⟩
  refine h2 Z F O H σ _ ok (den_mono (fun d h l F' H' g h0 h1 n => ?_) q)
  have ok' := ok.setn g hl h0 h1 n
  exact h F' _ H' _ ok'.toBk ok'
/-- an expression alone -/
theorem sx_expr (he : EX f Γ e m) (hs : ∀ j, swapsWith e none pos.line (f.X j).env = pure false := by intro _; rfl) : SX f T Γ (.Expr e pos) m (pFall f.K fun _ => Γ) := by
  obtain ⟨t, h1, h2⟩ := he
  refine ⟨tDrop t, fun j => ps_expr (h1 j) (hs j), fun Z F O H σ E hT ok q => ?_⟩
  exact h2 Z F O H σ _ ok (den_mono (fun d h v F' H' g r => h F' O H' _ (ok.toBk.grow g) (ok.grow g)) q)
theorem sx_pass : SX f T Γ (.Pass pos) (pur () : μ Unit) (pFall f.K fun _ => Γ) := by
  refine ⟨_, fun j => ps_pass, fun Z F O H σ E hT ok q => ?_⟩
  have h' := den_pur q
  exact h' F O H σ ok.toBk ok
/-- a test, both ways alike -/
theorem sx_if {tA : μ Bool} {bl bl' : List Stmt} {m1 m2 : μ R} (hc : EXB f Γ c tA) (h1 : GX f T Γ bl m1 post) (h2 : GX f T Γ bl' m2 post) : SX f T Γ (.If c bl bl' pos) (bnd tA fun k => if k then m1 else m2) post := by
  obtain ⟨t, c1, c2⟩ := hc
  obtain ⟨u, u1, u2⟩ := h1
  obtain ⟨v, v1, v2⟩ := h2
  refine ⟨_, fun i => ps_if (c1 i) (u1 i) (v1 i), fun Z F O H σ E hT ok q => ?_⟩
  refine c2 Z F O H σ _ ok (den_mono (fun k h F1 H1 g1 => ?_) (den_bnd q))
  cases k with
  | true =>
    rw [if_pos rfl] at h ⊢
    exact u2 Z F1 O H1 σ E hT (ok.grow g1) h
  | false =>
    rw [if_neg (by decide)] at h ⊢
    exact v2 Z F1 O H1 σ E hT (ok.grow g1) h
/-- a test whose first way goes elsewhere, the rest behind -/
theorem gx_ifx {tA : μ Bool} {bl : List Stmt} {m1 m2 : μ R} (hp : NxFree' post) (hc : EXB f Γ c tA) (h1 : GX f tAny Γ bl m1 post) (h2 : GX f T Γ rest m2 post) : GX f T Γ (.If c bl [] pos :: rest) (bnd tA fun k => if k then m1 else m2) post := by
  obtain ⟨t, c1, c2⟩ := hc
  obtain ⟨u, u1, u2⟩ := h1
  obtain ⟨v, v1, v2⟩ := h2
  refine ⟨_, fun i => pss_cons (ps_if (c1 i) (u1 i) pss_nil) (v1 i), fun Z F O H σ E hT ok q => ?_⟩
  refine c2 Z F O H σ _ ok (den_mono (fun k h F1 H1 g1 => ?_) (den_bnd q))
  cases k with
  | true =>
    rw [if_pos rfl] at h ⊢
    exact u2 Z F1 O H1 σ _ trivial (ok.grow g1) (den_mono (fun r h F' O' H' σ' bk => hp r Z F' O' H' σ' E _ (h F' O' H' σ' bk)) h)
  | false =>
    rw [if_neg (by decide)] at h ⊢
    exact v2 Z F1 O H1 σ E hT (ok.grow g1) h
end

/-! ### a new base: what is frozen at a loop's start stays -/
noncomputable def rebase (Z : Ent) (F H : Hp) : Ent := { p := Z.p, F := F, L := Z.L, H := fun a => open Classical in if Z.H a ≠ none ∨ F a ≠ none then H a else none }
section
variable {K : PySem.W.Frag} {Z : Ent} {F F' H H' : Hp} {O O' : Addr → Option Nat} {Γ : List Slot} {σ : St}
theorem reb_H {a : Addr} {o : HO} (h : (rebase Z F H).H a = some o) : H a = some o ∧ (Z.H a ≠ none ∨ F a ≠ none) := by
  unfold rebase at h
  dsimp only at h
  split at h
  · rename_i q; exact ⟨h, q⟩
  · cases h
theorem reb_ne {a : Addr} (h : (rebase Z F H).H a ≠ none) : H a ≠ none ∧ (Z.H a ≠ none ∨ F a ≠ none) := by
  cases e : (rebase Z F H).H a with
  | none => exact absurd e h
  | some o =>
    obtain ⟨h1, h2⟩ := reb_H e
    exact ⟨ne_none_of h1, h2⟩
theorem reb_of {a : Addr} {o : HO} (h : H a = some o) (q : Z.H a ≠ none ∨ F a ≠ none) : (rebase Z F H).H a = some o := by
  unfold rebase
  dsimp only
  rw [if_pos q]; exact h
theorem Bk.reb (ok : Bk K Z F O H) : Bk K (rebase Z F H) F O H where
  fh := ok.fh
  zf := fun _ _ h => h
  zn := fun _ _ => rfl
  zh := fun a o h _ _ => (reb_H h).1
  zd := fun a h => (reb_ne h).1
  zl := ok.zl
  zo := fun a h => by
    rcases (reb_ne h).2 with q | q
    · exact ok.zo a q
    · exact ok.fo a q
  fo := ok.fo
  ho := ok.ho
  po := ok.po
  pl := ok.pl
theorem Bk.back (ok : Bk K Z F O H) (b : Bk K (rebase Z F H) F' O' H') : Bk K Z F' O' H' where
  fh := b.fh
  zf := fun a o h => b.zf a o (ok.zf a o h)
  zn := fun a h => by
    have h1 := ok.zd a h
    cases e : H a with
    | none => exact absurd e h1
    | some o => exact (b.zn a (ne_none_of (reb_of e (.inl h)))).trans (ok.zn a h)
  zh := fun a o h n q => b.zh a o (reb_of (ok.zh a o h n q) (.inl (ne_none_of h))) n q
  zd := fun a h => by
    have h1 := ok.zd a h
    cases e : H a with
    | none => exact absurd e h1
    | some o => exact b.zd a (ne_none_of (reb_of e (.inl h)))
  zl := b.zl
  zo := fun a h => by
    have h1 := ok.zd a h
    cases e : H a with
    | none => exact absurd e h1
    | some o => exact b.zo a (ne_none_of (reb_of e (.inl h)))
  fo := b.fo
  ho := b.ho
  po := b.po
  pl := b.pl
theorem SlotOk.ent {Z' : Ent} (h : Z.p = Z'.p) (hL : ∀ q ∈ Z.L, q ∈ Z'.L) {i : Nat} {s : Slot} {v : Option (Option V)} (q : SlotOk K Z F O H i s v) : SlotOk K Z' F O H i s v := by
  cases s with
  | any => trivial
  | val d => exact q
  | lkd d => obtain ⟨a, od, u, e1, e2, r⟩ := q; exact ⟨a, od, u, e1, hL _ e2, r⟩
  | own d => exact q
  | top d =>
    obtain ⟨x, e, t⟩ := q
    refine ⟨x, e, ?_⟩
    rcases t with r | ⟨l, e1, e2, e3⟩
    · exact .inl r
    · exact .inr ⟨l, e1, by rw [← h]; exact e2, e3⟩
  | pool => obtain ⟨a, e, e1⟩ := q; exact ⟨a, e, by rw [← h]; exact e1⟩
theorem Ok.reb (ok : Ok K Z Γ F O H σ) : Ok K (rebase Z F H) Γ F O H σ := { toBk := ok.toBk.reb, ln := ok.ln, sl := fun i s e => (ok.sl i s e).ent rfl fun _ h => h }
theorem Ok.back {σ' : St} {Γ' : List Slot} (ok : Bk K Z F O H) (b : Ok K (rebase Z F H) Γ' F' O' H' σ') : Ok K Z Γ' F' O' H' σ' := { toBk := ok.back b.toBk, ln := b.ln, sl := fun i s e => (b.sl i s e).ent rfl fun _ h => h }
end

/-! ### what is walked -/
def Wk (K : PySem.W.Frag) (F : Hp) (L : List (Addr × Obj × HO)) (J : It) (ds : List D) : Prop := ∃ (n : Nat) (G : Hp → Prop) (Y : Nat → Hp → V → Hp → Prop), Walk J n G Y ∧ n = ds.length ∧ (∀ F1 H, (∀ a o, F a = some o → F1 a = some o) → FH F1 H → (∀ q ∈ L, H q.1 = some (.frz q.2.1 q.2.2)) → G H) ∧
  ∀ p F1 i H x H', (∀ a o, F a = some o → F1 a = some o) → FH F1 H → (∀ q ∈ L, H q.1 = some (.frz q.2.1 q.2.2)) → i < n → Y i H x H' → ∃ F2 d, Grow K p F1 H F2 H' ∧ ds[i]? = some d ∧ Rep K F2 x d
section
variable {ι : Type} {μ : Type → Type} [PM μ] {f : Fam ι} {T : Ends → Prop} {Γ : List Slot} {e a b c tg iter : Expr} {m : μ D} {ml : μ (List D)} {pos : Pos} {rest : List Stmt} {R S S' A B C : Type} {post : Pst R} {d : D}
def ITX (f : Fam ι) (Γ : List Slot) (tg iter : Expr) (m : μ (List D)) : Prop := ∃ wi, (∀ i, PI (f.X i) tg iter wi) ∧ ∀ (Z : Ent) (F : Hp) (O : Addr → Option Nat) (H : Hp) (σ : St) (R : It → Hp → Prop), Ok f.K Z Γ F O H σ →
  den m (fun ds => ∀ F' H' J, Grow f.K Z.p F H F' H' → Wk f.K F' Z.L J ds → R J H') → wi σ H R
/-- a target: what it takes of the data, what slots it sets -/
def TGX (f : Fam ι) (tg : Expr) (sel : D → Option A) (up : A → List Slot → List Slot) (is : List Nat) : Prop := ∃ g, (∀ i, PG (f.X i) tg g) ∧ ∀ (Z : Ent) (Γ : List Slot) (F : Hp) (O : Addr → Option Nat) (H : Hp) (σ : St) (v : V) (d : D) (a : A) (Q : St → Hp → Prop),
  Ok f.K Z Γ F O H σ → (∀ i ∈ is, i < Γ.length) → Rep f.K F v d → sel d = some a → (∀ σ', Ok f.K Z (up a Γ) F O H σ' → (∀ vs : List Nat, (∀ i ∈ is, i ∈ vs) → wipe σ' vs = wipe σ vs) → Q σ' H) → g v σ H Q
def selN : D → Option D := some
theorem wipe_get {σ : St} : ∀ {vs : List Nat} {j : Nat}, (wipe σ vs)[j]? = if j ∈ vs ∧ j < σ.length then some none else σ[j]?
  | [], j => by simp [wipe]
  | v :: vs, j => by
    unfold wipe
    by_cases h : v = j
    · subst h
      by_cases hl : v < σ.length
      · rw [List.getElem?_set_self (by rw [wipe_length]; exact hl)]; simp [hl]
      · rw [List.getElem?_eq_none (by rw [List.length_set, wipe_length]; omega)]
        simp [hl]
    · rw [List.getElem?_set_ne h, wipe_get]
      have : (j ∈ v :: vs) ↔ j ∈ vs := by simp [Ne.symm h]
      simp only [this]
theorem wipe_set {σ : St} {i : Nat} {x : Option V} {vs : List Nat} (h : i ∈ vs) : wipe (σ.set i x) vs = wipe σ vs := by
  apply List.ext_getElem?
  intro j
  rw [wipe_get, wipe_get, List.length_set]
  by_cases hj : i = j
  · subst hj
    by_cases hl : i < σ.length
    · simp [h, hl]
    · simp [hl]
  · rw [List.getElem?_set_ne hj]
theorem tg_name {i : Nat} {x : Str} (hi : ∀ j, (f.X j).N[i]? = some x) (hx : ∀ j, Loc (f.X j).env.scope x) (hf : ∀ j, (f.X j).fn x = true ∨ (f.X j).env.scope.names.lookup x = some .local) :
    TGX f (.Name x pos) selN (fun d Γ => Γ.set i (.val d)) [i] := by
  refine ⟨gName i, fun j => pg_name (by rw [f.eN j]; exact f.nd) (hi j) (hx j) (hf j), fun Z Γ F O H σ v d a Q ok hl r es q => ?_⟩
  cases es
  exact q _ (ok.setv (hl i (by simp)) r) fun vs h => wipe_set (h i (by simp))
/-- (t1, t2, ..) -/
def TGs (f : Fam ι) (ts : List Expr) (sel : List D → Option A) (up : A → List Slot → List Slot) (is : List Nat) : Prop := ∃ g, (∀ i, PGs (f.X i) ts g) ∧ ∀ (Z : Ent) (Γ : List Slot) (F : Hp) (O : Addr → Option Nat) (H : Hp) (σ : St) (vs : List V) (ds : List D) (a : A) (Q : St → Hp → Prop),
  Ok f.K Z Γ F O H σ → (∀ i ∈ is, i < Γ.length) → Reps f.K F vs ds → sel ds = some a → (∀ σ', Ok f.K Z (up a Γ) F O H σ' → (∀ vs : List Nat, (∀ i ∈ is, i ∈ vs) → wipe σ' vs = wipe σ vs) → Q σ' H) → g vs σ H Q
def selNil : List D → Option Unit
  | [] => some ()
  | _ => none
def selCons (s : D → Option A) (t : List D → Option B) : List D → Option (A × B)
  | d :: ds => (s d).bind fun a => (t ds).map fun b => (a, b)
  | [] => none
theorem tgs_nil : TGs f [] selNil (fun _ Γ => Γ) [] := by
  refine ⟨gNil, fun j => pgs_nil, fun Z Γ F O H σ vs ds a Q ok hl r es q => ?_⟩
  cases ds with
  | nil => cases r; exact ⟨rfl, q σ ok fun _ _ => rfl⟩
  | cons d ds => cases es
theorem tgs_cons {ts : List Expr} {s1 : D → Option A} {s2 : List D → Option B} {u1 : A → List Slot → List Slot} {u2 : B → List Slot → List Slot} {i1 i2 : List Nat} (h1 : TGX f a s1 u1 i1) (h2 : TGs f ts s2 u2 i2)
    (hlen : ∀ x Γ, (u1 x Γ).length = Γ.length) (hs : ∀ i, (assignEach (a :: ts) (f.X i).env).map (·.2) = assign a (f.X i).env :: (assignEach ts (f.X i).env).map (·.2) := by intro _; rfl) :
    TGs f (a :: ts) (selCons s1 s2) (fun x Γ => u2 x.2 (u1 x.1 Γ)) (i1 ++ i2) := by
  obtain ⟨g, g1, g2⟩ := h1
  obtain ⟨k, k1, k2⟩ := h2
  refine ⟨gCons g k, fun j => pgs_cons (g1 j) (k1 j) (hs j), fun Z Γ F O H σ vs ds x Q ok hl r es q => ?_⟩
  cases ds with
  | nil => cases es
  | cons d ds =>
    cases r with
    | cons r rs =>
      have es' : ((s1 d).bind fun a => (s2 ds).map fun b => (a, b)) = some x := es
      cases e1 : s1 d with
      | none => rw [e1] at es'; cases es'
      | some y =>
        rw [e1] at es'
        have es2 : ((s2 ds).map fun b => (y, b)) = some x := es'
        cases e2 : s2 ds with
        | none => rw [e2] at es2; cases es2
        | some z =>
          rw [e2] at es2
          cases es2
          refine ⟨_, _, rfl, g2 Z Γ F O H σ _ d y _ ok (fun i hi => hl i (List.mem_append_left _ hi)) r e1 fun σ1 ok1 w1 => ?_⟩
          refine k2 Z _ F O H σ1 _ ds z _ ok1 (fun i hi => by rw [hlen]; exact hl i (List.mem_append_right _ hi)) rs e2 fun σ2 ok2 w2 => ?_
          exact q σ2 ok2 fun vs h => (w2 vs fun i hi => h i (List.mem_append_right _ hi)).trans (w1 vs fun i hi => h i (List.mem_append_left _ hi))
def selT (s : List D → Option A) : D → Option A
  | .tuple ds => s ds
  | _ => none
theorem tg_tup {es : List Expr} {k : Nat} {n : Nat} {s : List D → Option A} {u : A → List Slot → List Slot} {is : List Nat} (h : TGs f es s u is) (hsl : ∀ ds a, s ds = some a → ds.length = n)
    (hn : ∀ i, (assignEach es (f.X i).env).length = n := by intro _; rfl) (hst : ∀ i, (assignEach es (f.X i).env).findIdx? (·.1) = none := by intro _; rfl) : TGX f (.Tuple es k pos) (selT s) u is := by
  obtain ⟨g, g1, g2⟩ := h
  refine ⟨gTup f.K n g, fun j => by have q := pg_tup (pos := pos) (k := k) (f.ec j) (g1 j) (hn j) (hst j); rw [f.eK j] at q; exact q, fun Z Γ F O H σ v d a Q ok hl r es q => ?_⟩
  cases d with
  | tuple ds =>
    cases r with
    | tup hq rs => exact ⟨_, _, rfl, .inl (.inl (ok.fh.tup hq)), (by rw [rs.length]; exact hsl ds a es), g2 Z Γ F O H σ _ ds a _ ok hl rs es q⟩
  | _ => cases es
theorem selNil_len {ds : List D} {a : Unit} (h : selNil ds = some a) : ds.length = 0 := by cases ds with
  | nil => rfl
  | cons _ _ => cases h
theorem selCons_len {s : D → Option A} {t : List D → Option B} {n : Nat} (ht : ∀ ds b, t ds = some b → ds.length = n) {ds : List D} {x : A × B} (h : selCons s t ds = some x) : ds.length = n + 1 := by
  cases ds with
  | nil => cases h
  | cons d ds =>
    have h' : ((s d).bind fun a => (t ds).map fun b => (a, b)) = some x := h
    cases e1 : s d with
    | none => rw [e1] at h'; cases h'
    | some y =>
      rw [e1] at h'
      cases e2 : t ds with
      | none => rw [e2] at h'; cases h'
      | some z => simp [ht ds z e2]

/-! ### for -/
def lp {S : Type} (g : S → D → μ S) : List D → S → μ S
  | [], s => pur s
  | d :: ds, s => bnd (g s d) (lp g ds)
theorem sx_for {sel : D → Option A} {up : A → List Slot → List Slot} {is : List Nat} {body : List Stmt} {Γf : S → List Slot} {s0 : S} {mb : S → A → μ S} (hi : ITX f Γ tg iter ml) (ht : TGX f tg sel up is) (h0 : Le Γ (Γf s0)) (hl : ∀ s, ∀ i ∈ is, i < (Γf s).length)
    (hb : ∀ s x, GX f tAny (up x (Γf s)) body (mb s x) (pFall f.K Γf)) (hp : ∀ i, PassesOwn (model (f.X i).prog (f.X i).w) (f.X i).A (f.X i).env (f.X i).xe := by intro _; exact PassesOwn.never)
    (hs : ∀ i x, foldedSetIterable iter (f.X i).env x = pure x := by intro _ _; rfl) :
    SX f T Γ (.For tg iter body [] pos) (bnd ml fun ds => lp (fun s d => bnd (lif (sel d)) fun x => mb s x) ds s0) (pFall f.K Γf) := by
  obtain ⟨wi, i1, i2⟩ := hi
  obtain ⟨g, g1, g2⟩ := ht
  let tb : TS := fun E σ H => ∃ s x, (hb s x).choose E σ H
  have hB : ∀ i, PSs (f.X i) body tb := fun i => ⟨fun pins s σ H E I q => by
    obtain ⟨s', x, q⟩ := q
    exact ((hb s' x).choose_spec.1 i).run pins s σ H E I q⟩
  refine ⟨tFor wi g tb, fun i => ps_for (hp i) (f.ec i) (i1 i) (g1 i) (hB i) (hs i), fun Z F O H σ E hT ok q => ?_⟩
  refine i2 Z F O H σ _ ok (den_mono (fun ds h F1 H1 J gr wk => ?_) (den_bnd q))
  obtain ⟨n, G, Y, w, en, hG, hY⟩ := wk
  have ok1 := (ok.grow gr)
  have bk1 := ok1.toBk
  let Pv : Nat → St → Hp → Prop := fun i σ H => ∃ s F O, Ok f.K (rebase Z F1 H1) (Γf s) F O H σ ∧ den (lp (fun s d => bnd (lif (sel d)) fun x => mb s x) (ds.drop i) s) (fun r => ∀ F' O' H' σ', Bk f.K Z F' O' H' → pFall f.K Γf r Z F' O' H' σ' E)
  refine for_it w Pv ⟨s0, F1, O, (ok1.le h0).reb, by simpa using h⟩ (fun i σ H _ ⟨s, F, O, ok, _⟩ => hG F H ok.zf ok.fh ok.zl) ?_ ?_
  · rintro i x σ2 H2 H3 hin ⟨s, F2, O2, ok2, hd⟩ y
    obtain ⟨F3, d, gr3, ed, r3⟩ := hY Z.p F2 i H2 x H3 ok2.zf ok2.fh ok2.zl hin y
    have ed' : ds.drop i = d :: ds.drop (i + 1) := by
      obtain ⟨h1, h2⟩ := List.getElem?_eq_some_iff.mp ed
      rw [← h2]; exact List.drop_eq_getElem_cons h1
    rw [ed'] at hd
    obtain ⟨a, ea, hd⟩ := den_lif (den_bnd (den_bnd hd))
    refine g2 (rebase Z F1 H1) (Γf s) F3 O2 H3 σ2 x d a _ (ok2.grow gr3) (hl s) r3 ea fun σ3 ok3 _ => ?_
    refine ⟨s, a, (hb s a).choose_spec.2 (rebase Z F1 H1) F3 O2 H3 σ3 _ trivial ok3 (den_mono (fun s' h F' O' H' σ' bk ok' => ?_) hd)⟩
    exact ⟨s', F', O', ok', h⟩
  · rintro σ2 H2 ⟨s, F2, O2, ok2, hd⟩
    rw [en, List.drop_length] at hd
    have hd' := den_pur hd
    have okz := Ok.back bk1 ok2
    exact hd' F2 O2 H2 σ2 okz.toBk okz
/-- .. with break, continue, return -/
def lpC {S : Type} (g : S → D → μ (Ctl S)) : List D → S → μ (Sum S D)
  | [], s => pur (.inl s)
  | d :: ds, s => bnd (g s d) fun r => match r with
    | .nxt s' => lpC g ds s'
    | .brk s' => pur (.inl s')
    | .ret d => pur (.inr d)
/-- a return of a loop is one of what stands around it -/
def RetIn (K : PySem.W.Frag) (post : Pst R) (inj : D → R) : Prop := ∀ d Z F O H σ E v, post (inj d) Z F O H σ E → Rep K F v d → E.rt v H
theorem ret_ret {K : PySem.W.Frag} : RetIn K (pRet K) (fun d => d) := fun d Z F O H σ E v h r => h v r
theorem ret_ctl {K : PySem.W.Frag} {Γf : S → List Slot} : RetIn K (pCtl K Γf) (fun d => Ctl.ret d) := fun d Z F O H σ E v h r => h v r
def injS {S R : Type} (inj : D → R) : Sum S D → Sum S R
  | .inl s => .inl s
  | .inr d => .inr (inj d)
theorem sx_forC {sel : D → Option A} {up : A → List Slot → List Slot} {is : List Nat} {body : List Stmt} {Γf : S → List Slot} {s0 : S} {mb : S → A → μ (Ctl S)} {inj : D → R} (hr : RetIn f.K post inj) (hi : ITX f Γ tg iter ml) (ht : TGX f tg sel up is) (h0 : Le Γ (Γf s0)) (hl : ∀ s, ∀ i ∈ is, i < (Γf s).length)
    (hb : ∀ s x, GX f tLoop (up x (Γf s)) body (mb s x) (pCtl f.K Γf)) (hp : ∀ i, PassesOwn (model (f.X i).prog (f.X i).w) (f.X i).A (f.X i).env (f.X i).xe := by intro _; exact PassesOwn.never)
    (hs : ∀ i x, foldedSetIterable iter (f.X i).env x = pure x := by intro _ _; rfl) :
    SX f T Γ (.For tg iter body [] pos) (bnd ml fun ds => bnd (lpC (fun s d => bnd (lif (sel d)) fun x => mb s x) ds s0) fun r => pur (injS inj r)) (pMix f.K Γf post) := by
  obtain ⟨wi, i1, i2⟩ := hi
  obtain ⟨g, g1, g2⟩ := ht
  let tb : TS := fun E σ H => ∃ s x, (hb s x).choose E σ H
  have hB : ∀ i, PSs (f.X i) body tb := fun i => ⟨fun pins s σ H E I q => by
    obtain ⟨s', x, q⟩ := q
    exact ((hb s' x).choose_spec.1 i).run pins s σ H E I q⟩
  refine ⟨tFor wi g tb, fun i => ps_for (hp i) (f.ec i) (i1 i) (g1 i) (hB i) (hs i), fun Z F O H σ E hT ok q => ?_⟩
  refine i2 Z F O H σ _ ok (den_mono (fun ds h F1 H1 J gr wk => ?_) (den_bnd q))
  have h := den_bnd h
  obtain ⟨n, G, Y, w, en, hG, hY⟩ := wk
  have ok1 := (ok.grow gr)
  have bk1 := ok1.toBk
  let Rp : Sum S D → Prop := fun r => den (pur (injS inj r) : μ (Sum S R)) (fun r => ∀ F' O' H' σ', Bk f.K Z F' O' H' → pMix f.K Γf post r Z F' O' H' σ' E)
  let Pv : Nat → St → Hp → Prop := fun i σ H => ∃ s F O, Ok f.K (rebase Z F1 H1) (Γf s) F O H σ ∧ den (lpC (fun s d => bnd (lif (sel d)) fun x => mb s x) (ds.drop i) s) Rp
  have fin : ∀ {s : S} {F O H σ}, Ok f.K (rebase Z F1 H1) (Γf s) F O H σ → Rp (.inl s) → E.nx σ H := fun {s F O H σ} ok' h => by
    have h' := den_pur h
    have okz := Ok.back bk1 ok'
    exact h' F O H σ okz.toBk okz
  refine for_it w Pv ⟨s0, F1, O, (ok1.le h0).reb, by simpa using h⟩ (fun i σ H _ ⟨s, F, O, ok, _⟩ => hG F H ok.zf ok.fh ok.zl) ?_ ?_
  · rintro i x σ2 H2 H3 hin ⟨s, F2, O2, ok2, hd⟩ y
    obtain ⟨F3, d, gr3, ed, r3⟩ := hY Z.p F2 i H2 x H3 ok2.zf ok2.fh ok2.zl hin y
    have ed' : ds.drop i = d :: ds.drop (i + 1) := by
      obtain ⟨h1, h2⟩ := List.getElem?_eq_some_iff.mp ed
      rw [← h2]; exact List.drop_eq_getElem_cons h1
    rw [ed'] at hd
    obtain ⟨a, ea, hd⟩ := den_lif (den_bnd (den_bnd hd))
    refine g2 (rebase Z F1 H1) (Γf s) F3 O2 H3 σ2 x d a _ (ok2.grow gr3) (hl s) r3 ea fun σ3 ok3 _ => ?_
    refine ⟨s, a, (hb s a).choose_spec.2 (rebase Z F1 H1) F3 O2 H3 σ3 _ (fun _ _ h => h) ok3 (den_mono (fun r h F' O' H' σ' bk => ?_) hd)⟩
    cases r with
    | nxt s' => exact fun ok' => ⟨s', F', O', ok', h⟩
    | brk s' => exact fun ok' => fin ok' (den_pur h)
    | ret d =>
      intro v rv
      have h1 : Rp (.inr d) := den_pur h
      have h2 := den_pur h1
      exact hr d Z F' O' H' σ' E v (h2 F' O' H' σ' (bk1.back bk)) rv
  · rintro σ2 H2 ⟨s, F2, O2, ok2, hd⟩
    rw [en, List.drop_length] at hd
    exact fin ok2 (den_pur hd)

/-! ### while, with a number of turns at most -/
def wh {S : Type} (c : S → μ Bool) (g : S → μ (Ctl S)) : Nat → S → μ (Sum S D)
  | 0, _ => lif none
  | n + 1, s => bnd (c s) fun k => if k then bnd (g s) fun r => match r with
    | .nxt s' => wh c g n s'
    | .brk s' => pur (.inl s')
    | .ret d => pur (.inr d)
    else pur (.inl s)
theorem sx_while {body : List Stmt} {Γf : S → List Slot} {s0 : S} {mc : S → μ Bool} {mb : S → μ (Ctl S)} {inj : D → R} (N : Nat) (hr : RetIn f.K post inj) (h0 : Le Γ (Γf s0)) (hc : ∀ s, EXB f (Γf s) c (mc s))
    (hb : ∀ s, GX f tLoop (Γf s) body (mb s) (pCtl f.K Γf)) (hp : ∀ i, PassesOwn (model (f.X i).prog (f.X i).w) (f.X i).A (f.X i).env (f.X i).xe := by intro _; exact PassesOwn.never) :
    SX f T Γ (.While c body [] pos) (bnd (wh mc mb N s0) fun r => pur (injS inj r)) (pMix f.K Γf post) := by
  let tb : TS := fun E σ H => ∃ s, (hb s).choose E σ H
  have hB : ∀ i, PSs (f.X i) body tb := fun i => ⟨fun pins s σ H E I q => by
    obtain ⟨s', q⟩ := q
    exact ((hb s').choose_spec.1 i).run pins s σ H E I q⟩
  let tc : TT := fun σ H Q => ∃ s, (hc s).choose σ H Q
  have hC : ∀ i, PT (f.X i) c tc := fun i => ⟨fun pins s σ H Q I q => by
    obtain ⟨s', q⟩ := q
    exact ((hc s').choose_spec.1 i).run pins s σ H Q I q⟩
  refine ⟨tWhile tc tb, fun i => ps_while (hp i) (hC i) (hB i), fun Z F O H σ E hT ok q => ?_⟩
  have q := den_bnd q
  let Rp : Sum S D → Prop := fun r => den (pur (injS inj r) : μ (Sum S R)) (fun r => ∀ F' O' H' σ', Bk f.K Z F' O' H' → pMix f.K Γf post r Z F' O' H' σ' E)
  have fin : ∀ {s : S} {F O H σ}, Ok f.K Z (Γf s) F O H σ → Rp (.inl s) → E.nx σ H := fun {s F O H σ} ok' h => by
    have h' := den_pur h
    exact h' F O H σ ok'.toBk ok'
  refine ⟨fun n σ H => ∃ s F O, Ok f.K Z (Γf s) F O H σ ∧ den (wh mc mb n s) Rp, ⟨N, s0, F, O, ok.le h0, q⟩, ?_⟩
  rintro n σ2 H2 ⟨s, F2, O2, ok2, hd⟩
  cases n with
  | zero => obtain ⟨_, z, _⟩ := den_lif hd; cases z
  | succ n =>
    refine ⟨s, (hc s).choose_spec.2 Z F2 O2 H2 σ2 _ ok2 (den_mono (fun k h F3 H3 g3 => ?_) (den_bnd hd))⟩
    cases k with
    | false =>
      rw [if_neg (by decide)] at h ⊢
      exact fin (ok2.grow g3) (den_pur h)
    | true =>
      rw [if_pos rfl] at h ⊢
      refine ⟨fun σ' H' => ∃ s F O, Ok f.K Z (Γf s) F O H' σ' ∧ den (wh mc mb n s) Rp, fun σ' H' h => ⟨n, Nat.lt_succ_self n, h⟩, s, ?_⟩
      refine (hb s).choose_spec.2 Z F3 O2 H3 σ2 _ (fun _ _ h => h) (ok2.grow g3) (den_mono (fun r h F' O' H' σ' bk => ?_) (den_bnd h))
      cases r with
      | nxt s' => exact fun ok' => ⟨s', F', O', ok', h⟩
      | brk s' => exact fun ok' => fin ok' (den_pur h)
      | ret d =>
        intro v rv
        have h1 : Rp (.inr d) := den_pur h
        have h2 := den_pur h1
        exact hr d Z F' O' H' σ' E v (h2 F' O' H' σ' bk) rv
end
end Y

set_option maxRecDepth 100000
set_option maxHeartbeats 1000000
namespace Y
open PySem L2 PM PyProof.Rows
section
variable {ι : Type} {μ : Type → Type} [PM μ] {f : Fam ι} {T : Ends → Prop} {Γ : List Slot} {e a b c tg iter : Expr} {m ma mb : μ D} {ml : μ (List D)} {pos : Pos} {rest : List Stmt} {R S S' A B C : Type} {post : Pst R} {d : D}
/-! a list or a tuple -/
def iLT (K : PySem.W.Frag) (tl : TE) : TI := fun σ H R => tl σ H fun x H1 => ∃ a, x = .ref a ∧ (((∃ xs, SqL K H1 a xs) ∧ R (Itl K a) H1) ∨ ((∃ xs, SqT K H1 a xs) ∧ R (Itt K a) H1))
theorem pi_lt {X : Cx} {l : Expr} {tl : TE} (hl : PE X l tl) : PI X tg l (iLT X.K tl) := by
  refine ⟨fun pins s σ H R I h => thn (hl.run pins s σ H _ I h) fun v s1 ⟨x, H1, I1, r1, a, e, q⟩ => ?_⟩
  have r1' : v = .ref a := by rw [e] at r1; exact r1
  subst r1'
  have fr : ∀ {u : Obj}, Inv X pins σ H1 { s1 with heap := s1.heap.push u } := fun {u} => I1.kept (t' := s1.toks) fun b o e => Heap.get?_push_of_some _ e
  have fp : ∀ b ∈ [s1.heap.objs.size], FpOk X pins H1 b := fun b hb => by
    have e : b = s1.heap.objs.size := by simpa using hb
    subst e
    exact I1.fpOk (Nat.le_refl _) (I1.hok.fresh (Nat.le_refl _))
  rcases q with ⟨⟨xs, hq⟩, q⟩ | ⟨⟨xs, hq⟩, q⟩
  · obtain ⟨its, rv, p, hz⟩ := I1.list hq
    exact wpAny_pyIter_list p.isList ⟨s1.heap.objs.size, [s1.heap.objs.size], _, _, H1, rfl, fr, turn_list a _, ⟨_, Heap.get?_push_size _ rfl, rfl, rfl⟩, fp, q⟩
  · obtain ⟨its, rv, p, hz⟩ := I1.tuple hq
    exact wpAny_pyIter_tuple (show s1.heap.IsTuple a its.toArray from p) ⟨s1.heap.objs.size, [s1.heap.objs.size], _, _, H1, rfl, fr, turn_tuple a _, ⟨_, Heap.get?_push_size _ rfl, rfl, rfl⟩, fp, q⟩
def dSeq : D → Option (List D)
  | .list ds => some ds
  | .tuple ds => some ds
  | _ => none
theorem rd_at {K : PySem.W.Frag} {F : Hp} : ∀ {vs : List V} {ds : List D} {i : Nat} {v : V}, Reps K F vs ds → vs[i]? = some v → ∃ d, ds[i]? = some d ∧ Rep K F v d
  | _, _, _, _, .nil, e => by simp at e
  | _, _, 0, _, .cons r _, e => by simp at e; subst e; exact ⟨_, rfl, r⟩
  | _, _, i + 1, d, .cons _ t, e => by
    obtain ⟨u, h1, h2⟩ := rd_at (i := i) (v := d) t (by simpa using e)
    exact ⟨u, by simpa using h1, h2⟩
theorem same_fh {F F1 : Hp} (h : ∀ a o, F a = some o → F1 a = some o) : FH F F1 := FH.of_same h
theorem wk_list {K : PySem.W.Frag} {F : Hp} {a : Addr} {xs : List V} {ds : List D} {L : List (Addr × Obj × HO)} (h : F a = some (.lst xs)) (r : Reps K F xs ds) : Wk K F L (Itl K a) ds :=
  ⟨_, _, _, walk_list (xs := xs), r.length, fun F1 H up fh _ => SqL.of (fh.lst ((same_fh up).lst h)), fun p F1 i H x H' up fh _ hi y => by
    obtain ⟨e, hx⟩ := y
    subst e
    obtain ⟨d, h1, h2⟩ := rd_at r hx
    exact ⟨F1, d, .refl fh, h1, h2.up (same_fh up)⟩⟩
theorem wk_tup {K : PySem.W.Frag} {F : Hp} {a : Addr} {xs : List V} {ds : List D} {L : List (Addr × Obj × HO)} (h : F a = some (.tup xs)) (r : Reps K F xs ds) : Wk K F L (Itt K a) ds :=
  ⟨_, _, _, walk_tup (xs := xs), r.length, fun F1 H up fh _ => .inl (.inl (fh.tup ((same_fh up).tup h))), fun p F1 i H x H' up fh _ hi y => by
    obtain ⟨e, hx⟩ := y
    subst e
    obtain ⟨d, h1, h2⟩ := rd_at r hx
    exact ⟨F1, d, .refl fh, h1, h2.up (same_fh up)⟩⟩
theorem it_seq (h : EX f Γ iter m) : ITX f Γ tg iter (bnd m fun d => lif (dSeq d)) := by
  obtain ⟨t, h1, h2⟩ := h
  refine ⟨iLT f.K t, fun i => by have q := pi_lt (tg := tg) (h1 i); rw [f.eK i] at q; exact q, fun Z F O H σ R ok q => ?_⟩
  refine h2 Z F O H σ _ ok (den_mono (fun d h v F' H' g r => ?_) (den_bnd q))
  obtain ⟨ds, ed, hz⟩ := den_lif h
  clear h
  have h := hz
  clear hz
  cases d with
  | list ds' =>
    cases ed
    cases r with
    | lst hq rs => exact ⟨_, rfl, .inl ⟨⟨_, SqL.of (g.fh.lst hq)⟩, h F' H' _ g (wk_list hq rs)⟩⟩
  | tuple ds' =>
    cases ed
    cases r with
    | tup hq rs => exact ⟨_, rfl, .inr ⟨⟨_, .inl (.inl (g.fh.tup hq))⟩, h F' H' _ g (wk_tup hq rs)⟩⟩
  | _ => cases ed
/-! ranges -/
def rng (lo : Int) (n : Nat) : List D := (List.range n).map fun (i : Nat) => (.int (lo + (i : Int)) : D)
theorem rng_len (lo : Int) (n : Nat) : (rng lo n).length = n := by simp [rng]
theorem wk_range {K : PySem.W.Frag} {F : Hp} {lo : Int} {n : Nat} {L : List (Addr × Obj × HO)} : Wk K F L (Itr lo n) (rng lo n) :=
  ⟨_, _, _, walk_range, (rng_len lo n).symm, fun _ _ _ _ _ => trivial, fun p F1 i H x H' up fh _ hi y => by
    obtain ⟨e, hx⟩ := y
    subst e hx
    exact ⟨F1, .int (lo + i), .refl fh, by simp [rng, hi], .int _⟩⟩
def dRg1 : D → Option (List D)
  | .int j => if j < 4000000000000000000 ∧ -4000000000000000000 < j then some (rng 0 j.toNat) else none
  | _ => none
def dRg2 : D → D → Option (List D)
  | .int i, .int j => if (j < 4000000000000000000 ∧ -4000000000000000000 < j) ∧ (i < 4000000000000000000 ∧ -4000000000000000000 < i) then some (rng i (j - i).toNat) else none
  | _, _ => none
theorem it_range1 {p : Pos} (hm : f.mg "range" = none) (h : EX f Γ a m) (hg : ∀ i, Gl (f.X i) "range" := by intro _; rfl) (hs : ∀ i, starEach [a] (f.X i).env = [(false, eval a (f.X i).env)] := by intro _; rfl) :
    ITX f Γ tg (.Call (.Name "range" p) [a] [] pos) (bnd m fun d => lif (dRg1 d)) := by
  obtain ⟨t, h1, h2⟩ := h
  refine ⟨_, fun i => pi_range1 (hg i) (by rw [f.eg i]; exact hm) (pa_cons (h1 i) pa_nil (by rw [hs i]; rfl)) (hs i), fun Z F O H σ R ok q => ?_⟩
  refine h2 Z F O H σ _ ok (den_mono (fun d h v F' H' g r => ?_) (den_bnd q))
  obtain ⟨ds, ed, hz⟩ := den_lif h
  clear h
  have h := hz
  clear hz
  cases d with
  | int j =>
    have ed' : (if j < 4000000000000000000 ∧ -4000000000000000000 < j then some (rng 0 j.toNat) else none) = some ds := ed
    split at ed'
    · rename_i hj
      cases ed'
      cases r
      exact ⟨j, rfl, by omega, by omega, h F' H' _ g wk_range⟩
    · cases ed'
  | _ => cases ed
theorem it_range2 {p : Pos} (hm : f.mg "range" = none) (ha : EX f Γ a ma) (hb : EX f Γ b mb) (hg : ∀ i, Gl (f.X i) "range" := by intro _; rfl)
    (hs : ∀ i, starEach [a, b] (f.X i).env = [(false, eval a (f.X i).env), (false, eval b (f.X i).env)] := by intro _; rfl) (hs2 : ∀ i, starEach [b] (f.X i).env = [(false, eval b (f.X i).env)] := by intro _; rfl) :
    ITX f Γ tg (.Call (.Name "range" p) [a, b] [] pos) (bnd ma fun x => bnd mb fun y => lif (dRg2 x y)) := by
  obtain ⟨t, h1, h2⟩ := ha
  obtain ⟨u, h3, h4⟩ := hb
  refine ⟨_, fun i => pi_range2 (hg i) (by rw [f.eg i]; exact hm) (pa_cons (h1 i) (pa_cons (h3 i) pa_nil (by rw [hs2 i]; rfl)) (by rw [hs i, hs2 i])) (hs i) (hs2 i), fun Z F O H σ R ok q => ?_⟩
  refine h2 Z F O H σ _ ok (den_mono (fun d h v F' H' g r => ?_) (den_bnd q))
  refine h4 Z F' O H' σ _ (ok.grow g) (den_mono (fun e h v' F2 H2 g2 r2 => ?_) (den_bnd h))
  obtain ⟨ds, ed, hz⟩ := den_lif h
  clear h
  have h := hz
  clear hz
  cases d with
  | int i =>
    cases e with
    | int j =>
      have ed' : (if (j < 4000000000000000000 ∧ -4000000000000000000 < j) ∧ (i < 4000000000000000000 ∧ -4000000000000000000 < i) then some (rng i (j - i).toNat) else none) = some ds := ed
      split at ed'
      · rename_i hj
        cases ed'
        cases r
        cases r2
        exact ⟨i, j, rfl, ⟨by omega, by omega, by omega, by omega⟩, h F2 H2 _ (g.trans g2) wk_range⟩
      · cases ed'
    | _ => cases ed
  | _ => cases e <;> cases ed
/-! enumerate of a list -/
def dEnum : D → Option (List D)
  | .list ds => if ds.length < 16000000 then some (ds.zipIdx.map fun p => .tuple [.int (p.2 : Int), p.1]) else none
  | _ => none
theorem wk_enum {K : PySem.W.Frag} {F : Hp} {a : Addr} {xs : List V} {ds : List D} {L : List (Addr × Obj × HO)} (h : F a = some (.lst xs)) (r : Reps K F xs ds) : Wk K F L (Ite K a) (ds.zipIdx.map fun p => .tuple [.int (p.2 : Int), p.1]) :=
  ⟨_, _, _, walk_enum (xs := xs), by simp [r.length], fun F1 H up fh _ => SqL.of (fh.lst ((same_fh up).lst h)), fun p F1 i H x H' up fh _ hi y => by
    obtain ⟨T, x1, x2, e1, e2, e3, e4, e5⟩ := y
    subst e1 e3
    cases e4
    obtain ⟨d, h1, h2⟩ := rd_at r e5
    have g : Grow K p F1 H (upd F1 T (.tup [.int (i : Nat), x2])) (upd H T (.tup [.int (i : Nat), x2])) := .new fh e2
    exact ⟨_, _, g, by simp [h1], .tup upd_same (.cons (.int _) (.cons ((h2.up (same_fh up)).up g.up) .nil))⟩⟩
theorem it_enum {p tpos : Pos} {elts : List Expr} {kk : Nat} (hm : f.mg "enumerate" = none) (h : EX f Γ a m) (hg : ∀ i, Gl (f.X i) "enumerate" := by intro _; rfl) (hs : ∀ i, starEach [a] (f.X i).env = [(false, eval a (f.X i).env)] := by intro _; rfl) :
    ITX f Γ (.Tuple elts kk tpos) (.Call (.Name "enumerate" p) [a] [] pos) (bnd m fun d => lif (dEnum d)) := by
  obtain ⟨t, h1, h2⟩ := h
  refine ⟨iEnum f.K (tCons t tNil), fun i => by have q := pi_enum (pos := pos) (p := p) (tpos := tpos) (elts := elts) (kk := kk) (hg i) (by rw [f.eg i]; exact hm) (pa_cons (h1 i) pa_nil (by rw [hs i]; rfl)) (hs i); rw [f.eK i] at q; exact q, fun Z F O H σ R ok q => ?_⟩
  refine h2 Z F O H σ _ ok (den_mono (fun d h v F' H' g r => ?_) (den_bnd q))
  obtain ⟨ds, ed, hz⟩ := den_lif h
  clear h
  cases d with
  | list es =>
    have ed' : (if es.length < 16000000 then some (es.zipIdx.map fun p => (.tuple [.int (p.2 : Int), p.1] : D)) else none) = some ds := ed
    split at ed'
    · cases ed'
      cases r with
      | lst hq rs => exact ⟨_, _, rfl, SqL.of (g.fh.lst hq), hz F' H' _ g (wk_enum hq rs)⟩
    · cases ed'
  | _ => cases ed
end
end Y

set_option maxRecDepth 100000
set_option maxHeartbeats 1000000
namespace Y
open PySem L2 PM
/-! slots of a block's own names forgotten -/
def wipeG (Γ : List Slot) : List Nat → List Slot
  | [] => Γ
  | v :: vs => (wipeG Γ vs).set v .any
theorem wipeG_len (Γ : List Slot) : ∀ vs, (wipeG Γ vs).length = Γ.length
  | [] => rfl
  | v :: vs => by unfold wipeG; rw [List.length_set, wipeG_len]
theorem Ok.wipe {K : PySem.W.Frag} {Z : Ent} {Γ : List Slot} {F H : Hp} {O : Addr → Option Nat} {σ : St} (ok : Ok K Z Γ F O H σ) : ∀ vs, Ok K Z (wipeG Γ vs) F O H (wipe σ vs)
  | [] => ok
  | v :: vs => by
    have ih := Ok.wipe ok vs
    unfold wipeG L2.wipe
    refine { toBk := ok.toBk, ln := by simp [ih.ln], sl := fun j s e => ?_ }
    by_cases hj : v = j
    · subst hj
      have hlt := (List.getElem?_eq_some_iff.mp e).1
      rw [List.length_set] at hlt
      rw [List.getElem?_set_self hlt] at e
      cases e
      trivial
    · rw [List.getElem?_set_ne hj] at e
      rw [List.getElem?_set_ne hj]
      exact ih.sl j s e
theorem wipe_wipe {σ : St} {vs : List Nat} : L2.wipe (L2.wipe σ vs) vs = L2.wipe σ vs := by
  apply List.ext_getElem?
  intro j
  rw [wipe_get, wipe_get, wipe_length]
  by_cases h : j ∈ vs ∧ j < σ.length
  · simp [h]
  · rw [if_neg h, if_neg h]
/-! a list that is being made, beside the slots -/
theorem Ok.beside {K : PySem.W.Frag} {Z : Ent} {Γ : List Slot} {F H : Hp} {O : Addr → Option Nat} {σ : St} (ok : Ok K Z Γ F O H σ) : Ok K Z (Γ ++ [.any]) F O H (σ ++ [none]) :=
  { toBk := ok.toBk, ln := by simp [ok.ln], sl := fun j s e => by
      by_cases h : j < Γ.length
      · rw [List.getElem?_append_left h] at e
        rw [List.getElem?_append_left (by rw [ok.ln]; exact h)]
        exact ok.sl j s e
      · rw [List.getElem?_append_right (Nat.le_of_not_lt h)] at e
        cases hk : j - Γ.length with
        | zero => rw [hk] at e; cases e; trivial
        | succ n => rw [hk] at e; simp at e }
theorem Ok.inner {K : PySem.W.Frag} {Z : Ent} {Γ : List Slot} {F H : Hp} {O : Addr → Option Nat} {σ : St} {s : Slot} {v : Option V} (ok : Ok K Z (Γ ++ [s]) F O H (σ ++ [v])) : Ok K Z Γ F O H σ := by
  have hl : σ.length = Γ.length := by have := ok.ln; simpa using this
  refine { toBk := ok.toBk, ln := hl, sl := fun j s' e => ?_ }
  have h := (List.getElem?_eq_some_iff.mp e).1
  have q := ok.sl j s' (by rw [List.getElem?_append_left h]; exact e)
  rw [List.getElem?_append_left (by rw [hl]; exact h)] at q
  exact q
/-- a list at l is being made: ds so far -/
structure Mk1 (K : PySem.W.Frag) (Z : Ent) (Γ : List Slot) (F : Hp) (O : Addr → Option Nat) (H : Hp) (σ : St) (l : Addr) (ds : List D) : Prop where
  ok : Ok K Z (Γ ++ [.own (.list ds)]) F O H (σ ++ [some (.ref l)])
section
variable {K : PySem.W.Frag} {Z : Ent} {Γ : List Slot} {F H F' H' : Hp} {O : Addr → Option Nat} {σ : St} {l : Addr} {ds : List D}
theorem set_last {α : Type} {xs : List α} {a b : α} : (xs ++ [a]).set xs.length b = xs ++ [b] := by
  rw [List.set_append_right _ _ (Nat.le_refl _)]; simp
theorem Mk1.new (ok : Ok K Z Γ F O H σ) (hl : H l = none) : Mk1 K Z Γ F (own1 O l Γ.length) (upd H l (.lst [])) σ l [] := by
  have h := ok.beside.setn (i := Γ.length) (l := l) (d := .list []) (F' := F) (H' := upd H l (.lst [])) (.raw ok.fh hl) (by simp) hl (ok.fh.dom hl) ⟨[], upd_same, .nil⟩
  have e1 : (Γ ++ [Slot.any]).set Γ.length (.own (.list [])) = Γ ++ [.own (.list [])] := set_last
  have e2 : (σ ++ [none]).set Γ.length (some (V.ref l)) = σ ++ [some (.ref l)] := by rw [← ok.ln]; exact set_last
  rw [e1, e2] at h
  exact ⟨h⟩
theorem Mk1.inn (m : Mk1 K Z Γ F O H σ l ds) : Ok K Z Γ F O H σ := m.ok.inner
theorem last_get {α : Type} {xs : List α} {a : α} : (xs ++ [a])[xs.length]? = some a := by simp
theorem Mk1.at (m : Mk1 K Z Γ F O H σ l ds) : O l = some Γ.length ∧ ∃ xs, H l = some (.lst xs) ∧ Reps K F xs ds := by
  obtain ⟨l', e, e1, xs, e2, r⟩ := m.ok.sl Γ.length _ last_get
  have hl : σ.length = Γ.length := m.inn.ln
  rw [← hl, last_get] at e
  cases e
  exact ⟨e1, xs, e2, r⟩
theorem Mk1.grow (m : Mk1 K Z Γ F O H σ l ds) (g : Grow K Z.p F H F' H') : Mk1 K Z Γ F' O H' σ l ds := ⟨m.ok.grow g⟩
theorem Mk1.push (m : Mk1 K Z Γ F O H σ l ds) {xs : List V} {v : V} {d : D} (e : H l = some (.lst xs)) (r : Rep K F v d) : Mk1 K Z Γ F O (upd H l (.lst (xs ++ [v]))) σ l (ds ++ [d]) := by
  obtain ⟨e1, xs', e2, rs⟩ := m.at
  rw [e] at e2; cases e2
  have hl : σ.length = Γ.length := m.inn.ln
  have h := m.ok.mut (i := Γ.length) (l := l) (d' := .list (ds ++ [d])) (o := .lst (xs ++ [v])) last_get (by rw [← hl]; exact last_get) e1 ⟨_, upd_same, rs.app (.cons r .nil)⟩
  rw [set_last] at h
  exact ⟨h⟩
end
/-- what is told has an outcome -/
class PX (μ : Type → Type) [PM μ] : Prop where
  den_ex : ∀ {α : Type} {x : μ α} {Q : α → Prop}, den x Q → ∃ a, Q a
instance : PX Option := ⟨fun ⟨a, _, q⟩ => ⟨a, q⟩⟩
theorem Gen.all_ex {α : Type} {Q : α → Prop} : ∀ {x : Gen α}, x.all Q → ∃ a, Q a
  | .ret a, h => ⟨a, h⟩
  | .fail, h => h.elim
  | .draw _ _, h => all_ex (h.2 0 (Int.le_refl 0) h.1)
instance : PX Gen := ⟨Gen.all_ex⟩
open PX

/-! blocks of comprehensions -/
def Fam.blk {ι : Type} (f : Fam ι) (scope : Scope) : Fam (ι × Shared × Hp × Addr × List (Str × Addr) × List Addr) where
  X := fun i => (f.X i.1).blk i.2.1 i.2.2.1 scope (compEnvC scope i.2.2.2.2.1 i.2.2.2.1 (f.X i.1).env) i.2.2.2.2.2
  P := f.P
  w := f.w
  K := f.K
  mg := f.mg
  base := f.base
  N := f.N
  k := f.k
  eP := fun i => f.eP i.1
  ew := fun i => f.ew i.1
  eK := fun i => f.eK i.1
  eg := fun i => f.eg i.1
  eb := fun i => f.eb i.1
  eN := fun i => f.eN i.1
  ec := fun i => f.ec i.1
  rm := fun i => f.rm i.1
  nd := f.nd
section
variable {ι : Type} {μ : Type → Type} [PM μ] [PX μ] {f : Fam ι} {T : Ends → Prop} {Γ : List Slot} {e a b c tg iter elt tg1 iter1 : Expr} {m ma mb : μ D} {ml : μ (List D)} {pos : Pos} {rest : List Stmt} {R S S' A B C : Type} {post : Pst R} {d : D}
/-- a comprehension's parts, and what it makes -/
structure LCX (f : Fam ι) (Γ : List Slot) (elt : Expr) (tg iter : Expr) (ifs : List Expr) (scope : Scope) (own : List (Str × Nat)) (m : μ D) : Prop where
  ex : ∃ wi g tt te, (∀ i, PI (f.X i) tg iter wi) ∧ (∀ i, PG ((f.blk scope).X i) tg g) ∧ (∀ i, PTs ((f.blk scope).X i) ifs tt) ∧ (∀ i, PE ((f.blk scope).X i) elt te) ∧ RDN f.K Γ (tLc wi g tt te (own.map (·.2))) m
/-- each item's part: none, or one -/
def cp {A : Type} (g : D → μ (Option D)) : List D → μ (List D)
  | [] => pur []
  | d :: ds => bnd (g d) fun o => bnd (cp (A := A) g ds) fun ys => pur (match o with
    | some y => y :: ys
    | none => ys)
def mkL (ys : List D) : μ D := if ys.length < 16000000 then pur (.list ys) else lif none
theorem mkL_len {ys : List D} {Q : D → Prop} (h : den (mkL ys : μ D) Q) : ys.length < 16000000 ∧ Q (.list ys) := by
  unfold mkL at h
  split at h
  · rename_i q; exact ⟨q, den_pur h⟩
  · obtain ⟨_, z, _⟩ := den_lif h; cases z
/-- the test of a comprehension -/
def EXI (f : Fam ι) (Γ : List Slot) (ifs : List Expr) (m : μ Bool) : Prop := ∃ t, (∀ i, PTs (f.X i) ifs t) ∧ RDB f.K Γ t m
theorem exi_one {mb' : μ Bool} (h : EXB f Γ c mb') : EXI f Γ [c] mb' := by
  obtain ⟨t, h1, h2⟩ := h
  exact ⟨t, fun i => pts_one (h1 i), h2⟩
theorem lc_mk {scope : Scope} {own : List (Str × Nat)} {ifs : List Expr} {sel : D → Option A} {up : A → List Slot → List Slot} {is : List Nat} {mt : A → μ Bool} {me : A → μ D} (hi : ITX f Γ tg iter ml) (ht : TGX (f.blk scope) tg sel up is) (his : ∀ i ∈ is, i ∈ own.map (·.2))
    (hil : ∀ i ∈ is, i < Γ.length) (hc : ∀ x, EXI (f.blk scope) (up x (wipeG Γ (own.map (·.2)))) ifs (mt x)) (he : ∀ x, EX (f.blk scope) (up x (wipeG Γ (own.map (·.2)))) elt (me x)) :
    LCX f Γ elt tg iter ifs scope own (bnd ml fun ds => bnd (cp (A := A) (fun d => bnd (lif (sel d)) fun x => bnd (mt x) fun k => if k then bnd (me x) fun y => pur (some y) else pur none) ds) mkL) := by
  obtain ⟨wi, i1, i2⟩ := hi
  obtain ⟨g, g1, g2⟩ := ht
  let tt : TT := fun σ H Q => ∃ x, (hc x).choose σ H Q
  let te : TE := fun σ H Q => ∃ x, (he x).choose σ H Q
  refine ⟨wi, g, tt, te, i1, g1, fun i => ⟨fun pins s σ H Q I q => ?_⟩, fun i => ⟨fun pins s σ H Q I q => ?_⟩, fun Z F O H σ Q ok q => ?_⟩
  · obtain ⟨x, q⟩ := q
    exact ((hc x).choose_spec.1 i).run pins s σ H Q I q
  · obtain ⟨x, q⟩ := q
    exact ((he x).choose_spec.1 i).run pins s σ H Q I q
  refine i2 Z F O H σ _ ok (den_mono (fun ds h F1 H1 J gr wk L hL => ?_) (den_bnd q))
  obtain ⟨n, G, Y, w, en, hG, hY⟩ := wk
  have ok1 := ok.grow gr
  have bk1 := ok1.toBk
  have hL0 : H L = none := by
    cases eL : H L with
    | none => rfl
    | some o => exact absurd hL (gr.dm L (ne_none_of eL))
  have h := den_bnd h
  let vs := own.map (·.2)
  -- what was there when the list began
  let Z1 : Ent := rebase Z F1 H1
  let Fin : List D → Prop := fun ys => den (mkL ys : μ D) (fun d => ∀ l F' H', Grow f.K Z.p F H F' H' → H l = none → F' l = none → Node f.K F' H' l d → Q (.ref l) H')
  -- the heap at the start, kept by the loop
  let Z2 : Ent := { p := Z.p, F := F1, H := H1, L := Z.L }
  have lk : ∀ q ∈ Z.L, H1 q.1 = some (.frz q.2.1 q.2.2) := ok1.zl
  let Pv : Nat → Hp → Prop := fun i H => ∃ acc F2, (∃ O2, Mk1 f.K Z1 (wipeG Γ vs) F2 O2 H (wipe σ vs) L acc) ∧ Grow f.K Z.p F1 H1 F2 H ∧ F2 L = none ∧ den (cp (A := A) (fun d => bnd (lif (sel d)) fun x => bnd (mt x) fun k => if k then bnd (me x) fun y => pur (some y) else pur none) (ds.drop i)) (fun ys => Fin (acc ++ ys))
  refine lc_it w Pv ⟨[], F1, ⟨_, Mk1.new (ok1.reb.wipe vs) hL⟩, .raw ok1.fh hL, ok1.fh.dom hL, by simpa using h⟩ (fun i H _ ⟨acc, F2, ⟨O2, mm⟩, _, _, _⟩ => hG F2 H mm.inn.zf mm.inn.fh mm.inn.zl) ?_ ?_
  · rintro i x H2 H3 hin ⟨acc, F2, ⟨O2, mm⟩, gg, hF2, hd⟩ y
    obtain ⟨F3, d, gr3, ed, r3⟩ := hY Z.p F2 i H2 x H3 mm.inn.zf mm.inn.fh mm.inn.zl hin y
    have ed' : ds.drop i = d :: ds.drop (i + 1) := by
      obtain ⟨h1, h2⟩ := List.getElem?_eq_some_iff.mp ed
      rw [← h2]; exact List.drop_eq_getElem_cons h1
    rw [ed'] at hd
    obtain ⟨xa, ea, hd⟩ := den_lif (den_bnd (den_bnd hd))
    have hd := den_bnd hd
    have mm3 := mm.grow gr3
    obtain ⟨_, xs2, eL2, _⟩ := mm.at
    have F3L : F3 L = none := (gr3.nw L (ne_none_of eL2)).trans hF2
    refine g2 Z1 _ F3 O2 H3 _ x d xa _ mm3.inn (fun i hi => by rw [wipeG_len]; exact hil i hi) r3 ea fun σ3 ok3 w3 => ⟨(w3 vs his).trans wipe_wipe, ?_⟩
    -- the slots behind the target, with the list beside
    refine ⟨xa, (hc xa).choose_spec.2 Z1 F3 O2 H3 σ3 _ ok3 (den_mono (fun k h F4 H4 g4 => ?_) hd)⟩
    have mm4 := mm3.grow g4
    have gg4 := (gg.trans gr3).trans g4
    obtain ⟨_, xs3, eL3, _⟩ := mm3.at
    have F4L : F4 L = none := (g4.nw L (ne_none_of eL3)).trans F3L
    cases k with
    | false =>
      rw [if_neg (by decide)] at h ⊢
      have h' := den_pur h
      have h2 := den_bnd h'
      exact ⟨acc, F4, ⟨O2, mm4⟩, gg4, F4L, den_mono (fun ys h => by have q := den_pur h; exact q) h2⟩
    | true =>
      rw [if_pos rfl] at h ⊢
      refine ⟨xa, (he xa).choose_spec.2 Z1 F4 O2 H4 σ3 _ (ok3.grow g4) (den_mono (fun yd h v F5 H5 g5 r5 => ?_) (den_bnd h))⟩
      have mm5 := mm4.grow g5
      obtain ⟨_, xs4, eL4, _⟩ := mm4.at
      have F5L : F5 L = none := (g5.nw L (ne_none_of eL4)).trans F4L
      have h0 := den_pur h
      have h := den_mono (fun ys h => den_pur h) (den_bnd h0)
      obtain ⟨_, xs, exs, rs⟩ := mm5.at
      obtain ⟨ys, hys⟩ := den_ex h
      have hl := (mkL_len hys).1
      simp at hl
      refine ⟨xs, exs, big_lt (by rw [rs.length]; omega), acc ++ [yd], F5, ⟨O2, mm5.push exs r5⟩, ?_, F5L, den_mono (fun ys h => by rw [List.append_assoc]; exact h) h⟩
      -- the list itself was not there at the start
      have g15 := gg4.trans g5
      refine ⟨g15.ff, g15.nw, fun b o e n => ?_, fun b hb => ?_, fun b o e => ?_, fun q => ?_⟩
      · rw [upd_ne (fun z => by subst z; rw [hL] at e; cases e)]; exact g15.hh b o e n
      · rw [upd_ne (fun z => hb (by rw [z]; exact hL))]; exact g15.dm b hb
      · rw [upd_ne (fun z => by subst z; rw [F5L] at e; cases e)]; exact g15.fh b o e
      · intro b e
        obtain ⟨h1, sa, i1, j1, k1, ns, h2, h3⟩ := g15.pl q b e
        have hb : b ≠ L := fun z => by
          obtain ⟨_, _, _, _, _, _, h2', _⟩ := q b e
          rw [z, hL] at h2'; cases h2'
        exact ⟨h1, sa, i1, j1, k1, ns, by rw [upd_ne hb]; exact h2, h3⟩
  · rintro H2 ⟨acc, F2, ⟨O2, mm⟩, gg, hF2, hd⟩
    rw [en, List.drop_length] at hd
    have hd' := den_pur hd
    rw [List.append_nil] at hd'
    obtain ⟨_, hq⟩ := mkL_len hd'
    obtain ⟨_, xs, exs, rs⟩ := mm.at
    exact hq L F2 H2 (gr.trans gg) hL0 hF2 ⟨xs, exs, rs⟩
theorem LCX.n {ifs : List Expr} {scope : Scope} {own : List (Str × Nat)} (h : LCX f Γ elt tg iter ifs scope own m) (ok : ∀ i, BlkOk (f.X i).N (f.X i).env.scope scope own) (hs : ∀ i x, foldedSetIterable iter (f.X i).env x = pure x := by intro _ _; rfl) :
    EXN f Γ (.ListComp elt [⟨tg, iter, ifs, 0⟩] scope pos) m := by
  obtain ⟨wi, g, tt, te, h1, h2, h3, h4, h5⟩ := h.ex
  exact ⟨_, fun i => pe_lc (f.ec i) (by rw [f.eN i]; exact f.nd) (h1 i) (ok i) (fun s H C cl fp => h2 (i, s, H, C, cl, fp)) (fun s H C cl fp => h3 (i, s, H, C, cl, fp)) (fun s H C cl fp => h4 (i, s, H, C, cl, fp)) (hs i), h5⟩
/-- y = [..] -/
theorem sx_setLc {ifs : List Expr} {scope : Scope} {own : List (Str × Nat)} {i : Nat} {y : Str} {py spos : Pos} (h : LCX f Γ elt tg iter ifs scope own m) (ok : ∀ i, BlkOk (f.X i).N (f.X i).env.scope scope own) (hi : ∀ j, (f.X j).N[i]? = some y) (hl : i < Γ.length)
    (hyl : ∀ j, (f.X j).env.scope.names.lookup y = some .local) (hsw : ∀ j, swapsWith (.ListComp elt [⟨tg, iter, ifs, 0⟩] scope pos) (some (.Name y py)) spos.line (f.X j).env = pure true) (hs : ∀ i x, foldedSetIterable iter (f.X i).env x = pure x := by intro _ _; rfl) :
    SX f T Γ (.Assign [.Name y py] (.ListComp elt [⟨tg, iter, ifs, 0⟩] scope pos) spos) m (pFall f.K fun d => Γ.set i (.own d)) := by
  obtain ⟨wi, g, tt, te, h1, h2, h3, h4, h5⟩ := h.ex
  refine ⟨_, fun j => ps_setLc (f.ec j) (by rw [f.eN j]; exact f.nd) (hi j) (hyl j) (hsw j) (h1 j) (ok j) (fun s H C cl fp => h2 (j, s, H, C, cl, fp)) (fun s H C cl fp => h3 (j, s, H, C, cl, fp)) (fun s H C cl fp => h4 (j, s, H, C, cl, fp)) (hs j), fun Z F O H σ E hT ok q => ?_⟩
  refine h5 Z F O H σ _ ok (den_mono (fun d h l F' H' g h0 h1 n => ?_) q)
  have ok' := ok.setn g hl h0 h1 n
  exact h F' _ H' _ ok'.toBk ok'
end
end Y

set_option maxRecDepth 100000
set_option maxHeartbeats 1000000
namespace Y
open PySem L2 PM PX
/-- the slots at a def's start -/
def slotOf : AK → D → Slot
  | .val, d => .val d
  | .top, d => .top d
  | .pool, _ => .pool
def slots0 : List AK → List D → List Slot
  | k :: ks, d :: ds => slotOf k d :: slots0 ks ds
  | _, _ => []
theorem slots0_len {K : PySem.W.Frag} {p : Option Addr} {F H : Hp} : ∀ {ks : List AK} {vs : List V} {ds : List D}, Args K p F H ks vs ds → (slots0 ks ds).length = vs.length
  | _, _, _, .nil => rfl
  | _, _, _, .val _ r => by simp [slots0, slots0_len r]
  | _, _, _, .top _ r => by simp [slots0, slots0_len r]
  | _, _, _, .pool _ r => by simp [slots0, slots0_len r]
theorem args_slots {K : PySem.W.Frag} {p : Option Addr} {F H : Hp} : ∀ {ks : List AK} {vs : List V} {ds : List D}, Args K p F H ks vs ds → ∀ (i j : Nat) (s : Slot), (slots0 ks ds)[i]? = some s → SlotOk K { p := p, F := F, H := H } F (fun _ => none) H j s ((vs.map some)[i]?)
  | _, _, _, .nil, _, _, _, e => by simp [slots0] at e
  | _, _, _, .val h r, 0, _, s, e => by simp [slots0, slotOf] at e; subst e; exact ⟨_, by simp, h⟩
  | _, _, _, .top h r, 0, _, s, e => by
    simp [slots0, slotOf] at e
    subst e
    refine ⟨_, by simp; rfl, ?_⟩
    rcases h with h | ⟨l, h1, h2, h3⟩
    · exact .inl h
    · exact .inr ⟨l, h1, h2, rfl, h3⟩
  | _, _, _, .pool h r, 0, _, s, e => by simp [slots0, slotOf] at e; subst e; exact ⟨_, by simp, h⟩
  | _, _, _, .val h r, i + 1, j, s, e => by simpa using args_slots r i j s (by simpa [slots0] using e)
  | _, _, _, .top h r, i + 1, j, s, e => by simpa using args_slots r i j s (by simpa [slots0] using e)
  | _, _, _, .pool h r, i + 1, j, s, e => by simpa using args_slots r i j s (by simpa [slots0] using e)
/-- the family of one context: a def's body -/
def famOf (P : Program) (w : World) (K : PySem.W.Frag) (mg : Str → Option Value) (base : Heap) (N : List Str) (qual : Str) (scope : Scope) (f : Addr) (k : Nat) (nd : N.Nodup) : Fam { x : Value × Around × List Env × Shared × Hp × XK // Room k (x.2.1.deeper (PyProof.Rows.envOfC qual scope x.2.2.2.1.heap.objs.size f x.1)) } where
  X := fun x => (cxOf CX0 P w K mg base N qual scope f x.1.1 x.1.2.1 x.1.2.2.1 x.1.2.2.2.1 x.1.2.2.2.2.1 x.1.2.2.2.2.2).nox
  P := P
  w := w
  K := K
  mg := mg
  base := base
  N := N
  k := k
  eP := fun _ => rfl
  ew := fun _ => rfl
  eK := fun _ => rfl
  eg := fun _ => rfl
  eb := fun _ => rfl
  eN := fun _ => rfl
  ec := fun _ => rfl
  rm := fun x => x.2
  nd := nd
theorem start_len {N : List Str} {vs : List V} (h : vs.length ≤ N.length) : (L2.start N vs).length = N.length := by
  unfold L2.start
  simp
  omega
section
variable {μ : Type → Type} [PM μ] [PX μ] {P : Program} {w : World} {K : PySem.W.Frag} {mg : Str → Option Value} {base : Heap} {x qual : Str} {params : Arguments} {body : List Stmt} {scope : Scope} {kws : List (Str × V)} {fn : Addr} {fd : FuncData} {N ps : List Str} {k : Nat} {ks : List AK} {g : List D → μ D}
/-- THE RULE for a def -/
theorem fn_mk (F : FunD K x qual params body scope [] kws fn fd) (S : FnScope N ps scope) (hk : ks.length = ps.length) (hn : ps.length ≤ N.length)
    (hb : ∀ ds : List D, ds.length = ks.length → GX (famOf P w K mg base N qual scope fn k S.nd) tFun (slots0 ks ds ++ List.replicate (N.length - ps.length) .any) body (g ds) (pRet K)) : FnOk P w K mg base CX0 (k + 1) fn fd ps (spM K ks g) := by
  refine F.ok S (fun vs H Q E h => ?_) (fun cdv A outer s H vs Q E hr h => ?_)
  · obtain ⟨F, p, ds, _, _, a, _⟩ := h
    rw [a.length, hk]
  · obtain ⟨F, p, ds, fh, pl, a, hd⟩ := h
    have dl : ds.length = ks.length := by
      have h1 : ∀ {ks : List AK} {vs : List V} {ds : List D}, Args K p F H ks vs ds → ds.length = ks.length := by
        intro ks vs ds a
        induction a with
        | nil => rfl
        | val _ _ ih => simp [ih]
        | top _ _ ih => simp [ih]
        | pool _ _ ih => simp [ih]
      exact h1 a
    obtain ⟨t, h1, h2⟩ := hb ds dl
    refine ⟨t, (h1 ⟨(cdv, A, outer, s, H, E), hr⟩).nox, ?_⟩
    let Z : Ent := { p := p, F := F, H := H }
    have bk : Bk K Z F (fun _ => none) H := { fh := fh, zf := fun _ _ h => h, zn := fun _ _ => rfl, zh := fun _ _ h _ _ => h, zd := fun _ h => h, zl := fun q hq => (by cases hq), zo := fun _ _ => rfl, fo := fun _ _ => rfl, ho := fun _ _ => rfl, po := fun _ _ => rfl, pl := pl }
    have vl : vs.length = ps.length := by rw [a.length, hk]
    have hln : (L2.start N vs).length = (slots0 ks ds ++ List.replicate (N.length - ps.length) Slot.any).length := by
      rw [start_len (by omega), List.length_append, slots0_len a, List.length_replicate]; omega
    have hsl : ∀ (i : Nat) (s : Slot), (slots0 ks ds ++ List.replicate (N.length - ps.length) Slot.any)[i]? = some s → SlotOk K Z F (fun _ => none) H i s (L2.start N vs)[i]? := by
      intro i s e
      have sl := slots0_len a
      by_cases hi : i < (slots0 ks ds).length
      · rw [List.getElem?_append_left hi] at e
        unfold L2.start
        rw [List.getElem?_append_left (by simp; omega)]
        exact args_slots a i i s e
      · rw [List.getElem?_append_right (Nat.le_of_not_lt hi)] at e
        have := List.mem_of_getElem? e
        rw [List.eq_of_mem_replicate this]
        trivial
    have ok : Ok K Z (slots0 ks ds ++ List.replicate (N.length - ps.length) .any) F (fun _ => none) H (L2.start N vs) := { toBk := bk, ln := hln, sl := hsl }
    refine h2 Z F (fun _ => none) H (L2.start N vs) _ (fun σ H h => h) ok (den_mono (fun d h F' O' H' σ' b v r => ?_) hd)
    refine h v F' H' ⟨b.zf, b.zn, fun a o e n => b.zh a o e n (fun q hq => (by cases hq)), b.zd, b.fh, fun _ => b.pl⟩ r
end
section
variable {ι : Type} {μ : Type → Type} [PM μ] [PX μ] {f : Fam ι} {T : Ends → Prop} {Γ : List Slot} {e a b c tg iter elt tg1 iter1 : Expr} {m ma mb : μ D} {ml : μ (List D)} {pos : Pos} {rest : List Stmt} {R S S' A B C : Type} {post : Pst R} {d : D}
/-- [elt for x in xs], no test: in lc_mk's form -/
theorem exi_nil : EXI f Γ [] (pur true : μ Bool) := ⟨tYes, fun _ => pts_nil, fun Z F O H σ Q ok q => by have q' := den_pur q; exact q' F H (.refl ok.fh)⟩
end
end Y

set_option maxRecDepth 100000
set_option maxHeartbeats 1000000
namespace Y
open PySem L2 PM PX
theorem Fam.hu {ι : Type} (f : Fam ι) (i : ι) : (f.X i).A.units + 130 < cLine := by have := (f.rm i).un; omega
/-! + -/
def dAdd : D → D → Option D
  | .int i, .int j => some (.int (i + j))
  | .str a, .str b => if a.length + b.length < 16000000 then some (.str (a ++ b)) else none
  | .list xs, .list ys => if xs.length + ys.length < 16000000 then some (.list (xs ++ ys)) else none
  | .tuple xs, .tuple ys => if xs.length + ys.length < 16000000 then some (.tuple (xs ++ ys)) else none
  | _, _ => none
def rAddD (K : PySem.W.Frag) : R2 := fun x y H Q => (rI0 fun i j => .int (i + j)) x y H Q ∨ ((∃ i j, x = .str i ∧ y = .str j ∧ i.length + j.length ≤ sizeLine ∧ Q (.str (i ++ j)) H) ∨ (rCat x y H Q ∨ rCatA K x y H Q))
theorem op_addD {X : Cx} : OpR X (binaryOp .Add) (rAddD X.K) := op_add.or (op_add_str.or (op_cat.or op_catA))
theorem rop_add {K : PySem.W.Frag} : ROp K (rAddD K) dAdd := by
  intro p F H x y d e z Q fh t1 t2 ez q
  cases d with
  | int i => cases e with
    | int j => cases ez; cases t1.int; cases t2.int; exact .inl ⟨i, j, rfl, rfl, q _ F H (.refl fh) (.int _)⟩
    | _ => cases ez
  | str a => cases e with
    | str b =>
      have ez' : (if a.length + b.length < 16000000 then some (.str (a ++ b) : D) else none) = some z := ez
      split at ez'
      · rename_i h; cases ez'; cases t1.str; cases t2.str; exact .inr (.inl ⟨a, b, rfl, rfl, big_le h, q _ F H (.refl fh) (.str _)⟩)
      · cases ez'
    | _ => cases ez
  | list xs => cases e with
    | list ys =>
      have ez' : (if xs.length + ys.length < 16000000 then some (.list (xs ++ ys) : D) else none) = some z := ez
      split at ez'
      · rename_i h
        cases ez'
        obtain ⟨l, us, rfl, e1, r1⟩ := t1.list fh
        obtain ⟨l', us', rfl, e2, r2⟩ := t2.list fh
        refine .inr (.inr (.inl ⟨l, l', us, us', rfl, rfl, e1, e2, by rw [r1.length, r2.length]; exact big_le h, fun a ha => ?_⟩))
        have g : Grow K p F H (upd F a (.lst (us ++ us'))) (upd H a (.lst (us ++ us'))) := .new fh ha
        exact q _ _ _ g (.lst upd_same ((r1.app r2).up g.up))
      · cases ez'
    | _ => cases ez
  | tuple xs => cases e with
    | tuple ys =>
      have ez' : (if xs.length + ys.length < 16000000 then some (.tuple (xs ++ ys) : D) else none) = some z := ez
      split at ez'
      · rename_i h
        cases ez'
        have s1 := t1
        have s2 := t2
        obtain ⟨l, us, rfl, e1, r1⟩ := t1.tuple fh
        obtain ⟨l', us', rfl, e2, r2⟩ := t2.tuple fh
        refine .inr (.inr (.inr ⟨l, l', us, us', rfl, rfl, .inl (.inl e1), .inl (.inl e2), by rw [r1.length, r2.length]; exact big_le h, fun h0 => ?_, fun _ h0 => ?_, fun _ _ a ha => ?_⟩))
        · subst h0
          cases r1
          exact q _ F H (.refl fh) s2.tup_rep
        · subst h0
          cases r2
          rw [List.append_nil] at q
          exact q _ F H (.refl fh) s1.tup_rep
        · have g : Grow K p F H (upd F a (.tup (us ++ us'))) (upd H a (.tup (us ++ us'))) := .new fh ha
          exact q _ _ _ g (.tup upd_same ((r1.app r2).up g.up))
      · cases ez'
    | _ => cases ez
  | _ => cases e <;> cases ez
end Y

set_option maxRecDepth 100000
set_option maxHeartbeats 1000000
namespace Y
open PySem L2 PM PX
section
variable {K : PySem.W.Frag}
/-! - * // % ** -/
def dSub : D → D → Option D
  | .int i, .int j => some (.int (i - j))
  | _, _ => none
theorem rop_ii {r : R2} {dop : D → D → Option D} (h1 : ∀ d e z, dop d e = some z → ∃ i j, d = .int i ∧ e = .int j) (h2 : ∀ (p : Option Addr) (F H : Hp) (i j : Int) (z : D) (Q : VK), FH F H → dop (.int i) (.int j) = some z → (∀ v F' H', Grow K p F H F' H' → Rep K F' v z → Q v H') → r (.int i) (.int j) H Q) : ROp K r dop := by
  intro p F H x y d e z Q fh t1 t2 ez q
  obtain ⟨i, j, rfl, rfl⟩ := h1 d e z ez
  cases t1.int
  cases t2.int
  exact h2 p F H i j z Q fh ez q
theorem rop_sub : ROp K (rI0 fun i j => .int (i - j)) dSub := rop_ii (fun d e z h => by
  cases d with
  | int i => cases e with
    | int j => exact ⟨i, j, rfl, rfl⟩
    | _ => cases h
  | _ => cases e <;> cases h) fun p F H i j z Q fh ez q => by cases ez; exact ⟨i, j, rfl, rfl, q _ F H (.refl fh) (.int _)⟩
def dFdiv : D → D → Option D
  | .int i, .int j => if j ≠ 0 ∧ j.natAbs < 1073741824 then some (.int (i.fdiv j)) else none
  | _, _ => none
theorem rop_fdiv : ROp K (rI CDivN fun i j => .int (i.fdiv j)) dFdiv := rop_ii (fun d e z h => by
  cases d with
  | int i => cases e with
    | int j => exact ⟨i, j, rfl, rfl⟩
    | _ => cases h
  | _ => cases e <;> cases h) fun p F H i j z Q fh ez q => by
    have ez' : (if j ≠ 0 ∧ j.natAbs < 1073741824 then some (.int (i.fdiv j) : D) else none) = some z := ez
    split at ez'
    · rename_i h; cases ez'; exact ⟨i, j, rfl, rfl, h, q _ F H (.refl fh) (.int _)⟩
    · cases ez'
def dMod : D → D → Option D
  | .int i, .int j => if j ≠ 0 then some (.int (i.fmod j)) else none
  | _, _ => none
theorem rop_mod : ROp K (rI (fun _ j => j ≠ 0) fun i j => .int (i.fmod j)) dMod := rop_ii (fun d e z h => by
  cases d with
  | int i => cases e with
    | int j => exact ⟨i, j, rfl, rfl⟩
    | _ => cases h
  | _ => cases e <;> cases h) fun p F H i j z Q fh ez q => by
    have ez' : (if j ≠ 0 then some (.int (i.fmod j) : D) else none) = some z := ez
    split at ez'
    · rename_i h; cases ez'; exact ⟨i, j, rfl, rfl, h, q _ F H (.refl fh) (.int _)⟩
    · cases ez'
def dPow : D → D → Option D
  | .int i, .int j => if 0 ≤ j ∧ j ≤ 1000000 ∧ i.natAbs < 2 ^ 64 then some (.int (i ^ j.toNat)) else none
  | _, _ => none
theorem rop_pow : ROp K (rI CPow fun i j => .int (i ^ j.toNat)) dPow := rop_ii (fun d e z h => by
  cases d with
  | int i => cases e with
    | int j => exact ⟨i, j, rfl, rfl⟩
    | _ => cases h
  | _ => cases e <;> cases h) fun p F H i j z Q fh ez q => by
    have ez' : (if 0 ≤ j ∧ j ≤ 1000000 ∧ i.natAbs < 2 ^ 64 then some (.int (i ^ j.toNat) : D) else none) = some z := ez
    split at ez'
    · rename_i h; cases ez'; exact ⟨i, j, rfl, rfl, h, q _ F H (.refl fh) (.int _)⟩
    · cases ez'
/-- n copies of a row -/
def reps {α : Type} (xs : List α) (n : Nat) : List α := (List.replicate n xs).flatten
theorem Reps.reps {F : Hp} {vs : List V} {ds : List D} (r : Reps K F vs ds) : ∀ n, Reps K F (Y.reps vs n) (Y.reps ds n)
  | 0 => .nil
  | n + 1 => by
    have := r.app (Reps.reps r n)
    simpa [Y.reps, List.replicate_succ] using this
def dMul : D → D → Option D
  | .int i, .int j => if i.natAbs < 18446744073709551616 ∨ j.natAbs < 18446744073709551616 ∨ i.natAbs.log2 + j.natAbs.log2 < 1000000 then some (.int (i * j)) else none
  | .list xs, .int k => if (-9000000000000000000 < k ∧ k < 9000000000000000000) ∧ xs.length * k.toNat < 16000000 then some (.list (reps xs k.toNat)) else none
  | _, _ => none
def rMulD : R2 := fun x y H Q => rI CMul (fun i j => .int (i * j)) x y H Q ∨ rI CMulW (fun i j => .int (i * j)) x y H Q ∨ rRep x y H Q
theorem op_mulD {X : Cx} : OpR X (binaryOp .Mult) rMulD := op_mul.or (op_mulW.or op_rep)
theorem rop_mul : ROp K rMulD dMul := by
  intro p F H x y d e z Q fh t1 t2 ez q
  cases d with
  | int i => cases e with
    | int j =>
      have ez' : (if i.natAbs < 18446744073709551616 ∨ j.natAbs < 18446744073709551616 ∨ i.natAbs.log2 + j.natAbs.log2 < 1000000 then some (.int (i * j) : D) else none) = some z := ez
      split at ez'
      · rename_i h
        cases ez'
        cases t1.int
        cases t2.int
        rcases h with h | h | h
        · exact .inl ⟨i, j, rfl, rfl, .inl ⟨by omega, by omega⟩, q _ F H (.refl fh) (.int _)⟩
        · exact .inl ⟨i, j, rfl, rfl, .inr ⟨by omega, by omega⟩, q _ F H (.refl fh) (.int _)⟩
        · exact .inr (.inl ⟨i, j, rfl, rfl, h, q _ F H (.refl fh) (.int _)⟩)
      · cases ez'
    | _ => cases ez
  | list xs => cases e with
    | int k =>
      have ez' : (if (-9000000000000000000 < k ∧ k < 9000000000000000000) ∧ xs.length * k.toNat < 16000000 then some (.list (reps xs k.toNat) : D) else none) = some z := ez
      split at ez'
      · rename_i h
        cases ez'
        obtain ⟨l, us, rfl, e1, r1⟩ := t1.list fh
        cases t2.int
        refine .inr (.inr ⟨l, k, us, rfl, rfl, e1, by omega, by omega, by rw [r1.length]; exact big_le h.2, fun a ha => ?_⟩)
        have g : Grow K p F H (upd F a (.lst (reps us k.toNat))) (upd H a (.lst (reps us k.toNat))) := .new fh ha
        exact q _ _ _ g (.lst upd_same ((r1.reps _).up g.up))
      · cases ez'
    | _ => cases ez
  | _ => cases e <;> cases ez
/-! order -/
def bLt : D → D → Option Bool
  | .int i, .int j => some (decide (i < j))
  | _, _ => none
def bLe : D → D → Option Bool
  | .int i, .int j => some (decide (i ≤ j))
  | _, _ => none
def bGt : D → D → Option Bool
  | .int i, .int j => some (decide (j < i))
  | _, _ => none
def bGe : D → D → Option Bool
  | .int i, .int j => some (decide (j ≤ i))
  | _, _ => none
theorem rbp_ii {r : R2} {dop : D → D → Option Bool} (h1 : ∀ d e z, dop d e = some z → ∃ i j, d = .int i ∧ e = .int j) (h2 : ∀ (H : Hp) (i j : Int) (z : Bool) (Q : VK), dop (.int i) (.int j) = some z → Q (.bl z) H → r (.int i) (.int j) H Q) : RBp K r dop := by
  intro p F H x y d e z Q fh t1 t2 ez q
  obtain ⟨i, j, rfl, rfl⟩ := h1 d e z ez
  cases t1.int
  cases t2.int
  exact h2 H i j z Q ez q
theorem rbp_lt : RBp K (rI0 fun i j => .bl (decide (i < j))) bLt := rbp_ii (fun d e z h => by
  cases d with
  | int i => cases e with
    | int j => exact ⟨i, j, rfl, rfl⟩
    | _ => cases h
  | _ => cases e <;> cases h) fun H i j z Q ez q => by cases ez; exact ⟨i, j, rfl, rfl, q⟩
theorem rbp_le : RBp K (rI0 fun i j => .bl (decide (i ≤ j))) bLe := rbp_ii (fun d e z h => by
  cases d with
  | int i => cases e with
    | int j => exact ⟨i, j, rfl, rfl⟩
    | _ => cases h
  | _ => cases e <;> cases h) fun H i j z Q ez q => by cases ez; exact ⟨i, j, rfl, rfl, q⟩
theorem rbp_gt : RBp K (rI0 fun i j => .bl (decide (j < i))) bGt := rbp_ii (fun d e z h => by
  cases d with
  | int i => cases e with
    | int j => exact ⟨i, j, rfl, rfl⟩
    | _ => cases h
  | _ => cases e <;> cases h) fun H i j z Q ez q => by cases ez; exact ⟨i, j, rfl, rfl, q⟩
theorem rbp_ge : RBp K (rI0 fun i j => .bl (decide (j ≤ i))) bGe := rbp_ii (fun d e z h => by
  cases d with
  | int i => cases e with
    | int j => exact ⟨i, j, rfl, rfl⟩
    | _ => cases h
  | _ => cases e <;> cases h) fun H i j z Q ez q => by cases ez; exact ⟨i, j, rfl, rfl, q⟩
/-! equality -/
mutual
theorem rep_dp {H : Hp} : ∀ {d : D} {v : V}, Rep K H v d → d.canLay0 = true → Dp K H v d
  | _, _, .non, _ => .non
  | _, _, .bl b, _ => .bl b
  | _, _, .int i, _ => .int i
  | _, _, .str x, _ => .str x
  | _, _, .lst h r, c => .lst (SqL.of h) (reps_dp r (by simpa [PyData.canLay0] using c))
  | _, _, .tup h r, c => .tup (.inl (.inl h)) (reps_dp r (by simpa [PyData.canLay0] using c))
  | _, _, .dK _ _, c => by simp [PyData.canLay0] at c
  | _, _, .dT _ _, c => by simp [PyData.canLay0] at c
theorem reps_dp {H : Hp} : ∀ {ds : List D} {vs : List V}, Reps K H vs ds → PyData.canLayAll0 ds = true → DpAll K H vs ds
  | _, _, .nil, _ => .nil
  | _, _, .cons h r, c => by
    simp [PyData.canLayAll0] at c
    exact .cons (rep_dp h c.1) (reps_dp r c.2)
end
theorem dp_of {p : Option Addr} {F H : Hp} {v : V} {d : D} (fh : FH F H) (t : Top K p F H v d) (h : SeqAt.shaped d = true) : Dp K H v d := rep_dp (t.rep fh) (SeqAt.canLay_of_shaped h)
def bEq (d e : D) : Option Bool := if SeqAt.shaped d && SeqAt.shaped e then some (PyData.eqv d e) else none
def bNe (d e : D) : Option Bool := if SeqAt.shaped d && SeqAt.shaped e then some (!PyData.eqv d e) else none
theorem rbp_eq : RBp K (rEqD K) bEq := by
  intro p F H x y d e z Q fh t1 t2 ez q
  unfold bEq at ez
  split at ez
  · rename_i h
    rw [Bool.and_eq_true] at h
    cases ez
    exact ⟨d, e, dp_of fh t1 h.1, dp_of fh t2 h.2, h.1, h.2, q⟩
  · cases ez
theorem rbp_ne : RBp K (rNeD K) bNe := by
  intro p F H x y d e z Q fh t1 t2 ez q
  unfold bNe at ez
  split at ez
  · rename_i h
    rw [Bool.and_eq_true] at h
    cases ez
    exact ⟨d, e, dp_of fh t1 h.1, dp_of fh t2 h.2, h.1, h.2, q⟩
  · cases ez
end
section
variable {ι : Type} {f : Fam ι}
theorem fop_add (i : ι) : OpR (f.X i) (binaryOp .Add) (rAddD f.K) := by have h := op_addD (X := f.X i); rw [f.eK i] at h; exact h
theorem fop_eq (i : ι) : OpR (f.X i) (compareOp .Eq) (rEqD f.K) := by have h := op_eqD (X := f.X i) (by have := f.hu i; omega); rw [f.eK i] at h; exact h
theorem fop_ne (i : ι) : OpR (f.X i) (compareOp .NotEq) (rNeD f.K) := by have h := op_neD (X := f.X i) (by have := f.hu i; omega); rw [f.eK i] at h; exact h
end
/-! is, is not: with None, True, False written on the right -/
def isNone : D → Bool
  | .none => true
  | _ => false
def isBoolV (b : Bool) : D → Bool
  | .bool c => c == b
  | _ => false
section
variable {K : PySem.W.Frag}
theorem rep_none {F : Hp} {v : V} {d : D} (r : Rep K F v d) : decide (v = .non) = isNone d := by
  cases r <;> simp [isNone]
theorem top_none {p : Option Addr} {F H : Hp} {v : V} {d : D} (t : Top K p F H v d) : decide (v = .non) = isNone d := by
  rcases t with r | ⟨l, rfl, _, n⟩
  · exact rep_none r
  · cases d <;> first | exact n.elim | rfl
def bIsN (d e : D) : Option Bool := if isNone e then some (isNone d) else none
def bNotN (d e : D) : Option Bool := if isNone e then some (!isNone d) else none
theorem isNone_eq {e : D} (h : isNone e = true) : e = .none := by cases e <;> first | rfl | cases h
theorem rbp_isN : RBp K (fun x y H Q => y = .non ∧ Q (.bl (decide (x = .non))) H) bIsN := by
  intro p F H x y d e z Q fh t1 t2 ez q
  unfold bIsN at ez
  split at ez
  · rename_i h
    cases isNone_eq h
    cases ez
    exact ⟨t2.none, by rw [top_none t1]; exact q⟩
  · cases ez
theorem rbp_notN : RBp K (fun x y H Q => y = .non ∧ Q (.bl (!decide (x = .non))) H) bNotN := by
  intro p F H x y d e z Q fh t1 t2 ez q
  unfold bNotN at ez
  split at ez
  · rename_i h
    cases isNone_eq h
    cases ez
    exact ⟨t2.none, by rw [top_none t1]; exact q⟩
  · cases ez
end
end Y

set_option maxRecDepth 100000
set_option maxHeartbeats 1000000
namespace Y
open PySem L2 PM PX
/-! is True, is False, is None -/
def isC : D → Bool
  | .none => true
  | .bool _ => true
  | _ => false
def sameC : D → D → Bool
  | .none, .none => true
  | .bool a, .bool b => a == b
  | _, _ => false
def rIsC (neg : Bool) : R2 := fun x y H Q => (y = .non ∨ ∃ b, y = .bl b) ∧ Q (.bl (if neg then !decide (x = y) else decide (x = y))) H
theorem beq_bl (x b : Bool) : (Value.bool x == Value.bool b) = decide (x = b) := by
  by_cases e : x = b
  · subst e; simp
  · rw [beq_eq_false_iff_ne.mpr (fun z => e (Value.bool.inj z)), decide_eq_false e]
theorem is_rel {x y : V} {v u : Value} (rx : RelV x v) (ry : RelV y u) (hy : y = .non ∨ ∃ b, y = .bl b) : plainIs v u = true ∧ (v == u) = decide (x = y) := by
  rcases hy with rfl | ⟨b, rfl⟩
  · cases (show u = Value.none from ry)
    cases x <;> first
      | (cases rx; exact ⟨rfl, by simp⟩)
      | (obtain ⟨t, rfl⟩ := rx; exact ⟨rfl, by simp⟩)
  · cases (show u = Value.bool b from ry)
    cases x <;> first
      | (cases rx; exact ⟨rfl, by simp [beq_bl]⟩)
      | (obtain ⟨t, rfl⟩ := rx; exact ⟨rfl, by simp⟩)
theorem op_isC {X : Cx} : OpR X (compareOp .Is) (rIsC false) := by
  intro pins s σ H x y v u Q I rx ry h
  obtain ⟨hy, q⟩ := h
  obtain ⟨h1, h2⟩ := is_rel rx ry hy
  exact wpAny_is_plain h1 ⟨.bl _, H, I, congrArg Value.bool h2, q⟩
theorem op_notC {X : Cx} : OpR X (compareOp .IsNot) (rIsC true) := by
  intro pins s σ H x y v u Q I rx ry h
  obtain ⟨hy, q⟩ := h
  obtain ⟨h1, h2⟩ := is_rel rx ry hy
  exact wpAny_isNot_plain h1 ⟨.bl _, H, I, congrArg (fun b => Value.bool (!b)) h2, q⟩
def bIs (d e : D) : Option Bool := if isC e then some (sameC d e) else none
def bIsNot (d e : D) : Option Bool := if isC e then some (!sameC d e) else none
section
variable {K : PySem.W.Frag} {p : Option Addr} {F H : Hp} {x y : V} {d e : D}
theorem sameC_top (t1 : Top K p F H x d) (t2 : Top K p F H y e) (h : isC e = true) : (y = .non ∨ ∃ b, y = .bl b) ∧ decide (x = y) = sameC d e := by
  cases e with
  | none =>
    cases t2.none
    refine ⟨.inl rfl, ?_⟩
    rw [top_none t1]
    cases d <;> rfl
  | bool b =>
    cases t2.bool
    refine ⟨.inr ⟨b, rfl⟩, ?_⟩
    cases d with
    | bool a => cases t1.bool; simp [sameC]; rfl
    | none => cases t1.none; rfl
    | int i => cases t1.int; rfl
    | str z => cases t1.str; rfl
    | list ds =>
      rcases t1 with r | ⟨l, rfl, _, n⟩
      · cases r; rfl
      · rfl
    | tuple ds =>
      have r := t1.tup_rep
      cases r; rfl
    | dict ds =>
      rcases t1 with r | ⟨l, rfl, _, n⟩
      · cases r <;> rfl
      · rfl
  | _ => cases h
theorem rbp_is : RBp K (rIsC false) bIs := by
  intro p F H x y d e z Q fh t1 t2 ez q
  unfold bIs at ez
  split at ez
  · rename_i h
    obtain ⟨h1, h2⟩ := sameC_top t1 t2 h
    cases ez
    exact ⟨h1, by rw [if_neg (by decide), h2]; exact q⟩
  · cases ez
theorem rbp_isNot : RBp K (rIsC true) bIsNot := by
  intro p F H x y d e z Q fh t1 t2 ez q
  unfold bIsNot at ez
  split at ez
  · rename_i h
    obtain ⟨h1, h2⟩ := sameC_top t1 t2 h
    cases ez
    exact ⟨h1, by rw [if_pos rfl, h2]; exact q⟩
  · cases ez
end
/-! in, not in: lists, tuples, dicts -/
def rInT (K : PySem.W.Frag) (neg : Bool) : R2 := fun x y H Q => ∃ d ds, Dp K H x d ∧ Dp K H y (.tuple ds) ∧ SeqAt.shaped d = true ∧ SeqAt.shaped (.tuple ds) = true ∧ Q (.bl (if neg then !(ds.any fun z => PyData.eqv z d) else ds.any fun z => PyData.eqv z d)) H
theorem room_in_shapedT {A : Around} {d : PyData} {ds : List PyData} (sd : SeqAt.shaped d = true) (hu : A.units + 65 < cLine) : A.units + 1 + min (PyData.depthAll ds) d.depth < cLine := by
  have h1 := SeqAt.depth_of_shaped sd
  have h2 : min (PyData.depthAll ds) d.depth ≤ d.depth := Nat.min_le_right _ _
  omega
section
variable {X : Cx}
theorem op_inT (hu : X.A.units + 65 < cLine) : OpR X (compareOp .In) (rInT X.K false) := by
  intro pins s σ H x y v u Q I rx ry h
  obtain ⟨d, ds, hd, he, sd, se, q⟩ := h
  obtain ⟨as, r1⟩ := Dp.reads I d x v hd rx
  obtain ⟨bs, r2⟩ := Dp.reads I (.tuple ds) y u he ry
  exact SeqAt.in_tuple_reads r2 r1 (SeqAt.canLay_of_shaped se) (SeqAt.canLay_of_shaped sd) (room_in_shapedT sd hu) ⟨.bl _, H, I, rfl, q⟩
theorem op_notInT (hu : X.A.units + 65 < cLine) : OpR X (compareOp .NotIn) (rInT X.K true) := by
  intro pins s σ H x y v u Q I rx ry h
  obtain ⟨d, ds, hd, he, sd, se, q⟩ := h
  obtain ⟨as, r1⟩ := Dp.reads I d x v hd rx
  obtain ⟨bs, r2⟩ := Dp.reads I (.tuple ds) y u he ry
  exact SeqAt.notIn_tuple_reads r2 r1 (SeqAt.canLay_of_shaped se) (SeqAt.canLay_of_shaped sd) (room_in_shapedT sd hu) ⟨.bl _, H, I, rfl, q⟩
def rInDict (neg : Bool) : R2 := fun x y H Q => ∃ a o, y = .ref a ∧ DGet H a x o ∧ Q (.bl (if neg then !o.isSome else o.isSome)) H
theorem op_inDict (hu : X.A.units + 1 < cLine) : OpR X (compareOp .In) (rInDict false) := by
  intro pins s σ H x y v u Q I rx ry h
  obtain ⟨a, o, rfl, g, q⟩ := h
  obtain rfl : u = Value.ref a := ry
  exact d_in hu I g rx fun s3 I3 => ⟨.bl o.isSome, H, I3, rfl, q⟩
theorem op_notInDict (hu : X.A.units + 1 < cLine) : OpR X (compareOp .NotIn) (rInDict true) := by
  intro pins s σ H x y v u Q I rx ry h
  obtain ⟨a, o, rfl, g, q⟩ := h
  obtain rfl : u = Value.ref a := ry
  exact d_notIn hu I g rx fun s3 I3 => ⟨.bl (!o.isSome), H, I3, rfl, q⟩
/-- d[k] by values -/
def rIxDict : R2 := fun x y H Q => ∃ a v, x = .ref a ∧ DGet H a y (some v) ∧ Q v H
theorem ix_dict (hu : X.A.units + 1 < cLine) : IxR X rIxDict := by
  intro value slice pins s σ H x y v u Q I rx ry h hs
  obtain ⟨a, z, rfl, g, q⟩ := h
  obtain rfl : v = Value.ref a := rx
  exact PyProof.Rows.tail_any (dict_typeIs I g) PySem.F.slot_dict_getitem.lookup (d_getItem hu I g ry fun w' s3 I3 rw' => ⟨z, H, I3, rw', q⟩) hs
end
/-! dicts as data: keys -/
def dKey : D → Option Key
  | .int i => some (.inl i)
  | .str x => some (.inr x)
  | _ => none
def dKeys : List D → Option (List Key)
  | [] => some []
  | d :: ds => match dKey d, dKeys ds with
    | some k, some ks => some (k :: ks)
    | _, _ => none
/-- two keys are one -/
def keq : D → D → Bool
  | .int a, .int b => decide (a = b)
  | .str a, .str b => decide (a = b)
  | .tuple xs, .tuple ys => keqs xs ys
  | _, _ => false
where keqs : List D → List D → Bool
  | [], [] => true
  | .int a :: xs, .int b :: ys => decide (a = b) && keqs xs ys
  | .str a :: xs, .str b :: ys => decide (a = b) && keqs xs ys
  | _, _ => false
def dVal (ds : List (D × D)) (k : D) : Option D := (ds.find? fun p => keq p.1 k).map (·.2)
def dPut (ds : List (D × D)) (k v : D) : List (D × D) := if ds.any fun p => keq p.1 k then ds.map fun p => if keq p.1 k then (p.1, v) else p else ds ++ [(k, v)]
theorem keyD_key {d : D} {k : Key} (h : dKey d = some k) : d = keyD k := by
  cases d <;> first | (cases h; rfl) | cases h
theorem keyDs_keys : ∀ {ds : List D} {ks : List Key}, dKeys ds = some ks → ds = ks.map keyD
  | [], _, h => by cases h; rfl
  | d :: ds, ks, h => by
    unfold dKeys at h
    cases e1 : dKey d with
    | none => rw [e1] at h; cases h
    | some k =>
      cases e2 : dKeys ds with
      | none => rw [e1, e2] at h; cases h
      | some r =>
        rw [e1, e2] at h
        cases h
        rw [keyD_key e1, keyDs_keys e2]; rfl
theorem keq_key (a b : Key) : keq (keyD a) (keyD b) = decide (a = b) := by
  cases a <;> cases b <;> simp [keyD, keq]
theorem keqs_keys : ∀ (as bs : List Key), keq.keqs (as.map keyD) (bs.map keyD) = decide (as = bs)
  | [], [] => by simp [keq.keqs]
  | [], _ :: _ => by simp [keq.keqs]
  | a :: as, [] => by cases a <;> simp [keyD, keq.keqs]
  | a :: as, b :: bs => by
    have ih := keqs_keys as bs
    cases a <;> cases b <;> simp [keyD, keq.keqs] at * <;> simp [ih, Bool.decide_and]
theorem rep_key {K : PySem.W.Frag} {F : Hp} {v : V} {k : Key} (r : Rep K F v (keyD k)) : v = kV k := by
  cases k <;> (cases r; rfl)
theorem reps_keys {K : PySem.W.Frag} {F : Hp} : ∀ {ks : List Key} {vs : List V}, Reps K F vs (ks.map keyD) → vs = ks.map kV
  | [], _, h => by cases h; rfl
  | k :: ks, _, h => by
    have h' : Reps K F _ (keyD k :: ks.map keyD) := h
    cases h' with
    | cons r t => rw [rep_key r, reps_keys t]; rfl
section
variable {K : PySem.W.Frag} {F : Hp}
theorem repK_val : ∀ {kvs : List (Key × V)} {ds : List (D × D)} (k : Key), RepK K F kvs ds → (∀ d, dVal ds (keyD k) = some d → ∃ v, valV kvs k = some v ∧ Rep K F v d) ∧ (dVal ds (keyD k) = none → valV kvs k = none)
  | _, _, k, .nil => ⟨fun d h => by simp [dVal] at h, fun _ => rfl⟩
  | (k0, v0) :: kvs, _, k, .cons (d := d0) r t => by
    obtain ⟨h1, h2⟩ := repK_val k t
    by_cases e : k0 = k
    · have e1 : keq (keyD k0) (keyD k) = true := by rw [keq_key]; simp [e]
      have hv : valV ((k0, v0) :: kvs) k = some v0 := valV_pos e
      refine ⟨fun d h => ?_, fun h => ?_⟩
      · simp [dVal, List.find?_cons, e1] at h
        subst h
        exact ⟨v0, hv, r⟩
      · simp [dVal, List.find?_cons, e1] at h
    · have e1 : keq (keyD k0) (keyD k) = false := by rw [keq_key]; simp [e]
      have hv : valV ((k0, v0) :: kvs) k = valV kvs k := valV_neg e
      rw [hv]
      refine ⟨fun d h => h1 d ?_, fun h => h2 ?_⟩
      · simpa [dVal, List.find?_cons, e1] using h
      · simpa [dVal, List.find?_cons, e1] using h
theorem repT_val : ∀ {kvs : List (List Key × V)} {ds : List (D × D)} (k : List Key), RepT K F kvs ds → (∀ d, dVal ds (.tuple (k.map keyD)) = some d → ∃ v, valV kvs k = some v ∧ Rep K F v d) ∧ (dVal ds (.tuple (k.map keyD)) = none → valV kvs k = none)
  | _, _, k, .nil => ⟨fun d h => by simp [dVal] at h, fun _ => rfl⟩
  | (k0, v0) :: kvs, _, k, .cons (d := d0) r t => by
    obtain ⟨h1, h2⟩ := repT_val k t
    have ek : keq (.tuple (k0.map keyD)) (.tuple (k.map keyD)) = decide (k0 = k) := keqs_keys k0 k
    by_cases e : k0 = k
    · have e1 : keq (.tuple (k0.map keyD)) (.tuple (k.map keyD)) = true := by rw [ek]; simp [e]
      have hv : valV ((k0, v0) :: kvs) k = some v0 := valV_pos e
      refine ⟨fun d h => ?_, fun h => ?_⟩
      · simp [dVal, List.find?_cons, e1] at h
        subst h
        exact ⟨v0, hv, r⟩
      · simp [dVal, List.find?_cons, e1] at h
    · have e1 : keq (.tuple (k0.map keyD)) (.tuple (k.map keyD)) = false := by rw [ek]; simp [e]
      have hv : valV ((k0, v0) :: kvs) k = valV kvs k := valV_neg e
      rw [hv]
      refine ⟨fun d h => h1 d ?_, fun h => h2 ?_⟩
      · simpa [dVal, List.find?_cons, e1] using h
      · simpa [dVal, List.find?_cons, e1] using h
end
/-- a key that a dict of that sort can hold: all keys flat, or all tuples of flat ones (the empty one: either) -/
inductive KeyAt (K : PySem.W.Frag) (F H : Hp) (a : Addr) (ds : List (D × D)) (y : V) (e : D) : Prop
  | k {kvs : List (Key × V)} {k : Key} : Rd H a (.dK kvs) → RepK K F kvs ds → y = kV k → e = keyD k → KeyAt K F H a ds y e
  | t {kvs : List (List Key × V)} {k : List Key} {b : Addr} : Rd H a (.dT kvs) → RepT K F kvs ds → y = .ref b → H b = some (.tup (k.map kV)) → e = .tuple (k.map keyD) → KeyAt K F H a ds y e
theorem KeyAt.get {K : PySem.W.Frag} {F H : Hp} {a : Addr} {ds : List (D × D)} {y : V} {e : D} (h : KeyAt K F H a ds y e) : ∃ o, DGet H a y o ∧ (∀ d, dVal ds e = some d → ∃ v, o = some v ∧ Rep K F v d) ∧ (dVal ds e = none → o = none) := by
  cases h with
  | k h1 h2 h3 h4 =>
    subst h4
    obtain ⟨q1, q2⟩ := repK_val _ h2
    exact ⟨_, .inl ⟨_, _, h1, h3, rfl⟩, q1, q2⟩
  | t h1 h2 h3 h4 h5 =>
    subst h5
    obtain ⟨q1, q2⟩ := repT_val _ h2
    exact ⟨_, .inr ⟨_, _, _, h1, h3, h4, rfl⟩, q1, q2⟩
/-- which keys a dict as data takes: told by its first key -/
def kindOk (ds : List (D × D)) (e : D) : Bool := match e with
  | .int _ => match ds with
    | (.tuple _, _) :: _ => false
    | _ => true
  | .str _ => match ds with
    | (.tuple _, _) :: _ => false
    | _ => true
  | .tuple ks => (dKeys ks).isSome && (match ds with
    | (.tuple _, _) :: _ => true
    | _ => false)
  | _ => false
theorem keyAt_of {K : PySem.W.Frag} {p : Option Addr} {F H : Hp} {x y : V} {ds : List (D × D)} {e : D} (fh : FH F H) (t1 : Top K p F H x (.dict ds)) (t2 : Top K p F H y e) (h : kindOk ds e = true) (hne : ds ≠ []) : ∃ a, x = .ref a ∧ KeyAt K F H a ds y e := by
  obtain ⟨a, rfl, ⟨kvs, h1, r⟩ | ⟨kvs, h1, r⟩⟩ := t1.dict fh
  · refine ⟨a, rfl, ?_⟩
    cases r with
    | nil => exact absurd rfl hne
    | cons r0 rs =>
      rename_i k0 v0 kvs0 d0 ds0
      cases e with
      | int i => exact .k (k := .inl i) h1 (.cons r0 rs) t2.int rfl
      | str z => exact .k (k := .inr z) h1 (.cons r0 rs) t2.str rfl
      | tuple ks => cases k0 <;> simp [kindOk, keyD] at h
      | _ => cases h
  · refine ⟨a, rfl, ?_⟩
    cases r with
    | nil => exact absurd rfl hne
    | cons r0 rs =>
      rename_i k0 v0 kvs0 d0 ds0
      cases e with
      | int i => cases h
      | str z => cases h
      | tuple ks =>
        have hk : (dKeys ks).isSome = true := by simp [kindOk] at h; exact h
        obtain ⟨kk, ek⟩ := Option.isSome_iff_exists.mp hk
        have e2 := keyDs_keys ek
        subst e2
        obtain ⟨b, xs, rfl, e3, r3⟩ := t2.tuple fh
        rw [reps_keys r3] at e3
        exact .t h1 (.cons r0 rs) rfl e3 rfl
      | _ => cases h
/-! the empty dict takes any key -/
theorem emptyKT {P : Program} {w : World} {H : Hp} {h : Heap} {a : Addr} (e : ObjOk P w H h a (.dK []) ∨ ObjOk P w H h a (.dT [])) : ObjOk P w H h a (.dK []) ∧ ObjOk P w H h a (.dT []) := by
  have nil_of : ∀ {es : Array DictEntry}, es.toList = [] → es = #[] := fun {es} h => by
    cases es; simp at h; subst h; rfl
  rcases e with e | e
  · refine ⟨e, ?_⟩
    obtain ⟨z, hd, vs, kv, o, es, ep, h1, h2, h3, h4, h5, h6⟩ := e
    cases kv
    cases h5' : es.toList with
    | nil => exact ⟨z, hd, [], .nil, o, es, ep, h1, h2, h3, h5', List.nodup_nil⟩
    | cons q qs => rw [h5'] at h5; cases h5
  · refine ⟨?_, e⟩
    obtain ⟨z, hd, xs, kt, o, es, ep, h1, h2, h3, h4, h5⟩ := e
    cases kt
    have h4' : es.toList = [] := h4
    refine ⟨z, hd, [], .nil, o, es, ep, h1, h2, h3, ?_, ?_, List.nodup_nil⟩
    · rw [nil_of h4']; intro q hq; simp at hq
    · rw [h4']; exact .nil
def rInEmpty (neg : Bool) : R2 := fun x y H Q => ∃ a, y = .ref a ∧ (Rd H a (.dK []) ∨ Rd H a (.dT [])) ∧ ((∃ k, x = kV k) ∨ ∃ (b : Addr) (k : List Key), x = .ref b ∧ H b = some (.tup (k.map kV))) ∧ Q (.bl neg) H
section
variable {X : Cx}
theorem op_inEmpty (hu : X.A.units + 1 < cLine) : OpR X (compareOp .In) (rInEmpty false) := by
  intro pins s σ H x y v u Q I rx ry h
  obtain ⟨a, rfl, he, hk, q⟩ := h
  obtain rfl : u = Value.ref a := ry
  obtain ⟨e1, e2⟩ := emptyKT (P := X.prog) (w := X.w) (H := H) (h := s.heap) (a := a) (by rcases he with e | e; exact .inl (rd_of I.hok e); exact .inr (rd_of I.hok e))
  rcases hk with ⟨k, rfl⟩ | ⟨b, k, rfl, hb⟩
  · obtain ⟨z, hd, vs, rel, dd⟩ := e1
    cases rel
    exact wpAny_in_of (kV_is rx) hd dd.mapOf ⟨.bl false, H, I.tok _, rfl, q⟩
  · cases (show v = Value.ref b from rx)
    obtain ⟨z, hd, xs, rel, o, es, ep, h1, h2, h3, h4, h5⟩ := e2
    cases rel
    exact PySem.wpAny_in_heap (tupleKind_room_in1 hu) (key_of I.hok hb) hd ⟨o, es, ep, h1, h2, h3, h4, (fun x hx => by cases hx), h5⟩ ⟨.bl false, H, I.tok _, rfl, q⟩
theorem op_notInEmpty (hu : X.A.units + 1 < cLine) : OpR X (compareOp .NotIn) (rInEmpty true) := by
  intro pins s σ H x y v u Q I rx ry h
  obtain ⟨a, rfl, he, hk, q⟩ := h
  obtain rfl : u = Value.ref a := ry
  obtain ⟨e1, e2⟩ := emptyKT (P := X.prog) (w := X.w) (H := H) (h := s.heap) (a := a) (by rcases he with e | e; exact .inl (rd_of I.hok e); exact .inr (rd_of I.hok e))
  rcases hk with ⟨k, rfl⟩ | ⟨b, k, rfl, hb⟩
  · obtain ⟨z, hd, vs, rel, dd⟩ := e1
    cases rel
    exact PySem.wpAny_notIn_of (kV_is rx) hd dd.mapOf ⟨.bl true, H, I.tok _, rfl, q⟩
  · cases (show v = Value.ref b from rx)
    obtain ⟨z, hd, xs, rel, o, es, ep, h1, h2, h3, h4, h5⟩ := e2
    cases rel
    exact PyProof.Rows.wpAny_notIn_heap (tupleKind_room_in1 hu) (key_of I.hok hb) hd ⟨o, es, ep, h1, h2, h3, h4, (fun x hx => by cases hx), h5⟩ ⟨.bl true, H, I.tok _, rfl, q⟩
end
/-- in, not in -/
def flatK : D → Bool
  | .int _ => true
  | .str _ => true
  | .tuple ks => (dKeys ks).isSome
  | _ => false
def dIn (d : D) : D → Option Bool
  | .list ds => if SeqAt.shaped d && SeqAt.shaped (.list ds) then some (ds.any fun z => PyData.eqv z d) else none
  | .tuple ds => if SeqAt.shaped d && SeqAt.shaped (.tuple ds) then some (ds.any fun z => PyData.eqv z d) else none
  | .dict [] => if flatK d then some false else none
  | .dict (q :: ds) => if kindOk (q :: ds) d then some (dVal (q :: ds) d).isSome else none
  | _ => none
def bIn (d e : D) : Option Bool := dIn d e
def bNotIn (d e : D) : Option Bool := (dIn d e).map fun b => !b
def rInAll (K : PySem.W.Frag) : R2 := fun x y H Q => rInD K x y H Q ∨ rInT K false x y H Q ∨ rInDict false x y H Q ∨ rInEmpty false x y H Q
def rNotInAll (K : PySem.W.Frag) : R2 := fun x y H Q => rNotInD K x y H Q ∨ rInT K true x y H Q ∨ rInDict true x y H Q ∨ rInEmpty true x y H Q
section
variable {ι : Type} {f : Fam ι} {K : PySem.W.Frag}
theorem fop_in (i : ι) : OpR (f.X i) (compareOp .In) (rInAll f.K) := by
  have hu := f.hu i
  have h := (op_inD (X := f.X i) (by omega)).or ((op_inT (X := f.X i) (by omega)).or ((op_inDict (X := f.X i) (by omega)).or (op_inEmpty (X := f.X i) (by omega))))
  rw [f.eK i] at h
  exact h
theorem fop_notIn (i : ι) : OpR (f.X i) (compareOp .NotIn) (rNotInAll f.K) := by
  have hu := f.hu i
  have h := (op_notInD (X := f.X i) (by omega)).or ((op_notInT (X := f.X i) (by omega)).or ((op_notInDict (X := f.X i) (by omega)).or (op_notInEmpty (X := f.X i) (by omega))))
  rw [f.eK i] at h
  exact h
theorem flatK_of {p : Option Addr} {F H : Hp} {x : V} {d : D} (fh : FH F H) (t : Top K p F H x d) (h : flatK d = true) : (∃ k, x = kV k) ∨ ∃ (b : Addr) (k : List Key), x = .ref b ∧ H b = some (.tup (k.map kV)) := by
  cases d with
  | int i => exact .inl ⟨.inl i, t.int⟩
  | str z => exact .inl ⟨.inr z, t.str⟩
  | tuple ks =>
    obtain ⟨kk, ek⟩ := Option.isSome_iff_exists.mp h
    have e2 := keyDs_keys ek
    subst e2
    obtain ⟨b, xs, rfl, e3, r3⟩ := t.tuple fh
    rw [reps_keys r3] at e3
    exact .inr ⟨b, kk, rfl, e3⟩
  | _ => cases h
theorem empty_of {p : Option Addr} {F H : Hp} {y : V} (fh : FH F H) (t : Top K p F H y (.dict [])) : ∃ a, y = .ref a ∧ (Rd H a (.dK []) ∨ Rd H a (.dT [])) := by
  obtain ⟨a, rfl, ⟨kvs, h1, r⟩ | ⟨kvs, h1, r⟩⟩ := t.dict fh
  · cases r; exact ⟨a, rfl, .inl h1⟩
  · cases r; exact ⟨a, rfl, .inr h1⟩
theorem rbp_in : RBp K (rInAll K) bIn := by
  intro p F H x y d e z Q fh t1 t2 ez q
  cases e with
  | list ds =>
    have ez' : (if SeqAt.shaped d && SeqAt.shaped (.list ds) then some (ds.any fun z => PyData.eqv z d) else none) = some z := ez
    split at ez'
    · rename_i h
      rw [Bool.and_eq_true] at h
      cases ez'
      exact .inl ⟨d, ds, dp_of fh t1 h.1, dp_of fh t2 h.2, h.1, h.2, q⟩
    · cases ez'
  | tuple ds =>
    have ez' : (if SeqAt.shaped d && SeqAt.shaped (.tuple ds) then some (ds.any fun z => PyData.eqv z d) else none) = some z := ez
    split at ez'
    · rename_i h
      rw [Bool.and_eq_true] at h
      cases ez'
      exact .inr (.inl ⟨d, ds, dp_of fh t1 h.1, dp_of fh t2 h.2, h.1, h.2, by rw [if_neg (by decide)]; exact q⟩)
    · cases ez'
  | dict ds =>
    cases ds with
    | nil =>
      have ez' : (if flatK d then some false else none) = some z := ez
      split at ez'
      · rename_i h
        cases ez'
        obtain ⟨a, rfl, ha⟩ := empty_of fh t2
        exact .inr (.inr (.inr ⟨a, rfl, ha, flatK_of fh t1 h, q⟩))
      · cases ez'
    | cons w ds =>
      have ez' : (if kindOk (w :: ds) d then some (dVal (w :: ds) d).isSome else none) = some z := ez
      split at ez'
      · rename_i h
        cases ez'
        obtain ⟨a, rfl, ka⟩ := keyAt_of fh t2 t1 h (List.cons_ne_nil _ _)
        obtain ⟨o, g, h1, h2⟩ := ka.get
        refine .inr (.inr (.inl ⟨a, o, rfl, g, ?_⟩))
        rw [if_neg (by decide)]
        cases ev : dVal (w :: ds) d with
        | none => rw [ev] at q; rw [h2 ev]; exact q
        | some v => obtain ⟨v', e1, _⟩ := h1 v ev; rw [ev] at q; rw [e1]; exact q
      · cases ez'
  | _ => cases ez
theorem rbp_notIn : RBp K (rNotInAll K) bNotIn := by
  intro p F H x y d e z Q fh t1 t2 ez q
  cases e with
  | list ds =>
    have ez' : (if SeqAt.shaped d && SeqAt.shaped (.list ds) then some (ds.any fun z => PyData.eqv z d) else none).map (fun b => !b) = some z := ez
    split at ez'
    · rename_i h
      rw [Bool.and_eq_true] at h
      cases ez'
      exact .inl ⟨d, ds, dp_of fh t1 h.1, dp_of fh t2 h.2, h.1, h.2, q⟩
    · cases ez'
  | tuple ds =>
    have ez' : (if SeqAt.shaped d && SeqAt.shaped (.tuple ds) then some (ds.any fun z => PyData.eqv z d) else none).map (fun b => !b) = some z := ez
    split at ez'
    · rename_i h
      rw [Bool.and_eq_true] at h
      cases ez'
      exact .inr (.inl ⟨d, ds, dp_of fh t1 h.1, dp_of fh t2 h.2, h.1, h.2, by rw [if_pos rfl]; exact q⟩)
    · cases ez'
  | dict ds =>
    cases ds with
    | nil =>
      have ez' : (if flatK d then some false else none).map (fun b => !b) = some z := ez
      split at ez'
      · rename_i h
        cases ez'
        obtain ⟨a, rfl, ha⟩ := empty_of fh t2
        exact .inr (.inr (.inr ⟨a, rfl, ha, flatK_of fh t1 h, q⟩))
      · cases ez'
    | cons w ds =>
      have ez' : (if kindOk (w :: ds) d then some (dVal (w :: ds) d).isSome else none).map (fun b => !b) = some z := ez
      split at ez'
      · rename_i h
        cases ez'
        obtain ⟨a, rfl, ka⟩ := keyAt_of fh t2 t1 h (List.cons_ne_nil _ _)
        obtain ⟨o, g, h1, h2⟩ := ka.get
        refine .inr (.inr (.inl ⟨a, o, rfl, g, ?_⟩))
        rw [if_pos rfl]
        cases ev : dVal (w :: ds) d with
        | none => rw [ev] at q; rw [h2 ev]; exact q
        | some v => obtain ⟨v', e1, _⟩ := h1 v ev; rw [ev] at q; rw [e1]; exact q
      · cases ez'
  | _ => cases ez
end
end Y

set_option maxRecDepth 100000
set_option maxHeartbeats 1000000
namespace Y
open PySem L2 PM PX
section
variable {ι : Type} {μ : Type → Type} [PM μ] {f : Fam ι} {Γ : List Slot} {e a b c : Expr} {m ma mb : μ D} {pos : Pos} {es : List Expr}
/-! x[i], d[k] -/
def dSub2 : D → D → Option D
  | .dict ds, k => if kindOk ds k then dVal ds k else none
  | x, y => dIx x y
def rSubAll (K : PySem.W.Frag) : R2 := fun x y H Q => rIx K x y H Q ∨ rIxDict x y H Q
theorem rop_sub2 {K : PySem.W.Frag} : ROp K (rSubAll K) dSub2 := by
  intro p F H x y d e z Q fh t1 t2 ez q
  cases d with
  | dict ds =>
    have ez' : (if kindOk ds e then dVal ds e else none) = some z := ez
    split at ez'
    · rename_i h
      have hne : ds ≠ [] := fun z => by subst z; simp [dVal] at ez'
      obtain ⟨a, rfl, ka⟩ := keyAt_of fh t1 t2 h hne
      obtain ⟨o, g, h1, h2⟩ := ka.get
      obtain ⟨v, e1, rv⟩ := h1 z ez'
      subst e1
      exact .inr ⟨a, v, rfl, g, q v F H (.refl fh) (by
        rcases t1 with r | ⟨l, el, hp, n⟩
        · exact rv
        · exact rv)⟩
    · cases ez'
  | list ds =>
    cases e with
    | int j =>
      cases t2.int
      obtain ⟨l, xs, rfl, h, r⟩ := t1.list fh
      obtain ⟨v, h1, h2⟩ := at_reps r (show atI ds j = some z from ez)
      exact .inl (.inl ⟨l, xs, j, v, rfl, rfl, SqL.of h, h1, q v F H (.refl fh) h2⟩)
    | _ => cases ez
  | tuple ds =>
    cases e with
    | int j =>
      cases t2.int
      obtain ⟨l, xs, rfl, h, r⟩ := t1.tuple fh
      obtain ⟨v, h1, h2⟩ := at_reps r (show atI ds j = some z from ez)
      exact .inl (.inr (.inl ⟨l, xs, j, v, rfl, rfl, .inl (.inl h), h1, q v F H (.refl fh) h2⟩))
    | _ => cases ez
  | str s =>
    cases e with
    | int j =>
      cases t2.int
      cases t1.str
      have ez' : (if s.length < 16000000 then (atI s.cps.toList j).map fun c => (.str ⟨#[c]⟩ : D) else none) = some z := ez
      split at ez'
      · rename_i hl
        cases ec : atI s.cps.toList j with
        | none => rw [ec] at ez'; cases ez'
        | some c =>
          rw [ec] at ez'
          cases ez'
          exact .inl (.inr (.inr ⟨s, j, c, rfl, rfl, big_le hl, ec, q _ F H (.refl fh) (.str _)⟩))
      · cases ez'
    | _ => cases ez
  | _ => cases e <;> cases ez
theorem ex_sub (ha : EXT f Γ a ma) (hb : EXT f Γ b mb) (hs : PlainIx b := by intro _ _; rfl) : EX f Γ (.Subscript a b pos) (bnd ma fun x => bnd mb fun y => lif (dSub2 x y)) := by
  refine ex_op2 (r := rSubAll f.K) (fun _ _ p q i => ?_) rop_sub2 ha hb
  have h := pe_ix (pos := pos) (X := f.X i) (ix_seq.or (ix_dict (by have := f.hu i; omega))) (p i) (q i) hs
  rw [f.eK i] at h
  exact h
/-! calls of built-ins -/
def RCall (K : PySem.W.Frag) (ks : List AK) (r : List V → Hp → VK → Prop) (dop : List D → Option D) : Prop := ∀ (p : Option Addr) (F H : Hp) (vs : List V) (ds : List D) (z : D) (Q : VK), FH F H → Args K p F H ks vs ds → dop ds = some z →
  (∀ v F' H', Grow K p F H F' H' → Rep K F' v z → Q v H') → r vs H Q
theorem ex_callV {r : List V → Hp → VK → Prop} {dop : List D → Option D} {ks : List AK} {M : (List D → μ D) → μ D} (hp : ∀ t, (∀ i, PA (f.X i) es t) → ∀ i, PE (f.X i) e (tCB r t)) (hr : RCall f.K ks r dop) (ha : EXK f Γ ks es M) :
    EX f Γ e (M fun ds => lif (dop ds)) := by
  obtain ⟨t, h1, h2⟩ := ha
  refine ⟨_, hp t h1, fun Z F O H σ Q ok q => ?_⟩
  refine h2 _ Z F O H σ _ _ ok q fun vs ds F1 H1 g1 r1 h => ?_
  obtain ⟨z, ez, h⟩ := den_lif h
  exact hr Z.p F1 H1 vs ds z _ g1.fh r1 ez fun v F3 H3 g3 r3 => h v F3 H3 (g1.trans g3) r3
theorem ex_callB {x : Str} {id : String} {p : Pos} {r : List V → Hp → VK → Prop} {dop : List D → Option D} {ks : List AK} {M : (List D → μ D) → μ D} (hc : ∀ i, CallR (f.X i) (.builtin id) r) (hr : RCall f.K ks r dop) (hm : f.mg x = none) (hv : bootBuiltins x = some (.builtin id))
    (ha : EXK f Γ ks (e :: es) M) (hg : ∀ i, Gl (f.X i) x := by intro _; rfl) (hn : x ≠ "__name__" := by decide) (hdb : (x == ("__debug__" : Str)) = false := by decide)
    (he : ∀ i, starEach (e :: es) (f.X i).env = (false, eval e (f.X i).env) :: starEach es (f.X i).env := by intro _; rfl) (hpl : ∀ i, (backTo pos (starEach es (f.X i).env)).any (·.1) = false := by intro _; rfl) :
    EX f Γ (.Call (.Name x p) (e :: es) [] pos) (M fun ds => lif (dop ds)) := ex_callV (fun t h i => pe_callB (hc i) (hg i) (by rw [f.eg i]; exact hm) hv (h i) hn hdb (he i) (hpl i)) hr ha
theorem ex_callTy {x : Str} {T : String} {p : Pos} {r : List V → Hp → VK → Prop} {dop : List D → Option D} {ks : List AK} {M : (List D → μ D) → μ D} (hc : ∀ i, CallR (f.X i) (.type T) r) (hr : RCall f.K ks r dop) (hm : f.mg x = none) (hv : bootBuiltins x = some (.type T))
    (ha : EXK f Γ ks (e :: es) M) (hg : ∀ i, Gl (f.X i) x := by intro _; rfl) (hn : x ≠ "__name__" := by decide) (hdb : (x == ("__debug__" : Str)) = false := by decide)
    (he : ∀ i, starEach (e :: es) (f.X i).env = (false, eval e (f.X i).env) :: starEach es (f.X i).env := by intro _; rfl) (hpl : ∀ i, (backTo pos (starEach es (f.X i).env)).any (·.1) = false := by intro _; rfl) :
    EX f Γ (.Call (.Name x p) (e :: es) [] pos) (M fun ds => lif (dop ds)) := ex_callV (fun t h i => pe_callTy (hc i) (hg i) (by rw [f.eg i]; exact hm) hv (h i) hn hdb (he i) (hpl i)) hr ha
theorem ex_callF {x : Str} {id : String} {p : Pos} {r : List V → Hp → VK → Prop} {dop : List D → Option D} {ks : List AK} {M : (List D → μ D) → μ D} (hc : ∀ i, CallR (f.X i) (.builtin id) r) (hr : RCall f.K ks r dop) (hm : f.mg x = some (.builtin id))
    (ha : EXK f Γ ks (e :: es) M) (hg : ∀ i, Gl (f.X i) x := by intro _; rfl) (hdb : (x == ("__debug__" : Str)) = false := by decide)
    (he : ∀ i, starEach (e :: es) (f.X i).env = (false, eval e (f.X i).env) :: starEach es (f.X i).env := by intro _; rfl) (hpl : ∀ i, (backTo pos (starEach es (f.X i).env)).any (·.1) = false := by intro _; rfl) :
    EX f Γ (.Call (.Name x p) (e :: es) [] pos) (M fun ds => lif (dop ds)) := ex_callV (fun t h i => pe_callBfun (hc i) (hg i) (by rw [f.eg i]; exact hm) (h i) hdb (he i) (hpl i)) hr ha
end
/-! the rules of built-ins on data -/
section
variable {K : PySem.W.Frag}
theorem args1 {p : Option Addr} {F H : Hp} {vs : List V} {ds : List D} (h : Args K p F H [.top] vs ds) : ∃ v d, vs = [v] ∧ ds = [d] ∧ Top K p F H v d := by
  cases h with
  | top h t => cases t; exact ⟨_, _, rfl, rfl, h⟩
theorem args2 {p : Option Addr} {F H : Hp} {vs : List V} {ds : List D} (h : Args K p F H [.top, .top] vs ds) : ∃ v u d e, vs = [v, u] ∧ ds = [d, e] ∧ Top K p F H v d ∧ Top K p F H u e := by
  cases h with
  | top h t => cases t with
    | top h' t' => cases t'; exact ⟨_, _, _, _, rfl, rfl, h, h'⟩
def dop1 (g : D → Option D) : List D → Option D
  | [d] => g d
  | _ => none
def dop2 (g : D → D → Option D) : List D → Option D
  | [d, e] => g d e
  | _ => none
theorem rcall1 {r : List V → Hp → VK → Prop} {g : D → Option D} (h : ∀ (p : Option Addr) (F H : Hp) (v : V) (d z : D) (Q : VK), FH F H → Top K p F H v d → g d = some z → (∀ v F' H', Grow K p F H F' H' → Rep K F' v z → Q v H') → r [v] H Q) : RCall K [.top] r (dop1 g) := by
  intro p F H vs ds z Q fh a ez q
  obtain ⟨v, d, rfl, rfl, t⟩ := args1 a
  exact h p F H v d z Q fh t ez q
theorem rcall2 {r : List V → Hp → VK → Prop} {g : D → D → Option D} (h : ∀ (p : Option Addr) (F H : Hp) (v u : V) (d e z : D) (Q : VK), FH F H → Top K p F H v d → Top K p F H u e → g d e = some z → (∀ v F' H', Grow K p F H F' H' → Rep K F' v z → Q v H') → r [v, u] H Q) : RCall K [.top, .top] r (dop2 g) := by
  intro p F H vs ds z Q fh a ez q
  obtain ⟨v, u, d, e, rfl, rfl, t, t'⟩ := args2 a
  exact h p F H v u d e z Q fh t t' ez q
def dLen : D → Option D
  | .str x => if x.length < 16000000 then some (.int x.length) else none
  | .list ds => some (.int ds.length)
  | .tuple ds => some (.int ds.length)
  | .dict ds => some (.int ds.length)
  | _ => none
def rLenAll (K : PySem.W.Frag) : List V → Hp → VK → Prop := fun xs H Q => (∃ x n, xs = [x] ∧ LenV K x H n ∧ Q (.int n) H) ∨ (∃ a kvs, xs = [V.ref a] ∧ Rd H a (.dK kvs) ∧ Q (.int kvs.length) H) ∨ (∃ a kvs, xs = [V.ref a] ∧ Rd H a (.dT kvs) ∧ Q (.int kvs.length) H)
theorem call_lenDK {X : Cx} : CallR X (.builtin "len") (fun xs H Q => ∃ a kvs, xs = [V.ref a] ∧ Rd H a (.dK kvs) ∧ Q (.int kvs.length) H) := by
  intro pins s σ H xs us Q I r h
  obtain ⟨a, kvs, rfl, ha, q⟩ := h
  obtain ⟨u, rfl, ru⟩ := vals1 r
  cases (show u = Value.ref a from ru)
  exact d_len I ha fun t s' I' => ⟨.int kvs.length, H, I', ⟨t, rfl⟩, q⟩
theorem call_lenDT {X : Cx} : CallR X (.builtin "len") (fun xs H Q => ∃ a kvs, xs = [V.ref a] ∧ Rd H a (.dT kvs) ∧ Q (.int kvs.length) H) := by
  intro pins s σ H xs us Q I r h
  obtain ⟨a, kvs, rfl, ha, q⟩ := h
  obtain ⟨u, rfl, ru⟩ := vals1 r
  cases (show u = Value.ref a from ru)
  obtain ⟨z, hd, ys, rel, dd⟩ := dt_rd I.hok ha
  have e : kvs.length = ys.length := Paired.length rel
  refine PySem.call_len_dictH hd dd (by rw [← e]; rw [sizeLine_eq] at z; omega) ?_
  rw [← e]
  exact ⟨.int ((kvs.length : Nat) : Int), H, I.tok _, ⟨_, rfl⟩, q⟩
theorem rc_len : RCall K [.top] (rLenAll K) (dop1 dLen) := rcall1 fun p F H v d z Q fh t ez q => by
  cases d with
  | str x =>
    have ez' : (if x.length < 16000000 then some (.int x.length : D) else none) = some z := ez
    split at ez'
    · rename_i h; cases ez'; cases t.str; exact .inl ⟨.str x, x.length, rfl, ⟨big_le h, rfl⟩, q _ F H (.refl fh) (.int _)⟩
    · cases ez'
  | list ds =>
    cases ez
    obtain ⟨l, xs, rfl, h, r⟩ := t.list fh
    exact .inl ⟨.ref l, xs.length, rfl, .inl ⟨xs, SqL.of h, rfl⟩, by rw [r.length]; exact q _ F H (.refl fh) (.int _)⟩
  | tuple ds =>
    cases ez
    obtain ⟨l, xs, rfl, h, r⟩ := t.tuple fh
    exact .inl ⟨.ref l, xs.length, rfl, .inr ⟨xs, .inl (.inl h), rfl⟩, by rw [r.length]; exact q _ F H (.refl fh) (.int _)⟩
  | dict ds =>
    cases ez
    obtain ⟨a, rfl, ⟨kvs, h1, r⟩ | ⟨kvs, h1, r⟩⟩ := t.dict fh
    · exact .inr (.inl ⟨a, kvs, rfl, h1, by rw [r.length]; exact q _ F H (.refl fh) (.int _)⟩)
    · exact .inr (.inr ⟨a, kvs, rfl, h1, by rw [r.length]; exact q _ F H (.refl fh) (.int _)⟩)
  | _ => cases ez
def dInt : D → Option D
  | .int i => some (.int i)
  | .bool b => some (.int (if b then 1 else 0))
  | _ => none
theorem rc_int : RCall K [.top] (fun xs H Q => (∃ i, xs = [.int i] ∧ Q (.int i) H) ∨ ∃ k, xs = [.bl k] ∧ Q (.int (if k then 1 else 0)) H) (dop1 dInt) := rcall1 fun p F H v d z Q fh t ez q => by
  cases d with
  | int i => cases ez; cases t.int; exact .inl ⟨i, rfl, q _ F H (.refl fh) (.int _)⟩
  | bool b => cases ez; cases t.bool; exact .inr ⟨b, rfl, q _ F H (.refl fh) (.int _)⟩
  | _ => cases ez
def dAbs : D → Option D
  | .int i => some (.int (if i < 0 then -i else i))
  | _ => none
theorem rc_abs : RCall K [.top] (fun xs H Q => ∃ i, xs = [.int i] ∧ Q (.int (if i < 0 then -i else i)) H) (dop1 dAbs) := rcall1 fun p F H v d z Q fh t ez q => by
  cases d with
  | int i => cases ez; cases t.int; exact ⟨i, rfl, q _ F H (.refl fh) (.int _)⟩
  | _ => cases ez
def dMax2 : D → D → Option D
  | .int i, .int j => some (.int (if j > i then j else i))
  | _, _ => none
def dMin2 : D → D → Option D
  | .int i, .int j => some (.int (if j < i then j else i))
  | _, _ => none
def dGcd : D → D → Option D
  | .int i, .int j => some (.int (Nat.gcd i.natAbs j.natAbs : Nat))
  | _, _ => none
theorem rc_ii {r : List V → Hp → VK → Prop} {g : D → D → Option D} (h1 : ∀ d e z, g d e = some z → ∃ i j, d = .int i ∧ e = .int j) (h2 : ∀ (H : Hp) (i j : Int) (z : D) (Q : VK), g (.int i) (.int j) = some z → (∀ v, (∀ F, Rep K F v z) → Q v H) → r [.int i, .int j] H Q) : RCall K [.top, .top] r (dop2 g) :=
  rcall2 fun p F H v u d e z Q fh t t' ez q => by
    obtain ⟨i, j, rfl, rfl⟩ := h1 d e z ez
    cases t.int
    cases t'.int
    exact h2 H i j z Q ez fun v hv => q v F H (.refl fh) (hv F)
theorem rc_max2 : RCall K [.top, .top] (fun xs H Q => ∃ i j, xs = [.int i, .int j] ∧ Q (.int (if j > i then j else i)) H) (dop2 dMax2) := rc_ii (fun d e z h => by
  cases d with
  | int i => cases e with
    | int j => exact ⟨i, j, rfl, rfl⟩
    | _ => cases h
  | _ => cases e <;> cases h) fun H i j z Q ez q => by cases ez; exact ⟨i, j, rfl, q _ fun F => .int _⟩
theorem rc_min2 : RCall K [.top, .top] (fun xs H Q => ∃ i j, xs = [.int i, .int j] ∧ Q (.int (if j < i then j else i)) H) (dop2 dMin2) := rc_ii (fun d e z h => by
  cases d with
  | int i => cases e with
    | int j => exact ⟨i, j, rfl, rfl⟩
    | _ => cases h
  | _ => cases e <;> cases h) fun H i j z Q ez q => by cases ez; exact ⟨i, j, rfl, q _ fun F => .int _⟩
theorem rc_gcd : RCall K [.top, .top] rGcd (dop2 dGcd) := rc_ii (fun d e z h => by
  cases d with
  | int i => cases e with
    | int j => exact ⟨i, j, rfl, rfl⟩
    | _ => cases h
  | _ => cases e <;> cases h) fun H i j z Q ez q => by cases ez; exact ⟨i, j, rfl, q _ fun F => .int _⟩
/-! lists of ints, of bools -/
def intsD : List D → Option (List Int)
  | [] => some []
  | .int i :: ds => (intsD ds).map (i :: ·)
  | _ => none
def boolsD : List D → Option (List Bool)
  | [] => some []
  | .bool i :: ds => (boolsD ds).map (i :: ·)
  | _ => none
theorem intsD_eq : ∀ {ds : List D} {ns : List Int}, intsD ds = some ns → ds = ns.map .int
  | [], _, h => by cases h; rfl
  | d :: ds, ns, h => by
    cases d with
    | int i =>
      have h' : (intsD ds).map (i :: ·) = some ns := h
      cases e : intsD ds with
      | none => rw [e] at h'; cases h'
      | some r => rw [e] at h'; cases h'; rw [intsD_eq e]; rfl
    | _ => cases h
theorem boolsD_eq : ∀ {ds : List D} {ns : List Bool}, boolsD ds = some ns → ds = ns.map .bool
  | [], _, h => by cases h; rfl
  | d :: ds, ns, h => by
    cases d with
    | bool i =>
      have h' : (boolsD ds).map (i :: ·) = some ns := h
      cases e : boolsD ds with
      | none => rw [e] at h'; cases h'
      | some r => rw [e] at h'; cases h'; rw [boolsD_eq e]; rfl
    | _ => cases h
theorem Reps.of_bools {F : Hp} : ∀ {vs : List V} {ns : List Bool}, Reps K F vs (ns.map .bool) → vs = ns.map V.bl
  | vs, [], h => by cases h; rfl
  | vs, n :: ns, h => by
    have h' : Reps K F _ (PyData.bool n :: ns.map .bool) := h
    cases h' with
    | cons r t => cases r; rw [Reps.of_bools t]; rfl
def dSum : D → Option D
  | .list ds => (intsD ds).map fun ns => .int ns.sum
  | _ => none
def maxI : List Int → Option Int
  | [] => none
  | n :: ns => some (ns.foldl max n)
def minI : List Int → Option Int
  | [] => none
  | n :: ns => some (ns.foldl min n)
def dMax : D → Option D
  | .list ds => (intsD ds).bind fun ns => (maxI ns).map .int
  | _ => none
def dMin : D → Option D
  | .list ds => (intsD ds).bind fun ns => (minI ns).map .int
  | _ => none
def dAll : D → Option D
  | .list ds => (boolsD ds).map fun bs => .bool (bs.all id)
  | _ => none
def dAny : D → Option D
  | .list ds => (boolsD ds).map fun bs => .bool (bs.any id)
  | _ => none
theorem foldl_max_mem : ∀ (ns : List Int) (n : Int), (ns.foldl max n = n ∨ ns.foldl max n ∈ ns) ∧ n ≤ ns.foldl max n ∧ ∀ y ∈ ns, y ≤ ns.foldl max n
  | [], n => ⟨.inl rfl, Int.le_refl _, by simp⟩
  | m :: ns, n => by
    obtain ⟨h1, h2, h3⟩ := foldl_max_mem ns (max n m)
    refine ⟨?_, by simp only [List.foldl_cons]; omega, fun y hy => ?_⟩
    · simp only [List.foldl_cons]
      rcases h1 with h | h
      · rw [h]
        by_cases e : n ≤ m
        · exact .inr (by rw [Int.max_eq_right e]; exact List.mem_cons_self)
        · exact .inl (Int.max_eq_left (by omega))
      · exact .inr (List.mem_cons_of_mem _ h)
    · simp only [List.foldl_cons]
      rcases List.mem_cons.mp hy with e | e
      · subst e; omega
      · exact h3 y e
theorem foldl_min_mem : ∀ (ns : List Int) (n : Int), (ns.foldl min n = n ∨ ns.foldl min n ∈ ns) ∧ ns.foldl min n ≤ n ∧ ∀ y ∈ ns, ns.foldl min n ≤ y
  | [], n => ⟨.inl rfl, Int.le_refl _, by simp⟩
  | m :: ns, n => by
    obtain ⟨h1, h2, h3⟩ := foldl_min_mem ns (min n m)
    refine ⟨?_, by simp only [List.foldl_cons]; omega, fun y hy => ?_⟩
    · simp only [List.foldl_cons]
      rcases h1 with h | h
      · rw [h]
        by_cases e : m ≤ n
        · exact .inr (by rw [Int.min_eq_right e]; exact List.mem_cons_self)
        · exact .inl (Int.min_eq_left (by omega))
      · exact .inr (List.mem_cons_of_mem _ h)
    · simp only [List.foldl_cons]
      rcases List.mem_cons.mp hy with e | e
      · subst e; omega
      · exact h3 y e
theorem rc_ints {r : List V → Hp → VK → Prop} {g : List Int → Option D} (h : ∀ (H : Hp) (a : Addr) (ns : List Int) (z : D) (Q : VK), SqL K H a (ns.map V.int) → g ns = some z → (∀ v, (∀ F, Rep K F v z) → Q v H) → r [.ref a] H Q) :
    RCall K [.top] r (dop1 fun d => match d with | .list ds => (intsD ds).bind g | _ => none) := rcall1 fun p F H v d z Q fh t ez q => by
  cases d with
  | list ds =>
    have ez' : (intsD ds).bind g = some z := ez
    cases e : intsD ds with
    | none => rw [e] at ez'; cases ez'
    | some ns =>
      rw [e] at ez'
      have e2 := intsD_eq e
      subst e2
      obtain ⟨l, xs, rfl, h1, r1⟩ := t.list fh
      rw [r1.of_ints] at h1
      exact h H l ns z Q (SqL.of h1) ez' fun v hv => q v F H (.refl fh) (hv F)
  | _ => cases ez
theorem dop_congr {g h : D → Option D} (e : ∀ d, g d = h d) {r : List V → Hp → VK → Prop} (x : RCall K [.top] r (dop1 g)) : RCall K [.top] r (dop1 h) := by
  have : g = h := funext e
  rw [← this]; exact x
theorem rc_sum : RCall K [.top] (rSum K) (dop1 dSum) := dop_congr (fun d => by cases d <;> first | rfl | (simp [dSum, Option.map_eq_bind]; rfl)) (rc_ints (K := K) (r := rSum K) (g := fun ns => some (.int ns.sum)) fun H a ns z Q h ez q => by
  cases ez; exact ⟨a, ns, rfl, h, q _ fun F => .int _⟩)
theorem rc_max : RCall K [.top] (rMax K) (dop1 dMax) := dop_congr (fun d => by cases d <;> rfl) (rc_ints (K := K) (r := rMax K) (g := fun ns => (maxI ns).map .int) fun H a ns z Q h ez q => by
  cases ns with
  | nil => cases ez
  | cons n ns =>
    cases ez
    refine ⟨a, n :: ns, rfl, h, by simp, fun m hm hle => ?_⟩
    obtain ⟨h1, h2, h3⟩ := foldl_max_mem ns n
    have e : m = ns.foldl max n := by
      have a1 : ns.foldl max n ≤ m := by
        rcases h1 with h | h
        · rw [h]; exact hle n List.mem_cons_self
        · exact hle _ (List.mem_cons_of_mem _ h)
      have a2 : m ≤ ns.foldl max n := by
        rcases List.mem_cons.mp hm with e | e
        · rw [e]; exact h2
        · exact h3 m e
      omega
    rw [e]
    exact q _ fun F => .int _)
theorem rc_min : RCall K [.top] (rMin K) (dop1 dMin) := dop_congr (fun d => by cases d <;> rfl) (rc_ints (K := K) (r := rMin K) (g := fun ns => (minI ns).map .int) fun H a ns z Q h ez q => by
  cases ns with
  | nil => cases ez
  | cons n ns =>
    cases ez
    refine ⟨a, n :: ns, rfl, h, by simp, fun m hm hle => ?_⟩
    obtain ⟨h1, h2, h3⟩ := foldl_min_mem ns n
    have e : m = ns.foldl min n := by
      have a1 : m ≤ ns.foldl min n := by
        rcases h1 with h | h
        · rw [h]; exact hle n List.mem_cons_self
        · exact hle _ (List.mem_cons_of_mem _ h)
      have a2 : ns.foldl min n ≤ m := by
        rcases List.mem_cons.mp hm with e | e
        · rw [e]; exact h2
        · exact h3 m e
      omega
    rw [e]
    exact q _ fun F => .int _)
theorem rc_bools {r : List V → Hp → VK → Prop} {g : List Bool → Bool} (h : ∀ (H : Hp) (a : Addr) (ns : List Bool) (Q : VK), SqL K H a (ns.map V.bl) → Q (.bl (g ns)) H → r [.ref a] H Q) :
    RCall K [.top] r (dop1 fun d => match d with | .list ds => (boolsD ds).map fun bs => .bool (g bs) | _ => none) := rcall1 fun p F H v d z Q fh t ez q => by
  cases d with
  | list ds =>
    have ez' : ((boolsD ds).map fun bs => (.bool (g bs) : D)) = some z := ez
    cases e : boolsD ds with
    | none => rw [e] at ez'; cases ez'
    | some ns =>
      rw [e] at ez'
      cases ez'
      have e2 := boolsD_eq e
      subst e2
      obtain ⟨l, xs, rfl, h1, r1⟩ := t.list fh
      rw [r1.of_bools] at h1
      exact h H l ns Q (SqL.of h1) (q _ F H (.refl fh) (.bl _))
  | _ => cases ez
theorem rc_all : RCall K [.top] (rAll K) (dop1 dAll) := dop_congr (fun d => by cases d <;> rfl) (rc_bools (K := K) (r := rAll K) (g := fun bs => bs.all id) fun H a ns Q h q => ⟨a, ns, rfl, h, q⟩)
theorem rc_any : RCall K [.top] (rAny K) (dop1 dAny) := dop_congr (fun d => by cases d <;> rfl) (rc_bools (K := K) (r := rAny K) (g := fun bs => bs.any id) fun H a ns Q h q => ⟨a, ns, rfl, h, q⟩)
end
end Y

set_option maxRecDepth 100000
set_option maxHeartbeats 1000000
namespace Y
open PySem L2 PM PX
/-! an object that is being made, beside the slots -/
structure MkD (K : PySem.W.Frag) (Z : Ent) (Γ : List Slot) (F : Hp) (O : Addr → Option Nat) (H : Hp) (σ : St) (l : Addr) (d : D) : Prop where
  ok : Ok K Z (Γ ++ [.own d]) F O H (σ ++ [some (.ref l)])
section
variable {K : PySem.W.Frag} {Z : Ent} {Γ : List Slot} {F H F' H' : Hp} {O : Addr → Option Nat} {σ : St} {l : Addr} {d d' : D} {o : HO}
theorem MkD.new (ok : Ok K Z Γ F O H σ) (hl : H l = none) (n : Node K F (upd H l o) l d) : MkD K Z Γ F (own1 O l Γ.length) (upd H l o) σ l d := by
  have h := ok.beside.setn (i := Γ.length) (l := l) (d := d) (F' := F) (H' := upd H l o) (.raw ok.fh hl) (by simp) hl (ok.fh.dom hl) n
  have e1 : (Γ ++ [Slot.any]).set Γ.length (.own d) = Γ ++ [.own d] := set_last
  have e2 : (σ ++ [none]).set Γ.length (some (V.ref l)) = σ ++ [some (.ref l)] := by rw [← ok.ln]; exact set_last
  rw [e1, e2] at h
  exact ⟨h⟩
theorem MkD.inn (m : MkD K Z Γ F O H σ l d) : Ok K Z Γ F O H σ := m.ok.inner
theorem MkD.at (m : MkD K Z Γ F O H σ l d) : O l = some Γ.length ∧ Node K F H l d := by
  obtain ⟨l', e, e1, n⟩ := m.ok.sl Γ.length _ last_get
  have hl : σ.length = Γ.length := m.inn.ln
  rw [← hl, last_get] at e
  cases e
  exact ⟨e1, n⟩
theorem MkD.grow (m : MkD K Z Γ F O H σ l d) (g : Grow K Z.p F H F' H') : MkD K Z Γ F' O H' σ l d := ⟨m.ok.grow g⟩
theorem MkD.mut (m : MkD K Z Γ F O H σ l d) (n : Node K F (upd H l o) l d') : MkD K Z Γ F O (upd H l o) σ l d' := by
  have hl : σ.length = Γ.length := m.inn.ln
  have h := m.ok.mut (i := Γ.length) (l := l) (d' := d') (o := o) last_get (by rw [← hl]; exact last_get) m.at.1 n
  rw [set_last] at h
  exact ⟨h⟩
end
/-- a new object changed: what grew, but for it -/
theorem Grow.but {K : PySem.W.Frag} {p : Option Addr} {F H F' H' : Hp} {l : Addr} {o : HO} (g : Grow K p F H F' H') (hl : H l = none) (hf : F' l = none) : Grow K p F H F' (upd H' l o) := by
  refine ⟨g.ff, g.nw, fun b o e n => ?_, fun b hb => ?_, fun b o e => ?_, fun q => ?_⟩
  · rw [upd_ne (fun z => by subst z; rw [hl] at e; cases e)]; exact g.hh b o e n
  · rw [upd_ne (fun z => hb (by rw [z]; exact hl))]; exact g.dm b hb
  · rw [upd_ne (fun z => by subst z; rw [hf] at e; cases e)]; exact g.fh b o e
  · intro b e
    obtain ⟨h1, sa, i1, j1, k1, ns, h2, h3⟩ := g.pl q b e
    have hb : b ≠ l := fun z => by
      obtain ⟨_, _, _, _, _, _, h2', _⟩ := q b e
      rw [z, hl] at h2'; cases h2'
    exact ⟨h1, sa, i1, j1, k1, ns, by rw [upd_ne hb]; exact h2, h3⟩
/-! a dict's data behind a store -/
theorem repK_any {K : PySem.W.Frag} {F : Hp} : ∀ {kvs : List (Key × V)} {ds : List (D × D)} (k : Key), RepK K F kvs ds → (kvs.any fun p => decide (p.1 = k)) = ds.any fun p => keq p.1 (keyD k)
  | _, _, _, .nil => rfl
  | _, _, k, .cons r t => by simp [keq_key, repK_any k t]
theorem repK_map {K : PySem.W.Frag} {F : Hp} {v : V} {d : D} (rv : Rep K F v d) : ∀ {kvs : List (Key × V)} {ds : List (D × D)} (k : Key), RepK K F kvs ds → RepK K F (kvs.map fun p => if p.1 = k then (p.1, v) else p) (ds.map fun p => if keq p.1 (keyD k) then (p.1, d) else p)
  | _, _, _, .nil => .nil
  | _, _, k, .cons (k := k0) r t => by
    simp only [List.map_cons, keq_key]
    by_cases e : k0 = k
    · simp only [e, if_true, decide_true]
      exact .cons rv (repK_map rv k t)
    · simp only [e, if_false, decide_false, Bool.false_eq_true]
      exact .cons r (repK_map rv k t)
theorem repK_snoc {K : PySem.W.Frag} {F : Hp} {v : V} {d : D} {k : Key} (rv : Rep K F v d) : ∀ {kvs : List (Key × V)} {ds : List (D × D)}, RepK K F kvs ds → RepK K F (kvs ++ [(k, v)]) (ds ++ [(keyD k, d)])
  | _, _, .nil => .cons rv .nil
  | _, _, .cons r t => .cons r (repK_snoc rv t)
theorem repK_put {K : PySem.W.Frag} {F : Hp} {v : V} {d : D} {kvs : List (Key × V)} {ds : List (D × D)} (k : Key) (rv : Rep K F v d) (r : RepK K F kvs ds) : RepK K F (putK kvs k v) (dPut ds (keyD k) d) := by
  unfold putK dPut
  rw [repK_any k r]
  split
  · exact repK_map rv k r
  · exact repK_snoc rv r
theorem dPut_len (ds : List (D × D)) (k v : D) : (dPut ds k v).length ≤ ds.length + 1 := by
  unfold dPut
  split <;> simp
section
variable {ι : Type} {μ : Type → Type} [PM μ] [PX μ] {f : Fam ι} {T : Ends → Prop} {Γ : List Slot} {e a b c tg iter elt tg1 iter1 kx vx : Expr} {m ma mb : μ D} {ml : μ (List D)} {pos : Pos} {rest : List Stmt} {R S S' A B C : Type} {post : Pst R} {d : D}
/-- {k: v for ..} -/
structure DCX (f : Fam ι) (Γ : List Slot) (kx vx : Expr) (tg iter : Expr) (ifs : List Expr) (scope : Scope) (own : List (Str × Nat)) (m : μ D) : Prop where
  ex : ∃ wi g tt tk tv, (∀ i, PI (f.X i) tg iter wi) ∧ (∀ i, PG ((f.blk scope).X i) tg g) ∧ (∀ i, PTs ((f.blk scope).X i) ifs tt) ∧ (∀ i, PE ((f.blk scope).X i) kx tk) ∧ (∀ i, PE ((f.blk scope).X i) vx tv) ∧ RDN f.K Γ (tDc wi g tt tk tv (own.map (·.2))) m
def cpd (g : D → μ (Option (D × D))) : List D → List (D × D) → μ (List (D × D))
  | [], acc => pur acc
  | d :: ds, acc => bnd (g d) fun o => match o with
    | some (k, v) => bnd (lif (dKey k)) fun _ => cpd g ds (dPut acc k v)
    | none => cpd g ds acc
def mkDc (g : D → μ (Option (D × D))) (ds : List D) : μ D := if ds.length < 16000000 then bnd (cpd g ds []) fun kvs => pur (.dict kvs) else lif none
theorem dc_mk {scope : Scope} {own : List (Str × Nat)} {ifs : List Expr} {sel : D → Option A} {up : A → List Slot → List Slot} {is : List Nat} {mt : A → μ Bool} {mk mv : A → μ D} (hi : ITX f Γ tg iter ml) (ht : TGX (f.blk scope) tg sel up is) (his : ∀ i ∈ is, i ∈ own.map (·.2))
    (hil : ∀ i ∈ is, i < Γ.length) (hc : ∀ x, EXI (f.blk scope) (up x (wipeG Γ (own.map (·.2)))) ifs (mt x)) (hk : ∀ x, EX (f.blk scope) (up x (wipeG Γ (own.map (·.2)))) kx (mk x)) (hv : ∀ x, EX (f.blk scope) (up x (wipeG Γ (own.map (·.2)))) vx (mv x)) :
    DCX f Γ kx vx tg iter ifs scope own (bnd ml fun ds => mkDc (fun d => bnd (lif (sel d)) fun x => bnd (mt x) fun k => if k then bnd (mk x) fun y => bnd (mv x) fun z => pur (some (y, z)) else pur none) ds) := by
  obtain ⟨wi, i1, i2⟩ := hi
  obtain ⟨g, g1, g2⟩ := ht
  let tt : TT := fun σ H Q => ∃ x, (hc x).choose σ H Q
  let tk : TE := fun σ H Q => ∃ x, (hk x).choose σ H Q
  let tv : TE := fun σ H Q => ∃ x, (hv x).choose σ H Q
  refine ⟨wi, g, tt, tk, tv, i1, g1, fun i => ⟨fun pins s σ H Q I q => ?_⟩, fun i => ⟨fun pins s σ H Q I q => ?_⟩, fun i => ⟨fun pins s σ H Q I q => ?_⟩, fun Z F O H σ Q ok q => ?_⟩
  · obtain ⟨x, q⟩ := q
    exact ((hc x).choose_spec.1 i).run pins s σ H Q I q
  · obtain ⟨x, q⟩ := q
    exact ((hk x).choose_spec.1 i).run pins s σ H Q I q
  · obtain ⟨x, q⟩ := q
    exact ((hv x).choose_spec.1 i).run pins s σ H Q I q
  refine i2 Z F O H σ _ ok (den_mono (fun ds h F1 H1 J gr wk L hL => ?_) (den_bnd q))
  have hlen : ds.length < 16000000 := by
    unfold mkDc at h
    split at h
    · assumption
    · obtain ⟨_, z, _⟩ := den_lif h; cases z
  unfold mkDc at h
  rw [if_pos hlen] at h
  obtain ⟨n, G, Y, w, en, hG, hY⟩ := wk
  have ok1 := ok.grow gr
  have bk1 := ok1.toBk
  have hL0 : H L = none := by
    cases eL : H L with
    | none => rfl
    | some o => exact absurd hL (gr.dm L (ne_none_of eL))
  let vs := own.map (·.2)
  let Z1 : Ent := rebase Z F1 H1
  let gg : D → μ (Option (D × D)) := fun d => bnd (lif (sel d)) fun x => bnd (mt x) fun k => if k then bnd (mk x) fun y => bnd (mv x) fun z => pur (some (y, z)) else pur none
  let Fin : List (D × D) → Prop := fun kvs => ∀ l F' H', Grow f.K Z.p F H F' H' → H l = none → F' l = none → Node f.K F' H' l (.dict kvs) → Q (.ref l) H'
  have h : den (cpd gg ds []) Fin := den_mono (fun kvs h => by have q := den_pur h; exact q) (den_bnd h)
  let Pv : Nat → Hp → Prop := fun i H => ∃ acc F2, (∃ O2 kvs, MkD f.K Z1 (wipeG Γ vs) F2 O2 H (wipe σ vs) L (.dict acc) ∧ H L = some (.dK kvs)) ∧ Grow f.K Z.p F1 H1 F2 H ∧ F2 L = none ∧ acc.length ≤ i ∧ den (cpd gg (ds.drop i) acc) Fin
  have key : ∃ W : Nat → Nat → Hp → Prop, (∃ m, W 0 m (upd H1 L (.dK []))) ∧ ∀ i m H, W i m H →
      (J.stop i H ∧ Q (.ref L) H) ∨ (J.go i H ∧ ∃ Nx : Hp → Prop, (∀ H', Nx H' → ∃ m', m' < m ∧ W (i + 1) m' H') ∧ ∀ x H', J.yld i H x H' → g x (wipe σ vs) H' fun σ2 H2 => wipe σ2 vs = wipe σ vs ∧ tt σ2 H2 fun b H3 =>
        if b = true then tk σ2 H3 fun y H4 => tv σ2 H4 fun z H5 => ∃ kvs k, y = kV k ∧ H5 L = some (.dK kvs) ∧ kvs.length < sizeLine ∧ Nx (upd H5 L (.dK (putK kvs k z))) else Nx H3) := by
    have h0 : Pv 0 (upd H1 L (.dK [])) := ⟨[], F1, ⟨_, [], MkD.new (ok1.reb.wipe vs) hL (.inl ⟨[], upd_same, .nil⟩), upd_same⟩, .raw ok1.fh hL, ok1.fh.dom hL, Nat.le_refl _, by simpa using h⟩
    have hs : ∀ i x H2 H3, i < n → Pv i H2 → Y i H2 x H3 → g x (wipe σ vs) H3 fun σ2 H2 => wipe σ2 vs = wipe σ vs ∧ tt σ2 H2 fun b H3 =>
        if b = true then tk σ2 H3 fun y H4 => tv σ2 H4 fun z H5 => ∃ kvs k, y = kV k ∧ H5 L = some (.dK kvs) ∧ kvs.length < sizeLine ∧ Pv (i + 1) (upd H5 L (.dK (putK kvs k z))) else Pv (i + 1) H3 := by
      rintro i x H2 H3 hin ⟨acc, F2, ⟨O2, kvs2, mm, ek2⟩, g2', hF2, hacc, hd⟩ y
      obtain ⟨F3, d, gr3, ed, r3⟩ := hY Z.p F2 i H2 x H3 mm.inn.zf mm.inn.fh mm.inn.zl hin y
      have hid : i < ds.length := (List.getElem?_eq_some_iff.mp ed).1
      have ed' : ds.drop i = d :: ds.drop (i + 1) := by
        obtain ⟨h1, h2⟩ := List.getElem?_eq_some_iff.mp ed
        rw [← h2]; exact List.drop_eq_getElem_cons h1
      rw [ed'] at hd
      obtain ⟨xa, ea, hd⟩ := den_lif (den_bnd (den_bnd hd))
      have hd := den_bnd hd
      have mm3 := mm.grow gr3
      have hp : Z.p ≠ some L := fun z => by
        obtain ⟨_, _, _, _, _, _, h2', _⟩ := ok1.pl L z
        rw [hL] at h2'; cases h2'
      have e3 := gr3.hh L _ ek2 hp
      have F3L : F3 L = none := (gr3.nw L (ne_none_of ek2)).trans hF2
      refine g2 Z1 _ F3 O2 H3 _ x d xa _ mm3.inn (fun i hi => by rw [wipeG_len]; exact hil i hi) r3 ea fun σ3 ok3 w3 => ⟨(w3 vs his).trans wipe_wipe, ?_⟩
      refine ⟨xa, (hc xa).choose_spec.2 Z1 F3 O2 H3 σ3 _ ok3 (den_mono (fun k h F4 H4 g4 => ?_) hd)⟩
      have mm4 := mm3.grow g4
      have gg4 := (g2'.trans gr3).trans g4
      have e4 := g4.hh L _ e3 hp
      have F4L : F4 L = none := (g4.nw L (ne_none_of e3)).trans F3L
      cases k with
      | false =>
        rw [if_neg (by decide)] at h ⊢
        have h' := den_pur h
        exact ⟨acc, F4, ⟨O2, kvs2, mm4, e4⟩, gg4, F4L, Nat.le_succ_of_le hacc, h'⟩
      | true =>
        rw [if_pos rfl] at h ⊢
        refine ⟨xa, (hk xa).choose_spec.2 Z1 F4 O2 H4 σ3 _ (ok3.grow g4) (den_mono (fun yk h vk F5 H5 g5 r5 => ?_) (den_bnd h))⟩
        refine ⟨xa, (hv xa).choose_spec.2 Z1 F5 O2 H5 σ3 _ ((ok3.grow g4).grow g5) (den_mono (fun yv h vv F6 H6 g6 r6 => ?_) (den_bnd h))⟩
        have mm6 := (mm4.grow g5).grow g6
        have e5 := g5.hh L _ e4 hp
        have e6 := g6.hh L _ e5 hp
        have F5L : F5 L = none := (g5.nw L (ne_none_of e4)).trans F4L
        have F6L : F6 L = none := (g6.nw L (ne_none_of e5)).trans F5L
        have h' := den_pur h
        obtain ⟨kk, ekk, h2⟩ := den_lif (den_bnd h')
        have e7 := keyD_key ekk
        subst e7
        have vk' := rep_key r5
        subst vk'
        rcases mm6.at.2 with ⟨kvs, exs, rs⟩ | ⟨kvs, exs, rs⟩
        · have g16 := (gg4.trans g5).trans g6
          refine ⟨kvs, kk, rfl, exs, big_lt (by rw [rs.length]; omega), dPut acc (keyD kk) yv, F6, ⟨O2, _, mm6.mut (.inl ⟨_, upd_same, repK_put kk r6 rs⟩), upd_same⟩, g16.but hL F6L, F6L, ?_, h2⟩
          have := dPut_len acc (keyD kk) yv
          omega
        · rw [e6] at exs; cases exs
    have hdn : ∀ H, Pv n H → Q (.ref L) H := by
      rintro H2 ⟨acc, F2, ⟨O2, kvs2, mm, _⟩, g2', hF2, hacc, hd⟩
      rw [en, List.drop_length] at hd
      have hd' := den_pur hd
      exact hd' L F2 H2 (gr.trans g2') hL0 hF2 mm.at.2
    refine ⟨fun i m H => m = n - i ∧ i ≤ n ∧ Pv i H, ⟨n, by simp, Nat.zero_le _, h0⟩, ?_⟩
    rintro i m H ⟨rfl, hi, p⟩
    have q : G H := by
      obtain ⟨acc, F2, ⟨O2, kvs2, mm, _⟩, _⟩ := p
      exact hG F2 H mm.inn.zf mm.inn.fh mm.inn.zl
    by_cases hlt : i < n
    · refine .inr ⟨w.goes i H hlt q, Pv (i + 1), fun H' p' => ⟨n - (i + 1), by omega, rfl, hlt, p'⟩, fun x H' y => hs i x H H' hlt p (w.yields i H x H' hlt q y)⟩
    · have e : i = n := by omega
      subst e
      exact .inl ⟨w.stops H q, hdn H p⟩
  exact key
theorem DCX.n {ifs : List Expr} {scope : Scope} {own : List (Str × Nat)} (h : DCX f Γ kx vx tg iter ifs scope own m) (ok : ∀ i, BlkOk (f.X i).N (f.X i).env.scope scope own) (hs : ∀ i x, foldedSetIterable iter (f.X i).env x = pure x := by intro _ _; rfl) :
    EXN f Γ (.DictComp kx vx [⟨tg, iter, ifs, 0⟩] scope pos) m := by
  obtain ⟨wi, g, tt, tk, tv, h1, h2, h3, h4, h4', h5⟩ := h.ex
  exact ⟨_, fun i => pe_dc (f.ec i) (by rw [f.eN i]; exact f.nd) (h1 i) (ok i) (fun s H C cl fp => h2 (i, s, H, C, cl, fp)) (fun s H C cl fp => h3 (i, s, H, C, cl, fp)) (fun s H C cl fp => h4 (i, s, H, C, cl, fp)) (fun s H C cl fp => h4' (i, s, H, C, cl, fp)) (hs i), h5⟩
end
/-- y = {..}, y a local name -/
theorem ps_setDc {X : Cx} {i : Nat} {y : Str} {py : Pos} {kx vx tg iter : Expr} {ifs : List Expr} {scope : Scope} {own : List (Str × Nat)} {pos spos : Pos} {wi : TI} {g : TG} {tt : TT} {tk tv : TE} (hc : X.calm = true) (hN : X.N.Nodup) (hy : X.N[i]? = some y) (hyl : X.env.scope.names.lookup y = some .local)
    (hsw : swapsWith (.DictComp kx vx [⟨tg, iter, ifs, 0⟩] scope pos) (some (.Name y py)) spos.line X.env = pure true) (hi : PI X tg iter wi) (ok : BlkOk X.N X.env.scope scope own)
    (hg : ∀ (s : Shared) (H : Hp) (C : Addr) (cl : List (Str × Addr)) (fp : List Addr), PG (X.blk s H scope (compEnvC scope cl C X.env) fp) tg g) (ht : ∀ (s : Shared) (H : Hp) (C : Addr) (cl : List (Str × Addr)) (fp : List Addr), PTs (X.blk s H scope (compEnvC scope cl C X.env) fp) ifs tt)
    (hk : ∀ (s : Shared) (H : Hp) (C : Addr) (cl : List (Str × Addr)) (fp : List Addr), PE (X.blk s H scope (compEnvC scope cl C X.env) fp) kx tk)
    (he : ∀ (s : Shared) (H : Hp) (C : Addr) (cl : List (Str × Addr)) (fp : List Addr), PE (X.blk s H scope (compEnvC scope cl C X.env) fp) vx tv) (hs : ∀ x, foldedSetIterable iter X.env x = pure x := by intro _; rfl) :
    PS X (.Assign [.Name y py] (.DictComp kx vx [⟨tg, iter, ifs, 0⟩] scope pos) spos) (tAsg (tDc wi g tt tk tv (own.map (·.2))) (gName i)) := by
  refine ⟨fun pins s σ H E I h => ?_⟩
  rw [PySem.exec_Assign_Name_used _ _ _ _ hsw]
  refine wpAny_bind (wpAny_standAt (wpAny_bind ?_))
  show wpAny _ X.A (do let _ ← comprehension (.DictComp kx vx [⟨tg, iter, ifs, 0⟩] scope pos) scope X.env (firstIterPos [⟨tg, iter, ifs, 0⟩] pos) newDict false (eval iter X.env) (some (assign (.Name y py) X.env))) _ _ s
  have h : tDc wi g tt tk tv (own.map (·.2)) σ H (fun x H1 => gName i x σ H1 E.nx) := h
  refine wpAny_bind (thn (dc_core (Qf := fun _ s' => SP X pins E .next s') hc hN I hi ok hg ht hk he hs h fun L C s' m H' I' q hn f => ?_) fun _ s' hq => wpAny_pure (wpAny_pure hq))
  show wpAny _ _ (assign (.Name y py) X.env (.ref L)) _ _ _
  refine wpAny_assign_Name (store_ok2 (v := V.ref L) I' hN hy (.inl hyl) rfl (fun s2 I2 ⟨a, sb, ha⟩ => ?_) (.inr hyl))
  obtain ⟨f0, f1, f2, f3, f4, f5⟩ := f
  have haC : C ≠ a := by
    rcases ha with z | z
    · rw [z]; exact f1
    · exact fun e => f4 y a z e.symm
  refine ⟨m, hn.sameBut sb haC, fun h3 sb3 => ?_⟩
  exact ⟨_, H', I2.turned (t' := s2.toks) (fun b o hb e => (sb3.2 b hb).trans e) f0 f1 f3 f4 f5, q⟩
section
variable {ι : Type} {μ : Type → Type} [PM μ] [PX μ] {f : Fam ι} {T : Ends → Prop} {Γ : List Slot} {e a b c tg iter elt tg1 iter1 kx vx : Expr} {m ma mb : μ D} {ml : μ (List D)} {pos : Pos} {rest : List Stmt} {R S S' A B C : Type} {post : Pst R} {d : D}
theorem sx_setDc {ifs : List Expr} {scope : Scope} {own : List (Str × Nat)} {i : Nat} {y : Str} {py spos : Pos} (h : DCX f Γ kx vx tg iter ifs scope own m) (ok : ∀ i, BlkOk (f.X i).N (f.X i).env.scope scope own) (hi : ∀ j, (f.X j).N[i]? = some y) (hl : i < Γ.length)
    (hyl : ∀ j, (f.X j).env.scope.names.lookup y = some .local) (hsw : ∀ j, swapsWith (.DictComp kx vx [⟨tg, iter, ifs, 0⟩] scope pos) (some (.Name y py)) spos.line (f.X j).env = pure true) (hs : ∀ i x, foldedSetIterable iter (f.X i).env x = pure x := by intro _ _; rfl) :
    SX f T Γ (.Assign [.Name y py] (.DictComp kx vx [⟨tg, iter, ifs, 0⟩] scope pos) spos) m (pFall f.K fun d => Γ.set i (.own d)) := by
  obtain ⟨wi, g, tt, tk, tv, h1, h2, h3, h4, h4', h5⟩ := h.ex
  refine ⟨_, fun j => ps_setDc (f.ec j) (by rw [f.eN j]; exact f.nd) (hi j) (hyl j) (hsw j) (h1 j) (ok j) (fun s H C cl fp => h2 (j, s, H, C, cl, fp)) (fun s H C cl fp => h3 (j, s, H, C, cl, fp)) (fun s H C cl fp => h4 (j, s, H, C, cl, fp)) (fun s H C cl fp => h4' (j, s, H, C, cl, fp)) (hs j), fun Z F O H σ E hT ok q => ?_⟩
  refine h5 Z F O H σ _ ok (den_mono (fun d h l F' H' g h0 h1 n => ?_) q)
  have ok' := ok.setn g hl h0 h1 n
  exact h F' _ H' _ ok'.toBk ok'
/-- t1, t2 = e -/
theorem sx_asg {sel : D → Option A} {up : A → List Slot → List Slot} {is : List Nat} (he : EX f Γ e m) (ht : TGX f tg sel up is) (hil : ∀ i ∈ is, i < Γ.length) (hs : ∀ i, swapsWithSole [tg] e pos.line (f.X i).env = pure false := by intro _; rfl) (hw : ∀ i, swappedStores [tg] e (f.X i).env = pure none := by intro _; rfl)
    (h1 : ∀ i, (assignEach [tg] (f.X i).env).map (·.2) = [assign tg (f.X i).env] := by intro _; rfl) : SX f T Γ (.Assign [tg] e pos) (bnd m fun d => lif (sel d)) (pFall f.K fun x => up x Γ) := by
  obtain ⟨t, e1, e2⟩ := he
  obtain ⟨g, g1, g2⟩ := ht
  refine ⟨_, fun j => ps_asg (e1 j) (g1 j) (hs j) (hw j) (h1 j), fun Z F O H σ E hT ok q => ?_⟩
  refine e2 Z F O H σ _ ok (den_mono (fun d h v F' H' g r => ?_) (den_bnd q))
  obtain ⟨x, ex, h⟩ := den_lif h
  refine g2 Z Γ F' O H' σ v d x _ (ok.grow g) hil r ex fun σ' ok' _ => ?_
  exact h F' O H' σ' ok'.toBk ok'
/-- x, y = a, b, both sides written, x and y local -/
theorem sx_par {i j : Nat} {x y : Str} {px py pt : Pos} {kt k2 : Nat} {pt2 : Pos} (hi : ∀ l, (f.X l).N[i]? = some x) (hj : ∀ l, (f.X l).N[j]? = some y) (hij : i ≠ j) (hil : i < Γ.length) (hjl : j < Γ.length)
    (hx : ∀ l, (f.X l).env.scope.names.lookup x = some .local) (hy : ∀ l, (f.X l).env.scope.names.lookup y = some .local) (ha : EX f Γ a ma) (hb : EX f Γ b mb)
    (hw : ∀ l, swappedStores [.Tuple [.Name x px, .Name y py] kt pt] (.Tuple [a, b] k2 pt2) (f.X l).env = pure (some [x, y]))
    (hs : ∀ l, swapsWithSole [.Tuple [.Name x px, .Name y py] kt pt] (.Tuple [a, b] k2 pt2) pos.line (f.X l).env = pure false := by intro _; rfl)
    (h1 : ∀ i, starEach [a, b] (f.X i).env = (false, eval a (f.X i).env) :: starEach [b] (f.X i).env := by intro _; rfl) (h2 : ∀ i, starEach [b] (f.X i).env = (false, eval b (f.X i).env) :: starEach [] (f.X i).env := by intro _; rfl) :
    SX f T Γ (.Assign [.Tuple [.Name x px, .Name y py] kt pt] (.Tuple [a, b] k2 pt2) pos) (bnd ma fun u => bnd mb fun v => pur (u, v)) (pFall f.K fun p => (Γ.set i (.val p.1)).set j (.val p.2)) := by
  obtain ⟨t, a1, a2⟩ := ha
  obtain ⟨u, b1, b2⟩ := hb
  refine ⟨_, fun l => ps_par (f.ec l) (by rw [f.eN l]; exact f.nd) (hi l) (hj l) hij (hx l) (hy l) (pa_cons (a1 l) (pa_cons (b1 l) pa_nil (h2 l)) (h1 l)) (hw l) (hs l), fun Z F O H σ E hT ok q => ?_⟩
  refine a2 Z F O H σ _ ok (den_mono (fun d h v F' H' g r => ?_) (den_bnd q))
  refine b2 Z F' O H' σ _ (ok.grow g) (den_mono (fun d2 h v2 F2 H2 g2 r2 => ?_) (den_bnd h))
  refine ⟨v, v2, rfl, ?_⟩
  have h' := den_pur h
  have ok2 := (ok.grow g).grow g2
  have ok3 := (ok2.setv hil (r.up g2.up)).setv (i := j) (by simpa using hjl) r2
  exact h' F2 O H2 _ ok3.toBk ok3
end
end Y

set_option maxRecDepth 100000
set_option maxHeartbeats 1000000
namespace Y
open PySem L2 PM PX
section
variable {K : PySem.W.Frag} {Z : Ent} {Γ Γ' : List Slot} {F H F' H' : Hp} {O : Addr → Option Nat} {σ σ' : St} {l : Addr} {ds : List D}
/-- the same list beside other slots -/
theorem Mk1.swap (m : Mk1 K Z Γ F O H σ l ds) (ok : Ok K Z Γ' F O H σ') (h : Γ'.length = Γ.length) : Mk1 K Z Γ' F O H σ' l ds := by
  obtain ⟨e1, xs, e2, r⟩ := m.at
  refine ⟨{ toBk := ok.toBk, ln := by simp [ok.ln], sl := fun j s e => ?_ }⟩
  by_cases hj : j < Γ'.length
  · rw [List.getElem?_append_left hj] at e
    rw [List.getElem?_append_left (by rw [ok.ln]; exact hj)]
    exact ok.sl j s e
  · rw [List.getElem?_append_right (Nat.le_of_not_lt hj)] at e
    cases hk : j - Γ'.length with
    | zero =>
      rw [hk] at e
      cases e
      have ej : j = Γ'.length := by omega
      refine ⟨l, ?_, by rw [e1, ej, h], xs, e2, r⟩
      rw [ej, ← ok.ln]
      exact last_get
    | succ n => rw [hk] at e; simp at e
end
section
variable {ι : Type} {μ : Type → Type} [PM μ] [PX μ] {f : Fam ι} {T : Ends → Prop} {Γ : List Slot} {e a b c tg iter elt tg1 iter1 : Expr} {m ma mb : μ D} {ml : μ (List D)} {pos : Pos} {rest : List Stmt} {R S S' A B C : Type} {post : Pst R} {d : D}
structure LCX2 (f : Fam ι) (Γ : List Slot) (elt : Expr) (tg iter : Expr) (ifs : List Expr) (tg1 iter1 : Expr) (ifs1 : List Expr) (scope : Scope) (own : List (Str × Nat)) (vs1 : List Nat) (m : μ D) : Prop where
  ex : ∃ wi g tt wi1 g1 tt1 te, (∀ i, PI (f.X i) tg iter wi) ∧ (∀ i, PG ((f.blk scope).X i) tg g) ∧ (∀ i, PTs ((f.blk scope).X i) ifs tt) ∧ (∀ i, PI ((f.blk scope).X i) tg1 iter1 wi1) ∧ (∀ i, PG ((f.blk scope).X i) tg1 g1) ∧ (∀ i, PTs ((f.blk scope).X i) ifs1 tt1) ∧ (∀ i, PE ((f.blk scope).X i) elt te) ∧
    RDN f.K Γ (tLc2 wi g tt wi1 g1 tt1 te (own.map (·.2)) vs1) m
def cpa (g : D → μ (List D)) : List D → μ (List D)
  | [] => pur []
  | d :: ds => bnd (g d) fun ys => bnd (cpa g ds) fun zs => pur (ys ++ zs)
theorem lc2_mk {scope : Scope} {own : List (Str × Nat)} {vs1 : List Nat} {ifs ifs1 : List Expr} {sel : D → Option A} {up : A → List Slot → List Slot} {is : List Nat} {sel1 : D → Option B} {up1 : B → List Slot → List Slot} {is1 : List Nat} {mt : A → μ Bool} {ml1 : A → μ (List D)} {mt1 : A → B → μ Bool} {me : A → B → μ D}
    (hi : ITX f Γ tg iter ml) (ht : TGX (f.blk scope) tg sel up is) (his : ∀ i ∈ is, i ∈ own.map (·.2)) (hil : ∀ i ∈ is, i < Γ.length) (hul : ∀ x Γ, (up x Γ).length = Γ.length)
    (hc : ∀ x, EXI (f.blk scope) (up x (wipeG Γ (own.map (·.2)))) ifs (mt x)) (hi1 : ∀ x, ITX (f.blk scope) (up x (wipeG Γ (own.map (·.2)))) tg1 iter1 (ml1 x))
    (ht1 : TGX (f.blk scope) tg1 sel1 up1 is1) (his1 : ∀ i ∈ is1, i ∈ vs1) (hil1 : ∀ i ∈ is1, i < Γ.length)
    (hc1 : ∀ x y, EXI (f.blk scope) (up1 y (wipeG (up x (wipeG Γ (own.map (·.2)))) vs1)) ifs1 (mt1 x y)) (he : ∀ x y, EX (f.blk scope) (up1 y (wipeG (up x (wipeG Γ (own.map (·.2)))) vs1)) elt (me x y)) :
    LCX2 f Γ elt tg iter ifs tg1 iter1 ifs1 scope own vs1 (bnd ml fun ds => bnd (cpa (fun d => bnd (lif (sel d)) fun x => bnd (mt x) fun k => if k then bnd (ml1 x) fun ds1 => cp (A := B) (fun d1 => bnd (lif (sel1 d1)) fun y => bnd (mt1 x y) fun k => if k then bnd (me x y) fun z => pur (some z) else pur none) ds1 else pur []) ds) mkL) := by
  obtain ⟨wi, i1, i2⟩ := hi
  obtain ⟨g, g1, g2⟩ := ht
  obtain ⟨k, k1, k2⟩ := ht1
  let tt : TT := fun σ H Q => ∃ x, (hc x).choose σ H Q
  let wi1 : TI := fun σ H R => ∃ x, (hi1 x).choose σ H R
  let tt1 : TT := fun σ H Q => ∃ x y, (hc1 x y).choose σ H Q
  let te : TE := fun σ H Q => ∃ x y, (he x y).choose σ H Q
  refine ⟨wi, g, tt, wi1, k, tt1, te, i1, g1, fun i => ⟨fun pins s σ H Q I q => ?_⟩, fun i => ⟨fun pins s σ H Q I q => ?_⟩, k1, fun i => ⟨fun pins s σ H Q I q => ?_⟩, fun i => ⟨fun pins s σ H Q I q => ?_⟩, fun Z F O H σ Q ok q => ?_⟩
  · obtain ⟨x, q⟩ := q
    exact ((hc x).choose_spec.1 i).run pins s σ H Q I q
  · obtain ⟨x, q⟩ := q
    exact ((hi1 x).choose_spec.1 i).run pins s σ H Q I q
  · obtain ⟨x, y, q⟩ := q
    exact ((hc1 x y).choose_spec.1 i).run pins s σ H Q I q
  · obtain ⟨x, y, q⟩ := q
    exact ((he x y).choose_spec.1 i).run pins s σ H Q I q
  refine i2 Z F O H σ _ ok (den_mono (fun ds h F1 H1 J gr wk L hL => ?_) (den_bnd q))
  obtain ⟨n, G, Y, w, en, hG, hY⟩ := wk
  have ok1 := ok.grow gr
  have bk1 := ok1.toBk
  have hL0 : H L = none := by
    cases eL : H L with
    | none => rfl
    | some o => exact absurd hL (gr.dm L (ne_none_of eL))
  have h := den_bnd h
  let vs := own.map (·.2)
  let Z1 : Ent := rebase Z F1 H1
  let in1 : A → D → μ (Option D) := fun x d1 => bnd (lif (sel1 d1)) fun y => bnd (mt1 x y) fun k => if k then bnd (me x y) fun z => pur (some z) else pur none
  let out1 : D → μ (List D) := fun d => bnd (lif (sel d)) fun x => bnd (mt x) fun k => if k then bnd (ml1 x) fun ds1 => cp (A := B) (in1 x) ds1 else pur []
  let Fin : List D → Prop := fun ys => den (mkL ys : μ D) (fun d => ∀ l F' H', Grow f.K Z.p F H F' H' → H l = none → F' l = none → Node f.K F' H' l d → Q (.ref l) H')
  have hp : Z.p ≠ some L := fun z => by
    obtain ⟨_, _, _, _, _, _, h2', _⟩ := ok1.pl L z
    rw [hL] at h2'; cases h2'
  let Pv : Nat → Hp → Prop := fun i H => ∃ acc F2, (∃ O2, Mk1 f.K Z1 (wipeG Γ vs) F2 O2 H (wipe σ vs) L acc) ∧ Grow f.K Z.p F1 H1 F2 H ∧ F2 L = none ∧ den (cpa out1 (ds.drop i)) (fun ys => Fin (acc ++ ys))
  have h0 : Pv 0 (upd H1 L (.lst [])) := ⟨[], F1, ⟨_, Mk1.new (ok1.reb.wipe vs) hL⟩, .raw ok1.fh hL, ok1.fh.dom hL, by simpa using h⟩
  have hdn : ∀ H, Pv n H → Q (.ref L) H := by
    rintro H2 ⟨acc, F2, ⟨O2, mm⟩, gg, hF2, hd⟩
    rw [en, List.drop_length] at hd
    have hd' := den_pur hd
    rw [List.append_nil] at hd'
    obtain ⟨_, hq⟩ := mkL_len hd'
    obtain ⟨_, xs, exs, rs⟩ := mm.at
    exact hq L F2 H2 (gr.trans gg) hL0 hF2 ⟨xs, exs, rs⟩
  have hs : ∀ i x H2 H3, i < n → Pv i H2 → Y i H2 x H3 → g x (wipe σ vs) H3 fun σ2 H2 => wipe σ2 vs = wipe σ vs ∧ tt σ2 H2 fun b H3 =>
      if b = true then wi1 σ2 H3 fun J1 H4 => ∃ W1 : Nat → Nat → Hp → Prop, (∃ m, W1 0 m H4) ∧ ∀ j k' H, W1 j k' H →
        (J1.stop j H ∧ Pv (i + 1) H) ∨ (J1.go j H ∧ ∃ Nx1 : Hp → Prop, (∀ H', Nx1 H' → ∃ k'', k'' < k' ∧ W1 (j + 1) k'' H') ∧ ∀ x H', J1.yld j H x H' → k x (wipe σ2 vs1) H' fun σ3 H5 => wipe σ3 vs1 = wipe σ2 vs1 ∧ tt1 σ3 H5 fun b H6 =>
          if b = true then te σ3 H6 fun y H7 => ∃ acc, H7 L = some (.lst acc) ∧ acc.length < sizeLine ∧ Nx1 (upd H7 L (.lst (acc ++ [y]))) else Nx1 H6)
      else Pv (i + 1) H3 := by
    rintro i x H2 H3 hin ⟨acc, F2, ⟨O2, mm⟩, gg, hF2, hd⟩ y
    obtain ⟨F3, d, gr3, ed, r3⟩ := hY Z.p F2 i H2 x H3 mm.inn.zf mm.inn.fh mm.inn.zl hin y
    have ed' : ds.drop i = d :: ds.drop (i + 1) := by
      obtain ⟨h1, h2⟩ := List.getElem?_eq_some_iff.mp ed
      rw [← h2]; exact List.drop_eq_getElem_cons h1
    rw [ed'] at hd
    obtain ⟨xa, ea, hd⟩ := den_lif (den_bnd (den_bnd hd))
    have hd := den_bnd hd
    have mm3 := mm.grow gr3
    obtain ⟨_, xs2, eL2, _⟩ := mm.at
    have F3L : F3 L = none := (gr3.nw L (ne_none_of eL2)).trans hF2
    refine g2 Z1 _ F3 O2 H3 _ x d xa _ mm3.inn (fun i hi => by rw [wipeG_len]; exact hil i hi) r3 ea fun σ2 ok2 w2 => ⟨(w2 vs his).trans wipe_wipe, ?_⟩
    refine ⟨xa, (hc xa).choose_spec.2 Z1 F3 O2 H3 σ2 _ ok2 (den_mono (fun kb h F4 H4 g4 => ?_) hd)⟩
    have mm4 := mm3.grow g4
    have ok4 := ok2.grow g4
    have gg4 := (gg.trans gr3).trans g4
    obtain ⟨_, xs3, eL3, _⟩ := mm3.at
    have F4L : F4 L = none := (g4.nw L (ne_none_of eL3)).trans F3L
    cases kb with
    | false =>
      rw [if_neg (by decide)] at h ⊢
      have h0 := den_pur h
      have h' := den_bnd h0
      exact ⟨acc, F4, ⟨O2, mm4⟩, gg4, F4L, den_mono (fun ys h => by have q := den_pur h; exact q) h'⟩
    | true =>
      rw [if_pos rfl] at h ⊢
      refine ⟨xa, (hi1 xa).choose_spec.2 Z1 F4 O2 H4 σ2 _ ok4 (den_mono (fun ds1 h F5 H5 J1 g5 wk1 => ?_) (den_bnd h))⟩
      obtain ⟨n1, G1, Y1, w1, en1, hG1, hY1⟩ := wk1
      have mm5 := mm4.grow g5
      have ok5 := ok4.grow g5
      have gg5 := gg4.trans g5
      obtain ⟨_, xs4, eL4, _⟩ := mm4.at
      have F5L : F5 L = none := (g5.nw L (ne_none_of eL4)).trans F4L
      let Γ2 := up xa (wipeG Γ vs)
      have len2 : (wipeG Γ2 vs1).length = (wipeG Γ vs).length := by rw [wipeG_len]; exact hul _ _
      let Pw : Nat → Hp → Prop := fun j H => ∃ acc F6, (∃ O6, Mk1 f.K Z1 (wipeG Γ vs) F6 O6 H (wipe σ vs) L acc ∧ Ok f.K Z1 (wipeG Γ2 vs1) F6 O6 H (wipe σ2 vs1)) ∧ (∀ a o, F5 a = some o → F6 a = some o) ∧ Grow f.K Z.p F1 H1 F6 H ∧ F6 L = none ∧
        den (cp (A := B) (in1 xa) (ds1.drop j)) (fun ys => den (bnd (cpa out1 (ds.drop (i + 1))) fun zs => pur (ys ++ zs)) (fun ys => Fin (acc ++ ys)))
      have p0 : Pw 0 H5 := ⟨acc, F5, ⟨O2, mm5, ok5.wipe vs1⟩, fun _ _ h => h, gg5, F5L, by simpa using h⟩
      have psn : ∀ j x H6 H7, j < n1 → Pw j H6 → Y1 j H6 x H7 → k x (wipe σ2 vs1) H7 fun σ3 H5 => wipe σ3 vs1 = wipe σ2 vs1 ∧ tt1 σ3 H5 fun b H6 =>
          if b = true then te σ3 H6 fun y H7 => ∃ acc, H7 L = some (.lst acc) ∧ acc.length < sizeLine ∧ Pw (j + 1) (upd H7 L (.lst (acc ++ [y]))) else Pw (j + 1) H6 := by
        rintro j x1 H6 H7 hjn ⟨acc', F6, ⟨O6, m6, ok6⟩, u6, gg6, F6L, hd⟩ y1
        obtain ⟨F7, d1, gr7, ed1, r7⟩ := hY1 Z.p F6 j H6 x1 H7 u6 m6.inn.fh m6.inn.zl hjn y1
        have ed1' : ds1.drop j = d1 :: ds1.drop (j + 1) := by
          obtain ⟨h1, h2⟩ := List.getElem?_eq_some_iff.mp ed1
          rw [← h2]; exact List.drop_eq_getElem_cons h1
        rw [ed1'] at hd
        obtain ⟨ya, eya, hd⟩ := den_lif (den_bnd (den_bnd hd))
        have hd := den_bnd hd
        have m7 := m6.grow gr7
        have ok7 := ok6.grow gr7
        obtain ⟨_, xs6, eL6, _⟩ := m6.at
        have F7L : F7 L = none := (gr7.nw L (ne_none_of eL6)).trans F6L
        refine k2 Z1 _ F7 O6 H7 _ x1 d1 ya _ ok7 (fun i hi => by rw [len2, wipeG_len]; exact hil1 i hi) r7 eya fun σ3 ok3 w3 => ⟨(w3 vs1 his1).trans wipe_wipe, ?_⟩
        refine ⟨xa, ya, (hc1 xa ya).choose_spec.2 Z1 F7 O6 H7 σ3 _ ok3 (den_mono (fun kb h F8 H8 g8 => ?_) hd)⟩
        have m8 := m7.grow g8
        have ok8 := ok7.grow g8
        have gg8 := (gg6.trans gr7).trans g8
        obtain ⟨_, xs7, eL7, _⟩ := m7.at
        have F8L : F8 L = none := (g8.nw L (ne_none_of eL7)).trans F7L
        have u8 : ∀ a o, F5 a = some o → F8 a = some o := fun a o e => g8.ff a o (gr7.ff a o (u6 a o e))
        cases kb with
        | false =>
          rw [if_neg (by decide)] at h ⊢
          have h0 := den_pur h
          have h' := den_bnd h0
          exact ⟨acc', F8, ⟨O6, m8, ok8⟩, u8, gg8, F8L, den_mono (fun ys h => by have q := den_pur h; exact q) h'⟩
        | true =>
          rw [if_pos rfl] at h ⊢
          refine ⟨xa, ya, (he xa ya).choose_spec.2 Z1 F8 O6 H8 σ3 _ (ok3.grow g8) (den_mono (fun yd h v F9 H9 g9 r9 => ?_) (den_bnd h))⟩
          have m9 := m8.grow g9
          have ok9 := ok8.grow g9
          obtain ⟨_, xs8, eL8, _⟩ := m8.at
          have F9L : F9 L = none := (g9.nw L (ne_none_of eL8)).trans F8L
          have h00 := den_pur h
          have h0 := den_bnd h00
          have h : den (cp (A := B) (in1 xa) (ds1.drop (j + 1))) (fun ys => den (bnd (cpa out1 (ds.drop (i + 1))) fun zs => pur (ys ++ zs)) (fun ys => Fin ((acc' ++ [yd]) ++ ys))) := by
            refine den_mono (fun ys h => ?_) h0
            have q0 := den_pur h
            have q := den_bnd q0
            refine den_bnd' (den_mono (fun zs h => ?_) q)
            have q := den_pur h
            refine den_pur' ?_
            simpa using q
          obtain ⟨ys, hys⟩ := den_ex h
          obtain ⟨zs, hzs⟩ := den_ex (den_bnd hys)
          have hzs := den_pur hzs
          have hl := (mkL_len hzs).1
          simp at hl
          obtain ⟨_, xs, exs, rs⟩ := m9.at
          refine ⟨xs, exs, big_lt (by rw [rs.length]; omega), acc' ++ [yd], F9, ⟨O6, m9.push exs r9, ?_⟩, fun a o e => g9.ff a o (u8 a o e), (gg8.trans g9).but hL F9L, F9L, h⟩
          exact ((m9.swap ok9 len2).push exs r9).inn
      refine ⟨fun j m H => m = n1 - j ∧ j ≤ n1 ∧ Pw j H, ⟨n1, by simp, Nat.zero_le _, p0⟩, ?_⟩
      rintro j m H ⟨rfl, hj, p⟩
      have q : G1 H := by
        obtain ⟨acc, F6, ⟨O6, m6, _⟩, u6, _⟩ := p
        exact hG1 F6 H u6 m6.inn.fh m6.inn.zl
      by_cases hlt : j < n1
      · refine .inr ⟨w1.goes j H hlt q, Pw (j + 1), fun H' p' => ⟨n1 - (j + 1), by omega, rfl, hlt, p'⟩, fun x H' y => psn j x H H' hlt p (w1.yields j H x H' hlt q y)⟩
      · have e : j = n1 := by omega
        subst e
        refine .inl ⟨w1.stops H q, ?_⟩
        obtain ⟨acc', F6, ⟨O6, m6, ok6⟩, u6, gg6, F6L, hd⟩ := p
        rw [en1, List.drop_length] at hd
        have hd0 := den_pur hd
        have h' := den_bnd hd0
        exact ⟨acc', F6, ⟨O6, m6⟩, gg6, F6L, den_mono (fun ys h => by have q := den_pur h; exact q) h'⟩
  refine ⟨fun i m H => m = n - i ∧ i ≤ n ∧ Pv i H, ⟨n, by simp, Nat.zero_le _, h0⟩, ?_⟩
  rintro i m H ⟨rfl, hi, p⟩
  have q : G H := by
    obtain ⟨acc, F2, ⟨O2, mm⟩, _⟩ := p
    exact hG F2 H mm.inn.zf mm.inn.fh mm.inn.zl
  by_cases hlt : i < n
  · refine .inr ⟨w.goes i H hlt q, Pv (i + 1), fun H' p' => ⟨n - (i + 1), by omega, rfl, hlt, p'⟩, fun x H' y => hs i x H H' hlt p (w.yields i H x H' hlt q y)⟩
  · have e : i = n := by omega
    subst e
    exact .inl ⟨w.stops H q, hdn H p⟩
theorem LCX2.n {ifs ifs1 : List Expr} {scope : Scope} {own : List (Str × Nat)} {vs1 : List Nat} (h : LCX2 f Γ elt tg iter ifs tg1 iter1 ifs1 scope own vs1 m) (ok : ∀ i, BlkOk (f.X i).N (f.X i).env.scope scope own) (hv : ∀ i ∈ vs1, i ∈ own.map (·.2)) (hs : ∀ i x, foldedSetIterable iter (f.X i).env x = pure x := by intro _ _; rfl) (hs1 : ∀ env x, foldedSetIterable iter1 env x = pure x := by intro _ _; rfl) :
    EXN f Γ (.ListComp elt [⟨tg, iter, ifs, 0⟩, ⟨tg1, iter1, ifs1, 0⟩] scope pos) m := by
  obtain ⟨wi, g, tt, wi1, g1, tt1, te, h1, h2, h3, h4, h5, h6, h7, h8⟩ := h.ex
  exact ⟨_, fun i => pe_lc2 (f.ec i) (by rw [f.eN i]; exact f.nd) (h1 i) (ok i) hv (fun s H C cl fp => h2 (i, s, H, C, cl, fp)) (fun s H C cl fp => h3 (i, s, H, C, cl, fp)) (fun s H C cl fp => h4 (i, s, H, C, cl, fp)) (fun s H C cl fp => h5 (i, s, H, C, cl, fp)) (fun s H C cl fp => h6 (i, s, H, C, cl, fp)) (fun s H C cl fp => h7 (i, s, H, C, cl, fp)) (hs i) hs1, h8⟩
theorem sx_setLc2 {ifs ifs1 : List Expr} {scope : Scope} {own : List (Str × Nat)} {vs1 : List Nat} {i : Nat} {y : Str} {py spos : Pos} (h : LCX2 f Γ elt tg iter ifs tg1 iter1 ifs1 scope own vs1 m) (ok : ∀ i, BlkOk (f.X i).N (f.X i).env.scope scope own) (hv : ∀ i ∈ vs1, i ∈ own.map (·.2)) (hi : ∀ j, (f.X j).N[i]? = some y) (hl : i < Γ.length)
    (hyl : ∀ j, (f.X j).env.scope.names.lookup y = some .local) (hsw : ∀ j, swapsWith (.ListComp elt [⟨tg, iter, ifs, 0⟩, ⟨tg1, iter1, ifs1, 0⟩] scope pos) (some (.Name y py)) spos.line (f.X j).env = pure true) (hs : ∀ i x, foldedSetIterable iter (f.X i).env x = pure x := by intro _ _; rfl) (hs1 : ∀ env x, foldedSetIterable iter1 env x = pure x := by intro _ _; rfl) :
    SX f T Γ (.Assign [.Name y py] (.ListComp elt [⟨tg, iter, ifs, 0⟩, ⟨tg1, iter1, ifs1, 0⟩] scope pos) spos) m (pFall f.K fun d => Γ.set i (.own d)) := by
  obtain ⟨wi, g, tt, wi1, g1, tt1, te, h1, h2, h3, h4, h5, h6, h7, h8⟩ := h.ex
  refine ⟨_, fun j => ps_setLc2 (f.ec j) (by rw [f.eN j]; exact f.nd) (hi j) (hyl j) (hsw j) (h1 j) (ok j) hv (fun s H C cl fp => h2 (j, s, H, C, cl, fp)) (fun s H C cl fp => h3 (j, s, H, C, cl, fp)) (fun s H C cl fp => h4 (j, s, H, C, cl, fp)) (fun s H C cl fp => h5 (j, s, H, C, cl, fp)) (fun s H C cl fp => h6 (j, s, H, C, cl, fp)) (fun s H C cl fp => h7 (j, s, H, C, cl, fp)) (hs j) hs1, fun Z F O H σ E hT ok q => ?_⟩
  refine h8 Z F O H σ _ ok (den_mono (fun d h l F' H' g h0 h1 n => ?_) q)
  have ok' := ok.setn g hl h0 h1 n
  exact h F' _ H' _ ok'.toBk ok'
end
end Y

set_option maxRecDepth 100000
set_option maxHeartbeats 1000000
namespace Y
open PySem L2 PM PX
/-! isinstance(x, T) -/
inductive Ty6 where
  | int | bool | str | dict | tuple | list
def Ty6.nm : Ty6 → String
  | .int => "int" | .bool => "bool" | .str => "str" | .dict => "dict" | .tuple => "tuple" | .list => "list"
def isiD : Ty6 → D → Bool
  | .int, .int _ => true
  | .int, .bool _ => true
  | .bool, .bool _ => true
  | .str, .str _ => true
  | .dict, .dict _ => true
  | .tuple, .tuple _ => true
  | .list, .list _ => true
  | _, _ => false
def clsD : D → String
  | .none => "NoneType" | .bool _ => "bool" | .int _ => "int" | .str _ => "str" | .list _ => "list" | .tuple _ => "tuple" | .dict _ => "dict"
theorem kit_isi (t : Ty6) (d : D) : kitB (clsD d) t.nm = some (isiD t d) := by
  cases t <;> cases d <;> (simp only [clsD, Ty6.nm, isiD]; decide +kernel)
def rIsiAll (K : PySem.W.Frag) : List V → Hp → VK → Prop := fun xs H Q => rIsi K xs H Q ∨ ∃ a ob kvs n b, xs = [.ref a, .ty n] ∧ H a = some (.frz ob (.dT kvs)) ∧ kitB "dict" n = some b ∧ Q (.bl b) H
theorem call_isiAll {X : Cx} : CallR X (.builtin "isinstance") (rIsiAll X.K) := by
  intro pins s σ H xs us Q I r h
  rcases h with h | ⟨a, ob, kvs, n, b, rfl, ha, e, q⟩
  · exact call_isi pins s σ H xs us Q I r h
  · obtain ⟨u1, u2, rfl, r1, r2⟩ := vals2 r
    cases (show u1 = Value.ref a from r1)
    cases (show u2 = Value.type n from r2)
    obtain ⟨h1, _, _, xs, _, o, es, ep, h2, h3, _⟩ := (show ObjOk X.prog X.w H s.heap a (.frz ob (.dT kvs)) from I.hok a _ ha)
    have h3' := h3
    exact PySem.W.kia_one (PySem.W.kitx_dict (K := X.K)) I.kIn ⟨o, h2, h3.1⟩ (kit_ty e) (fun z => nomatch z) fun tk => ⟨.bl b, H, I.tok tk, rfl, q⟩
theorem ty_of {K : PySem.W.Frag} {p : Option Addr} {F H : Hp} {v : V} {d : D} (fh : FH F H) (t : Top K p F H v d) : TyX K H v (.type (clsD d)) ∨ ∃ a ob kvs, v = .ref a ∧ H a = some (.frz ob (.dT kvs)) ∧ clsD d = "dict" := by
  cases d with
  | none => cases t.none; exact .inl (.base .non)
  | bool b => cases t.bool; exact .inl (.base (.bl b))
  | int b => cases t.int; exact .inl (.base (.int b))
  | str b => cases t.str; exact .inl (.base (.str b))
  | list ds => obtain ⟨l, xs, rfl, h, r⟩ := t.list fh; exact .inl (.base (.lst h))
  | tuple ds => obtain ⟨l, xs, rfl, h, r⟩ := t.tuple fh; exact .inl (.base (.tup h))
  | dict ds =>
    obtain ⟨a, rfl, ⟨kvs, h1 | ⟨ob, h1⟩, r⟩ | ⟨kvs, h1 | ⟨ob, h1⟩, r⟩⟩ := t.dict fh
    · exact .inl (.base (.dK h1))
    · exact .inl (.fDict h1)
    · exact .inl (.base (.dT h1))
    · exact .inr ⟨a, ob, kvs, rfl, h1, rfl⟩
section
variable {ι : Type} {μ : Type → Type} [PM μ] [PX μ] {f : Fam ι} {T : Ends → Prop} {Γ : List Slot} {e a b c : Expr} {m ma mb : μ D} {pos : Pos} {R : Type} {post : Pst R} {d : D}
theorem ex_isi (ty : Ty6) {p p2 : Pos} {tn : Str} (htn : bootBuiltins tn = some (.type ty.nm)) (hm : f.mg "isinstance" = none) (hmt : f.mg tn = none) (he : EXT f Γ e m) (hg : ∀ i, Gl (f.X i) "isinstance" := by intro _; rfl) (hgt : ∀ i, Gl (f.X i) tn := by intro _; rfl)
    (hn : tn ≠ "__name__" := by decide) (hdb : (tn == ("__debug__" : Str)) = false := by decide)
    (h1 : ∀ i, starEach [e, .Name tn p2] (f.X i).env = (false, eval e (f.X i).env) :: starEach [.Name tn p2] (f.X i).env := by intro _; rfl) (h2 : ∀ i, starEach [.Name tn p2] (f.X i).env = (false, eval (.Name tn p2) (f.X i).env) :: starEach [] (f.X i).env := by intro _; rfl)
    (hpl : ∀ i, (backTo pos (starEach [.Name tn p2] (f.X i).env)).any (·.1) = false := by intro _; rfl) :
    EX f Γ (.Call (.Name "isinstance" p) [e, .Name tn p2] [] pos) (bnd m fun d => pur (.bool (isiD ty d))) := by
  obtain ⟨t, e1, e2⟩ := he
  refine ⟨tCB (rIsiAll f.K) (tCons t (tCons (tC (.ty ty.nm)) tNil)), fun i => ?_, fun Z F O H σ Q ok q => ?_⟩
  · have hc := call_isiAll (X := f.X i)
    rw [f.eK i] at hc
    exact pe_callB hc (hg i) (by rw [f.eg i]; exact hm) (by decide +kernel) (pa_cons (e1 i) (pa_cons (pe_bltn (v := .ty ty.nm) (hgt i) (by rw [f.eg i]; exact hmt) htn rfl hn hdb) pa_nil (h2 i)) (h1 i)) (by decide) (by decide) (h1 i) (hpl i)
  · refine e2 Z F O H σ _ ok (den_mono (fun d h v F' H' g t => ?_) (den_bnd q))
    have h' := den_pur h
    have k := kit_isi ty d
    have fin := h' _ F' H' g (.bl _)
    rcases ty_of g.fh t with ty' | ⟨l, ob, kvs, rfl, hl, ec⟩
    · exact .inl ⟨v, .ty ty.nm, _, _, _, rfl, .ty _, ty', kit_ty k, fin⟩
    · rw [ec] at k
      exact .inr ⟨l, ob, kvs, _, _, rfl, hl, k, fin⟩
/-! x.append(e), x an own list -/
def dApp : D → D → Option D
  | .list ds, d => if ds.length < 16000000 then some (.list (ds ++ [d])) else none
  | _, _ => none
theorem sx_append {i : Nat} {x : Str} {apos cpos pos' : Pos} (hi : Γ[i]? = some (.own d)) (he : EX f Γ e m) (hN : ∀ j, (f.X j).N[i]? = some x) (hv : ∀ j, Vis (f.X j).env.scope x)
    (hline : (apos.endLine == cpos.line) = true := by rfl) (hd : (x == ("__debug__" : Str)) = false := by decide) (hcd : (x == ("__classdict__" : Str)) = false := by decide)
    (hbase : ∀ j, attributeBase (.Name x pos') "append" (f.X j).env (eval (.Name x pos') (f.X j).env) = eval (.Name x pos') (f.X j).env := by intro _; rfl)
    (hfew : ∀ j, ((backTo cpos (starEach [e] (f.X j).env)).all (fun x => !x.1) && (backToKw cpos (keywordEach [] (f.X j).env)).all (fun x => x.1.isSome)
      && decide (([e] : List Expr).length + ([] : List Keyword).length + (if ([] : List Keyword).isEmpty then 0 else 1) < 30)) = true := by intro _; rfl)
    (hs : ∀ j, starEach [e] (f.X j).env = (false, eval e (f.X j).env) :: starEach [] (f.X j).env := by intro _; rfl) :
    SX f T Γ (.Expr (.Call (.Attribute (.Name x pos') "append" apos) [e] [] cpos) pos) (bnd m fun v => lif (dApp d v)) (pFall f.K fun d' => Γ.set i (.own d')) := by
  obtain ⟨t, e1, e2⟩ := he
  refine ⟨tDrop (tBM f.K "list" rAppend (tVar i) (tCons t tNil)), fun j => ?_, fun Z F O H σ E hT ok q => ?_⟩
  · have h := pe_bm (X := f.X j) PySem.F.plainAttrs_list PySem.F.slot_list_append PySem.F.type_list_append mt_append (pe_var (pos := pos') (hN j) (hv j) hd hcd) (pa_cons (e1 j) pa_nil (hs j)) (hbase j) (hfew j) hline (hs j)
    rw [f.eK j] at h
    exact ps_expr h
  · obtain ⟨l, e3, e4, n⟩ := ok.sl i _ hi
    cases d with
    | list ds =>
      obtain ⟨xs, exs, rs⟩ := n
      refine ⟨_, e3, .inl ⟨rfl, xs, SqL.of exs⟩, ?_⟩
      refine e2 Z F O H σ _ ok (den_mono (fun dv h v F' H' g r => ?_) (den_bnd q))
      obtain ⟨d', ed, h⟩ := den_lif h
      have ed' : (if ds.length < 16000000 then some (.list (ds ++ [dv]) : D) else none) = some d' := ed
      split at ed'
      · rename_i hlen
        cases ed'
        have ok' := ok.grow g
        have exs' := g.hh l _ exs (ok.np e4)
        refine ⟨l, xs, v, rfl, rfl, exs', big_lt (by rw [rs.length]; exact hlen), ?_⟩
        have ok2 := ok'.mut (d' := .list (ds ++ [dv])) (o := .lst (xs ++ [v])) hi e3 e4 ⟨_, upd_same, (rs.up g.up).app (.cons r .nil)⟩
        exact h F' O _ σ ok2.toBk ok2
      · cases ed'
    | _ =>
      refine ⟨_, e3, ?_⟩
      obtain ⟨dv, hdv⟩ := den_ex q
      exfalso
      revert q
      intro q
      have := den_mono (Q' := fun _ => False) (fun dv h => by obtain ⟨_, z, _⟩ := den_lif h; cases z) (den_bnd q)
      obtain ⟨_, z⟩ := den_ex this
      exact z
end
/-! x[k] = v, x an own list or dict -/
theorem inv_retype {X : Cx} {pins : List (Addr × Obj)} {σ : St} {H : Hp} {s : Shared} {a : Addr} {o' : HO} (I : Inv X pins σ H s) (mu : Mut (H a)) (hx : ∃ u, s.heap.get? a = some u) (new : ObjOk X.prog X.w (upd H a o') s.heap a o') : Inv X pins σ (upd H a o') s :=
  I.write (x := a) (e := a) (o := o') (h' := s.heap) (t' := s.toks) mu (.inl rfl) (fun _ _ _ e => e) hx new
theorem objOk_keep {P : Program} {w : World} {H H' : Hp} {h : Heap} {a : Addr} (e : ObjOk P w H h a (.dT [])) : ObjOk P w H' h a (.dT []) := by
  obtain ⟨z, hd, xs, kt, o, es, ep, h1, h2, h3, h4, h5⟩ := e
  cases kt
  exact ⟨z, hd, [], .nil, o, es, ep, h1, h2, h3, h4, h5⟩
theorem empty_get {P : Program} {w : World} {H : Hp} {h : Heap} {a : Addr} (e : ObjOk P w H h a (.dT [])) : ∃ u, h.get? a = some u := by
  obtain ⟨z, hd, xs, kt, o, es, ep, h1, _⟩ := e
  exact ⟨o, h1⟩
/-- x[k] = v: a list, a dict, an empty dict of either sort -/
def rSetAll : V → V → V → Hp → (Hp → Prop) → Prop := fun o i v H Q => rSetL o i v H Q ∨ (∃ a H', o = .ref a ∧ DPut H a i v H' ∧ Q H') ∨
  (∃ a b k, o = .ref a ∧ H a = some (.dK []) ∧ i = .ref b ∧ H b = some (.tup (k.map kV)) ∧ Q (upd H a (.dT [(k, v)]))) ∨ (∃ a k, o = .ref a ∧ H a = some (.dT []) ∧ i = kV k ∧ Q (upd H a (.dK [(k, v)])))
theorem set_all {X : Cx} (hu : X.A.units + 1 < cLine) : PSet X rSetAll := by
  intro pins s σ H o i v ov iv u Q I ro ri rv h
  rcases h with h | ⟨a, H', rfl, g, q⟩ | ⟨a, b, k, rfl, ha, rfl, hb, q⟩ | ⟨a, k, rfl, ha, rfl, q⟩
  · exact set_list pins s σ H o i v ov iv u Q I ro ri rv h
  · obtain rfl : ov = Value.ref a := ro
    exact d_setItem hu I g ri rv fun s' I' => ⟨H', I', q⟩
  · obtain rfl : ov = Value.ref a := ro
    have e := emptyKT (P := X.prog) (w := X.w) (.inl (I.hok a _ ha))
    have I2 := inv_retype (o' := .dT []) I (by rw [ha]; trivial) (empty_get e.2) (objOk_keep e.2)
    have hne : b ≠ a := ne_of hb ha (fun z => nomatch z)
    refine d_setItem hu I2 (DPut.t (kvs := []) (k := k) (v := v) upd_same (by rw [upd_ne hne]; exact hb) (by show 0 < sizeLine; decide)) ri rv fun s' I' => ⟨_, I', ?_⟩
    rw [upd_upd]
    exact q
  · obtain rfl : ov = Value.ref a := ro
    have e := emptyKT (P := X.prog) (w := X.w) (.inr (I.hok a _ ha))
    have e1 : ObjOk X.prog X.w (upd H a (.dK [])) s.heap a (.dK []) := e.1
    have I2 := inv_retype (o' := .dK []) I (by rw [ha]; trivial) (empty_get e.2) e1
    refine d_setItem hu I2 (DPut.k (kvs := []) (k := k) (v := v) upd_same (by show 0 < sizeLine; decide)) ri rv fun s' I' => ⟨_, I', ?_⟩
    rw [upd_upd]
    exact q
def dSet : D → D → D → Option D
  | .list ds, .int i, v => (ixN ds.length i).map fun j => .list (ds.set j v)
  | .dict [], k, v => if flatK k then some (.dict [(k, v)]) else none
  | .dict (q :: ds), k, v => if kindOk (q :: ds) k && decide (ds.length < 16000000) then some (.dict (dPut (q :: ds) k v)) else none
  | _, _, _ => none
section
variable {K : PySem.W.Frag} {F : Hp}
theorem repT_any : ∀ {kvs : List (List Key × V)} {ds : List (D × D)} (k : List Key), RepT K F kvs ds → (kvs.any fun p => decide (p.1 = k)) = ds.any fun p => keq p.1 (.tuple (k.map keyD))
  | _, _, _, .nil => rfl
  | _, _, k, .cons (k := k0) r t => by
    have ek : keq (.tuple (k0.map keyD)) (.tuple (k.map keyD)) = decide (k0 = k) := keqs_keys k0 k
    simp [ek, repT_any k t]
theorem repT_map {v : V} {d : D} (rv : Rep K F v d) : ∀ {kvs : List (List Key × V)} {ds : List (D × D)} (k : List Key), RepT K F kvs ds → RepT K F (kvs.map fun p => if p.1 = k then (p.1, v) else p) (ds.map fun p => if keq p.1 (.tuple (k.map keyD)) then (p.1, d) else p)
  | _, _, _, .nil => .nil
  | _, _, k, .cons (k := k0) r t => by
    have ek : keq (.tuple (k0.map keyD)) (.tuple (k.map keyD)) = decide (k0 = k) := keqs_keys k0 k
    simp only [List.map_cons, ek]
    by_cases e : k0 = k
    · simp only [e, if_true, decide_true]
      exact .cons rv (repT_map rv k t)
    · simp only [e, if_false, decide_false, Bool.false_eq_true]
      exact .cons r (repT_map rv k t)
theorem repT_snoc {v : V} {d : D} {k : List Key} (rv : Rep K F v d) : ∀ {kvs : List (List Key × V)} {ds : List (D × D)}, RepT K F kvs ds → RepT K F (kvs ++ [(k, v)]) (ds ++ [(.tuple (k.map keyD), d)])
  | _, _, .nil => .cons rv .nil
  | _, _, .cons r t => .cons r (repT_snoc rv t)
theorem repT_put {v : V} {d : D} {kvs : List (List Key × V)} {ds : List (D × D)} (k : List Key) (rv : Rep K F v d) (r : RepT K F kvs ds) : RepT K F (putK kvs k v) (dPut ds (.tuple (k.map keyD)) d) := by
  unfold putK dPut
  rw [repT_any k r]
  split
  · exact repT_map rv k r
  · exact repT_snoc rv r
end
section
variable {ι : Type} {μ : Type → Type} [PM μ] [PX μ] {f : Fam ι} {T : Ends → Prop} {Γ : List Slot} {e a b c ke : Expr} {m ma mb mk : μ D} {pos : Pos} {R : Type} {post : Pst R} {d : D}
/-- what a store does to an own node -/
theorem set_own {K : PySem.W.Frag} {p : Option Addr} {F H : Hp} {l : Addr} {kv vv : V} {d k v d' : D} {Q : Hp → Prop} (fh : FH F H) (n : Node K F H l d) (tk : Rep K F kv k) (rv : Rep K F vv v) (e : dSet d k v = some d') (h : ∀ o, Node K F (upd H l o) l d' → Q (upd H l o)) : rSetAll (.ref l) kv vv H Q := by
  cases d with
  | list ds =>
    cases k with
    | int i =>
      obtain ⟨xs, exs, rs⟩ := n
      have e' : (ixN ds.length i).map (fun j => (.list (ds.set j v) : D)) = some d' := e
      cases ej : ixN ds.length i with
      | none => rw [ej] at e'; cases e'
      | some j =>
        rw [ej] at e'
        cases e'
        cases tk
        exact .inl ⟨l, xs, i, j, rfl, rfl, exs, by rw [rs.length]; exact ej, h _ ⟨_, upd_same, rs.set rv j⟩⟩
    | _ => cases e
  | dict ds =>
    cases ds with
    | nil =>
      have e' : (if flatK k then some (.dict [(k, v)] : D) else none) = some d' := e
      split at e'
      · rename_i hf
        cases e'
        rcases n with ⟨kvs, ek, r⟩ | ⟨kvs, ek, r⟩
        · cases r
          cases k with
          | int i => cases tk; exact .inr (.inl ⟨l, _, rfl, DPut.k (k := .inl i) ek (by show 0 < sizeLine; decide), h _ (.inl ⟨_, upd_same, .cons (k := .inl i) rv .nil⟩)⟩)
          | str z => cases tk; exact .inr (.inl ⟨l, _, rfl, DPut.k (k := .inr z) ek (by show 0 < sizeLine; decide), h _ (.inl ⟨_, upd_same, .cons (k := .inr z) rv .nil⟩)⟩)
          | tuple ks =>
            obtain ⟨kk, ekk⟩ := Option.isSome_iff_exists.mp (show (dKeys ks).isSome = true from hf)
            have e2 := keyDs_keys ekk
            subst e2
            cases tk with
            | tup hb rb =>
              rw [reps_keys rb] at hb
              exact .inr (.inr (.inl ⟨l, _, kk, rfl, ek, rfl, fh.tup hb, h _ (.inr ⟨_, upd_same, .cons rv .nil⟩)⟩))
          | _ => cases hf
        · cases r
          cases k with
          | int i => cases tk; exact .inr (.inr (.inr ⟨l, .inl i, rfl, ek, rfl, h _ (.inl ⟨_, upd_same, .cons (k := .inl i) rv .nil⟩)⟩))
          | str z => cases tk; exact .inr (.inr (.inr ⟨l, .inr z, rfl, ek, rfl, h _ (.inl ⟨_, upd_same, .cons (k := .inr z) rv .nil⟩)⟩))
          | tuple ks =>
            obtain ⟨kk, ekk⟩ := Option.isSome_iff_exists.mp (show (dKeys ks).isSome = true from hf)
            have e2 := keyDs_keys ekk
            subst e2
            cases tk with
            | tup hb rb =>
              rw [reps_keys rb] at hb
              exact .inr (.inl ⟨l, _, rfl, DPut.t (k := kk) ek (fh.tup hb) (by show 0 < sizeLine; decide), h _ (.inr ⟨_, upd_same, .cons rv .nil⟩)⟩)
          | _ => cases hf
      · cases e'
    | cons w ds =>
      have e' : (if kindOk (w :: ds) k && decide (ds.length < 16000000) then some (.dict (dPut (w :: ds) k v) : D) else none) = some d' := e
      split at e'
      · rename_i hf
        rw [Bool.and_eq_true] at hf
        obtain ⟨hf, hl⟩ := hf
        have hl := of_decide_eq_true hl
        cases e'
        rcases n with ⟨kvs, ek, r⟩ | ⟨kvs, ek, r⟩
        · have len := r.length
          cases r with
          | cons r0 rs =>
            rename_i k0 v0 kvs0 d0
            cases k with
            | int i => cases tk; exact .inr (.inl ⟨l, _, rfl, DPut.k (k := .inl i) ek (by rw [len]; simp; rw [sizeLine_eq]; omega), h _ (.inl ⟨_, upd_same, repK_put (.inl i) rv (.cons r0 rs)⟩)⟩)
            | str z => cases tk; exact .inr (.inl ⟨l, _, rfl, DPut.k (k := .inr z) ek (by rw [len]; simp; rw [sizeLine_eq]; omega), h _ (.inl ⟨_, upd_same, repK_put (.inr z) rv (.cons r0 rs)⟩)⟩)
            | tuple ks => cases k0 <;> simp [kindOk, keyD] at hf
            | _ => cases hf
        · have len := r.length
          cases r with
          | cons r0 rs =>
            rename_i k0 v0 kvs0 d0
            cases k with
            | int i => cases hf
            | str z => cases hf
            | tuple ks =>
              have hk : (dKeys ks).isSome = true := by simp [kindOk] at hf; exact hf
              obtain ⟨kk, ekk⟩ := Option.isSome_iff_exists.mp hk
              have e2 := keyDs_keys ekk
              subst e2
              cases tk with
              | tup hb rb =>
                rw [reps_keys rb] at hb
                exact .inr (.inl ⟨l, _, rfl, DPut.t (k := kk) ek (fh.tup hb) (by rw [len]; simp; rw [sizeLine_eq]; omega), h _ (.inr ⟨_, upd_same, repT_put kk rv (.cons r0 rs)⟩)⟩)
            | _ => cases hf
      · cases e'
  | _ => cases e
theorem sx_put {i : Nat} {x : Str} {pos' tpos : Pos} (hi : Γ[i]? = some (.own d)) (he : EX f Γ e m) (hk : EX f Γ ke mk) (hN : ∀ j, (f.X j).N[i]? = some x) (hv : ∀ j, Vis (f.X j).env.scope x) (hd : (x == ("__debug__" : Str)) = false := by decide) (hcd : (x == ("__classdict__" : Str)) = false := by decide)
    (ha : ∀ j v, assign (.Subscript (.Name x pos') ke tpos) (f.X j).env v = (do
      let ov ← holding [v] (eval (.Name x pos') (f.X j).env)
      let iv ← holding [v, ov] (eval ke (f.X j).env)
      standAt tpos
      holding [v, ov, iv] (setItem ov iv v)
      release [v, ov, iv] []) := by intro _ _; rfl)
    (hs : ∀ j, swapsWithSole [.Subscript (.Name x pos') ke tpos] e pos.line (f.X j).env = pure false := by intro _; rfl) (hw : ∀ j, swappedStores [.Subscript (.Name x pos') ke tpos] e (f.X j).env = pure none := by intro _; rfl)
    (h1 : ∀ j, (assignEach [.Subscript (.Name x pos') ke tpos] (f.X j).env).map (·.2) = [assign (.Subscript (.Name x pos') ke tpos) (f.X j).env] := by intro _; rfl) :
    SX f T Γ (.Assign [.Subscript (.Name x pos') ke tpos] e pos) (bnd m fun v => bnd mk fun k => lif (dSet d k v)) (pFall f.K fun d' => Γ.set i (.own d')) := by
  obtain ⟨t, e1, e2⟩ := he
  obtain ⟨u, u1, u2⟩ := hk
  refine ⟨tAsg t (gSub (tVar i) u rSetAll), fun j => ps_asg (e1 j) (pg_sub (pe_var (hN j) (hv j) hd hcd) (u1 j) (set_all (by have := f.hu j; omega)) (ha j)) (hs j) (hw j) (h1 j), fun Z F O H σ E hT ok q => ?_⟩
  refine e2 Z F O H σ _ ok (den_mono (fun vd h v F1 H1 g1 r1 => ?_) (den_bnd q))
  have ok1 := ok.grow g1
  obtain ⟨l, e3, e4, n⟩ := ok1.sl i _ hi
  refine ⟨_, e3, ?_⟩
  refine u2 Z F1 O H1 σ _ ok1 (den_mono (fun kd h kv F2 H2 g2 r2 => ?_) (den_bnd h))
  have ok2 := ok1.grow g2
  obtain ⟨d', ed, h⟩ := den_lif h
  refine set_own (p := Z.p) ok2.fh (n.grow g2 (ok1.np e4)) r2 (r1.up g2.up) ed fun o n' => ?_
  have ok3 := ok2.mut (d' := d') (o := o) hi e3 e4 n'
  exact h F2 O _ σ ok3.toBk ok3
end
end Y

set_option maxRecDepth 100000
set_option maxHeartbeats 1000000
namespace Y
open PySem L2 PM PX
abbrev FnP (K : PySem.W.Frag) (x : Str) (st : Stmt) (f : Addr) (fd : FuncData) : Prop := FunD K x x (defArgs st) (defBody st) (defScope st) [] [] f fd
/-- a def keeps its promise, and is found by its name -/
structure DOk {μ : Type → Type} [PM μ] (P : Program) (w : World) (K : PySem.W.Frag) (mg : Str → Option Value) (base : Heap) (x : Str) (k : Nat) (ps : List Str) (ks : List AK) (g : List D → μ D) : Prop where
  ex : ∃ fn fd, FnOk P w K mg base CX0 k fn fd ps (spM K ks g) ∧ mg x = some (.ref fn) ∧ PySem.W.keepIn K (.ref fn) = true ∧ Binds K fd ps []
section
variable {ι : Type} {μ ν : Type → Type} [PM μ] [PM ν] {f : Fam ι} {Γ : List Slot} {e a b c : Expr} {m ma mb : μ D} {pos : Pos} {rest es : List Expr} {α : Type} {k : Nat} {ps : List Str} {ks : List AK} {x : Str} {p : Pos} {M : (List D → μ D) → μ D}
open Into
theorem ex_cI [Into ν μ] {g : List D → ν D} (o : DOk f.P f.w f.K f.mg f.base x k ps ks g) (hle : k ≤ f.k) (hg : ∀ i, Gl (f.X i) x)
    (ha : EXK f Γ ks (e :: es) M) (hM : m = M fun ds => into (g ds)) (hdb : (x == ("__debug__" : Str)) = false := by decide) (he : ∀ i, starEach (e :: es) (f.X i).env = (false, eval e (f.X i).env) :: starEach es (f.X i).env := by intro _; rfl)
    (hpl : ∀ i, (backTo pos (starEach es (f.X i).env)).any (·.1) = false := by intro _; rfl) :
    EX f Γ (.Call (.Name x p) (e :: es) [] pos) m := by
  obtain ⟨fn, fd, h1, h2, h3, h4⟩ := o.ex
  subst hM
  exact ex_call h1 h2 h3 h4 hle hg ha hdb he hpl
/-- a call of a def that is told alike -/
theorem ex_cS {g : List D → Option D} {f : Fam ι} {m : Option D} {M : (List D → Option D) → Option D} (o : DOk f.P f.w f.K f.mg f.base x k ps ks g) (hle : k ≤ f.k) (hg : ∀ i, Gl (f.X i) x)
    (ha : EXK f Γ ks (e :: es) M) (hM : m = M fun ds => g ds) (hdb : (x == ("__debug__" : Str)) = false := by decide) (he : ∀ i, starEach (e :: es) (f.X i).env = (false, eval e (f.X i).env) :: starEach es (f.X i).env := by intro _; rfl)
    (hpl : ∀ i, (backTo pos (starEach es (f.X i).env)).any (·.1) = false := by intro _; rfl) :
    EX f Γ (.Call (.Name x p) (e :: es) [] pos) m := ex_cI (μ := Option) (ν := Option) o hle hg ha hM hdb he hpl
/-- .. a def without draws, called where there are draws -/
theorem ex_cL {g : List D → Option D} {f : Fam ι} {m : Gen D} {M : (List D → Gen D) → Gen D} (o : DOk f.P f.w f.K f.mg f.base x k ps ks g) (hle : k ≤ f.k) (hg : ∀ i, Gl (f.X i) x)
    (ha : EXK f Γ ks (e :: es) M) (hM : m = M fun ds => Gen.lift (g ds)) (hdb : (x == ("__debug__" : Str)) = false := by decide) (he : ∀ i, starEach (e :: es) (f.X i).env = (false, eval e (f.X i).env) :: starEach es (f.X i).env := by intro _; rfl)
    (hpl : ∀ i, (backTo pos (starEach es (f.X i).env)).any (·.1) = false := by intro _; rfl) :
    EX f Γ (.Call (.Name x p) (e :: es) [] pos) m := ex_cI (μ := Gen) (ν := Option) o hle hg ha hM hdb he hpl
theorem ex_cG {g : List D → Gen D} {f : Fam ι} {m : Gen D} {M : (List D → Gen D) → Gen D} (o : DOk f.P f.w f.K f.mg f.base x k ps ks g) (hle : k ≤ f.k) (hg : ∀ i, Gl (f.X i) x)
    (ha : EXK f Γ ks (e :: es) M) (hM : m = M fun ds => g ds) (hdb : (x == ("__debug__" : Str)) = false := by decide) (he : ∀ i, starEach (e :: es) (f.X i).env = (false, eval e (f.X i).env) :: starEach es (f.X i).env := by intro _; rfl)
    (hpl : ∀ i, (backTo pos (starEach es (f.X i).env)).any (·.1) = false := by intro _; rfl) :
    EX f Γ (.Call (.Name x p) (e :: es) [] pos) m := ex_cI (μ := Gen) (ν := Gen) o hle hg ha hM hdb he hpl
/-- a built-in function | a type | an imported function -/
theorem ex_bi {id : String} {r : List V → Hp → VK → Prop} {dop : List D → Option D} (hc : ∀ i, CallR (f.X i) (.builtin id) r) (hr : RCall f.K ks r dop) (hm : f.mg x = none) (hv : bootBuiltins x = some (.builtin id)) (ha : EXK f Γ ks (e :: es) M) (hM : m = M fun ds => lif (dop ds))
    (hg : ∀ i, Gl (f.X i) x := by intro _; rfl) (hn : x ≠ "__name__" := by decide) (hdb : (x == ("__debug__" : Str)) = false := by decide)
    (he : ∀ i, starEach (e :: es) (f.X i).env = (false, eval e (f.X i).env) :: starEach es (f.X i).env := by intro _; rfl) (hpl : ∀ i, (backTo pos (starEach es (f.X i).env)).any (·.1) = false := by intro _; rfl) :
    EX f Γ (.Call (.Name x p) (e :: es) [] pos) m := by subst hM; exact ex_callB hc hr hm hv ha hg hn hdb he hpl
theorem ex_ty {T : String} {r : List V → Hp → VK → Prop} {dop : List D → Option D} (hc : ∀ i, CallR (f.X i) (.type T) r) (hr : RCall f.K ks r dop) (hm : f.mg x = none) (hv : bootBuiltins x = some (.type T)) (ha : EXK f Γ ks (e :: es) M) (hM : m = M fun ds => lif (dop ds))
    (hg : ∀ i, Gl (f.X i) x := by intro _; rfl) (hn : x ≠ "__name__" := by decide) (hdb : (x == ("__debug__" : Str)) = false := by decide)
    (he : ∀ i, starEach (e :: es) (f.X i).env = (false, eval e (f.X i).env) :: starEach es (f.X i).env := by intro _; rfl) (hpl : ∀ i, (backTo pos (starEach es (f.X i).env)).any (·.1) = false := by intro _; rfl) :
    EX f Γ (.Call (.Name x p) (e :: es) [] pos) m := by subst hM; exact ex_callTy hc hr hm hv ha hg hn hdb he hpl
theorem ex_fb {id : String} {r : List V → Hp → VK → Prop} {dop : List D → Option D} (hc : ∀ i, CallR (f.X i) (.builtin id) r) (hr : RCall f.K ks r dop) (hm : f.mg x = some (.builtin id)) (ha : EXK f Γ ks (e :: es) M) (hM : m = M fun ds => lif (dop ds))
    (hg : ∀ i, Gl (f.X i) x := by intro _; rfl) (hdb : (x == ("__debug__" : Str)) = false := by decide)
    (he : ∀ i, starEach (e :: es) (f.X i).env = (false, eval e (f.X i).env) :: starEach es (f.X i).env := by intro _; rfl) (hpl : ∀ i, (backTo pos (starEach es (f.X i).env)).any (·.1) = false := by intro _; rfl) :
    EX f Γ (.Call (.Name x p) (e :: es) [] pos) m := by subst hM; exact ex_callF hc hr hm ha hg hdb he hpl
/-- displays -/
def mkT (ds : List D) : μ D := if ds.length < 16000000 then pur (.tuple ds) else lif none
theorem en_list (h : EXA f Γ es M) (hM : m = M fun ds => mkL ds) : EXN f Γ (.List es pos) m := by subst hM; exact exn_list h
theorem ex_tup {x1 : Nat} (h : EXA f Γ es M) (hM : m = M fun ds => mkT ds) : EX f Γ (.Tuple es x1 pos) m := by subst hM; exact ex_tuple h
end
section
variable {ι : Type} {μ : Type → Type} [PM μ] [PX μ] {f : Fam ι} {T : Ends → Prop} {Γ Γ' : List Slot} {e a b c tg iter elt tg1 iter1 kx vx : Expr} {m ma mb : μ D} {ml : μ (List D)} {pos : Pos} {bl : List Stmt} {R S S' A B C : Type} {post : Pst R} {d : D}
def lcM {A : Type} (sel : D → Option A) (ml : μ (List D)) (mt : A → μ Bool) (me : A → μ D) : μ D := bnd ml fun ds => bnd (cp (A := A) (fun d => bnd (lif (sel d)) fun x => bnd (mt x) fun k => if k then bnd (me x) fun y => pur (some y) else pur none) ds) mkL
theorem lc {scope : Scope} {own : List (Str × Nat)} {ifs : List Expr} {sel : D → Option A} {up : A → List Slot → List Slot} {is : List Nat} {mt : A → μ Bool} {me : A → μ D} (hi : ITX f Γ tg iter ml) (ht : TGX (f.blk scope) tg sel up is) (his : ∀ i ∈ is, i ∈ own.map (·.2))
    (hil : ∀ i ∈ is, i < Γ.length) (hc : ∀ x, EXI (f.blk scope) (up x (wipeG Γ (own.map (·.2)))) ifs (mt x)) (he : ∀ x, EX (f.blk scope) (up x (wipeG Γ (own.map (·.2)))) elt (me x)) :
    LCX f Γ elt tg iter ifs scope own (lcM sel ml mt me) := lc_mk hi ht his hil hc he
def dcM {A : Type} (sel : D → Option A) (ml : μ (List D)) (mt : A → μ Bool) (mk mv : A → μ D) : μ D := bnd ml fun ds => mkDc (fun d => bnd (lif (sel d)) fun x => bnd (mt x) fun k => if k then bnd (mk x) fun y => bnd (mv x) fun z => pur (some (y, z)) else pur none) ds
theorem dc {scope : Scope} {own : List (Str × Nat)} {ifs : List Expr} {sel : D → Option A} {up : A → List Slot → List Slot} {is : List Nat} {mt : A → μ Bool} {mk mv : A → μ D} (hi : ITX f Γ tg iter ml) (ht : TGX (f.blk scope) tg sel up is) (his : ∀ i ∈ is, i ∈ own.map (·.2))
    (hil : ∀ i ∈ is, i < Γ.length) (hc : ∀ x, EXI (f.blk scope) (up x (wipeG Γ (own.map (·.2)))) ifs (mt x)) (hk : ∀ x, EX (f.blk scope) (up x (wipeG Γ (own.map (·.2)))) kx (mk x)) (hv : ∀ x, EX (f.blk scope) (up x (wipeG Γ (own.map (·.2)))) vx (mv x)) :
    DCX f Γ kx vx tg iter ifs scope own (dcM sel ml mt mk mv) := dc_mk hi ht his hil hc hk hv
def lc2M {A B : Type} (sel : D → Option A) (ml : μ (List D)) (mt : A → μ Bool) (sel1 : D → Option B) (ml1 : A → μ (List D)) (mt1 : A → B → μ Bool) (me : A → B → μ D) : μ D :=
  bnd ml fun ds => bnd (cpa (fun d => bnd (lif (sel d)) fun x => bnd (mt x) fun k => if k then bnd (ml1 x) fun ds1 => cp (A := B) (fun d1 => bnd (lif (sel1 d1)) fun y => bnd (mt1 x y) fun k => if k then bnd (me x y) fun z => pur (some z) else pur none) ds1 else pur []) ds) mkL
theorem lc2 {scope : Scope} {own : List (Str × Nat)} {vs1 : List Nat} {ifs ifs1 : List Expr} {sel : D → Option A} {up : A → List Slot → List Slot} {is : List Nat} {sel1 : D → Option B} {up1 : B → List Slot → List Slot} {is1 : List Nat} {mt : A → μ Bool} {ml1 : A → μ (List D)} {mt1 : A → B → μ Bool} {me : A → B → μ D}
    (hi : ITX f Γ tg iter ml) (ht : TGX (f.blk scope) tg sel up is) (his : ∀ i ∈ is, i ∈ own.map (·.2)) (hil : ∀ i ∈ is, i < Γ.length) (hul : ∀ x Γ, (up x Γ).length = Γ.length)
    (hc : ∀ x, EXI (f.blk scope) (up x (wipeG Γ (own.map (·.2)))) ifs (mt x)) (hi1 : ∀ x, ITX (f.blk scope) (up x (wipeG Γ (own.map (·.2)))) tg1 iter1 (ml1 x))
    (ht1 : TGX (f.blk scope) tg1 sel1 up1 is1) (his1 : ∀ i ∈ is1, i ∈ vs1) (hil1 : ∀ i ∈ is1, i < Γ.length)
    (hc1 : ∀ x y, EXI (f.blk scope) (up1 y (wipeG (up x (wipeG Γ (own.map (·.2)))) vs1)) ifs1 (mt1 x y)) (he : ∀ x y, EX (f.blk scope) (up1 y (wipeG (up x (wipeG Γ (own.map (·.2)))) vs1)) elt (me x y)) :
    LCX2 f Γ elt tg iter ifs tg1 iter1 ifs1 scope own vs1 (lc2M sel ml mt sel1 ml1 mt1 me) := lc2_mk hi ht his hil hul hc hi1 ht1 his1 hil1 hc1 he
/-- nothing is promised -/
theorem gx_none : GX f T Γ bl (lif none : μ R) post := ⟨fun _ _ _ => False, fun _ => ⟨fun _ _ _ _ _ _ h => h.elim⟩, fun Z F O H σ E _ ok q => by obtain ⟨_, z, _⟩ := den_lif q; cases z⟩
theorem GX.cast {m : μ R} (h : GX f T Γ' bl m post) (e : Γ = Γ') : GX f T Γ bl m post := by subst e; exact h
/-- a test, then what follows -/
def iteR {R : Type} (tA : μ Bool) (m1 m2 : μ R) : μ R := bnd tA fun k => if k then m1 else m2
theorem gx_ifx' {rest : List Stmt} {tA : μ Bool} {m1 m2 : μ R} (hp : NxFree' post) (hc : EXB f Γ c tA) (h1 : GX f tAny Γ bl m1 post) (h2 : GX f T Γ rest m2 post) : GX f T Γ (.If c bl [] pos :: rest) (iteR tA m1 m2) post := gx_ifx hp hc h1 h2
theorem sx_if' {tA : μ Bool} {bl' : List Stmt} {m1 m2 : μ R} (hc : EXB f Γ c tA) (h1 : GX f T Γ bl m1 post) (h2 : GX f T Γ bl' m2 post) : SX f T Γ (.If c bl bl' pos) (iteR tA m1 m2) post := sx_if hc h1 h2
theorem nx_mix {Γf : S → List Slot} {post : Pst R} {K : PySem.W.Frag} (h : NxFree' post) : ∀ r : R, ∀ Z F O H σ E nx, post r Z F O H σ E → post r Z F O H σ { E with nx := nx } := h
def forM' {A S : Type} (sel : D → Option A) (ml : μ (List D)) (s0 : S) (g : S → A → μ S) : μ S := bnd ml fun ds => lp (fun s d => bnd (lif (sel d)) fun x => g s x) ds s0
theorem sx_fr {sel : D → Option A} {up : A → List Slot → List Slot} {is : List Nat} {body : List Stmt} {Γf : S → List Slot} {s0 : S} {mb : S → A → μ S} (hi : ITX f Γ tg iter ml) (ht : TGX f tg sel up is) (h0 : Le Γ (Γf s0)) (hl : ∀ s, ∀ i ∈ is, i < (Γf s).length)
    (hb : ∀ s x, GX f tAny (up x (Γf s)) body (mb s x) (pFall f.K Γf)) (hp : ∀ i, PassesOwn (model (f.X i).prog (f.X i).w) (f.X i).A (f.X i).env (f.X i).xe := by intro _; exact PassesOwn.never)
    (hs : ∀ i x, foldedSetIterable iter (f.X i).env x = pure x := by intro _ _; rfl) :
    SX f T Γ (.For tg iter body [] pos) (forM' sel ml s0 mb) (pFall f.K Γf) := sx_for hi ht h0 hl hb hp hs
def forC {A S : Type} (sel : D → Option A) (ml : μ (List D)) (s0 : S) (g : S → A → μ (Ctl S)) : μ (Sum S D) := bnd ml fun ds => lpC (fun s d => bnd (lif (sel d)) fun x => g s x) ds s0
/-- what follows a loop that may return -/
def behind {S R : Type} (inj : D → R) (k : S → μ R) : Sum S D → μ R
  | .inl s => k s
  | .inr d => pur (inj d)
theorem sx_frC {sel : D → Option A} {up : A → List Slot → List Slot} {is : List Nat} {body : List Stmt} {Γf : S → List Slot} {s0 : S} {mb : S → A → μ (Ctl S)} {inj : D → R} (hr : RetIn f.K post inj) (hi : ITX f Γ tg iter ml) (ht : TGX f tg sel up is) (h0 : Le Γ (Γf s0)) (hl : ∀ s, ∀ i ∈ is, i < (Γf s).length)
    (hb : ∀ s x, GX f tLoop (up x (Γf s)) body (mb s x) (pCtl f.K Γf)) (hp : ∀ i, PassesOwn (model (f.X i).prog (f.X i).w) (f.X i).A (f.X i).env (f.X i).xe := by intro _; exact PassesOwn.never)
    (hs : ∀ i x, foldedSetIterable iter (f.X i).env x = pure x := by intro _ _; rfl) :
    SX f T Γ (.For tg iter body [] pos) (bnd (forC sel ml s0 mb) fun r => pur (injS inj r)) (pMix f.K Γf post) := by
  obtain ⟨t, h1, h2⟩ := sx_forC hr hi ht h0 hl hb hp hs
  refine ⟨t, h1, fun Z F O H σ E hT ok q => h2 Z F O H σ E hT ok ?_⟩
  have q2 := den_bnd (den_bnd q)
  refine den_bnd' (den_mono (fun ds h => den_bnd' h) q2)
theorem gx_forC {rest : List Stmt} {sel : D → Option A} {up : A → List Slot → List Slot} {is : List Nat} {body : List Stmt} {Γf : S → List Slot} {s0 : S} {mb : S → A → μ (Ctl S)} {inj : D → R} {k : S → μ R} (hx : NxFree' post) (hr : RetIn f.K post inj) (hi : ITX f Γ tg iter ml) (ht : TGX f tg sel up is) (h0 : Le Γ (Γf s0)) (hl : ∀ s, ∀ i ∈ is, i < (Γf s).length)
    (hb : ∀ s x, GX f tLoop (up x (Γf s)) body (mb s x) (pCtl f.K Γf)) (h2 : ∀ s, GX f T (Γf s) rest (k s) post) (hp : ∀ i, PassesOwn (model (f.X i).prog (f.X i).w) (f.X i).A (f.X i).env (f.X i).xe := by intro _; exact PassesOwn.never)
    (hs : ∀ i x, foldedSetIterable iter (f.X i).env x = pure x := by intro _ _; rfl) :
    GX f T Γ (.For tg iter body [] pos :: rest) (bnd (forC sel ml s0 mb) (behind inj k)) post := by
  obtain ⟨t, h1, h3⟩ := gx_seqM hx (sx_frC (T := tAny) (pos := pos) hr hi ht h0 hl hb hp hs) h2
  refine ⟨t, h1, fun Z F O H σ E hT ok q => h3 Z F O H σ E hT ok ?_⟩
  refine den_bnd' (den_bnd' (den_mono (fun r h => ?_) (den_bnd q)))
  cases r with
  | inl s => exact den_pur' h
  | inr d => exact den_pur' h
theorem gx_whl {rest : List Stmt} {body : List Stmt} {Γf : S → List Slot} {s0 : S} {mc : S → μ Bool} {mb : S → μ (Ctl S)} {inj : D → R} {k : S → μ R} (N : Nat) (hx : NxFree' post) (hr : RetIn f.K post inj) (h0 : Le Γ (Γf s0)) (hc : ∀ s, EXB f (Γf s) c (mc s))
    (hb : ∀ s, GX f tLoop (Γf s) body (mb s) (pCtl f.K Γf)) (h2 : ∀ s, GX f T (Γf s) rest (k s) post) (hp : ∀ i, PassesOwn (model (f.X i).prog (f.X i).w) (f.X i).A (f.X i).env (f.X i).xe := by intro _; exact PassesOwn.never) :
    GX f T Γ (.While c body [] pos :: rest) (bnd (wh mc mb N s0) (behind inj k)) post := by
  obtain ⟨t, h1, h3⟩ := gx_seqM hx (sx_while (T := tAny) (pos := pos) N hr h0 hc hb hp) h2
  refine ⟨t, h1, fun Z F O H σ E hT ok q => h3 Z F O H σ E hT ok ?_⟩
  refine den_bnd' (den_bnd' (den_mono (fun r h => ?_) (den_bnd q)))
  cases r with
  | inl s => exact den_pur' h
  | inr d => exact den_pur' h
end
end Y

set_option maxRecDepth 100000
set_option maxHeartbeats 1000000
namespace Y
open PySem L2 PM PX
section
variable {μ : Type → Type} [PM μ] {α : Type}
abbrev b2 (op : D → D → Option α) (ma mb : μ D) : μ α := bnd ma fun x => bnd mb fun y => lif (op x y)
abbrev u1 (op : D → Option D) (ma : μ D) : μ D := bnd ma fun x => lif (op x)
abbrev v2 (op : D → D → Option Bool) (ma mb : μ D) : μ D := bnd ma fun x => bnd mb fun y => lif ((op x y).map vB)
abbrev vNot (m : μ D) : μ D := bnd m fun d => bnd (lif (dB d)) fun k => pur (.bool (!k))
abbrev bNot (m : μ Bool) : μ Bool := bnd m fun k => pur (!k)
abbrev bTru (m : μ D) : μ Bool := bnd m fun d => lif (dTru d)
abbrev i1 (op : D → Option (List D)) (ma : μ D) : μ (List D) := bnd ma fun x => lif (op x)
abbrev i2 (op : D → D → Option (List D)) (ma mb : μ D) : μ (List D) := bnd ma fun x => bnd mb fun y => lif (op x y)
end
section
variable {ι : Type} {f : Fam ι}
theorem fcr_len (i : ι) : CallR (f.X i) (.builtin "len") (rLenAll f.K) := by
  have h := (call_len (X := f.X i)).or ((call_lenDK (X := f.X i)).or (call_lenDT (X := f.X i)))
  rw [f.eK i] at h
  exact h
theorem fcr_sum (i : ι) : CallR (f.X i) (.builtin "sum") (rSum f.K) := by have h := cr_sum (f.ec i); rw [f.eK i] at h; exact h
theorem fcr_max (i : ι) : CallR (f.X i) (.builtin "max") (rMax f.K) := by have h := cr_max (f.ec i); rw [f.eK i] at h; exact h
theorem fcr_min (i : ι) : CallR (f.X i) (.builtin "min") (rMin f.K) := by have h := cr_min (f.ec i); rw [f.eK i] at h; exact h
theorem fcr_max2 (i : ι) : CallR (f.X i) (.builtin "max") (fun xs H Q => ∃ i j, xs = [.int i, .int j] ∧ Q (.int (if j > i then j else i)) H) := call_max2 (f.ec i)
theorem fcr_min2 (i : ι) : CallR (f.X i) (.builtin "min") (fun xs H Q => ∃ i j, xs = [.int i, .int j] ∧ Q (.int (if j < i then j else i)) H) := call_min2 (f.ec i)
theorem fcr_all (i : ι) : CallR (f.X i) (.builtin "all") (rAll f.K) := by have h := cr_all (f.ec i); rw [f.eK i] at h; exact h
theorem fcr_any (i : ι) : CallR (f.X i) (.builtin "any") (rAny f.K) := by have h := cr_any (f.ec i); rw [f.eK i] at h; exact h
end
theorem blk_of {N : List Str} {sc scope : Scope} {own : List (Str × Nat)} (h1 : scope.kind = .function) (h2 : (scope.names.all fun y => decide (scope.names.lookup y.1 = some y.2)) = true) (h3 : (own.all fun p => decide (N[p.2]? = some p.1)) = true)
    (h4 : (scope.names.all fun y => decide (y.2 ≠ .free) || (decide (sc.names.lookup y.1 = some .cell) || decide (sc.names.lookup y.1 = some .free))) = true)
    (h5 : (scope.names.all fun y => (decide (y.2 ≠ .local) && decide (y.2 ≠ .cell)) || ((own.any fun p => decide (p.1 = y.1)) || !(N.any fun z => decide (z = y.1)))) = true) : BlkOk N sc scope own where
  kind := h1
  uniq := fun y hy => of_decide_eq_true (List.all_eq_true.mp h2 y hy)
  ix := fun p hp => of_decide_eq_true (List.all_eq_true.mp h3 p hp)
  free := fun y hy e => by
    have q := List.all_eq_true.mp h4 y hy
    rw [Bool.or_eq_true, Bool.or_eq_true] at q
    rcases q with q | q | q
    · exact absurd e (of_decide_eq_true q)
    · exact .inl (of_decide_eq_true q)
    · exact .inr (of_decide_eq_true q)
  own := fun y hy e => by
    have q := List.all_eq_true.mp h5 y hy
    rw [Bool.or_eq_true, Bool.or_eq_true, Bool.and_eq_true] at q
    rcases q with ⟨q1, q2⟩ | q | q
    · rcases e with e | e
      · exact absurd e (of_decide_eq_true q1)
      · exact absurd e (of_decide_eq_true q2)
    · obtain ⟨p, hp, hq⟩ := List.any_eq_true.mp q
      exact .inl (List.mem_map.mpr ⟨p, hp, of_decide_eq_true hq⟩)
    · refine .inr fun hm => ?_
      rw [Bool.not_eq_true'] at q
      have := List.any_eq_false.mp q y.1 hm
      simp at this
theorem sw_trueD {kx vx : Expr} {gs : List Comprehension} {scope : Scope} {pos py : Pos} {y : Str} {l : Nat} {env : Env} (hk : env.scope.kind = .function) (hy : env.scope.names.lookup y = some .local) (hl : (py.line == pos.line) = true)
    (ha : (scope.names.any fun (n, k) => n == y && (k == .local || k == .cell)) = false) : swapsWith (.DictComp kx vx gs scope pos) (some (.Name y py)) l env = pure true := by
  have ky : env.kindOf y = some .local := hy
  have hb : env.blockKind = .function := by unfold Env.blockKind; rw [hk]; rfl
  unfold swapsWith
  simp only [hb, ky, ha, Expr.pos, hl]
  rfl
end Y

set_option maxRecDepth 100000
set_option maxHeartbeats 1000000
namespace Y
open PySem L2 PM PX
/-! keys, values, pairs -/
def isK : D → Bool
  | .int _ => true
  | .str _ => true
  | _ => false
def dKs : D → Option (List D)
  | .dict ds => if ds.all (fun p => isK p.1) then some (ds.map (·.1)) else none
  | _ => none
def dVs : D → Option (List D)
  | .dict ds => if (ds.all fun p => isK p.1) && !ds.isEmpty then some (ds.map (·.2)) else none
  | _ => none
def dIt : D → Option (List D)
  | .dict ds => if (ds.all fun p => isK p.1) && !ds.isEmpty then some (ds.map fun p => .tuple [p.1, p.2]) else none
  | _ => none
theorem repK_get {K : PySem.W.Frag} {F : Hp} : ∀ {kvs : List (Key × V)} {ds : List (D × D)} {i : Nat} {k : Key} {v : V}, RepK K F kvs ds → kvs[i]? = some (k, v) → ∃ d, ds[i]? = some (keyD k, d) ∧ Rep K F v d
  | _, _, _, _, _, .nil, e => by simp at e
  | _, _, 0, _, _, .cons r _, e => by simp at e; obtain ⟨rfl, rfl⟩ := e; exact ⟨_, rfl, r⟩
  | _, _, i + 1, k, v, .cons _ t, e => by
    obtain ⟨d, h1, h2⟩ := repK_get (i := i) t (by simpa using e)
    exact ⟨d, by simpa using h1, h2⟩
theorem rep_keyV {K : PySem.W.Frag} {F : Hp} (k : Key) : Rep K F (kV k) (keyD k) := by
  rcases k with i | x
  · exact .int i
  · exact .str x
theorem repT_isK {K : PySem.W.Frag} {F : Hp} {kvs : List (List Key × V)} {ds : List (D × D)} (r : RepT K F kvs ds) (h : (ds.all fun p => isK p.1) = true) : kvs = [] ∧ ds = [] := by
  cases r with
  | nil => exact ⟨rfl, rfl⟩
  | cons _ _ => simp [isK] at h
section
variable {ι : Type} {μ : Type → Type} [PM μ] [PX μ] {f : Fam ι} {T : Ends → Prop} {Γ : List Slot} {e tg : Expr} {m : μ D} {pos : Pos} {R S : Type} {post : Pst R} {d : D} {i : Nat} {x : Str}
/-- what a locked slot holds -/
theorem lkd_of {K : PySem.W.Frag} {Z : Ent} {F H : Hp} {O : Addr → Option Nat} {σ : St} {ds : List (D × D)} (ok : Ok K Z Γ F O H σ) (h : Γ[i]? = some (.lkd (.dict ds))) : ∃ a od, σ[i]? = some (some (.ref a)) ∧
    ((∃ kvs, (a, od, HO.dK kvs) ∈ Z.L ∧ H a = some (.frz od (.dK kvs)) ∧ RepK K F kvs ds) ∨ (∃ kvs, (a, od, HO.dT kvs) ∈ Z.L ∧ H a = some (.frz od (.dT kvs)) ∧ RepT K F kvs ds)) := by
  obtain ⟨a, od, u, e1, e2, r⟩ := ok.sl i _ h
  have hz := ok.zl _ e2
  refine ⟨a, od, e1, ?_⟩
  cases r with
  | dK h1 r =>
    rcases ok.fh.d (u := HO.dK _) trivial h1 with q | ⟨ob, q⟩
    · rw [hz] at q; cases q
    · rw [hz] at q; cases q
      exact .inl ⟨_, e2, hz, r⟩
  | dT h1 r =>
    rcases ok.fh.d (u := HO.dT _) trivial h1 with q | ⟨ob, q⟩
    · rw [hz] at q; cases q
    · rw [hz] at q; cases q
      exact .inr ⟨_, e2, hz, r⟩
theorem it_keys (h : Γ[i]? = some (.lkd d)) (hN : ∀ j, (f.X j).N[i]? = some x) (hv : ∀ j, Vis (f.X j).env.scope x)
    (hd : (x == ("__debug__" : Str)) = false := by decide) (hcd : (x == ("__classdict__" : Str)) = false := by decide) : ITX f Γ tg (.Name x pos) (lif (dKs d) : μ (List D)) := by
  refine ⟨iKeys (tVar i), fun j => pi_keys (pe_var (hN j) (hv j) hd hcd), fun Z F O H σ R ok q => ?_⟩
  obtain ⟨ks, ek, q⟩ := den_lif q
  cases d with
  | dict ds =>
    have ek' : (if ds.all (fun p => isK p.1) then some (ds.map (·.1)) else none) = some ks := ek
    split at ek'
    · rename_i hk
      cases ek'
      obtain ⟨a, od, e1, ⟨kvs, e2, e3, r⟩ | ⟨kvs, e2, e3, r⟩⟩ := lkd_of ok h
      · refine ⟨_, e1, a, od, rfl, .inl ⟨kvs, e3, q F H _ (.refl ok.fh) ⟨_, _, _, walk_keys, by simp [r.length], fun F1 H1 _ _ hl => hl _ e2, fun p F1 n H1 y H2 up fh hl hn hy => ?_⟩⟩⟩
        obtain ⟨rfl, k, v, e4, rfl⟩ := hy
        obtain ⟨dd, e5, _⟩ := repK_get r e4
        exact ⟨F1, keyD k, .refl fh, by simp [e5], rep_keyV k⟩
      · obtain ⟨rfl, rfl⟩ := repT_isK r hk
        exact ⟨_, e1, a, od, rfl, .inr ⟨[], e3, q F H _ (.refl ok.fh) ⟨_, _, _, walk_keysT, rfl, fun F1 H1 _ _ hl => hl _ e2, fun p F1 n H1 y H2 up fh hl hn hy => absurd hn (Nat.not_lt_zero _)⟩⟩⟩
    · cases ek'
  | _ => cases ek
theorem it_values {apos cpos : Pos} (h : Γ[i]? = some (.lkd d)) (hN : ∀ j, (f.X j).N[i]? = some x) (hv : ∀ j, Vis (f.X j).env.scope x)
    (hd : (x == ("__debug__" : Str)) = false := by decide) (hcd : (x == ("__classdict__" : Str)) = false := by decide) (hbase : ∀ j, attributeBase (.Name x pos) "values" (f.X j).env (eval (.Name x pos) (f.X j).env) = eval (.Name x pos) (f.X j).env := by intro _; rfl) (hline : (apos.endLine == cpos.line) = true := by rfl) :
    ITX f Γ tg (.Call (.Attribute (.Name x pos) "values" apos) [] [] cpos) (lif (dVs d) : μ (List D)) := by
  refine ⟨iVals (tVar i), fun j => pi_values (pe_var (hN j) (hv j) hd hcd) (hbase j) hline, fun Z F O H σ R ok q => ?_⟩
  obtain ⟨ks, ek, q⟩ := den_lif q
  cases d with
  | dict ds =>
    have ek' : (if (ds.all fun p => isK p.1) && !ds.isEmpty then some (ds.map (·.2)) else none) = some ks := ek
    split at ek'
    · rename_i hk
      obtain ⟨hk, hne⟩ := Bool.and_eq_true_iff.mp hk
      cases ek'
      obtain ⟨a, od, e1, ⟨kvs, e2, e3, r⟩ | ⟨kvs, e2, e3, r⟩⟩ := lkd_of ok h
      · refine ⟨_, e1, a, od, kvs, rfl, e3, q F H _ (.refl ok.fh) ⟨_, _, _, walk_values, by simp [r.length], fun F1 H1 _ _ hl => hl _ e2, fun p F1 n H1 y H2 up fh hl hn hy => ?_⟩⟩
        obtain ⟨rfl, k, e4⟩ := hy
        obtain ⟨dd, e5, r5⟩ := repK_get r e4
        exact ⟨F1, dd, .refl fh, by simp [e5], r5.up (FH.of_same up)⟩
      · obtain ⟨rfl, rfl⟩ := repT_isK r hk
        simp at hne
    · cases ek'
  | _ => cases ek
theorem it_items {apos cpos tpos : Pos} {elts : List Expr} {kk : Nat} (h : Γ[i]? = some (.lkd d)) (hN : ∀ j, (f.X j).N[i]? = some x) (hv : ∀ j, Vis (f.X j).env.scope x)
    (hd : (x == ("__debug__" : Str)) = false := by decide) (hcd : (x == ("__classdict__" : Str)) = false := by decide) (hbase : ∀ j, attributeBase (.Name x pos) "items" (f.X j).env (eval (.Name x pos) (f.X j).env) = eval (.Name x pos) (f.X j).env := by intro _; rfl) (hline : (apos.endLine == cpos.line) = true := by rfl) :
    ITX f Γ (.Tuple elts kk tpos) (.Call (.Attribute (.Name x pos) "items" apos) [] [] cpos) (lif (dIt d) : μ (List D)) := by
  refine ⟨iItems (tVar i), fun j => pi_items (pe_var (hN j) (hv j) hd hcd) (hbase j) hline, fun Z F O H σ R ok q => ?_⟩
  obtain ⟨ks, ek, q⟩ := den_lif q
  cases d with
  | dict ds =>
    have ek' : (if (ds.all fun p => isK p.1) && !ds.isEmpty then some (ds.map fun p => (.tuple [p.1, p.2] : D)) else none) = some ks := ek
    split at ek'
    · rename_i hk
      obtain ⟨hk, hne⟩ := Bool.and_eq_true_iff.mp hk
      cases ek'
      obtain ⟨a, od, e1, ⟨kvs, e2, e3, r⟩ | ⟨kvs, e2, e3, r⟩⟩ := lkd_of ok h
      · refine ⟨_, e1, a, od, kvs, rfl, e3, q F H _ (.refl ok.fh) ⟨_, _, _, walk_items, by simp [r.length], fun F1 H1 _ _ hl => hl _ e2, fun p F1 n H1 y H2 up fh hl hn hy => ?_⟩⟩
        obtain ⟨t, y1, y2, rfl, e4, rfl, e5, e6⟩ := hy
        dsimp only at e5 e6
        cases e7 : kvs[n]? with
        | none => rw [e7] at e5; cases e5
        | some kv =>
          obtain ⟨k, v⟩ := kv
          rw [e7] at e5 e6
          cases e5
          cases e6
          obtain ⟨dd, e8, r8⟩ := repK_get r e7
          have g : Grow f.K p F1 H1 (upd F1 t (.tup [kV k, v])) (upd H1 t (.tup [kV k, v])) := .new fh e4
          exact ⟨_, _, g, by simp [e8], .tup upd_same (.cons (rep_keyV k) (.cons ((r8.up (FH.of_same up)).up g.up) .nil))⟩
      · obtain ⟨rfl, rfl⟩ := repT_isK r hk
        simp at hne
    · cases ek'
  | _ => cases ek
end
/-! a dict locked -/
section
variable {K : PySem.W.Frag} {Z : Ent} {Γ : List Slot} {F F' H H' : Hp} {O O' : Addr → Option Nat} {σ σ' : St} {ds : List (D × D)} {i : Nat} {a : Addr} {od : Obj} {u : HO}
/-- a frozen dict, as it stands in the heap: locked, or not -/
theorem dict_at (ok : Ok K Z Γ F O H σ) (h : Γ[i]? = some (.val (.dict ds))) : ∃ a, σ[i]? = some (some (.ref a)) ∧ Rep K F (.ref a) (.dict ds) ∧
    ((∃ od u, H a = some (.frz od u)) ∨ ∃ u, isD u ∧ F a = some u ∧ H a = some u) := by
  obtain ⟨v, e, r⟩ := ok.sl i _ h
  have key : ∀ {a : Addr} {u : HO}, isD u → Rd F a u → (∃ od u, H a = some (.frz od u)) ∨ ∃ u, isD u ∧ F a = some u ∧ H a = some u := fun {a u} hu hr => by
    rcases hr with q | ⟨o, q⟩
    · rcases ok.fh a _ q with z | ⟨_, ob, z⟩
      · exact .inr ⟨u, hu, q, z⟩
      · exact .inl ⟨ob, u, z⟩
    · rcases ok.fh a _ q with z | ⟨z, _⟩
      · exact .inl ⟨o, u, z⟩
      · exact z.elim
  cases r with
  | dK h1 r => exact ⟨_, e, .dK h1 r, key (u := HO.dK _) trivial h1⟩
  | dT h1 r => exact ⟨_, e, .dT h1 r, key (u := HO.dT _) trivial h1⟩
/-- one lock more -/
def Ent.lk (Z : Ent) (q : Addr × Obj × HO) : Ent := { Z with L := q :: Z.L }
theorem isD_ne {u : HO} (h : isD u) {od : Obj} {v : HO} : u ≠ .frz od v := fun e => by rw [e] at h; exact h
theorem Ok.lock0 (ok : Ok K Z Γ F O H σ) (hL : H a = some (.frz od u)) {d : D} (hi : σ[i]? = some (some (.ref a))) (r : Rep K F (.ref a) d) (hl : i < Γ.length) : Ok K (Z.lk (a, od, u)) (Γ.set i (.lkd d)) F O H σ where
  fh := ok.fh
  zf := ok.zf
  zn := ok.zn
  zh := fun b o h n q => ok.zh b o h n fun z hz => q z (List.mem_cons_of_mem _ hz)
  zd := ok.zd
  zl := fun q hq => by
    rcases List.mem_cons.mp hq with e | hq
    · subst e; exact hL
    · exact ok.zl q hq
  zo := ok.zo
  fo := ok.fo
  ho := ok.ho
  po := ok.po
  pl := ok.pl
  ln := by simp [ok.ln]
  sl := fun j s e => by
    by_cases hj : i = j
    · subst hj
      rw [List.getElem?_set_self hl] at e
      cases e
      exact ⟨a, od, u, hi, List.mem_cons_self .., r⟩
    · rw [List.getElem?_set_ne hj] at e
      exact SlotOk.ent (Z := Z) (Z' := Z.lk (a, od, u)) rfl (fun q hq => List.mem_cons_of_mem _ hq) (ok.sl j s e)
theorem Ok.lock1 (ok : Ok K Z Γ F O H σ) (hu : isD u) (hF : F a = some u) (hH : H a = some u) : Ok K (Z.lk (a, od, u)) Γ F O (upd H a (.frz od u)) σ where
  fh := fun b o e => by
    by_cases z : b = a
    · subst z
      rw [hF] at e; cases e
      exact .inr ⟨hu, od, upd_same⟩
    · rw [upd_ne z]; exact ok.fh b o e
  zf := ok.zf
  zn := ok.zn
  zh := fun b o h n q => by
    have z : b ≠ a := fun z => q _ (List.mem_cons_self ..) z.symm
    rw [upd_ne z]
    exact ok.zh b o h n fun y hy => q y (List.mem_cons_of_mem _ hy)
  zd := fun b h => by
    by_cases z : b = a
    · rw [z, upd_same]; exact fun e => nomatch e
    · rw [upd_ne z]; exact ok.zd b h
  zl := fun q hq => by
    rcases List.mem_cons.mp hq with e | hq
    · subst e; exact upd_same
    · have := ok.zl q hq
      rw [upd_ne (fun z => by rw [z, hH] at this; cases this; exact hu)]; exact this
  zo := ok.zo
  fo := ok.fo
  ho := fun b h => by
    by_cases z : b = a
    · rw [z, upd_same] at h; cases h
    · rw [upd_ne z] at h; exact ok.ho b h
  po := ok.po
  pl := fun b e => by
    obtain ⟨h1, sa, i1, j1, k1, ns, h2, h3⟩ := ok.pl b e
    have z : b ≠ a := fun z => by rw [z, hF] at h1; cases h1
    exact ⟨h1, sa, i1, j1, k1, ns, by rw [upd_ne z]; exact h2, h3⟩
  ln := ok.ln
  sl := fun j s e => by
    have ha : O a = none := ok.fo a (ne_none_of hF)
    have q := ok.sl j s e
    cases s with
    | any => trivial
    | val d => exact q
    | lkd d => obtain ⟨x, o2, u2, e1, e2, r⟩ := q; exact ⟨x, o2, u2, e1, List.mem_cons_of_mem _ e2, r⟩
    | own d =>
      obtain ⟨l, e1, e2, n⟩ := q
      have z : l ≠ a := fun z => by rw [z, ha] at e2; cases e2
      exact ⟨l, e1, e2, n.mono (FH.of_same fun _ _ h => h) fun o h => by rw [upd_ne z]; exact h⟩
    | top d =>
      obtain ⟨x, e1, t⟩ := q
      refine ⟨x, e1, ?_⟩
      rcases t with r | ⟨l, e2, e3, e4, n⟩
      · exact .inl r
      · by_cases z : l = a
        · subst z e2
          left
          cases d with
          | list ds => obtain ⟨xs, h1, r⟩ := n; rw [hH] at h1; cases h1; exact hu.elim
          | dict ds =>
            rcases n with ⟨kvs, h1, r⟩ | ⟨kvs, h1, r⟩
            · rw [hH] at h1; cases h1; exact .dK (.inl hF) r
            · rw [hH] at h1; cases h1; exact .dT (.inl hF) r
          | _ => exact n.elim
        · exact .inr ⟨l, e2, e3, e4, n.mono (FH.of_same fun _ _ h => h) fun o h => by rw [upd_ne z]; exact h⟩
    | pool => exact q
/-- unlocked again -/
theorem Bk.unlock (ok : Ok K Z Γ F O H σ) (hu : isD u) (hF : F a = some u) (hH : H a = some u) (b : Bk K ((rebase Z F H).lk (a, od, u)) F' O' H') : Bk K (rebase Z F H) F' O' (upd H' a u) := by
  have hF' : F' a = some u := b.zf a u hF
  have hH' : H' a = some (.frz od u) := b.zl _ (List.mem_cons_self ..)
  have hO' : O' a = none := b.fo a (ne_none_of hF')
  refine { fh := fun c o e => ?_, zf := b.zf, zn := b.zn, zh := fun c o h n q => ?_, zd := fun c h => ?_, zl := fun q hq => ?_, zo := b.zo, fo := b.fo, ho := fun c h => ?_, po := b.po, pl := fun c e => ?_ }
  · by_cases z : c = a
    · subst z; rw [hF'] at e; cases e; exact .inl upd_same
    · rw [upd_ne z]; exact b.fh c o e
  · by_cases z : c = a
    · subst z
      have := (reb_H h).1
      rw [hH] at this; cases this
      exact upd_same
    · rw [upd_ne z]
      refine b.zh c o h n fun y hy => ?_
      rcases List.mem_cons.mp hy with e | hy
      · subst e; exact fun e => z e.symm
      · exact q y hy
  · by_cases z : c = a
    · rw [z, upd_same]; exact fun e => nomatch e
    · rw [upd_ne z]; exact b.zd c h
  · have h1 := ok.zl q hq
    have z : q.1 ≠ a := fun z => by rw [z, hH] at h1; cases h1; exact hu
    rw [upd_ne z]
    exact b.zl q (List.mem_cons_of_mem _ hq)
  · by_cases z : c = a
    · rw [z, upd_same] at h; cases h
    · rw [upd_ne z] at h; exact b.ho c h
  · obtain ⟨h1, sa, i1, j1, k1, ns, h2, h3⟩ := b.pl c e
    have z : c ≠ a := fun z => by rw [z, hF'] at h1; cases h1
    exact ⟨h1, sa, i1, j1, k1, ns, by rw [upd_ne z]; exact h2, h3⟩
/-- no slot is locked -/
def NoL (Γ : List Slot) : Prop := ∀ (j : Nat) (d : D), Γ[j]? ≠ some (.lkd d)
theorem Ok.unlock {Γf : List Slot} (ok : Ok K Z Γ F O H σ) (hu : isD u) (hF : F a = some u) (hH : H a = some u) (hn : NoL Γf) (b : Ok K ((rebase Z F H).lk (a, od, u)) Γf F' O' H' σ') : Ok K (rebase Z F H) Γf F' O' (upd H' a u) σ' := by
  have hF' : F' a = some u := b.zf a u hF
  have hH' : H' a = some (.frz od u) := b.zl _ (List.mem_cons_self ..)
  have hO' : O' a = none := b.fo a (ne_none_of hF')
  refine { toBk := Bk.unlock ok hu hF hH b.toBk, ln := b.ln, sl := fun j s e => ?_ }
  have q := b.sl j s e
  cases s with
  | any => trivial
  | val d => exact q
  | lkd d => exact absurd e (hn j d)
  | own d =>
    obtain ⟨l, e1, e2, n⟩ := q
    have z : l ≠ a := fun z => by rw [z, hO'] at e2; cases e2
    exact ⟨l, e1, e2, n.mono (FH.of_same fun _ _ h => h) fun o h => by rw [upd_ne z]; exact h⟩
  | top d =>
    obtain ⟨x, e1, t⟩ := q
    refine ⟨x, e1, ?_⟩
    rcases t with r | ⟨l, e2, e3, e4, n⟩
    · exact .inl r
    · have z : l ≠ a := fun z => by
        subst z
        obtain ⟨o, e5⟩ := n.here
        cases d with
        | list ds => obtain ⟨xs, h1, r⟩ := n; rw [hH'] at h1; cases h1
        | dict ds => rcases n with ⟨kvs, h1, r⟩ | ⟨kvs, h1, r⟩ <;> (rw [hH'] at h1; cases h1)
        | _ => exact n.elim
      exact .inr ⟨l, e2, e3, e4, n.mono (FH.of_same fun _ _ h => h) fun o h => by rw [upd_ne z]; exact h⟩
  | pool => exact q
theorem isD_mut {u : HO} (h : isD u) : Mut (some u) := by
  cases u <;> first | trivial | exact h.elim
end
section
variable {ι : Type} {μ : Type → Type} [PM μ] [PX μ] {f : Fam ι} {T : Ends → Prop} {Γ : List Slot} {e tg : Expr} {m : μ D} {pos : Pos} {R S : Type} {post : Pst R} {d : D} {i : Nat} {x : Str} {st : Stmt} {ds : List (D × D)}
/-- an expression that makes a new node walks over a dict -/
theorem en_lock (h : Γ[i]? = some (.val (.dict ds))) (he : EXN f (Γ.set i (.lkd (.dict ds))) e m) : EXN f Γ e m := by
  obtain ⟨t, h1, h2⟩ := he
  refine ⟨fun σ H Q => tLockE t σ H Q ∨ t σ H Q, fun j => ⟨fun pins s σ H Q I q => ?_⟩, fun Z F O H σ Q ok q => ?_⟩
  · rcases q with q | q
    · exact (pe_lock (h1 j)).run pins s σ H Q I q
    · exact (h1 j).run pins s σ H Q I q
  · have hl := lt_of_get h
    obtain ⟨a, e1, r, ⟨od, u, hH⟩ | ⟨u, hu, hF, hH⟩⟩ := dict_at ok h
    · exact .inr (h2 _ F O H σ Q (ok.lock0 hH e1 r hl) q)
    · refine .inl ⟨a, u, hH, isD_mut hu, fun od => ?_⟩
      have ok1 := (ok.reb.lock1 (od := od) hu hF hH).lock0 upd_same e1 r hl
      refine h2 _ F O _ σ _ ok1 (den_mono (fun d hq l F' H' g hn hf n => ?_) q)
      have hF' : F' a = some u := g.ff a u hF
      have hla : l ≠ a := fun z => by rw [z, hF'] at hf; cases hf
      have hH' : H' a = some (.frz od u) := g.hh a _ upd_same fun z => by
        obtain ⟨h1, _⟩ := ok.pl a z
        rw [hF] at h1; cases h1
      refine ⟨hH', hq l F' (upd H' a u) ?_ (by rw [upd_ne hla] at hn; exact hn) hf (n.mono (FH.of_same fun _ _ h => h) fun o h => by rw [upd_ne hla]; exact h)⟩
      refine { ff := g.ff, nw := fun b hb => g.nw b ?_, hh := fun b o e n => ?_, dm := fun b hb => ?_, fh := fun b o e => ?_, pl := fun q => ?_ }
      · by_cases z : b = a
        · rw [z, upd_same]; exact fun e => nomatch e
        · rw [upd_ne z]; exact hb
      · by_cases z : b = a
        · subst z; rw [hH] at e; cases e; exact upd_same
        · rw [upd_ne z]; exact g.hh b o (by rw [upd_ne z]; exact e) n
      · by_cases z : b = a
        · rw [z, upd_same]; exact fun e => nomatch e
        · rw [upd_ne z]; exact g.dm b (by rw [upd_ne z]; exact hb)
      · by_cases z : b = a
        · subst z; rw [hF'] at e; cases e; exact .inl upd_same
        · rw [upd_ne z]; exact g.fh b o e
      · intro b e
        have q1 : PoolOk f.K F (upd H a (.frz od u)) Z.p := fun b e => by
          obtain ⟨h1, sa, i1, j1, k1, ns, h2, h3⟩ := q b e
          have z : b ≠ a := fun z => by rw [z, hF] at h1; cases h1
          exact ⟨h1, sa, i1, j1, k1, ns, by rw [upd_ne z]; exact h2, h3⟩
        obtain ⟨h1, sa, i1, j1, k1, ns, h2, h3⟩ := g.pl q1 b e
        have z : b ≠ a := fun z => by rw [z, hF'] at h1; cases h1
        exact ⟨h1, sa, i1, j1, k1, ns, by rw [upd_ne z]; exact h2, h3⟩
theorem SX.le {Γf Γf' : S → List Slot} {m : μ S} (h : SX f T Γ st m (pFall f.K Γf)) (hl : ∀ s, Le (Γf s) (Γf' s)) : SX f T Γ st m (pFall f.K Γf') := by
  obtain ⟨t, h1, h2⟩ := h
  exact ⟨t, h1, fun Z F O H σ E hT ok q => h2 Z F O H σ E hT ok (den_mono (fun s h F' O' H' σ' bk ok' => h F' O' H' σ' bk (ok'.le (hl s))) q)⟩
/-- a statement walks over a dict -/
def tLk (t : TS) : TS := fun D σ H => tLock t D σ H ∨ t D σ H
theorem ps_lk {X : Cx} {t : TS} (h : PS X st t) : PS X st (tLk t) := by
  refine ⟨fun pins s σ H D I q => ?_⟩
  rcases q with q | q
  · exact (ps_lock h).run pins s σ H D I q
  · exact h.run pins s σ H D I q
theorem sx_lock {Γf : S → List Slot} {m : μ S} (h : Γ[i]? = some (.val (.dict ds))) (he : SX f tAny (Γ.set i (.lkd (.dict ds))) st m (pFall f.K Γf)) (hn : ∀ s, NoL (Γf s)) : SX f T Γ st m (pFall f.K Γf) := by
  obtain ⟨t, h1, h2⟩ := he
  refine ⟨tLk t, fun j => ps_lk (h1 j), fun Z F O H σ E hT ok q => ?_⟩
  have hl := lt_of_get h
  obtain ⟨a, e1, r, ⟨od, u, hH⟩ | ⟨u, hu, hF, hH⟩⟩ := dict_at ok h
  · refine .inr (h2 _ F O H σ E trivial (ok.lock0 hH e1 r hl) (den_mono (fun s hq F' O' H' σ' bk ok' => ?_) q))
    have ok2 : Ok f.K Z (Γf s) F' O' H' σ' := by
      refine { fh := ok'.fh, zf := ok'.zf, zn := ok'.zn, zh := fun b o h n q => ?_, zd := ok'.zd, zl := fun q hq => ok'.zl q (List.mem_cons_of_mem _ hq), zo := ok'.zo, fo := ok'.fo, ho := ok'.ho, po := ok'.po, pl := ok'.pl, ln := ok'.ln, sl := fun j s' e => ?_ }
      · by_cases z : b = a
        · subst z
          have := ok.zh b o h n q
          rw [hH] at this; cases this
          exact ok'.zl _ (List.mem_cons_self ..)
        · refine ok'.zh b o h n fun y hy => ?_
          rcases List.mem_cons.mp hy with e | hy
          · subst e; exact fun e => z e.symm
          · exact q y hy
      · have q := ok'.sl j s' e
        cases s' with
        | lkd d => exact absurd e (hn s j d)
        | _ => exact q
    exact hq F' O' H' σ' ok2.toBk ok2
  · refine .inl ⟨a, u, hH, isD_mut hu, fun od => ?_⟩
    have ok1 := (ok.reb.lock1 (od := od) hu hF hH).lock0 upd_same e1 r hl
    have ok1' : Ok f.K ((rebase Z F H).lk (a, od, u)) (Γ.set i (.lkd (.dict ds))) F O (upd H a (.frz od u)) σ := by
      refine { toBk := (ok.reb.lock1 (od := od) hu hF hH).toBk, ln := ok1.ln, sl := fun j s e => SlotOk.ent (Z := ((rebase Z F H).lk (a, od, u)).lk (a, od, u)) (Z' := (rebase Z F H).lk (a, od, u)) rfl (fun q hq => ?_) (ok1.sl j s e) }
      rcases List.mem_cons.mp hq with e | hq
      · rw [e]; exact List.mem_cons_self ..
      · exact hq
    refine h2 _ F O _ σ _ trivial ok1' (den_mono (fun s hq F' O' H' σ' bk ok' => ?_) q)
    have ok2 := Ok.back ok.toBk (Ok.unlock ok hu hF hH (hn s) ok')
    exact ⟨ok'.zl _ (List.mem_cons_self ..), hq F' O' _ σ' ok2.toBk ok2⟩
/-- .. that may return -/
theorem sx_lockM {Γf : S → List Slot} {m0 : μ (Sum S D)} {inj : D → R} (hr : RetIn f.K post inj) (h : Γ[i]? = some (.val (.dict ds))) (he : SX f tAny (Γ.set i (.lkd (.dict ds))) st (bnd m0 fun r => pur (injS (fun d => d) r)) (pMix f.K Γf (pRet f.K))) (hn : ∀ s, NoL (Γf s)) :
    SX f T Γ st (bnd m0 fun r => pur (injS inj r)) (pMix f.K Γf post) := by
  obtain ⟨t, h1, h2⟩ := he
  refine ⟨tLk t, fun j => ps_lk (h1 j), fun Z F O H σ E hT ok q => ?_⟩
  have hl := lt_of_get h
  have q := den_bnd q
  obtain ⟨a, e1, r, ⟨od, u, hH⟩ | ⟨u, hu, hF, hH⟩⟩ := dict_at ok h
  · refine .inr (h2 _ F O H σ E trivial (ok.lock0 hH e1 r hl) (den_bnd' (den_mono (fun s hq => den_pur' ?_) q)))
    have hq := den_pur hq
    have fixB : ∀ {F' : Hp} {O' : Addr → Option Nat} {H' : Hp}, Bk f.K (Z.lk (a, od, u)) F' O' H' → Bk f.K Z F' O' H' := fun {F' O' H'} ok' => by
      refine { fh := ok'.fh, zf := ok'.zf, zn := ok'.zn, zh := fun b o h n q => ?_, zd := ok'.zd, zl := fun q hq => ok'.zl q (List.mem_cons_of_mem _ hq), zo := ok'.zo, fo := ok'.fo, ho := ok'.ho, po := ok'.po, pl := ok'.pl }
      by_cases z : b = a
      · subst z
        have := ok.zh b o h n q
        rw [hH] at this; cases this
        exact ok'.zl _ (List.mem_cons_self ..)
      · refine ok'.zh b o h n fun y hy => ?_
        rcases List.mem_cons.mp hy with e | hy
        · subst e; exact fun e => z e.symm
        · exact q y hy
    cases s with
    | inl s =>
      intro F' O' H' σ' bk ok'
      have hsl : ∀ (j : Nat) (s' : Slot), (Γf s)[j]? = some s' → SlotOk f.K Z F' O' H' j s' σ'[j]? := fun j s' e => by
        have q := ok'.sl j s' e
        cases s' with
        | lkd d => exact absurd e (hn s j d)
        | _ => exact q
      have ok2 : Ok f.K Z (Γf s) F' O' H' σ' := { toBk := fixB ok'.toBk, ln := ok'.ln, sl := hsl }
      exact hq F' O' H' σ' ok2.toBk ok2
    | inr d =>
      intro F' O' H' σ' bk v rv
      exact hr d Z F' O' H' σ' E v (hq F' O' H' σ' (fixB bk)) rv
  · refine .inl ⟨a, u, hH, isD_mut hu, fun od => ?_⟩
    have ok1 := (ok.reb.lock1 (od := od) hu hF hH).lock0 upd_same e1 r hl
    have ok1' : Ok f.K ((rebase Z F H).lk (a, od, u)) (Γ.set i (.lkd (.dict ds))) F O (upd H a (.frz od u)) σ := by
      refine { toBk := (ok.reb.lock1 (od := od) hu hF hH).toBk, ln := ok1.ln, sl := fun j s e => SlotOk.ent (Z := ((rebase Z F H).lk (a, od, u)).lk (a, od, u)) (Z' := (rebase Z F H).lk (a, od, u)) rfl (fun q hq => ?_) (ok1.sl j s e) }
      rcases List.mem_cons.mp hq with e | hq
      · rw [e]; exact List.mem_cons_self ..
      · exact hq
    refine h2 _ F O _ σ _ trivial ok1' (den_bnd' (den_mono (fun s hq => den_pur' ?_) q))
    have hq := den_pur hq
    cases s with
    | inl s =>
      intro F' O' H' σ' bk ok'
      have ok2 := Ok.back ok.toBk (Ok.unlock ok hu hF hH (hn s) ok')
      exact ⟨ok'.zl _ (List.mem_cons_self ..), hq F' O' _ σ' ok2.toBk ok2⟩
    | inr d =>
      intro F' O' H' σ' bk v rv
      have b2 := ok.toBk.back (Bk.unlock ok hu hF hH bk)
      exact ⟨bk.zl _ (List.mem_cons_self ..), hr d Z F' O' _ σ' E v (hq F' O' _ σ' b2) rv⟩
def noLB : List Slot → Bool
  | [] => true
  | .lkd _ :: _ => false
  | _ :: l => noLB l
theorem noL_of : ∀ {l : List Slot}, noLB l = true → NoL l
  | [], _ => fun j d e => by simp at e
  | s :: l, h => fun j d e => by
    cases j with
    | zero =>
      simp at e
      subst e
      cases h
    | succ j =>
      have h' : noLB l = true := by
        cases s <;> first | exact h | cases h
      exact noL_of h' j d (by simpa using e)
def dictM {α : Type} (d : D) (m : μ α) : μ α := match d with
  | .dict _ => m
  | _ => lif none
theorem en_lockD (h : Γ[i]? = some (.val d)) (he : EXN f (Γ.set i (.lkd d)) e m) : EXN f Γ e (dictM d m) := by
  cases d with
  | dict ds => exact en_lock h he
  | _ => exact ⟨fun _ _ _ => False, fun _ => ⟨fun _ _ _ _ _ _ h => h.elim⟩, fun Z F O H σ Q ok q => by obtain ⟨_, z, _⟩ := den_lif q; cases z⟩
theorem sx_lockD {Γf : S → List Slot} {m : μ S} (h : Γ[i]? = some (.val d)) (he : SX f tAny (Γ.set i (.lkd d)) st m (pFall f.K Γf)) (hn : ∀ s, NoL (Γf s)) : SX f T Γ st (dictM d m) (pFall f.K Γf) := by
  cases d with
  | dict ds => exact sx_lock h he hn
  | _ => exact ⟨fun _ _ _ => False, fun _ => ⟨fun _ _ _ _ _ _ h => h.elim⟩, fun Z F O H σ Q _ ok q => by obtain ⟨_, z, _⟩ := den_lif q; cases z⟩
theorem gx_forCL {tg iter : Expr} {A : Type} {ml : μ (List D)} {rest : List Stmt} {sel : D → Option A} {up : A → List Slot → List Slot} {is : List Nat} {body : List Stmt} {Γf : S → List Slot} {s0 : S} {mb : S → A → μ (Ctl S)} {inj : D → R} {k : S → μ R} (h : Γ[i]? = some (.val d)) (hx : NxFree' post) (hr : RetIn f.K post inj)
    (hi : ITX f (Γ.set i (.lkd d)) tg iter ml) (ht : TGX f tg sel up is) (h0 : Le (Γ.set i (.lkd d)) (Γf s0)) (hl : ∀ s, ∀ i ∈ is, i < (Γf s).length)
    (hb : ∀ s x, GX f tLoop (up x (Γf s)) body (mb s x) (pCtl f.K Γf)) (hn : ∀ s, NoL (Γf s)) (h2 : ∀ s, GX f T (Γf s) rest (k s) post) (hp : ∀ i, PassesOwn (model (f.X i).prog (f.X i).w) (f.X i).A (f.X i).env (f.X i).xe := by intro _; exact PassesOwn.never)
    (hs : ∀ i x, foldedSetIterable iter (f.X i).env x = pure x := by intro _ _; rfl) :
    GX f T Γ (.For tg iter body [] pos :: rest) (bnd (dictM d (forC sel ml s0 mb)) (behind inj k)) post := by
  cases d with
  | dict ds =>
    obtain ⟨t, h1, h3⟩ := gx_seqM hx (sx_lockM (T := tAny) hr h (sx_frC (T := tAny) (pos := pos) ret_ret hi ht h0 hl hb hp hs) hn) h2
    refine ⟨t, h1, fun Z F O H σ E hT ok q => h3 Z F O H σ E hT ok ?_⟩
    refine den_bnd' (den_bnd' (den_mono (fun r h => ?_) (den_bnd q)))
    cases r with
    | inl s => exact den_pur' h
    | inr d => exact den_pur' h
  | _ => exact ⟨fun _ _ _ => False, fun _ => ⟨fun _ _ _ _ _ _ h => h.elim⟩, fun Z F O H σ Q _ ok q => by obtain ⟨_, z, _⟩ := den_lif (den_bnd q); cases z⟩
end
end Y

set_option maxRecDepth 100000
set_option maxHeartbeats 1000000
namespace Y
open PySem L2 PM PX
section
variable {ι : Type} {μ : Type → Type} [PM μ] [PX μ] {f : Fam ι} {Γ : List Slot} {pos : Pos}
/-- {} -/
theorem en_dict0 : EXN f Γ (.Dict [] [] pos) (pur (.dict []) : μ D) := by
  refine ⟨tDNewK, fun _ => pe_dnewK, fun Z F O H σ Q ok q p hp => ?_⟩
  have q' := den_pur q
  exact q' p F _ (.raw ok.fh hp) hp (ok.fh.dom hp) (.inl ⟨[], upd_same, .nil⟩)
end
/-! sorted(xs), the items alike -/
def alikeB (ds : List D) : Bool := ds.all fun a => ds.all fun b => PySem.W.alike a b
def tupB : D → Bool
  | .tuple (_ :: _) => true
  | _ => false
def plnB : D → Bool
  | .none => false
  | .tuple _ => false
  | _ => true
def srtB (ds : List D) : Bool := (ds.all tupB || ds.all plnB) && (alikeB ds && (ds.all fun d => SeqAt.shaped d))
def srtD (ds : List D) : List D := ds.mergeSort (PySem.W.dataLe false id)
def dSorted : D → Option D
  | .list ds => if ds.length < 16000000 ∧ srtB ds = true then some (.list (srtD ds)) else none
  | _ => none
def rSortD (K : PySem.W.Frag) : List V → Hp → VK → Prop := fun vs H Q => ∃ (a : Addr) (xs : List V) (ds : List D), vs = [.ref a] ∧ SqL K H a xs ∧ DpAll K H xs ds ∧ ds.length ≤ sizeLine ∧ srtB ds = true ∧
  ∀ p, H p = none → Q (.ref p) (upd H p (.lst (((xs.zip ds).mergeSort (PySem.W.dataLe false (fun b => b.2))).map (·.1))))
theorem dpAll_len {K : PySem.W.Frag} {H : Hp} : ∀ {xs : List V} {ds : List D}, DpAll K H xs ds → xs.length = ds.length
  | _, _, .nil => rfl
  | _, _, .cons _ t => by simp [dpAll_len t]
theorem zip_rel {K : PySem.W.Frag} {H : Hp} : ∀ {xs : List V} {ds : List D} {us : List Value}, DpAll K H xs ds → Vals xs us → PySem.W.EachIs (fun (v : Value) (b : V × D) => RelV b.1 v) us (xs.zip ds)
  | _, _, _, .nil, .nil => .nil
  | _, _, _, .cons _ t, .cons r s => .cons r (zip_rel t s)
theorem zip_reads {X : Cx} {pins : List (Addr × Obj)} {σ : St} {H : Hp} {s : Shared} (I : Inv X pins σ H s) : ∀ {xs : List V} {ds : List D} {us : List Value}, DpAll X.K H xs ds → Vals xs us → PySem.W.EachIs (fun (v : Value) (b : V × D) => ∃ as, Reads s.heap v b.2 as) us (xs.zip ds)
  | _, _, _, .nil, .nil => .nil
  | _, _, _, .cons d t, .cons r s => .cons (Dp.reads I _ _ _ d r) (zip_reads I t s)
theorem each_vals : ∀ {us : List Value} {bs : List (V × D)}, PySem.W.EachIs (fun (v : Value) (b : V × D) => RelV b.1 v) us bs → Vals (bs.map (·.1)) us
  | _, _, .nil => .nil
  | _, _, .cons r t => .cons r (each_vals t)
theorem zip_snd {α β : Type} : ∀ {xs : List α} {ys : List β}, xs.length = ys.length → (xs.zip ys).map (·.2) = ys
  | [], [], _ => rfl
  | x :: xs, y :: ys, h => by
    have := zip_snd (xs := xs) (ys := ys) (by simpa using h)
    simp [this]
theorem cr_sortD {X : Cx} (hu : X.A.units + 130 < cLine) : CallR X (.builtin "sorted") (rSortD X.K) := by
  intro pins s σ H vs us Q I r h
  obtain ⟨a, xs, ds, rfl, hs, hd, hL, hB, q⟩ := h
  obtain ⟨its, rv, hl, hz⟩ := I.list hs
  rw [Vals.ref1 r]
  have hlen := dpAll_len hd
  have e2 : (xs.zip ds).map (·.2) = ds := zip_snd hlen
  obtain ⟨b1, b2⟩ := Bool.and_eq_true_iff.mp (show ((ds.all tupB || ds.all plnB) && (alikeB ds && (ds.all fun d => SeqAt.shaped d))) = true from hB)
  obtain ⟨b3, b4⟩ := Bool.and_eq_true_iff.mp b2
  refine PySem.W.sorted_data (enc := fun b : V × D => b.2) hl.isList (zip_rel hd rv) (zip_reads I hd rv) ?_ ?_ ?_ ?_ fun out h1 h2 => ?_
  · rw [e2]
    intro d hd d' hd'
    exact List.all_eq_true.mp (List.all_eq_true.mp b3 d hd) d' hd'
  · rw [e2]
    rcases Bool.or_eq_true_iff.mp b1 with b | b
    · left
      intro d hd
      have := List.all_eq_true.mp b d hd
      cases d with
      | tuple l => cases l with
        | nil => cases this
        | cons x l => exact ⟨x, l, rfl⟩
      | _ => cases this
    · right
      intro d hd
      have := List.all_eq_true.mp b d hd
      cases d with
      | none => cases this
      | tuple l => cases this
      | _ => exact ⟨(fun z => by cases z), (fun _ z => by cases z)⟩
  · rw [List.length_zip]; omega
  · intro b hb
    have : b.2 ∈ ds := by rw [← e2]; exact List.mem_map_of_mem hb
    have := SeqAt.depth_of_shaped (List.all_eq_true.mp b4 b.2 this)
    omega
  · obtain ⟨ep, he⟩ := PyProof.Rows.sortedAll_at s.heap its out.toArray
    refine ⟨.ref _, upd H (s.heap.objs.size + 1) (.lst (((xs.zip ds).mergeSort (PySem.W.dataLe false (fun b => b.2))).map (·.1))), I.laid (t' := s.toks) (fun _ _ => PyProof.Rows.sortedAll_old) (Nat.le_succ _) ⟨?_, out, ep, each_vals h2, he⟩, rfl, q _ (I.hok.fresh (Nat.le_succ _))⟩
    rw [List.length_map, List.length_mergeSort, List.length_zip]
    omega
section
variable {K : PySem.W.Frag}
theorem reps_pairs {F : Hp} : ∀ {xs : List V} {ds : List D}, Reps K F xs ds → ∀ p ∈ xs.zip ds, Rep K F p.1 p.2
  | _, _, .nil, p, h => by simp at h
  | _, _, .cons r t, p, h => by
    simp at h
    rcases h with rfl | h
    · exact r
    · exact reps_pairs t p h
theorem pairs_reps {F : Hp} : ∀ {bs : List (V × D)}, (∀ p ∈ bs, Rep K F p.1 p.2) → Reps K F (bs.map (·.1)) (bs.map (·.2))
  | [], _ => .nil
  | b :: bs, h => .cons (h b (by simp)) (pairs_reps fun p hp => h p (by simp [hp]))
theorem rc_sortD : RCall K [.top] (rSortD K) (dop1 dSorted) := rcall1 fun p F H v d z Q fh t ez q => by
  cases d with
  | list ds =>
    have ez' : (if ds.length < 16000000 ∧ srtB ds = true then some (.list (srtD ds) : D) else none) = some z := ez
    split at ez'
    · rename_i hc
      cases ez'
      obtain ⟨l, xs, rfl, h1, r⟩ := t.list fh
      have hsh : ∀ d ∈ ds, d.canLay0 = true := fun d hd => SeqAt.canLay_of_shaped (List.all_eq_true.mp (Bool.and_eq_true_iff.mp (Bool.and_eq_true_iff.mp hc.2).2).2 d hd)
      have cl : PyData.canLayAll0 ds = true := by
        clear ez t r hc h1 q
        induction ds with
        | nil => rfl
        | cons d ds ih => simp [PyData.canLayAll0, hsh d (by simp), ih fun e he => hsh e (by simp [he])]
      refine ⟨l, xs, ds, rfl, SqL.of h1, reps_dp (r.up fh) cl, big_le hc.1, hc.2, fun a ha => ?_⟩
      have g : Grow K p F H (upd F a (.lst (((xs.zip ds).mergeSort (PySem.W.dataLe false (fun b => b.2))).map (·.1)))) (upd H a (.lst (((xs.zip ds).mergeSort (PySem.W.dataLe false (fun b => b.2))).map (·.1)))) := .new fh ha
      refine q _ _ _ g (.lst upd_same ?_)
      have e2 : ((xs.zip ds).mergeSort (PySem.W.dataLe false (fun b => b.2))).map (·.2) = srtD ds := by
        unfold srtD
        have e3 := List.map_mergeSort (r := PySem.W.dataLe false (fun b : V × D => b.2)) (s := PySem.W.dataLe false id) (f := fun b : V × D => b.2) (l := xs.zip ds) (fun a _ b _ => rfl)
        rw [zip_snd r.length] at e3
        exact e3
      rw [← e2]
      exact (pairs_reps fun b hb => reps_pairs r b (by simpa using hb)).up g.up
    · cases ez'
  | _ => cases ez
end
theorem fcr_sortD {ι : Type} {f : Fam ι} (i : ι) : CallR (f.X i) (.builtin "sorted") (rSortD f.K) := by
  have h := cr_sortD (X := f.X i) (by have := f.hu i; omega)
  rw [f.eK i] at h
  exact h
end Y

set_option maxRecDepth 100000
set_option maxHeartbeats 4000000
namespace Y
open PySem PySem.Calls PyProof.Rows L2 PM PX
/-- a set just laid -/
abbrev nso (w : World) : Obj := { cls := .type "set", dict := none, data := .set #[] 0 (.fresh 0 0 (!w.params.followText "set-order")) }
section
variable {P : Program} {w : World} {A : Around} {E : Value → Shared → Prop} {s : Shared}
theorem set_ints {l : Addr} {its : Array Value} (ns : List Int) {Q : Value → Shared → Prop} (quiet : A.handled = none) (at_l : s.heap.IsList l its) (isI : IntsAre its.toList ns) (few : ns.length + 1 < scanBound)
    (fin : ∀ (hp : Heap) (tk c : Nat), SetR w hp s.heap.objs.size (fun j => decide (j ∈ ns)) c → c ≤ ns.length → (∀ b o, s.heap.get? b = some o → hp.get? b = some o) → Q (.ref s.heap.objs.size) { s with heap := hp, toks := tk }) : wpAny (model P w) A (call (.type "set") [.ref l]) Q E s := by
  have sz : its.size = ns.length := by have q := isI.length; rwa [Array.length_toList] at q
  obtain ⟨c0, tl0, m0⟩ := F.called_set.mro
  have m1 := F.called_set.made; have m2 := F.called_set.sub
  refine wpAny_call (codeAny_of_tree (show wpAny _ _ (callAny (.type "set") _) _ _ _ from wpAny_pure ⟨Code.quiet_builtin _ (by decide +kernel), codeAny_builtin F.entry_type_call ?_⟩))
  rw [Around.under_plain (weight_type_call_type "set" [.ref l] []) rfl]
  have m3 := F.called_set.notType; have m4 := F.called_set.canCreate; have m5 := F.typeCall_set_1 (.ref l)
  repeat (any_goals (first | assumption | wp_step))
  refine codeAny_mono (code_set_led1 (.ref l) (E := E) (Q₁ := fun ob s1 => ob = .ref s.heap.objs.size ∧ s1 = { s with heap := s.heap.push (nso w) }) ⟨rfl, rfl⟩) fun r s1 hr => ?_
  match r, hr with
  | .error e, hr => exact hr
  | .ok (.ret ob), hr =>
    obtain ⟨rfl, rfl⟩ := hr
    have gS : (s.heap.push (nso w)).get? s.heap.objs.size = some (nso w) := Heap.get?_push_size _ rfl
    have tS : Shared.TypeIs { s with heap := s.heap.push (nso w) } (.ref s.heap.objs.size) "set" := ⟨_, gS, rfl⟩
    have i1 := F.called_set.init.lookup; have i2 := F.called_set.init.bind (.ref s.heap.objs.size)
    repeat (any_goals (first | assumption | wp_step))
    refine codeAny_mono (codeAny_call_builtin (R := wants (fun r s2 => r = .none ∧ ∃ hp tk c, s2 = { s with heap := hp, toks := tk } ∧ SetR w hp s.heap.objs.size (fun j => decide (j ∈ ns)) c ∧ c ≤ ns.length ∧ (∀ b o, s.heap.get? b = some o → hp.get? b = some o)) E)
      F.called_set.init.plain F.entry_set_init (check_set_init_1 tS ?_)) fun r2 s2 hr2 => ?_
    · obtain ⟨⟨k1, k2, k3, k4⟩, at_o, e1, nl, e2⟩ := at_l
      dsimp only at e1 e2
      subst e1 e2
      have at_o2 : (s.heap.push (nso w)).get? l = some { cls := .type "list", dict := k2, data := .seq its nl, slots := k4 } := Heap.get?_push_of_some _ at_o
      have u1 := F.sub_list_set; have u2 := F.sub_list_frozenset
      have u3 : (Value.type "list" == Value.type "dict") = false := by decide
      have lst1 : (s.heap.push (nso w)).IsList l its := ⟨_, at_o2, rfl, nl, rfl⟩
      unfold Builtin.«set.__init__» noKeywords Builtin.Frozenset.updateFrom
      generalize hz : pyIter = ZZ
      wp_walk
      subst hz
      refine wpAny_pyIter_list lst1 (wpAny_bind (wpAny_runValue ?_))
      have l_lt : l < s.heap.objs.size := Heap.lt_size at_o
      have q3 : A.in1.in1.in1.handled = none := by simp [quiet]
      have n1 : l ≠ (s.heap.push (nso w)).objs.size := by rw [Heap.size_push]; exact Nat.ne_of_lt (Nat.lt_succ_of_lt l_lt)
      have n2 : s.heap.objs.size ∉ [(s.heap.push (nso w)).objs.size, l] := by
        rw [Heap.size_push]
        intro z
        rcases List.mem_cons.mp z with z | z
        · exact absurd z (Nat.ne_of_lt (Nat.lt_succ_self _))
        · exact absurd (List.mem_singleton.mp z) (Nat.ne_of_gt l_lt)
      have val : ∀ (i : Nat) (v : Value), its[i]? = some v → ∃ k t, ns[i]? = some k ∧ v = .int k t := fun i v hv => by
        have hi : i < ns.length := by rw [← sz]; exact (Array.getElem?_eq_some_iff.mp hv).1
        obtain ⟨t, e⟩ := isI.int_at i v (by rw [Array.getElem?_toList]; exact hv)
        exact ⟨ns[i], t, List.getElem?_eq_getElem hi, by rw [e, List.getD_eq_getElem?_getD, List.getElem?_eq_getElem hi] <;> rfl⟩
      refine set_update_ints ((Walks.list q3 _ l n1 its).toS) s.heap.objs.size n2 ns sz few val (its.size - 0) 0 _ (by omega) (Nat.zero_le _) ⟨⟨_, Heap.get?_push_size _ rfl, rfl, rfl⟩, lst1.push _⟩ ⟨0, Nat.le_refl 0, setR_new_at (Heap.get?_push_of_some _ gS)⟩ ?_
      intro s' c hm hc hS
      obtain ⟨h2, g2, d2, t2, o2⟩ := s'
      obtain rfl : g2 = s.gens := hm.gens
      obtain rfl : d2 = s.drawn := hm.drawn
      obtain rfl : o2 = s.os := hm.os
      refine (show wpAny _ _ _ _ _ _ from wpAny_pure (show wpAny _ _ (ret Value.none) _ _ _ from wpAny_pure ⟨rfl, h2, t2, c, rfl, hS, by omega, fun b o e => ?_⟩))
      have b0 : b < s.heap.objs.size := Heap.lt_size e
      refine hm.heap b o (fun z => ?_) (Heap.get?_push_of_some _ (Heap.get?_push_of_some _ e))
      rcases List.mem_cons.mp z with z | z
      · exact absurd z (Nat.ne_of_lt b0)
      · have z := List.mem_singleton.mp z
        rw [Heap.size_push] at z
        exact absurd z (Nat.ne_of_lt (Nat.lt_succ_of_lt b0))
    · match r2, hr2 with
      | .error e, hr2 => exact hr2
      | .ok (.ret r), hr2 =>
        obtain ⟨rfl, hp, tk, c, rfl, hS, hc, hk⟩ := hr2
        repeat (any_goals (first | assumption | wp_step))
        exact fin _ _ _ hS hc hk
end
/-! as calls -/
def rSetI (K : PySem.W.Frag) (w : World) : List V → Hp → VK → Prop := fun xs H Q => ∃ (l : Addr) (ns : List Int), xs = [V.ref l] ∧ SqL K H l (ns.map V.int) ∧ ns.length < 64 ∧
  ∀ p c, H p = none → c ≤ ns.length → Q (.ref p) (upd H p (SetO w p (fun j => decide (j ∈ ns)) c))
theorem cr_setI {X : Cx} (hc : X.calm = true) : CallR X (.type "set") (rSetI X.K X.w) := by
  intro pins s σ H vs us Q I r h
  obtain ⟨l, ns, rfl, hs, h64, q⟩ := h
  obtain ⟨its, rv, hl, hz⟩ := I.list hs
  rw [Vals.ref1 r]
  refine set_ints ns (I.ok.hd hc) hl.isList rv.ints (by unfold scanBound; omega) fun hp tk c hS hc k => ?_
  exact ⟨.ref s.heap.objs.size, upd H s.heap.objs.size (SetO X.w s.heap.objs.size (fun j => decide (j ∈ ns)) c), I.laid (t' := tk) k (Nat.le_refl _) (setO_new hS), rfl, q _ c (I.hok.fresh (Nat.le_refl _)) hc⟩
/-! strictly rising lists -/
def insU (x : Int) : List Int → List Int
  | [] => [x]
  | y :: ys => if x < y then x :: y :: ys else if x = y then y :: ys else y :: insU x ys
def sortU (ns : List Int) : List Int := ns.foldr insU []
theorem mem_insU {x k : Int} : ∀ {ys : List Int}, k ∈ insU x ys ↔ k = x ∨ k ∈ ys
  | [] => by simp [insU]
  | y :: ys => by
    unfold insU
    split
    · simp
    · split
      · rename_i h; subst h; simp
      · rw [List.mem_cons, mem_insU, List.mem_cons]
        constructor <;> (rintro (h | h | h) <;> simp [h])
theorem insU_up {x : Int} : ∀ {ys : List Int}, ys.Pairwise (· < ·) → (insU x ys).Pairwise (· < ·)
  | [], _ => by simp [insU]
  | y :: ys, h => by
    rw [List.pairwise_cons] at h
    unfold insU
    split
    · rename_i hx
      rw [List.pairwise_cons, List.pairwise_cons]
      refine ⟨fun z hz => ?_, h⟩
      rcases List.mem_cons.mp hz with e | hz
      · omega
      · have := h.1 z hz; omega
    · split
      · rw [List.pairwise_cons]; exact h
      · rw [List.pairwise_cons]
        refine ⟨fun z hz => ?_, insU_up h.2⟩
        rcases mem_insU.mp hz with e | hz
        · omega
        · exact h.1 z hz
theorem mem_sortU {k : Int} : ∀ {ns : List Int}, k ∈ sortU ns ↔ k ∈ ns
  | [] => by simp [sortU]
  | n :: ns => by
    show k ∈ insU n (sortU ns) ↔ _
    rw [mem_insU, mem_sortU, List.mem_cons]
theorem sortU_up : ∀ ns : List Int, (sortU ns).Pairwise (· < ·)
  | [] => List.Pairwise.nil
  | _ :: ns => insU_up (sortU_up ns)
theorem up_eq : ∀ {xs ys : List Int}, xs.Pairwise (· < ·) → ys.Pairwise (· < ·) → (∀ k, k ∈ xs ↔ k ∈ ys) → xs = ys
  | [], [], _, _, _ => rfl
  | [], y :: ys, _, _, h => absurd ((h y).mpr (List.mem_cons_self ..)) (by simp)
  | x :: xs, [], _, _, h => absurd ((h x).mp (List.mem_cons_self ..)) (by simp)
  | x :: xs, y :: ys, h1, h2, h => by
    rw [List.pairwise_cons] at h1 h2
    have e : x = y := by
      rcases List.mem_cons.mp ((h x).mp (List.mem_cons_self ..)) with e | e
      · exact e
      · rcases List.mem_cons.mp ((h y).mpr (List.mem_cons_self ..)) with e2 | e2
        · exact e2.symm
        · have a := h1.1 y e2
          have b := h2.1 x e
          omega
    subst e
    congr 1
    refine up_eq h1.2 h2.2 fun k => ⟨fun hk => ?_, fun hk => ?_⟩
    · rcases List.mem_cons.mp ((h k).mp (List.mem_cons_of_mem _ hk)) with e | e
      · subst e; exact absurd (h1.1 k hk) (by omega)
      · exact e
    · rcases List.mem_cons.mp ((h k).mpr (List.mem_cons_of_mem _ hk)) with e | e
      · subst e; exact absurd (h2.1 k hk) (by omega)
      · exact e
/-! sorted(set(xs)) -/
def dSortSet : D → Option D
  | .list ds => (intsD ds).bind fun ns => if ns.length < 64 then some (.list ((sortU ns).map .int)) else none
  | _ => none
section
variable {ι : Type} {μ : Type → Type} [PM μ] {f : Fam ι} {Γ : List Slot} {a : Expr} {m : μ D} {p1 p2 q pos : Pos}
theorem ex_sortSet (ha : EXT f Γ a m) (hm : f.mg "sorted" = none) (hm2 : f.mg "set" = none) (hg : ∀ i, Gl (f.X i) "sorted" := by intro _; rfl) (hg2 : ∀ i, Gl (f.X i) "set" := by intro _; rfl)
    (h1 : ∀ i, starEach [a] (f.X i).env = (false, eval a (f.X i).env) :: starEach [] (f.X i).env := by intro _; rfl)
    (h2 : ∀ i, starEach [.Call (.Name "set" p2) [a] [] q] (f.X i).env = (false, eval (.Call (.Name "set" p2) [a] [] q) (f.X i).env) :: starEach [] (f.X i).env := by intro _; rfl) :
    EX f Γ (.Call (.Name "sorted" p1) [.Call (.Name "set" p2) [a] [] q] [] pos) (bnd m fun d => lif (dSortSet d)) := by
  obtain ⟨t, a1, a2⟩ := ha
  refine ⟨tCB (rSortedSet f.w) (tCons (tCB (rSetI f.K f.w) (tCons t tNil)) tNil), fun i => ?_, fun Z F O H σ Q ok hq => ?_⟩
  · have c1 := cr_sortedSet (f.ec i)
    have c2 := cr_setI (f.ec i)
    rw [f.ew i] at c1
    rw [f.ew i, f.eK i] at c2
    exact pe_callB c1 (hg i) (by rw [f.eg i]; exact hm) (by decide +kernel) (pa_cons (pe_callTy c2 (hg2 i) (by rw [f.eg i]; exact hm2) (by decide +kernel) (pa_cons (a1 i) pa_nil (h1 i)) (by decide) (by decide) (h1 i) rfl) pa_nil (h2 i)) (by decide) (by decide) (h2 i) rfl
  · refine a2 Z F O H σ _ ok (den_mono (fun d h v F1 H1 g1 t1 => ?_) (den_bnd hq))
    obtain ⟨z, ez, h⟩ := den_lif h
    cases d with
    | list ds =>
      have ez' : ((intsD ds).bind fun ns => if ns.length < 64 then some (.list ((sortU ns).map .int) : D) else none) = some z := ez
      cases en : intsD ds with
      | none => rw [en] at ez'; cases ez'
      | some ns =>
        rw [en] at ez'
        have ez2 : (if ns.length < 64 then some (.list ((sortU ns).map .int) : D) else none) = some z := ez'
        split at ez2
        · rename_i hl
          cases ez2
          obtain ⟨l, xs, rfl, e1, r⟩ := t1.list g1.fh
          rw [intsD_eq en] at r
          rw [Reps.of_ints r] at e1
          refine ⟨l, ns, rfl, SqL.of e1, hl, fun p c hp hcc => ?_⟩
          refine ⟨p, _, c, rfl, upd_same, by omega, fun out p3 hup hmem _ hp3 => ?_⟩
          have e2 : out = sortU ns := up_eq hup (sortU_up ns) fun k => by rw [hmem k, mem_sortU]; simp
          subst e2
          have gA : Grow f.K Z.p F1 H1 F1 (upd H1 p (SetO f.w p (fun j => decide (j ∈ ns)) c)) := .raw g1.fh hp
          have gB : Grow f.K Z.p F1 (upd H1 p (SetO f.w p (fun j => decide (j ∈ ns)) c)) (upd F1 p3 (.lst ((sortU ns).map V.int))) (upd (upd H1 p (SetO f.w p (fun j => decide (j ∈ ns)) c)) p3 (.lst ((sortU ns).map V.int))) := .new gA.fh hp3
          exact h _ _ _ ((g1.trans gA).trans gB) (.lst upd_same Reps.ints)
        · cases ez2
    | _ => cases ez
end
end Y

set_option maxRecDepth 100000
set_option maxHeartbeats 1000000
namespace Y
open PySem PySem.Spec PyProof.Rows L2 He
abbrev Chk := PySem.W.Frag → Bool
def obsY (fa : List Chk) (fn : List DefD) (K : PySem.W.Frag) : AlD := ((fa.all fun f => f K) && fn.all fun d => d.ok K, fn.map fun d => fnW K d.at_)
def SaysY (fa : List Chk) (fn : List DefD) (K : PySem.W.Frag) : Prop := obsY fa fn K = valD fn
def obsYG (n : Nat) (fa : List Chk) (fn : List DefD) (g : Addr → Option Obj) : AlD := obsY fa fn (frG g (asD g n))
def hookY (n : Nat) (fa : List Chk) (fn : List DefD) : PySem.W.Hook where
  α := AlD
  obs := fun s => obsYG n fa fn s.heap.get?
  val := fun _ => valD fn
  says := fun _ h => ∃ K : PySem.W.Frag, K.In h ∧ SaysY fa fn K
  of := fun _ _ e => ⟨_, frG_in, e⟩
  keeps := fun _ _ _ ⟨K, hK, c⟩ k => ⟨K, PySem.W.Frag.In.keeps hK k, c⟩
theorem obsYG_eq {n : Nat} {fa : List Chk} {fn : List DefD} {g : Addr → Option Obj} {s : Shared} (h : ∀ a, g a = s.heap.get? a) : obsYG n fa fn g = (hookY n fa fn).obs s := by
  have e : g = s.heap.get? := funext h
  rw [e] <;> rfl
section
variable {fa : List Chk} {fn : List DefD} {K : PySem.W.Frag} {h : Heap} {mg : Str → Option Value}
theorem SaysY.fact (c : SaysY fa fn K) (i : Nat) {f : Chk} (h : fa[i]? = some f := by rfl) : f K = true := by
  have c1 := (ba (show ((fa.all fun f => f K) && fn.all fun d => d.ok K) = true from congrArg (fun z : AlD => z.1) c)).1
  exact List.all_eq_true.mp c1 f (List.mem_of_getElem? h)
theorem SaysY.def_ (c : SaysY fa fn K) (i : Nat) {d : DefD} (h : fn[i]? = some d := by rfl) : ∃ fd, FunD K d.name d.qual d.params d.body d.scope (d.dvs K) (d.kws K) (fAd K d.at_) fd := by
  have c2 := (ba (show ((fa.all fun f => f K) && fn.all fun d => d.ok K) = true from congrArg (fun z : AlD => z.1) c)).2
  have e : fn.map (fun d => fnW K d.at_) = fn.map DefD.val := congrArg (fun z : AlD => z.2) c
  have e2 : (fn.map fun d => fnW K d.at_)[i]? = (fn.map DefD.val)[i]? := by rw [e]
  rw [List.getElem?_map, List.getElem?_map, h] at e2
  exact DefD.funD (Option.some.inj e2) (List.all_eq_true.mp c2 d (List.mem_of_getElem? h))
/-- a global is a built-in function -/
def ckB (x : Str) (id : String) : Chk := fun K => eqO (PySem.W.nsIn K mainGlobals x) (some (some (.builtin id)))
def ckG (x : Str) : Chk := fun K => (Fa.glo x).ok K
def ckF (x : Str) : Chk := fun K => (Fa.free x).ok K
theorem ckB_ok (X : K.In h) (G : h.Ns mainGlobals mg) {x : Str} {id : String} (c : ckB x id K = true) : mg x = some (.builtin id) := PySem.W.mg_of X G (eqO_ok c)
theorem ckG_ok (X : K.In h) (G : h.Ns mainGlobals mg) {x : Str} (c : ckG x K = true) : mg x = some (.ref (ga K x)) := glo_ok X G c
theorem ckF_ok (X : K.In h) (G : h.Ns mainGlobals mg) {x : Str} (c : ckF x K = true) : mg x = none := free_ok X G c
/-- a def of the top, by its name and statement -/
def dD (x : Str) (st : Stmt) : DefD := ⟨(x, none), x, x, defArgs st, defBody st, defScope st, [], []⟩
theorem SaysY.fun_ (c : SaysY fa fn K) (X : K.In h) (G : h.Ns mainGlobals mg) (i j : Nat) {x : Str} {st : Stmt} (h1 : fn[i]? = some (dD x st)) (h2 : fa[j]? = some (ckG x)) : ∃ f fd, FnP K x st f fd ∧ mg x = some (.ref f) := by
  obtain ⟨fd, F⟩ := c.def_ i h1
  exact ⟨_, fd, F, ckG_ok X G (c.fact j h2)⟩
end
end Y

set_option maxRecDepth 100000
set_option maxHeartbeats 1000000
namespace Y
open PySem L2 PM PX
/-! Option -/
section
variable {α β A S R : Type}
@[simp] theorem o_pur (a : α) : (pur a : Option α) = some a := Eq.trans rfl rfl
@[simp] theorem o_bnd (a : α) (f : α → Option β) : bnd (μ := Option) (some a) f = f a := Eq.trans rfl rfl
@[simp] theorem o_bndn (f : α → Option β) : bnd (μ := Option) none f = none := Eq.trans rfl rfl
@[simp] theorem o_lif (o : Option α) : (lif o : Option α) = o := Eq.trans rfl rfl
@[simp] theorem o_iteR (k : Bool) (a b : Option R) : iteR (μ := Option) (some k) a b = if k then a else b := Eq.trans rfl rfl
@[simp] theorem o_iteM (k : Bool) (a b : Option D) : iteM (μ := Option) (some k) a b = if k then a else b := Eq.trans rfl rfl
@[simp] theorem o_andM (k : Bool) (b : Option Bool) : andM (μ := Option) (some k) b = if k then b else some false := Eq.trans rfl rfl
@[simp] theorem o_orM (k : Bool) (b : Option Bool) : orM (μ := Option) (some k) b = if k then some true else b := Eq.trans rfl rfl
@[simp] theorem o_andV (k : Bool) (b : Option D) : andV (μ := Option) (some (.bool k)) b = if k then b else some (.bool false) := Eq.trans rfl rfl
@[simp] theorem o_orV (k : Bool) (b : Option D) : orV (μ := Option) (some (.bool k)) b = if k then some (.bool true) else b := Eq.trans rfl rfl
@[simp] theorem o_andM2 (a b : Bool) : andM (μ := Option) (some a) (some b) = some (a && b) := by cases a <;> rfl
@[simp] theorem o_orM2 (a b : Bool) : orM (μ := Option) (some a) (some b) = some (a || b) := by cases a <;> rfl
@[simp] theorem selN_some (d : D) : selN d = some d := Eq.trans rfl rfl
@[simp] theorem behind_l {μ : Type → Type} [PM μ] (inj : D → R) (k : S → μ R) (s : S) : behind inj k (.inl s) = k s := Eq.trans rfl rfl
@[simp] theorem behind_r {μ : Type → Type} [PM μ] (inj : D → R) (k : S → μ R) (d : D) : behind inj k (.inr d) = pur (inj d) := Eq.trans rfl rfl
@[simp] theorem mixK_l {μ : Type → Type} [PM μ] (k : S → μ R) (s : S) : mixK k (.inl s) = k s := Eq.trans rfl rfl
@[simp] theorem mixK_r {μ : Type → Type} [PM μ] (k : S → μ R) (r : R) : mixK k (.inr r) = pur r := Eq.trans rfl rfl
end
theorem i1_o {op : D → Option (List D)} {x : D} : i1 (μ := Option) op (some x) = op x := Eq.trans rfl rfl
theorem i2_o {op : D → D → Option (List D)} {x y : D} : i2 (μ := Option) op (some x) (some y) = op x y := Eq.trans rfl rfl
theorem b2_o {α : Type} {op : D → D → Option α} {x y : D} : b2 (μ := Option) op (some x) (some y) = op x y := Eq.trans rfl rfl
theorem i1_g {op : D → Option (List D)} {x : D} : i1 (μ := Gen) op (.ret x) = Gen.lift (op x) := Eq.trans rfl rfl
theorem b2_g {α : Type} {op : D → D → Option α} {x y : D} : b2 (μ := Gen) op (.ret x) (.ret y) = Gen.lift (op x y) := Eq.trans rfl rfl
/-! Gen -/
section
variable {α β A S R : Type}
@[simp] theorem g_pur (a : α) : (pur a : Gen α) = .ret a := Eq.trans rfl rfl
@[simp] theorem g_bnd (a : α) (f : α → Gen β) : bnd (μ := Gen) (.ret a) f = f a := Eq.trans rfl rfl
@[simp] theorem g_bndd (n : Int) (g : Int → Gen α) (f : α → Gen β) : bnd (μ := Gen) (.draw n g) f = .draw n fun k => bnd (μ := Gen) (g k) f := Eq.trans rfl rfl
@[simp] theorem g_lif (a : α) : (lif (some a) : Gen α) = .ret a := Eq.trans rfl rfl
@[simp] theorem g_lift (a : α) : Gen.lift (some a) = .ret a := Eq.trans rfl rfl
@[simp] theorem g_iteR (k : Bool) (a b : Gen R) : iteR (μ := Gen) (.ret k) a b = if k then a else b := Eq.trans rfl rfl
@[simp] theorem g_iteM (k : Bool) (a b : Gen D) : iteM (μ := Gen) (.ret k) a b = if k then a else b := Eq.trans rfl rfl
@[simp] theorem g_andM (k : Bool) (b : Gen Bool) : andM (μ := Gen) (.ret k) b = if k then b else .ret false := Eq.trans rfl rfl
@[simp] theorem g_orM (k : Bool) (b : Gen Bool) : orM (μ := Gen) (.ret k) b = if k then .ret true else b := Eq.trans rfl rfl
@[simp] theorem all_ret (a : α) (Q : α → Prop) : (Gen.ret a).all Q = Q a := Eq.trans rfl rfl
theorem all_draw {n : Int} {f : Int → Gen α} {Q : α → Prop} (h0 : 0 < n) (h : ∀ k, 0 ≤ k → k < n → (f k).all Q) : (Gen.draw n f).all Q := ⟨h0, h⟩
/-- by parts: what the first part may be -/
theorem all_bnd {x : Gen α} {f : α → Gen β} {Q : β → Prop} (P : α → Prop) (h : x.all P) (h2 : ∀ a, P a → (f a).all Q) : (bnd (μ := Gen) x f).all Q := Gen.all_bind' (Gen.all_mono h2 h)
end
theorem b2_g1 {op : D → D → Option α} {x : D} {m : Gen D} : b2 (μ := Gen) op (.ret x) m = bnd (μ := Gen) m fun y => lif (op x y) := Eq.trans rfl rfl
theorem v2_g {op : D → D → Option Bool} {x y : D} : v2 (μ := Gen) op (.ret x) (.ret y) = Gen.lift ((op x y).map vB) := Eq.trans rfl rfl
/-! operations on ints -/
section
variable (i j : Int)
@[simp] theorem dAdd_ii : dAdd (.int i) (.int j) = some (.int (i + j)) := Eq.trans rfl rfl
@[simp] theorem dSub_ii : dSub (.int i) (.int j) = some (.int (i - j)) := Eq.trans rfl rfl
@[simp] theorem dNeg_i : dNeg (.int i) = some (.int (-i)) := Eq.trans rfl rfl
theorem dMul_ii (h : i.natAbs < 18446744073709551616 ∨ j.natAbs < 18446744073709551616) : dMul (.int i) (.int j) = some (.int (i * j)) := if_pos (by rcases h with h | h <;> simp [h])
theorem dMod_ii (h : j ≠ 0) : dMod (.int i) (.int j) = some (.int (i.fmod j)) := if_pos h
theorem dFdiv_ii (h : j ≠ 0) (h2 : j.natAbs < 1073741824) : dFdiv (.int i) (.int j) = some (.int (i.fdiv j)) := if_pos ⟨h, h2⟩
@[simp] theorem bLt_ii : bLt (.int i) (.int j) = some (decide (i < j)) := Eq.trans rfl rfl
@[simp] theorem bLe_ii : bLe (.int i) (.int j) = some (decide (i ≤ j)) := Eq.trans rfl rfl
@[simp] theorem bGt_ii : bGt (.int i) (.int j) = some (decide (j < i)) := Eq.trans rfl rfl
@[simp] theorem bGe_ii : bGe (.int i) (.int j) = some (decide (j ≤ i)) := Eq.trans rfl rfl
@[simp] theorem shaped_i : SeqAt.shaped (.int i) = true := by
  unfold SeqAt.shaped
  simp [PyData.canLay0, PyData.depth]
@[simp] theorem shaped_b (b : Bool) : SeqAt.shaped (.bool b) = true := by
  unfold SeqAt.shaped
  simp [PyData.canLay0, PyData.depth]
@[simp] theorem shaped_n : SeqAt.shaped .none = true := by
  unfold SeqAt.shaped
  simp [PyData.canLay0, PyData.depth]
@[simp] theorem eqv_ii : PyData.eqv (.int i) (.int j) = decide (i = j) := by
  show (i == j) = _
  rw [Bool.eq_iff_iff]; simp
@[simp] theorem bEq_ii : bEq (.int i) (.int j) = some (decide (i = j)) := by unfold bEq; simp
@[simp] theorem bNe_ii : bNe (.int i) (.int j) = some (!decide (i = j)) := by unfold bNe; simp
@[simp] theorem dInt_i : dop1 dInt [.int i] = some (.int i) := Eq.trans rfl rfl
@[simp] theorem dAbs_i : dop1 dAbs [.int i] = some (.int (if i < 0 then -i else i)) := Eq.trans rfl rfl
@[simp] theorem dMin2_ii : dop2 dMin2 [.int i, .int j] = some (.int (if j < i then j else i)) := Eq.trans rfl rfl
@[simp] theorem dMax2_ii : dop2 dMax2 [.int i, .int j] = some (.int (if j > i then j else i)) := Eq.trans rfl rfl
@[simp] theorem dGcd_ii : dop2 dGcd [.int i, .int j] = some (.int ((Nat.gcd i.natAbs j.natAbs : Nat) : Int)) := Eq.trans rfl rfl
@[simp] theorem dTru_b (b : Bool) : dTru (.bool b) = some b := Eq.trans rfl rfl
@[simp] theorem dTru_i : dTru (.int i) = some (i != 0) := Eq.trans rfl rfl
@[simp] theorem dTru_l (ds : List D) : dTru (.list ds) = some (!ds.isEmpty) := Eq.trans rfl rfl
@[simp] theorem dTru_t (ds : List D) : dTru (.tuple ds) = some (!ds.isEmpty) := Eq.trans rfl rfl
@[simp] theorem dTru_n : dTru .none = some false := Eq.trans rfl rfl
@[simp] theorem dB_b (b : Bool) : dB (.bool b) = some b := Eq.trans rfl rfl
@[simp] theorem dLen_l (ds : List D) : dop1 dLen [.list ds] = some (.int ds.length) := Eq.trans rfl rfl
@[simp] theorem dLen_t (ds : List D) : dop1 dLen [.tuple ds] = some (.int ds.length) := Eq.trans rfl rfl
@[simp] theorem dLen_d (ds : List (D × D)) : dop1 dLen [.dict ds] = some (.int ds.length) := Eq.trans rfl rfl
@[simp] theorem dSeq_l (ds : List D) : dSeq (.list ds) = some ds := Eq.trans rfl rfl
@[simp] theorem dSeq_t (ds : List D) : dSeq (.tuple ds) = some ds := Eq.trans rfl rfl
end
theorem mkL_o {ds : List D} (h : ds.length < 16000000) : (mkL ds : Option D) = some (.list ds) := if_pos h
theorem mkT_o {ds : List D} (h : ds.length < 16000000) : (mkT ds : Option D) = some (.tuple ds) := if_pos h
theorem mkL_g {ds : List D} (h : ds.length < 16000000) : (mkL ds : Gen D) = .ret (.list ds) := if_pos h
theorem mkT_g {ds : List D} (h : ds.length < 16000000) : (mkT ds : Gen D) = .ret (.tuple ds) := if_pos h
@[simp] theorem mkL0 : (mkL [] : Option D) = some (.list []) := mkL_o (ds := []) (by simp)
@[simp] theorem mkL1 (a : D) : (mkL [a] : Option D) = some (.list [a]) := mkL_o (ds := [a]) (by simp)
@[simp] theorem mkL2 (a b : D) : (mkL [a, b] : Option D) = some (.list [a, b]) := mkL_o (ds := [a, b]) (by simp)
@[simp] theorem mkT2 (a b : D) : (mkT [a, b] : Option D) = some (.tuple [a, b]) := mkT_o (ds := [a, b]) (by simp)
@[simp] theorem mkT3 (a b c : D) : (mkT [a, b, c] : Option D) = some (.tuple [a, b, c]) := mkT_o (ds := [a, b, c]) (by simp)
@[simp] theorem mkT4 (a b c d : D) : (mkT [a, b, c, d] : Option D) = some (.tuple [a, b, c, d]) := mkT_o (ds := [a, b, c, d]) (by simp)
@[simp] theorem mkL0g : (mkL [] : Gen D) = .ret (.list []) := mkL_g (ds := []) (by simp)
@[simp] theorem mkT2g (a b : D) : (mkT [a, b] : Gen D) = .ret (.tuple [a, b]) := mkT_g (ds := [a, b]) (by simp)
@[simp] theorem mkL9g (a b c d e f g h i : D) : (mkL [a, b, c, d, e, f, g, h, i] : Gen D) = .ret (.list [a, b, c, d, e, f, g, h, i]) := mkL_g (ds := [a, b, c, d, e, f, g, h, i]) (by simp)
theorem dAdd_ll {xs ys : List D} (h : xs.length + ys.length < 16000000) : dAdd (.list xs) (.list ys) = some (.list (xs ++ ys)) := if_pos h
theorem dAdd_tt {xs ys : List D} (h : xs.length + ys.length < 16000000) : dAdd (.tuple xs) (.tuple ys) = some (.tuple (xs ++ ys)) := if_pos h
theorem rng_eq (lo : Int) (n : Nat) : rng lo n = (List.range n).map fun (i : Nat) => (.int (lo + (i : Int)) : D) := Eq.trans rfl rfl
theorem dRg1_i {j : Int} (h : j < 4000000000000000000 ∧ -4000000000000000000 < j) : dRg1 (.int j) = some ((List.range j.toNat).map fun (i : Nat) => (.int (i : Int) : D)) := by
  show (if j < 4000000000000000000 ∧ -4000000000000000000 < j then some (rng 0 j.toNat) else none) = _
  rw [if_pos h]
  simp [rng]
theorem dRg2_ii {i j : Int} (h : (j < 4000000000000000000 ∧ -4000000000000000000 < j) ∧ (i < 4000000000000000000 ∧ -4000000000000000000 < i)) : dRg2 (.int i) (.int j) = some ((List.range (j - i).toNat).map fun (k : Nat) => (.int (i + (k : Int)) : D)) := by
  show (if (j < 4000000000000000000 ∧ -4000000000000000000 < j) ∧ (i < 4000000000000000000 ∧ -4000000000000000000 < i) then some (rng i (j - i).toNat) else none) = _
  rw [if_pos h]
  rfl
theorem dEnum_l {ds : List D} (h : ds.length < 16000000) : dEnum (.list ds) = some (ds.zipIdx.map fun p => .tuple [.int (p.2 : Int), p.1]) := if_pos h
theorem atI_nn {α : Type} {xs : List α} {i : Int} {k : Nat} (h : i = k) (hk : k < xs.length) : atI xs i = some xs[k] := by
  subst h
  unfold atI ixN
  rw [if_pos (by omega), if_pos (by omega)]
  simp [hk]
theorem dSub2_l {ds : List D} {i : Int} {k : Nat} (h : i = k) (hk : k < ds.length) : dSub2 (.list ds) (.int i) = some ds[k] := atI_nn h hk
theorem dSub2_t {ds : List D} {i : Int} {k : Nat} (h : i = k) (hk : k < ds.length) : dSub2 (.tuple ds) (.int i) = some ds[k] := atI_nn h hk
@[simp] theorem dSub2_t0 (a : D) (ds : List D) : dSub2 (.tuple (a :: ds)) (.int 0) = some a := dSub2_t (k := 0) rfl (by simp)
@[simp] theorem dSub2_t1 (a b : D) (ds : List D) : dSub2 (.tuple (a :: b :: ds)) (.int 1) = some b := dSub2_t (k := 1) rfl (by simp)
@[simp] theorem dSub2_l0 (a : D) (ds : List D) : dSub2 (.list (a :: ds)) (.int 0) = some a := dSub2_l (k := 0) rfl (by simp)
/-! lists of ints are shaped -/
theorem canLay_ints (ns : List Int) : PyData.canLayAll0 (ns.map .int) = true := by
  induction ns with
  | nil => rfl
  | cons n ns ih => simp [PyData.canLayAll0, PyData.canLay0, ih]
theorem depth_ints (ns : List Int) : PyData.depthAll (ns.map .int) ≤ 1 := by
  induction ns with
  | nil => simp [PyData.depthAll]
  | cons n ns ih => simp [PyData.depthAll, PyData.depth]; omega
theorem shaped_ints (ns : List Int) : SeqAt.shaped (.list (ns.map .int)) = true := by
  unfold SeqAt.shaped
  have h := depth_ints ns
  simp [PyData.canLay0, canLay_ints, PyData.depth]
  omega
theorem canLay_intss (L : List (List Int)) : PyData.canLayAll0 (L.map fun o => .list (o.map .int)) = true := by
  induction L with
  | nil => rfl
  | cons o L ih => simp [PyData.canLayAll0, PyData.canLay0, ih, canLay_ints]
theorem depth_intss (L : List (List Int)) : PyData.depthAll (L.map fun o => .list (o.map .int)) ≤ 2 := by
  induction L with
  | nil => simp [PyData.depthAll]
  | cons o L ih =>
    have h := depth_ints o
    rw [List.map_cons]
    simp only [PyData.depthAll, PyData.depth]
    omega
theorem shaped_intss (L : List (List Int)) : SeqAt.shaped (.list (L.map fun o => .list (o.map .int))) = true := by
  unfold SeqAt.shaped
  have h := depth_intss L
  rw [Bool.and_eq_true, decide_eq_true_eq]
  refine ⟨by simp only [PyData.canLay0]; exact canLay_intss L, ?_⟩
  simp only [PyData.depth]
  omega
theorem any_ints (x : Int) : ∀ ns : List Int, ((ns.map PyData.int).any fun z => PyData.eqv z (.int x)) = decide (x ∈ ns)
  | [] => by simp
  | n :: ns => by
    rw [List.map_cons, List.any_cons, any_ints x ns, eqv_ii]
    by_cases h : n = x
    · subst h; simp
    · have h2 : ¬ x = n := fun e => h e.symm
      simp [h, h2]
theorem bIn_ints (x : Int) (ns : List Int) : bIn (.int x) (.list (ns.map .int)) = some (decide (x ∈ ns)) := by
  show (if SeqAt.shaped (.int x) && SeqAt.shaped (.list (ns.map .int)) then some ((ns.map .int).any fun z => PyData.eqv z (.int x)) else none) = _
  rw [shaped_i, shaped_ints, any_ints]
  rfl
theorem bNotIn_ints (x : Int) (ns : List Int) : bNotIn (.int x) (.list (ns.map .int)) = some (!decide (x ∈ ns)) := by
  have h := bIn_ints x ns
  unfold bIn at h
  unfold bNotIn
  rw [h]; rfl
/-! comprehensions, loops -/
section
variable {α A B S T R : Type}
theorem cp_eq {e : α → D} {g : D → Option (Option D)} {r : α → Option D} : ∀ {xs : List α}, (∀ x ∈ xs, g (e x) = some (r x)) → cp (A := A) (μ := Option) g (xs.map e) = some (xs.filterMap r)
  | [], _ => rfl
  | x :: xs, h => by
    have h1 := h x (by simp)
    have h2 := cp_eq (xs := xs) (g := g) (r := r) fun y hy => h y (by simp [hy])
    show bnd (μ := Option) (g (e x)) _ = _
    rw [h1, o_bnd, h2, o_bnd]
    cases hr : r x <;> simp [hr]
theorem filterMap_if {β : Type} (t : α → Bool) (r : α → β) : ∀ xs : List α, xs.filterMap (fun x => if t x then some (r x) else none) = (xs.filter t).map r
  | [] => rfl
  | x :: xs => by
    have ih := filterMap_if t r xs
    cases h : t x <;> simp [h, ih]
/-- [r x for x in xs if t x] -/
theorem lc_eq {e : α → D} {sel : D → Option A} {s : α → A} {mt : A → Option Bool} {me : A → Option D} {t : α → Bool} {r : α → D} {xs : List α} {ml : Option (List D)} (h1 : ml = some (xs.map e)) (hs : ∀ x ∈ xs, sel (e x) = some (s x)) (h2 : ∀ x ∈ xs, mt (s x) = some (t x))
    (h3 : ∀ x ∈ xs, t x = true → me (s x) = some (r x)) (h4 : (xs.filter t).length < 16000000) : lcM (μ := Option) sel ml mt me = some (.list ((xs.filter t).map r)) := by
  subst h1
  unfold lcM
  rw [o_bnd, cp_eq (r := fun x => if t x then some (r x) else none), filterMap_if, o_bnd, mkL_o (by simpa using h4)]
  intro x hx
  rw [o_lif, hs x hx, o_bnd, h2 x hx, o_bnd]
  cases h : t x with
  | true =>
    show bnd (μ := Option) (me (s x)) _ = _
    rw [h3 x hx h]; simp
  | false => rfl
/-- .. no test -/
theorem lc_eq0 {e : α → D} {sel : D → Option A} {s : α → A} {me : A → Option D} {r : α → D} {xs : List α} {ml : Option (List D)} (h1 : ml = some (xs.map e)) (hs : ∀ x ∈ xs, sel (e x) = some (s x))
    (h3 : ∀ x ∈ xs, me (s x) = some (r x)) (h4 : xs.length < 16000000) : lcM (μ := Option) sel ml (fun _ => pur true) me = some (.list (xs.map r)) := by
  have h := lc_eq (t := fun _ => true) (r := r) h1 hs (mt := fun _ => pur true) (fun _ _ => rfl) (fun x hx _ => h3 x hx) (by rw [List.filter_eq_self.mpr (fun _ _ => rfl)]; exact h4)
  rw [List.filter_eq_self.mpr (fun _ _ => rfl)] at h
  exact h
theorem cpa_eq {e : α → D} {g : D → Option (List D)} {r : α → List D} : ∀ {xs : List α}, (∀ x ∈ xs, g (e x) = some (r x)) → cpa (μ := Option) g (xs.map e) = some (xs.flatMap r)
  | [], _ => rfl
  | x :: xs, h => by
    have h1 := h x (by simp)
    have h2 := cpa_eq (xs := xs) (g := g) (r := r) fun y hy => h y (by simp [hy])
    show bnd (μ := Option) (g (e x)) _ = _
    rw [h1, o_bnd, h2, o_bnd]
    simp
/-- two fors, a test at the inner one -/
theorem lc2_eq {β : Type} {e : α → D} {sel : D → Option A} {s : α → A} {e1 : β → D} {sel1 : D → Option B} {s1 : β → B} {ml1 : A → Option (List D)} {mt1 : A → B → Option Bool} {me : A → B → Option D} {xs : List α} {ys : α → List β} {t : α → β → Bool} {r : α → β → D} {ml : Option (List D)}
    (h1 : ml = some (xs.map e)) (hs : ∀ x ∈ xs, sel (e x) = some (s x)) (hy : ∀ x ∈ xs, ml1 (s x) = some ((ys x).map e1)) (hs1 : ∀ x ∈ xs, ∀ y ∈ ys x, sel1 (e1 y) = some (s1 y)) (h2 : ∀ x ∈ xs, ∀ y ∈ ys x, mt1 (s x) (s1 y) = some (t x y))
    (h3 : ∀ x ∈ xs, ∀ y ∈ ys x, t x y = true → me (s x) (s1 y) = some (r x y)) (h4 : (xs.flatMap fun x => ((ys x).filter (t x)).map (r x)).length < 16000000) :
    lc2M (μ := Option) sel ml (fun _ => pur true) sel1 ml1 mt1 me = some (.list (xs.flatMap fun x => ((ys x).filter (t x)).map (r x))) := by
  subst h1
  unfold lc2M
  rw [o_bnd, cpa_eq (r := fun x => ((ys x).filter (t x)).map (r x)), o_bnd, mkL_o h4]
  intro x hx
  rw [o_lif, hs x hx, o_bnd, o_pur, o_bnd]
  show bnd (μ := Option) (ml1 (s x)) _ = _
  rw [hy x hx, o_bnd, cp_eq (r := fun y => if t x y then some (r x y) else none), filterMap_if]
  intro y hy'
  rw [o_lif, hs1 x hx y hy', o_bnd, h2 x hx y hy', o_bnd]
  cases h : t x y with
  | true =>
    show bnd (μ := Option) (me (s x) (s1 y)) _ = _
    rw [h3 x hx y hy' h]; simp
  | false => rfl
/-- for x in xs: σ = step σ x -/
theorem lp_eq {e : α → D} {g : S → D → Option S} {inj : T → S} {step : T → α → T} (P : T → Prop) : ∀ {xs : List α} {σ : T}, P σ → (∀ σ x, x ∈ xs → P σ → g (inj σ) (e x) = some (inj (step σ x)) ∧ P (step σ x)) → lp (μ := Option) g (xs.map e) (inj σ) = some (inj (xs.foldl step σ)) ∧ P (xs.foldl step σ)
  | [], σ, h0, _ => ⟨rfl, h0⟩
  | x :: xs, σ, h0, h => by
    obtain ⟨h1, h2⟩ := h σ x (by simp) h0
    have ih := lp_eq (xs := xs) (σ := step σ x) (g := g) (e := e) (inj := inj) P h2 fun σ y hy => h σ y (by simp [hy])
    refine ⟨?_, ih.2⟩
    show bnd (μ := Option) (g (inj σ) (e x)) _ = _
    rw [h1, o_bnd]
    exact ih.1
theorem for_eqP {e : α → D} {sel : D → Option A} {s : α → A} {g : S → A → Option S} {inj : T → S} {step : T → α → T} {xs : List α} {ml : Option (List D)} {σ : T} {s0 : S} (P : T → Prop) (h1 : ml = some (xs.map e)) (hs : ∀ x ∈ xs, sel (e x) = some (s x)) (e0 : s0 = inj σ) (h0 : P σ)
    (h : ∀ σ x, x ∈ xs → P σ → g (inj σ) (s x) = some (inj (step σ x)) ∧ P (step σ x)) : forM' (μ := Option) sel ml s0 g = some (inj (xs.foldl step σ)) ∧ P (xs.foldl step σ) := by
  subst h1 e0
  unfold forM'
  rw [o_bnd]
  refine lp_eq P h0 fun σ x hx hp => ?_
  rw [o_lif, hs x hx, o_bnd]
  exact h σ x hx hp
theorem for_eq {e : α → D} {sel : D → Option A} {s : α → A} {g : S → A → Option S} {inj : T → S} {step : T → α → T} {xs : List α} {ml : Option (List D)} {σ : T} {s0 : S} (h1 : ml = some (xs.map e)) (hs : ∀ x ∈ xs, sel (e x) = some (s x)) (e0 : s0 = inj σ)
    (h : ∀ σ x, x ∈ xs → g (inj σ) (s x) = some (inj (step σ x))) : forM' (μ := Option) sel ml s0 g = some (inj (xs.foldl step σ)) := (for_eqP (fun _ => True) h1 hs e0 trivial fun σ x hx _ => ⟨h σ x hx, trivial⟩).1
/-- for x in xs: if not ok x: return d -/
theorem lpC_all {e : α → D} {g : Unit → D → Option (Ctl Unit)} {ok : α → Bool} {d : D} : ∀ {xs : List α}, (∀ x ∈ xs, g () (e x) = some (if ok x then .nxt () else .ret d)) → lpC (μ := Option) g (xs.map e) () = some (if xs.all ok then .inl () else .inr d)
  | [], _ => rfl
  | x :: xs, h => by
    have h1 := h x (by simp)
    have ih := lpC_all (xs := xs) (g := g) (ok := ok) (d := d) fun y hy => h y (by simp [hy])
    show bnd (μ := Option) (g () (e x)) _ = _
    rw [h1, o_bnd]
    cases hk : ok x with
    | true => simpa [hk] using ih
    | false => simp [hk]
theorem forC_all {e : α → D} {sel : D → Option A} {s : α → A} {g : Unit → A → Option (Ctl Unit)} {xs : List α} {ml : Option (List D)} (ok : α → Bool) (d : D) (h1 : ml = some (xs.map e)) (hs : ∀ x ∈ xs, sel (e x) = some (s x))
    (h : ∀ x ∈ xs, g () (s x) = some (if ok x then .nxt () else .ret d)) : forC (μ := Option) sel ml () g = some (if xs.all ok then .inl () else .inr d) := by
  subst h1
  unfold forC
  rw [o_bnd]
  refine lpC_all fun x hx => ?_
  rw [o_lif, hs x hx, o_bnd]
  exact h x hx
theorem cp_eqg {e : α → D} {g : D → Gen (Option D)} {r : α → Option D} : ∀ {xs : List α}, (∀ x ∈ xs, g (e x) = .ret (r x)) → cp (A := A) (μ := Gen) g (xs.map e) = .ret (xs.filterMap r)
  | [], _ => rfl
  | x :: xs, h => by
    have h1 := h x (by simp)
    have h2 := cp_eqg (xs := xs) (g := g) (r := r) fun y hy => h y (by simp [hy])
    show bnd (μ := Gen) (g (e x)) _ = _
    rw [h1, g_bnd, h2, g_bnd]
    cases hr : r x <;> simp [hr]
/-- [r x for x in xs if t x], no draws within, among draws -/
theorem lc_eqg {e : α → D} {sel : D → Option A} {s : α → A} {mt : A → Gen Bool} {me : A → Gen D} {t : α → Bool} {r : α → D} {xs : List α} {ml : Gen (List D)} (h1 : ml = .ret (xs.map e)) (hs : ∀ x ∈ xs, sel (e x) = some (s x)) (h2 : ∀ x ∈ xs, mt (s x) = .ret (t x))
    (h3 : ∀ x ∈ xs, t x = true → me (s x) = .ret (r x)) (h4 : (xs.filter t).length < 16000000) : lcM (μ := Gen) sel ml mt me = .ret (.list ((xs.filter t).map r)) := by
  subst h1
  unfold lcM
  rw [g_bnd, cp_eqg (r := fun x => if t x then some (r x) else none), filterMap_if, g_bnd, mkL_g (by simpa using h4)]
  intro x hx
  rw [hs x hx, g_lif, g_bnd, h2 x hx, g_bnd]
  cases h : t x with
  | true =>
    show bnd (μ := Gen) (me (s x)) _ = _
    rw [h3 x hx h]; simp
  | false => rfl
theorem lc_eqg0 {e : α → D} {sel : D → Option A} {s : α → A} {me : A → Gen D} {r : α → D} {xs : List α} {ml : Gen (List D)} (h1 : ml = .ret (xs.map e)) (hs : ∀ x ∈ xs, sel (e x) = some (s x))
    (h3 : ∀ x ∈ xs, me (s x) = .ret (r x)) (h4 : xs.length < 16000000) : lcM (μ := Gen) sel ml (fun _ => pur true) me = .ret (.list (xs.map r)) := by
  have h := lc_eqg (t := fun _ => true) (r := r) h1 hs (mt := fun _ => pur true) (fun _ _ => rfl) (fun x hx _ => h3 x hx) (by rw [List.filter_eq_self.mpr (fun _ _ => rfl)]; exact h4)
  rw [List.filter_eq_self.mpr (fun _ _ => rfl)] at h
  exact h
/-- .. in a law: no turn returns -/
theorem gen_for {e : α → D} {sel : D → Option A} {s : α → A} {g : Unit → A → Gen (Ctl Unit)} {xs : List α} {ml : Gen (List D)} {Q : Sum Unit D → Prop} (h1 : ml = .ret (xs.map e)) (hs : ∀ x ∈ xs, sel (e x) = some (s x)) (h : ∀ x ∈ xs, (g () (s x)).all fun r => r = .nxt ()) (hq : Q (.inl ())) :
    (forC (μ := Gen) sel ml () g).all Q := by
  subst h1
  unfold forC
  rw [g_bnd]
  induction xs with
  | nil => exact hq
  | cons x xs ih =>
    refine all_bnd (fun r => r = .nxt ()) ?_ fun r hr => ?_
    · show (bnd (μ := Gen) (lif (sel (e x))) fun x => g () x).all _
      rw [hs x (by simp), g_lif, g_bnd]
      exact h x (by simp)
    · subst hr
      exact ih (fun y hy => hs y (by simp [hy])) fun y hy => h y (by simp [hy])
end
end Y

set_option maxRecDepth 100000
set_option maxHeartbeats 1000000
namespace Y
open PySem L2 PM PX
abbrev eD (kv : List (Nat × D)) : D := .dict (kv.map fun p => (PyData.int (p.1 : Int), p.2))
theorem keq_nn (a b : Nat) : keq (.int (a : Int)) (.int (b : Int)) = decide (a = b) := by
  show decide ((a : Int) = b) = _
  rw [decide_eq_decide]; omega
theorem kind_nn (kv : List (Nat × D)) (k : Nat) : kindOk (kv.map fun p => (PyData.int (p.1 : Int), p.2)) (.int (k : Int)) = true := by
  cases kv <;> rfl
theorem any_nn (kv : List (Nat × D)) (k : Nat) : ((kv.map fun p => (PyData.int (p.1 : Int), p.2)).any fun p => keq p.1 (.int (k : Int))) = decide (k ∈ kv.map (·.1)) := by
  induction kv with
  | nil => simp
  | cons p kv ih =>
    rw [List.map_cons, List.any_cons, ih, keq_nn, List.map_cons]
    by_cases h : p.1 = k
    · simp [h]
    · have h2 : ¬ k = p.1 := fun e => h e.symm
      simp [h, h2]
theorem dPut_new {kv : List (Nat × D)} {k : Nat} {v : D} (h : k ∉ kv.map (·.1)) : dPut (kv.map fun p => (PyData.int (p.1 : Int), p.2)) (.int (k : Int)) v = (kv ++ [(k, v)]).map fun p => (PyData.int (p.1 : Int), p.2) := by
  unfold dPut
  rw [any_nn, if_neg (by simpa using h)]
  simp
theorem dSet_put {kv : List (Nat × D)} {k : Nat} {v : D} (hl : kv.length < 1000000) : dSet (eD kv) (.int (k : Int)) v = some (.dict (dPut (kv.map fun p => (PyData.int (p.1 : Int), p.2)) (.int (k : Int)) v)) := by
  cases kv with
  | nil => rfl
  | cons p kv =>
    show (if kindOk ((p :: kv).map fun p => (PyData.int (p.1 : Int), p.2)) (.int (k : Int)) && decide ((kv.map fun p => (PyData.int (p.1 : Int), p.2)).length < 16000000) then _ else _) = _
    rw [kind_nn, List.length_map]
    have : kv.length < 16000000 := by simp at hl; omega
    rw [if_pos (by simpa using this)]
    rfl
theorem dSet_new {kv : List (Nat × D)} {k : Nat} {v : D} (hl : kv.length < 1000000) (h : k ∉ kv.map (·.1)) : dSet (eD kv) (.int (k : Int)) v = some (eD (kv ++ [(k, v)])) := by
  rw [dSet_put hl, dPut_new h]
/-- all values alike: a set of keys -/
theorem dSet_key {ks : List Nat} {k : Nat} {v : D} (hl : ks.length < 1000000) : dSet (eD (ks.map fun k => (k, v))) (.int (k : Int)) v = some (eD ((if k ∈ ks then ks else ks ++ [k]).map fun k => (k, v))) := by
  rw [dSet_put (by simpa using hl)]
  have e : (ks.map fun k => (k, v)).map (·.1) = ks := by simp [Function.comp_def]
  by_cases h : k ∈ ks
  · rw [if_pos h]
    unfold dPut
    rw [any_nn, e, if_pos (by simpa using h)]
    congr 2
    rw [List.map_map, List.map_map, List.map_map]
    refine List.map_congr_left fun x _ => ?_
    simp only [Function.comp]
    split <;> rfl
  · rw [if_neg h, dPut_new (by rw [e]; exact h)]
    simp
theorem bIn_nn (kv : List (Nat × D)) (k : Nat) : bIn (.int (k : Int)) (eD kv) = some (decide (k ∈ kv.map (·.1))) := by
  cases kv with
  | nil =>
    show some false = _
    simp
  | cons p kv =>
    show (if kindOk ((p :: kv).map fun p => (PyData.int (p.1 : Int), p.2)) (.int (k : Int)) then some (dVal ((p :: kv).map fun p => (PyData.int (p.1 : Int), p.2)) (.int (k : Int))).isSome else none) = _
    rw [kind_nn, if_pos rfl]
    unfold dVal
    rw [Option.isSome_map]
    congr 1
    rw [Bool.eq_iff_iff, ← any_nn (p :: kv) k, List.any_eq_true, List.find?_isSome]
theorem bNotIn_nn (kv : List (Nat × D)) (k : Nat) : bNotIn (.int (k : Int)) (eD kv) = some (!decide (k ∈ kv.map (·.1))) := by
  have h := bIn_nn kv k
  unfold bIn at h
  unfold bNotIn
  rw [h]; rfl
theorem dVal_nn {kv : List (Nat × D)} {k : Nat} {v : D} (h : kv.lookup k = some v) : dVal (kv.map fun p => (PyData.int (p.1 : Int), p.2)) (.int (k : Int)) = some v := by
  induction kv with
  | nil => simp at h
  | cons p kv ih =>
    obtain ⟨a, d⟩ := p
    unfold dVal
    rw [List.map_cons, List.find?_cons, keq_nn]
    by_cases e : a = k
    · subst e
      rw [List.lookup_cons_self] at h
      cases h
      simp
    · have e2 : (k == a) = false := by simpa using fun z : k = a => e z.symm
      rw [List.lookup_cons, e2] at h
      have := ih h
      unfold dVal at this
      simpa [e] using this
theorem dSub_nn {kv : List (Nat × D)} {k : Nat} {v : D} (h : kv.lookup k = some v) : dSub2 (eD kv) (.int (k : Int)) = some v := by
  show (if kindOk (kv.map fun p => (PyData.int (p.1 : Int), p.2)) (.int (k : Int)) then dVal (kv.map fun p => (PyData.int (p.1 : Int), p.2)) (.int (k : Int)) else none) = _
  rw [kind_nn, if_pos rfl, dVal_nn h]
theorem lookup_map {g : Nat → D} : ∀ {L : List Nat} {k : Nat}, k ∈ L → (L.map fun k => (k, g k)).lookup k = some (g k)
  | a :: L, k, h => by
    rw [List.map_cons, List.lookup_cons]
    by_cases e : k = a
    · subst e; simp
    · have : (k == a) = false := by simpa using e
      rw [this]
      rcases List.mem_cons.mp h with z | z
      · exact absurd z e
      · exact lookup_map z
end Y

set_option maxRecDepth 100000
set_option maxHeartbeats 1000000
namespace Y
open PySem L2 PM PX
section
variable {α A S T R : Type}
theorem lp_eqIg {e : α → D} {g : S → D → Gen S} {inj : T → S} {step : T → α → T} (P : Nat → T → Prop) : ∀ {xs : List α} {σ : T} (k : Nat), P k σ → (∀ k' σ x, k ≤ k' → k' < k + xs.length → x ∈ xs → P k' σ → g (inj σ) (e x) = .ret (inj (step σ x)) ∧ P (k' + 1) (step σ x)) → lp (μ := Gen) g (xs.map e) (inj σ) = .ret (inj (xs.foldl step σ)) ∧ P (k + xs.length) (xs.foldl step σ)
  | [], σ, k, h0, _ => ⟨rfl, h0⟩
  | x :: xs, σ, k, h0, h => by
    obtain ⟨h1, h2⟩ := h k σ x (Nat.le_refl k) (by simp) (by simp) h0
    have ih := lp_eqIg (xs := xs) (σ := step σ x) (g := g) (e := e) (inj := inj) P (k + 1) h2 fun k' σ y hk hk2 hy => h k' σ y (by omega) (by simp; omega) (by simp [hy])
    refine ⟨?_, ?_⟩
    · show bnd (μ := Gen) (g (inj σ) (e x)) _ = _
      rw [h1, g_bnd]
      exact ih.1
    · have e2 : k + (x :: xs).length = k + 1 + xs.length := by simp; omega
      rw [e2]
      exact ih.2
theorem for_eqIg {e : α → D} {sel : D → Option A} {s : α → A} {g : S → A → Gen S} {inj : T → S} {step : T → α → T} {xs : List α} {ml : Gen (List D)} {σ : T} {s0 : S} (P : Nat → T → Prop) (h1 : ml = .ret (xs.map e)) (hs : ∀ x ∈ xs, sel (e x) = some (s x)) (e0 : s0 = inj σ) (h0 : P 0 σ)
    (h : ∀ k σ x, k < xs.length → x ∈ xs → P k σ → g (inj σ) (s x) = .ret (inj (step σ x)) ∧ P (k + 1) (step σ x)) : forM' (μ := Gen) sel ml s0 g = .ret (inj (xs.foldl step σ)) ∧ P xs.length (xs.foldl step σ) := by
  subst h1 e0
  unfold forM'
  rw [g_bnd]
  have q := lp_eqIg (e := e) (inj := inj) (step := step) (g := fun σ d => bnd (lif (sel d)) fun x => g σ x) P (xs := xs) (σ := σ) 0 h0 fun k σ x _ hk hx hp => by
    rw [hs x hx, g_lif, g_bnd]
    exact h k σ x (by omega) hx hp
  simpa using q
theorem lpC_eqIg {e : α → D} {g : S → D → Gen (Ctl S)} {inj : T → S} {step : T → α → T} (P : Nat → T → Prop) : ∀ {xs : List α} {σ : T} (k : Nat), P k σ → (∀ k' σ x, k ≤ k' → k' < k + xs.length → x ∈ xs → P k' σ → g (inj σ) (e x) = .ret (.nxt (inj (step σ x))) ∧ P (k' + 1) (step σ x)) → lpC (μ := Gen) g (xs.map e) (inj σ) = .ret (.inl (inj (xs.foldl step σ))) ∧ P (k + xs.length) (xs.foldl step σ)
  | [], σ, k, h0, _ => ⟨rfl, h0⟩
  | x :: xs, σ, k, h0, h => by
    obtain ⟨h1, h2⟩ := h k σ x (Nat.le_refl k) (by simp) (by simp) h0
    have ih := lpC_eqIg (xs := xs) (σ := step σ x) (g := g) (e := e) (inj := inj) P (k + 1) h2 fun k' σ y hk hk2 hy => h k' σ y (by omega) (by simp; omega) (by simp [hy])
    refine ⟨?_, ?_⟩
    · show bnd (μ := Gen) (g (inj σ) (e x)) _ = _
      rw [h1, g_bnd]
      exact ih.1
    · have e2 : k + (x :: xs).length = k + 1 + xs.length := by simp; omega
      rw [e2]
      exact ih.2
theorem forC_eqIg {e : α → D} {sel : D → Option A} {s : α → A} {g : S → A → Gen (Ctl S)} {inj : T → S} {step : T → α → T} {xs : List α} {ml : Gen (List D)} {σ : T} {s0 : S} (P : Nat → T → Prop) (h1 : ml = .ret (xs.map e)) (hs : ∀ x ∈ xs, sel (e x) = some (s x)) (e0 : s0 = inj σ) (h0 : P 0 σ)
    (h : ∀ k σ x, k < xs.length → x ∈ xs → P k σ → g (inj σ) (s x) = .ret (.nxt (inj (step σ x))) ∧ P (k + 1) (step σ x)) : forC (μ := Gen) sel ml s0 g = .ret (.inl (inj (xs.foldl step σ))) ∧ P xs.length (xs.foldl step σ) := by
  subst h1 e0
  unfold forC
  rw [g_bnd]
  have q := lpC_eqIg (e := e) (inj := inj) (step := step) (g := fun σ d => bnd (lif (sel d)) fun x => g σ x) P (xs := xs) (σ := σ) 0 h0 fun k σ x _ hk hx hp => by
    rw [hs x hx, g_lif, g_bnd]
    exact h k σ x (by omega) hx hp
  simpa using q
end
@[simp] theorem mkL2g (a b : D) : (mkL [a, b] : Gen D) = .ret (.list [a, b]) := mkL_g (ds := [a, b]) (by simp)
end Y

set_option maxRecDepth 100000
set_option maxHeartbeats 4000000
namespace Y
open PySem L2 PM PX
def topS (i : Nat) : Stmt := PySem.Challenge.pw_loomwork_k49_families_of_kin.main.body.getD i (.Pass ⟨0, 0, 0, 0⟩)
structure Ev (K : PySem.W.Frag) (mg : Str → Option Value) : Prop where
  g_bool : mg "bool" = none
  g_dict : mg "dict" = none
  g_int : mg "int" = none
  g_isinstance : mg "isinstance" = none
  g_len : mg "len" = none
  g_list : mg "list" = none
  g_range : mg "range" = none
  g_set : mg "set" = none
  g_sorted : mg "sorted" = none
  g_str : mg "str" = none
  g_tuple : mg "tuple" = none
  i_gcd : mg "gcd" = some (.builtin "math.gcd")
  f_steps : ∃ f fd, FnP K "steps" (topS 2) f fd ∧ mg "steps" = some (.ref f)
  f_undone : ∃ f fd, FnP K "undone" (topS 3) f fd ∧ mg "undone" = some (.ref f)
  f_kin : ∃ f fd, FnP K "kin" (topS 4) f fd ∧ mg "kin" = some (.ref f)
  f_families : ∃ f fd, FnP K "families" (topS 5) f fd ∧ mg "families" = some (.ref f)
  f_turned : ∃ f fd, FnP K "turned" (topS 6) f fd ∧ mg "turned" = some (.ref f)
  f_mirrored : ∃ f fd, FnP K "mirrored" (topS 7) f fd ∧ mg "mirrored" = some (.ref f)
  f_family_count : ∃ f fd, FnP K "family_count" (topS 8) f fd ∧ mg "family_count" = some (.ref f)
  f__law_mixed : ∃ f fd, FnP K "_law_mixed" (topS 10) f fd ∧ mg "_law_mixed" = some (.ref f)
  f__law_rest : ∃ f fd, FnP K "_law_rest" (topS 11) f fd ∧ mg "_law_rest" = some (.ref f)
  f__law_pool : ∃ f fd, FnP K "_law_pool" (topS 12) f fd ∧ mg "_law_pool" = some (.ref f)
  f__law_draw : ∃ f fd, FnP K "_law_draw" (topS 13) f fd ∧ mg "_law_draw" = some (.ref f)
  f__law_pick : ∃ f fd, FnP K "_law_pick" (topS 14) f fd ∧ mg "_law_pick" = some (.ref f)
  f__law_gcd : ∃ f fd, FnP K "_law_gcd" (topS 15) f fd ∧ mg "_law_gcd" = some (.ref f)
  f__law_regular : ∃ f fd, FnP K "_law_regular" (topS 16) f fd ∧ mg "_law_regular" = some (.ref f)
  f__law_same : ∃ f fd, FnP K "_law_same" (topS 17) f fd ∧ mg "_law_same" = some (.ref f)
  f__law_all_ways : ∃ f fd, FnP K "_law_all_ways" (topS 18) f fd ∧ mg "_law_all_ways" = some (.ref f)
  f__law_laid : ∃ f fd, FnP K "_law_laid" (topS 19) f fd ∧ mg "_law_laid" = some (.ref f)
  f_law : ∃ f fd, FnP K "law" (topS 20) f fd ∧ mg "law" = some (.ref f)
section
variable {P : Program} {w : World} {K : PySem.W.Frag} {mg : Str → Option Value} {base : Heap}
abbrev s_steps : Stmt := topS 2
theorem sc_steps : FnScope ["n", "step"] ["n"] (defScope s_steps) := ⟨rfl, rfl, rfl, by decide +kernel, rfl, by decide +kernel, by decide +kernel⟩
def m_steps' (d0 : D) : Option D :=
  (lcM selN (i1 dRg1 (pur d0)) (fun x1 : D => (b2 bEq (bnd (pur x1) fun a2 => bnd (pur d0) fun a3 => lif (dop2 dGcd [a2, a3])) (pur (.int 1)))) (fun x1 => (pur x1)))
def m_steps (ds : List D) : Option D := match ds with
  | [d0] => m_steps' d0
  | _ => lif none
theorem ok_steps (c : Ev K mg) : DOk P w K mg base "steps" 2 ["n"] [.val] m_steps := by
  obtain ⟨f, fd, F, gm⟩ := c.f_steps
  refine ⟨f, fd, fn_mk (k := 1) F sc_steps rfl (by decide) fun ds hl => ?_, gm, F.kp, F.bindsN fun _ _ _ _ _ _ us hl => match us, hl with | [_], _ => rfl⟩
  match ds, hl with
  | [d0], _ =>
    show GX _ tFun [.val d0, .any] _ (m_steps' d0) _
    unfold m_steps'
    exact (gx_ret (EXN.x (LCX.n (lc (own := [("step", 1)]) (it_range1 c.g_range (ex_val (i := 0) rfl (fun _ => rfl) (fun _ => .inr (.inl rfl)))) (tg_name (i := 1) (fun _ => rfl) (fun _ => .inl rfl) (fun _ => .inr rfl)) (by decide) (by simp) (fun x1 => (exi_one (exb_cmp fop_eq rbp_eq (EX.t (ex_fb (fun _ => cr_gcd) rc_gcd c.i_gcd (exk_top (EX.t (ex_val (i := 1) rfl (fun _ => rfl) (fun _ => .inl rfl))) (exk_top (EX.t (ex_val (i := 0) rfl (fun _ => rfl) (fun _ => .inr (.inl rfl)))) exk_nil ) ) rfl)) (EX.t ex_int)))) (fun x1 => (ex_val (i := 1) rfl (fun _ => rfl) (fun _ => .inl rfl)))) (fun _ => blk_of rfl rfl rfl rfl rfl))))
abbrev s_undone : Stmt := topS 3
theorem sc_undone : FnScope ["n", "step", "other"] ["n", "step"] (defScope s_undone) := ⟨rfl, rfl, rfl, by decide +kernel, rfl, by decide +kernel, by decide +kernel⟩
def m_undone' (d0 d1 : D) : Option D :=
  (b2 dSub2 (lcM selN (i1 dRg1 (pur d0)) (fun x1 : D => (b2 bEq (b2 dMod (b2 dSub (b2 dMul (pur d1) (pur x1)) (pur (.int 1))) (pur d0)) (pur (.int 0)))) (fun x1 => (pur x1))) (pur (.int 0)))
def m_undone (ds : List D) : Option D := match ds with
  | [d0, d1] => m_undone' d0 d1
  | _ => lif none
theorem ok_undone (c : Ev K mg) : DOk P w K mg base "undone" 2 ["n", "step"] [.val, .val] m_undone := by
  obtain ⟨f, fd, F, gm⟩ := c.f_undone
  refine ⟨f, fd, fn_mk (k := 1) F sc_undone rfl (by decide) fun ds hl => ?_, gm, F.kp, F.bindsN fun _ _ _ _ _ _ us hl => match us, hl with | [_, _], _ => rfl⟩
  match ds, hl with
  | [d0, d1], _ =>
    show GX _ tFun [.val d0, .val d1, .any] _ (m_undone' d0 d1) _
    unfold m_undone'
    exact (gx_ret (ex_sub (EXN.t (LCX.n (lc (own := [("other", 2)]) (it_range1 c.g_range (ex_val (i := 0) rfl (fun _ => rfl) (fun _ => .inr (.inl rfl)))) (tg_name (i := 2) (fun _ => rfl) (fun _ => .inl rfl) (fun _ => .inr rfl)) (by decide) (by simp) (fun x1 => (exi_one (exb_cmp fop_eq rbp_eq (EX.t (ex_bin (fun _ => op_modN) rop_mod (EX.t (ex_bin (fun _ => op_sub) rop_sub (EX.t (ex_bin (fun _ => op_mulD) rop_mul (EX.t (ex_val (i := 1) rfl (fun _ => rfl) (fun _ => .inr (.inl rfl)))) (EX.t (ex_val (i := 2) rfl (fun _ => rfl) (fun _ => .inl rfl))))) (EX.t ex_int))) (EX.t (ex_val (i := 0) rfl (fun _ => rfl) (fun _ => .inr (.inl rfl)))))) (EX.t ex_int)))) (fun x1 => (ex_val (i := 2) rfl (fun _ => rfl) (fun _ => .inl rfl)))) (fun _ => blk_of rfl rfl rfl rfl rfl))) (EX.t ex_int)))
abbrev s_kin : Stmt := topS 4
theorem sc_kin : FnScope ["n", "step", "back"] ["n", "step"] (defScope s_kin) := ⟨rfl, rfl, rfl, by decide +kernel, rfl, by decide +kernel, by decide +kernel⟩
def m_kin' (d0 d1 : D) : Option D :=
  (bnd (bnd (pur d0) fun a4 => bnd (pur d1) fun a5 => m_undone [a4, a5]) fun back_1 => (u1 dSortSet (bnd (pur d1) fun a6 => bnd (b2 dMod (u1 dNeg (pur d1)) (pur d0)) fun a7 => bnd (pur back_1) fun a8 => bnd (b2 dMod (u1 dNeg (pur back_1)) (pur d0)) fun a9 => mkL [a6, a7, a8, a9])))
def m_kin (ds : List D) : Option D := match ds with
  | [d0, d1] => m_kin' d0 d1
  | _ => lif none
theorem ok_kin (c : Ev K mg) : DOk P w K mg base "kin" 3 ["n", "step"] [.val, .val] m_kin := by
  obtain ⟨f, fd, F, gm⟩ := c.f_kin
  refine ⟨f, fd, fn_mk (k := 2) F sc_kin rfl (by decide) fun ds hl => ?_, gm, F.kp, F.bindsN fun _ _ _ _ _ _ us hl => match us, hl with | [_, _], _ => rfl⟩
  match ds, hl with
  | [d0, d1], _ =>
    show GX _ tFun [.val d0, .val d1, .any] _ (m_kin' d0 d1) _
    unfold m_kin'
    exact (gx_seq (sx_set (i := 2) (ex_cS (ok_undone c) (Nat.le_of_ble_eq_true rfl) (fun _ => rfl) (exk_val (ex_val (i := 0) rfl (fun _ => rfl) (fun _ => .inl rfl)) (exk_val (ex_val (i := 1) rfl (fun _ => rfl) (fun _ => .inl rfl)) exk_nil ) ) rfl) (fun _ => rfl) (by simp) (fun _ => .inl rfl) (fun _ => .inr rfl)) fun back_1 => (gx_ret (ex_sortSet (EXN.t (en_list (exa_cons (ex_val (i := 1) rfl (fun _ => rfl) (fun _ => .inl rfl)) (exa_cons (ex_bin (fun _ => op_modN) rop_mod (EX.t (ex_neg (EX.t (ex_val (i := 1) rfl (fun _ => rfl) (fun _ => .inl rfl))))) (EX.t (ex_val (i := 0) rfl (fun _ => rfl) (fun _ => .inl rfl)))) (exa_cons (ex_val (i := 2) rfl (fun _ => rfl) (fun _ => .inl rfl)) (exa_cons (ex_bin (fun _ => op_modN) rop_mod (EX.t (ex_neg (EX.t (ex_val (i := 2) rfl (fun _ => rfl) (fun _ => .inl rfl))))) (EX.t (ex_val (i := 0) rfl (fun _ => rfl) (fun _ => .inl rfl)))) exa_nil)))) rfl)) c.g_sorted c.g_set)))
abbrev s_families : Stmt := topS 5
theorem sc_families : FnScope ["n", "found", "seen", "step", "other"] ["n"] (defScope s_families) := ⟨rfl, rfl, rfl, by decide +kernel, rfl, by decide +kernel, by decide +kernel⟩
def m_families' (d0 : D) : Option D :=
  (bnd (mkL []) fun found_1 => (bnd (pur (.dict [])) fun seen_2 => (bnd (forM' selN (i1 dSeq (bnd (pur d0) fun a3 => m_steps [a3])) (found_1, seen_2) (fun (s4 : D × D) (x5 : D) => (iteR (b2 bNotIn (pur x5) (pur s4.2)) (bnd (bnd (bnd (pur d0) fun a6 => bnd (pur x5) fun a7 => m_kin [a6, a7]) fun a8 => lif (dApp s4.1 a8)) fun found_9 => (bnd (forM' selN (i1 dSeq (b2 dSub2 (pur found_9) (u1 dNeg (pur (.int 1))))) s4.2 (fun (s10 : D) (x11 : D) => (bnd (bnd (pur (.bool true)) fun a12 => bnd (pur x11) fun a13 => lif (dSet s10 a13 a12)) fun seen_14 => (pur seen_14)))) fun s15 => (pur (found_9, s15)))) (pur (s4.1, s4.2))))) fun s16 => (bnd (pur s16.1) fun a17 => lif (dop1 dSorted [a17])))))
def m_families (ds : List D) : Option D := match ds with
  | [d0] => m_families' d0
  | _ => lif none
theorem ok_families (c : Ev K mg) : DOk P w K mg base "families" 4 ["n"] [.val] m_families := by
  obtain ⟨f, fd, F, gm⟩ := c.f_families
  refine ⟨f, fd, fn_mk (k := 3) F sc_families rfl (by decide) fun ds hl => ?_, gm, F.kp, F.bindsN fun _ _ _ _ _ _ us hl => match us, hl with | [_], _ => rfl⟩
  match ds, hl with
  | [d0], _ =>
    show GX _ tFun [.val d0, .any, .any, .any, .any] _ (m_families' d0) _
    unfold m_families'
    exact (gx_seq (sx_setN (i := 1) (en_list exa_nil rfl) (fun _ => rfl) (by simp) (fun _ => .inl rfl) (fun _ => .inr rfl)) fun found_1 => (gx_seq (sx_setN (i := 2) en_dict0 (fun _ => rfl) (by simp) (fun _ => .inl rfl) (fun _ => .inr rfl)) fun seen_2 => (gx_seq (sx_fr (Γf := (fun (s4 : D × D) => [.val d0, .own s4.1, .own s4.2, .any, .any])) (s0 := (found_1, seen_2)) (it_seq (ex_cS (ok_steps c) (Nat.le_of_ble_eq_true rfl) (fun _ => rfl) (exk_val (ex_val (i := 0) rfl (fun _ => rfl) (fun _ => .inl rfl)) exk_nil ) rfl)) (tg_name (i := 3) (fun _ => rfl) (fun _ => .inl rfl) (fun _ => .inr rfl)) (.same (.same (.same (.drop (.drop .nil))))) (fun _ => by simp) (fun s4 x5 => (SX.gx (sx_if' (exb_cmp fop_notIn rbp_notIn (EX.t (ex_val (i := 3) rfl (fun _ => rfl) (fun _ => .inl rfl))) (ex_own (i := 2) rfl (fun _ => rfl) (fun _ => .inl rfl))) (gx_seq (sx_append (i := 1) rfl (ex_cS (ok_kin c) (Nat.le_of_ble_eq_true rfl) (fun _ => rfl) (exk_val (ex_val (i := 0) rfl (fun _ => rfl) (fun _ => .inl rfl)) (exk_val (ex_val (i := 3) rfl (fun _ => rfl) (fun _ => .inl rfl)) exk_nil ) ) rfl) (fun _ => rfl) (fun _ => .inl rfl)) fun found_9 => (gx_seq (sx_fr (Γf := (fun (s10 : D) => [.val d0, .own found_9, .own s10, .val x5, .any])) (s0 := s4.2) (it_seq (ex_sub (ex_own (i := 1) rfl (fun _ => rfl) (fun _ => .inl rfl)) (EX.t (ex_neg (EX.t ex_int))))) (tg_name (i := 4) (fun _ => rfl) (fun _ => .inl rfl) (fun _ => .inr rfl)) (.same (.same (.same (.same (.drop .nil))))) (fun _ => by simp) (fun s10 x11 => (gx_seq (sx_put (i := 2) rfl ex_bl (ex_val (i := 4) rfl (fun _ => rfl) (fun _ => .inl rfl)) (fun _ => rfl) (fun _ => .inl rfl)) fun seen_14 => (gx_end (s := seen_14) (.same (.same (.same (.same (.drop .nil))))))))) fun s15 => (gx_end (s := (found_9, s15)) (.same (.same (.same (.drop (.drop .nil)))))))) (gx_end (s := (s4.1, s4.2)) (.same (.same (.same (.drop (.drop .nil)))))))))) fun s16 => (gx_ret (ex_bi fcr_sortD rc_sortD c.g_sorted (by decide +kernel) (exk_top (ex_own (i := 1) rfl (fun _ => rfl) (fun _ => .inl rfl)) exk_nil ) rfl)))))
abbrev s_turned : Stmt := topS 6
theorem sc_turned : FnScope ["n", "step"] ["n"] (defScope s_turned) := ⟨rfl, rfl, rfl, by decide +kernel, rfl, by decide +kernel, by decide +kernel⟩
def m_turned' (d0 : D) : Option D :=
  (lcM selN (i1 dSeq (bnd (pur d0) fun a1 => m_steps [a1])) (fun x2 : D => (b2 bEq (b2 dMod (b2 dAdd (b2 dMul (pur x2) (pur x2)) (pur (.int 1))) (pur d0)) (pur (.int 0)))) (fun x2 => (pur x2)))
def m_turned (ds : List D) : Option D := match ds with
  | [d0] => m_turned' d0
  | _ => lif none
theorem ok_turned (c : Ev K mg) : DOk P w K mg base "turned" 3 ["n"] [.val] m_turned := by
  obtain ⟨f, fd, F, gm⟩ := c.f_turned
  refine ⟨f, fd, fn_mk (k := 2) F sc_turned rfl (by decide) fun ds hl => ?_, gm, F.kp, F.bindsN fun _ _ _ _ _ _ us hl => match us, hl with | [_], _ => rfl⟩
  match ds, hl with
  | [d0], _ =>
    show GX _ tFun [.val d0, .any] _ (m_turned' d0) _
    unfold m_turned'
    exact (gx_ret (EXN.x (LCX.n (lc (own := [("step", 1)]) (it_seq (ex_cS (ok_steps c) (Nat.le_of_ble_eq_true rfl) (fun _ => rfl) (exk_val (ex_val (i := 0) rfl (fun _ => rfl) (fun _ => .inr (.inl rfl))) exk_nil ) rfl)) (tg_name (i := 1) (fun _ => rfl) (fun _ => .inl rfl) (fun _ => .inr rfl)) (by decide) (by simp) (fun x2 => (exi_one (exb_cmp fop_eq rbp_eq (EX.t (ex_bin (fun _ => op_modN) rop_mod (EX.t (ex_bin fop_add rop_add (EX.t (ex_bin (fun _ => op_mulD) rop_mul (EX.t (ex_val (i := 1) rfl (fun _ => rfl) (fun _ => .inl rfl))) (EX.t (ex_val (i := 1) rfl (fun _ => rfl) (fun _ => .inl rfl))))) (EX.t ex_int))) (EX.t (ex_val (i := 0) rfl (fun _ => rfl) (fun _ => .inr (.inl rfl)))))) (EX.t ex_int)))) (fun x2 => (ex_val (i := 1) rfl (fun _ => rfl) (fun _ => .inl rfl)))) (fun _ => blk_of rfl rfl rfl rfl rfl))))
abbrev s_mirrored : Stmt := topS 7
theorem sc_mirrored : FnScope ["n", "step"] ["n"] (defScope s_mirrored) := ⟨rfl, rfl, rfl, by decide +kernel, rfl, by decide +kernel, by decide +kernel⟩
def m_mirrored' (d0 : D) : Option D :=
  (lcM selN (i1 dSeq (bnd (pur d0) fun a1 => m_steps [a1])) (fun x2 : D => (b2 bEq (b2 dMod (b2 dSub (b2 dMul (pur x2) (pur x2)) (pur (.int 1))) (pur d0)) (pur (.int 0)))) (fun x2 => (pur x2)))
def m_mirrored (ds : List D) : Option D := match ds with
  | [d0] => m_mirrored' d0
  | _ => lif none
theorem ok_mirrored (c : Ev K mg) : DOk P w K mg base "mirrored" 3 ["n"] [.val] m_mirrored := by
  obtain ⟨f, fd, F, gm⟩ := c.f_mirrored
  refine ⟨f, fd, fn_mk (k := 2) F sc_mirrored rfl (by decide) fun ds hl => ?_, gm, F.kp, F.bindsN fun _ _ _ _ _ _ us hl => match us, hl with | [_], _ => rfl⟩
  match ds, hl with
  | [d0], _ =>
    show GX _ tFun [.val d0, .any] _ (m_mirrored' d0) _
    unfold m_mirrored'
    exact (gx_ret (EXN.x (LCX.n (lc (own := [("step", 1)]) (it_seq (ex_cS (ok_steps c) (Nat.le_of_ble_eq_true rfl) (fun _ => rfl) (exk_val (ex_val (i := 0) rfl (fun _ => rfl) (fun _ => .inr (.inl rfl))) exk_nil ) rfl)) (tg_name (i := 1) (fun _ => rfl) (fun _ => .inl rfl) (fun _ => .inr rfl)) (by decide) (by simp) (fun x2 => (exi_one (exb_cmp fop_eq rbp_eq (EX.t (ex_bin (fun _ => op_modN) rop_mod (EX.t (ex_bin (fun _ => op_sub) rop_sub (EX.t (ex_bin (fun _ => op_mulD) rop_mul (EX.t (ex_val (i := 1) rfl (fun _ => rfl) (fun _ => .inl rfl))) (EX.t (ex_val (i := 1) rfl (fun _ => rfl) (fun _ => .inl rfl))))) (EX.t ex_int))) (EX.t (ex_val (i := 0) rfl (fun _ => rfl) (fun _ => .inr (.inl rfl)))))) (EX.t ex_int)))) (fun x2 => (ex_val (i := 1) rfl (fun _ => rfl) (fun _ => .inl rfl)))) (fun _ => blk_of rfl rfl rfl rfl rfl))))
abbrev s_family_count : Stmt := topS 8
theorem sc_family_count : FnScope ["n", "own", "step"] ["n"] (defScope s_family_count) := ⟨rfl, rfl, rfl, by decide +kernel, rfl, by decide +kernel, by decide +kernel⟩
def m_family_count' (d0 : D) : Option D :=
  (bnd (lcM selN (i1 dSeq (bnd (pur d0) fun a2 => m_steps [a2])) (fun x3 : D => (b2 bEq (b2 dMod (b2 dMul (pur (.int 2)) (pur x3)) (pur d0)) (pur (.int 0)))) (fun x3 => (pur x3))) fun own_1 => (b2 dFdiv (b2 dAdd (b2 dAdd (b2 dAdd (bnd (bnd (pur d0) fun a4 => m_steps [a4]) fun a5 => lif (dop1 dLen [a5])) (bnd (pur own_1) fun a6 => lif (dop1 dLen [a6]))) (bnd (bnd (pur d0) fun a7 => m_turned [a7]) fun a8 => lif (dop1 dLen [a8]))) (bnd (bnd (pur d0) fun a9 => m_mirrored [a9]) fun a10 => lif (dop1 dLen [a10]))) (pur (.int 4))))
def m_family_count (ds : List D) : Option D := match ds with
  | [d0] => m_family_count' d0
  | _ => lif none
theorem ok_family_count (c : Ev K mg) : DOk P w K mg base "family_count" 4 ["n"] [.val] m_family_count := by
  obtain ⟨f, fd, F, gm⟩ := c.f_family_count
  refine ⟨f, fd, fn_mk (k := 3) F sc_family_count rfl (by decide) fun ds hl => ?_, gm, F.kp, F.bindsN fun _ _ _ _ _ _ us hl => match us, hl with | [_], _ => rfl⟩
  match ds, hl with
  | [d0], _ =>
    show GX _ tFun [.val d0, .any, .any] _ (m_family_count' d0) _
    unfold m_family_count'
    exact (gx_seq (sx_setLc (i := 1) (lc (own := [("step", 2)]) (it_seq (ex_cS (ok_steps c) (Nat.le_of_ble_eq_true rfl) (fun _ => rfl) (exk_val (ex_val (i := 0) rfl (fun _ => rfl) (fun _ => .inr (.inl rfl))) exk_nil ) rfl)) (tg_name (i := 2) (fun _ => rfl) (fun _ => .inl rfl) (fun _ => .inr rfl)) (by decide) (by simp) (fun x3 => (exi_one (exb_cmp fop_eq rbp_eq (EX.t (ex_bin (fun _ => op_modN) rop_mod (EX.t (ex_bin (fun _ => op_mulD) rop_mul (EX.t ex_int) (EX.t (ex_val (i := 2) rfl (fun _ => rfl) (fun _ => .inl rfl))))) (EX.t (ex_val (i := 0) rfl (fun _ => rfl) (fun _ => .inr (.inl rfl)))))) (EX.t ex_int)))) (fun x3 => (ex_val (i := 2) rfl (fun _ => rfl) (fun _ => .inl rfl)))) (fun _ => blk_of rfl rfl rfl rfl rfl)  (fun _ => rfl) (by simp) (fun _ => rfl) (fun _ => sw_true rfl rfl rfl rfl)) fun own_1 => (gx_frz (i := 1) rfl (gx_ret (ex_bin (fun _ => op_fdivN) rop_fdiv (EX.t (ex_bin fop_add rop_add (EX.t (ex_bin fop_add rop_add (EX.t (ex_bin fop_add rop_add (EX.t (ex_bi fcr_len rc_len c.g_len (by decide +kernel) (exk_top (EX.t (ex_cS (ok_steps c) (Nat.le_of_ble_eq_true rfl) (fun _ => rfl) (exk_val (ex_val (i := 0) rfl (fun _ => rfl) (fun _ => .inr (.inl rfl))) exk_nil ) rfl)) exk_nil ) rfl)) (EX.t (ex_bi fcr_len rc_len c.g_len (by decide +kernel) (exk_top (EX.t (ex_val (i := 1) rfl (fun _ => rfl) (fun _ => .inl rfl))) exk_nil ) rfl)))) (EX.t (ex_bi fcr_len rc_len c.g_len (by decide +kernel) (exk_top (EX.t (ex_cS (ok_turned c) (Nat.le_of_ble_eq_true rfl) (fun _ => rfl) (exk_val (ex_val (i := 0) rfl (fun _ => rfl) (fun _ => .inr (.inl rfl))) exk_nil ) rfl)) exk_nil ) rfl)))) (EX.t (ex_bi fcr_len rc_len c.g_len (by decide +kernel) (exk_top (EX.t (ex_cS (ok_mirrored c) (Nat.le_of_ble_eq_true rfl) (fun _ => rfl) (exk_val (ex_val (i := 0) rfl (fun _ => rfl) (fun _ => .inr (.inl rfl))) exk_nil ) rfl)) exk_nil ) rfl)))) (EX.t ex_int)))))
abbrev s__law_mixed : Stmt := topS 10
theorem sc__law_mixed : FnScope ["number", "place", "first", "second", "third"] ["number", "place"] (defScope s__law_mixed) := ⟨rfl, rfl, rfl, by decide +kernel, rfl, by decide +kernel, by decide +kernel⟩
def m__law_mixed' (d0 d1 : D) : Option D :=
  (bnd (b2 dMod (bnd (b2 dAdd (b2 dAdd (b2 dMul (pur d0) (pur (.int 48271))) (b2 dMul (pur d1) (pur (.int 69621)))) (pur (.int 11))) fun a3 => lif (dop1 dInt [a3])) (pur (.int 618970019642690137449562111))) fun first_1 => (bnd (b2 dMod (bnd (b2 dAdd (b2 dAdd (b2 dMul (pur first_1) (pur first_1)) (b2 dMul (pur (.int 7)) (pur first_1))) (pur d1)) fun a6 => lif (dop1 dInt [a6])) (pur (.int 162259276829213363391578010288127))) fun second_4 => (bnd (b2 dMod (bnd (b2 dAdd (b2 dMul (pur second_4) (pur second_4)) (pur first_1)) fun a9 => lif (dop1 dInt [a9])) (pur (.int 618970019642690137449562111))) fun third_7 => (b2 dAdd (b2 dMul (pur second_4) (pur (.int 618970019642690137449562111))) (pur third_7)))))
def m__law_mixed (ds : List D) : Option D := match ds with
  | [d0, d1] => m__law_mixed' d0 d1
  | _ => lif none
theorem ok__law_mixed (c : Ev K mg) : DOk P w K mg base "_law_mixed" 2 ["number", "place"] [.val, .val] m__law_mixed := by
  obtain ⟨f, fd, F, gm⟩ := c.f__law_mixed
  refine ⟨f, fd, fn_mk (k := 1) F sc__law_mixed rfl (by decide) fun ds hl => ?_, gm, F.kp, F.bindsN fun _ _ _ _ _ _ us hl => match us, hl with | [_, _], _ => rfl⟩
  match ds, hl with
  | [d0, d1], _ =>
    show GX _ tFun [.val d0, .val d1, .any, .any, .any] _ (m__law_mixed' d0 d1) _
    unfold m__law_mixed'
    exact (gx_seq (sx_set (i := 2) (ex_bin (fun _ => op_modN) rop_mod (EX.t (ex_ty (fun _ => call_int1) rc_int c.g_int (by decide +kernel) (exk_top (EX.t (ex_bin fop_add rop_add (EX.t (ex_bin fop_add rop_add (EX.t (ex_bin (fun _ => op_mulD) rop_mul (EX.t (ex_val (i := 0) rfl (fun _ => rfl) (fun _ => .inl rfl))) (EX.t ex_int))) (EX.t (ex_bin (fun _ => op_mulD) rop_mul (EX.t (ex_val (i := 1) rfl (fun _ => rfl) (fun _ => .inl rfl))) (EX.t ex_int))))) (EX.t ex_int))) exk_nil ) rfl)) (EX.t ex_int)) (fun _ => rfl) (by simp) (fun _ => .inl rfl) (fun _ => .inr rfl)) fun first_1 => (gx_seq (sx_set (i := 3) (ex_bin (fun _ => op_modN) rop_mod (EX.t (ex_ty (fun _ => call_int1) rc_int c.g_int (by decide +kernel) (exk_top (EX.t (ex_bin fop_add rop_add (EX.t (ex_bin fop_add rop_add (EX.t (ex_bin (fun _ => op_mulD) rop_mul (EX.t (ex_val (i := 2) rfl (fun _ => rfl) (fun _ => .inl rfl))) (EX.t (ex_val (i := 2) rfl (fun _ => rfl) (fun _ => .inl rfl))))) (EX.t (ex_bin (fun _ => op_mulD) rop_mul (EX.t ex_int) (EX.t (ex_val (i := 2) rfl (fun _ => rfl) (fun _ => .inl rfl))))))) (EX.t (ex_val (i := 1) rfl (fun _ => rfl) (fun _ => .inl rfl))))) exk_nil ) rfl)) (EX.t ex_int)) (fun _ => rfl) (by simp) (fun _ => .inl rfl) (fun _ => .inr rfl)) fun second_4 => (gx_seq (sx_set (i := 4) (ex_bin (fun _ => op_modN) rop_mod (EX.t (ex_ty (fun _ => call_int1) rc_int c.g_int (by decide +kernel) (exk_top (EX.t (ex_bin fop_add rop_add (EX.t (ex_bin (fun _ => op_mulD) rop_mul (EX.t (ex_val (i := 3) rfl (fun _ => rfl) (fun _ => .inl rfl))) (EX.t (ex_val (i := 3) rfl (fun _ => rfl) (fun _ => .inl rfl))))) (EX.t (ex_val (i := 2) rfl (fun _ => rfl) (fun _ => .inl rfl))))) exk_nil ) rfl)) (EX.t ex_int)) (fun _ => rfl) (by simp) (fun _ => .inl rfl) (fun _ => .inr rfl)) fun third_7 => (gx_ret (ex_bin fop_add rop_add (EX.t (ex_bin (fun _ => op_mulD) rop_mul (EX.t (ex_val (i := 3) rfl (fun _ => rfl) (fun _ => .inl rfl))) (EX.t ex_int))) (EX.t (ex_val (i := 4) rfl (fun _ => rfl) (fun _ => .inl rfl))))))))
abbrev s__law_gcd : Stmt := topS 15
theorem sc__law_gcd : FnScope ["one", "other", "k"] ["one", "other"] (defScope s__law_gcd) := ⟨rfl, rfl, rfl, by decide +kernel, rfl, by decide +kernel, by decide +kernel⟩
def m__law_gcd' (d0 d1 : D) : Option D :=
  (bnd (forC selN (i1 dRg1 (pur (.int 200))) (d0, d1) (fun (s1 : D × D) (x2 : D) => (iteR (b2 bEq (pur s1.2) (pur (.int 0))) (pur (Ctl.brk (s1.1, s1.2))) (bnd (bnd (pur s1.2) fun a5 => bnd (b2 dMod (bnd (pur s1.1) fun a3 => lif (dop1 dInt [a3])) (pur s1.2)) fun a6 => pur (a5, a6)) fun q4 => (pur (Ctl.nxt (q4.1, q4.2))))))) (behind (fun d => d) fun s7 => (pur s7.1)))
def m__law_gcd (ds : List D) : Option D := match ds with
  | [d0, d1] => m__law_gcd' d0 d1
  | _ => lif none
theorem ok__law_gcd (c : Ev K mg) : DOk P w K mg base "_law_gcd" 2 ["one", "other"] [.val, .val] m__law_gcd := by
  obtain ⟨f, fd, F, gm⟩ := c.f__law_gcd
  refine ⟨f, fd, fn_mk (k := 1) F sc__law_gcd rfl (by decide) fun ds hl => ?_, gm, F.kp, F.bindsN fun _ _ _ _ _ _ us hl => match us, hl with | [_, _], _ => rfl⟩
  match ds, hl with
  | [d0, d1], _ =>
    show GX _ tFun [.val d0, .val d1, .any] _ (m__law_gcd' d0 d1) _
    unfold m__law_gcd'
    exact (gx_forC (Γf := (fun (s1 : D × D) => [.val s1.1, .val s1.2, .any])) (s0 := (d0, d1)) nx_ret ret_ret (it_range1 c.g_range ex_int) (tg_name (i := 2) (fun _ => rfl) (fun _ => .inl rfl) (fun _ => .inr rfl)) (.same (.same (.drop .nil))) (fun _ => by simp) (fun s1 x2 => (gx_ifx' nx_ctl (exb_cmp fop_eq rbp_eq (EX.t (ex_val (i := 1) rfl (fun _ => rfl) (fun _ => .inl rfl))) (EX.t ex_int)) (gx_brk (s := (s1.1, s1.2)) (.same (.same (.drop .nil)))) (gx_seq (sx_par (i := 0) (j := 1) (fun _ => rfl) (fun _ => rfl) (by decide) (by simp) (by simp) (fun _ => rfl) (fun _ => rfl) (ex_val (i := 1) rfl (fun _ => rfl) (fun _ => .inl rfl)) (ex_bin (fun _ => op_modN) rop_mod (EX.t (ex_ty (fun _ => call_int1) rc_int c.g_int (by decide +kernel) (exk_top (EX.t (ex_val (i := 0) rfl (fun _ => rfl) (fun _ => .inl rfl))) exk_nil ) rfl)) (EX.t (ex_val (i := 1) rfl (fun _ => rfl) (fun _ => .inl rfl)))) (fun _ => rfl)) fun q4 => (gx_endC (s := (q4.1, q4.2)) (.same (.same (.drop .nil))))))) fun s7 => (gx_ret (ex_val (i := 0) rfl (fun _ => rfl) (fun _ => .inl rfl))))
abbrev s__law_regular : Stmt := topS 16
theorem sc__law_regular : FnScope ["n", "step"] ["n"] (defScope s__law_regular) := ⟨rfl, rfl, rfl, by decide +kernel, rfl, by decide +kernel, by decide +kernel⟩
def m__law_regular' (d0 : D) : Option D :=
  (lcM selN (i1 dRg1 (pur d0)) (fun x1 : D => (b2 bEq (bnd (pur x1) fun a2 => bnd (pur d0) fun a3 => m__law_gcd [a2, a3]) (pur (.int 1)))) (fun x1 => (pur x1)))
def m__law_regular (ds : List D) : Option D := match ds with
  | [d0] => m__law_regular' d0
  | _ => lif none
theorem ok__law_regular (c : Ev K mg) : DOk P w K mg base "_law_regular" 3 ["n"] [.val] m__law_regular := by
  obtain ⟨f, fd, F, gm⟩ := c.f__law_regular
  refine ⟨f, fd, fn_mk (k := 2) F sc__law_regular rfl (by decide) fun ds hl => ?_, gm, F.kp, F.bindsN fun _ _ _ _ _ _ us hl => match us, hl with | [_], _ => rfl⟩
  match ds, hl with
  | [d0], _ =>
    show GX _ tFun [.val d0, .any] _ (m__law_regular' d0) _
    unfold m__law_regular'
    exact (gx_ret (EXN.x (LCX.n (lc (own := [("step", 1)]) (it_range1 c.g_range (ex_val (i := 0) rfl (fun _ => rfl) (fun _ => .inr (.inl rfl)))) (tg_name (i := 1) (fun _ => rfl) (fun _ => .inl rfl) (fun _ => .inr rfl)) (by decide) (by simp) (fun x1 => (exi_one (exb_cmp fop_eq rbp_eq (EX.t (ex_cS (ok__law_gcd c) (Nat.le_of_ble_eq_true rfl) (fun _ => rfl) (exk_val (ex_val (i := 1) rfl (fun _ => rfl) (fun _ => .inl rfl)) (exk_val (ex_val (i := 0) rfl (fun _ => rfl) (fun _ => .inr (.inl rfl))) exk_nil ) ) rfl)) (EX.t ex_int)))) (fun x1 => (ex_val (i := 1) rfl (fun _ => rfl) (fun _ => .inl rfl)))) (fun _ => blk_of rfl rfl rfl rfl rfl))))
abbrev s__law_same : Stmt := topS 17
theorem sc__law_same : FnScope ["actual", "due", "key", "k"] ["actual", "due"] (defScope s__law_same) := ⟨rfl, rfl, rfl, by decide +kernel, rfl, by decide +kernel, by decide +kernel⟩
def m__law_same' (m_rec : List D → Option D) (d0 d1 : D) : Option D :=
  (iteR (b2 bIs (pur d1) (pur .none)) (v2 bIs (pur d0) (pur .none)) (iteR (b2 bIs (pur d1) (pur (.bool true))) (v2 bIs (pur d0) (pur (.bool true))) (iteR (b2 bIs (pur d1) (pur (.bool false))) (v2 bIs (pur d0) (pur (.bool false))) (iteR (bTru (bnd (pur d1) fun a1 => pur (.bool (isiD .int a1)))) (andV (bnd (pur d0) fun a2 => pur (.bool (isiD .int a2))) (andV (vNot (bnd (pur d0) fun a3 => pur (.bool (isiD .bool a3)))) (v2 bEq (pur d0) (pur d1)))) (iteR (bTru (bnd (pur d1) fun a4 => pur (.bool (isiD .str a4)))) (andV (bnd (pur d0) fun a5 => pur (.bool (isiD .str a5))) (v2 bEq (pur d0) (pur d1))) (iteR (bTru (bnd (pur d1) fun a6 => pur (.bool (isiD .dict a6)))) (iteR (orM (bNot (bTru (bnd (pur d0) fun a7 => pur (.bool (isiD .dict a7))))) (b2 bNe (bnd (pur d0) fun a8 => lif (dop1 dLen [a8])) (bnd (pur d1) fun a9 => lif (dop1 dLen [a9])))) (pur (.bool false)) (bnd (dictM d1 (forC selN (lif (dKs d1)) () (fun (s10 : Unit) (x11 : D) => (iteR (orM (b2 bNotIn (pur x11) (pur d0)) (bNot (bTru (bnd (b2 dSub2 (pur d0) (pur x11)) fun a12 => bnd (b2 dSub2 (pur d1) (pur x11)) fun a13 => m_rec [a12, a13])))) (bnd (pur (.bool false)) fun r14 => pur (Ctl.ret r14)) (pur (Ctl.nxt ())))))) (behind (fun d => d) fun s15 => (pur (.bool true))))) (iteR (orM (b2 bNe (bnd (pur d0) fun a16 => pur (.bool (isiD .tuple a16))) (bnd (pur d1) fun a17 => pur (.bool (isiD .tuple a17)))) (b2 bNe (bnd (pur d0) fun a18 => pur (.bool (isiD .list a18))) (bnd (pur d1) fun a19 => pur (.bool (isiD .list a19))))) (pur (.bool false)) (iteR (b2 bNe (bnd (pur d0) fun a20 => lif (dop1 dLen [a20])) (bnd (pur d1) fun a21 => lif (dop1 dLen [a21]))) (pur (.bool false)) (bnd (forC selN (i1 dRg1 (bnd (pur d1) fun a22 => lif (dop1 dLen [a22]))) () (fun (s23 : Unit) (x24 : D) => (iteR (bNot (bTru (bnd (b2 dSub2 (pur d0) (pur x24)) fun a25 => bnd (b2 dSub2 (pur d1) (pur x24)) fun a26 => m_rec [a25, a26]))) (bnd (pur (.bool false)) fun r27 => pur (Ctl.ret r27)) (pur (Ctl.nxt ()))))) (behind (fun d => d) fun s28 => (pur (.bool true))))))))))))
def m__law_same : Nat → List D → Option D
  | 0 => fun _ => lif none
  | n + 1 => fun ds => match ds with
    | [d0, d1] => m__law_same' (m__law_same n) d0 d1
    | _ => lif none
theorem ok__law_same (c : Ev K mg) : ∀ n, DOk P w K mg base "_law_same" (2 + n) ["actual", "due"] [.val, .val] (m__law_same n)
  | 0 => by
    obtain ⟨f, fd, F, gm⟩ := c.f__law_same
    exact ⟨f, fd, fn_mk (k := 1) F sc__law_same rfl (by decide) fun ds hl => gx_none, gm, F.kp, F.bindsN fun _ _ _ _ _ _ us hl => match us, hl with | [_, _], _ => rfl⟩
  | n + 1 => by
    have ih := ok__law_same c n
    obtain ⟨f, fd, F, gm⟩ := c.f__law_same
    refine ⟨f, fd, fn_mk (k := 2 + n) F sc__law_same rfl (by decide) fun ds hl => ?_, gm, F.kp, F.bindsN fun _ _ _ _ _ _ us hl => match us, hl with | [_, _], _ => rfl⟩
    match ds, hl with
    | [d0, d1], _ =>
      show GX _ tFun [.val d0, .val d1, .any, .any] _ (m__law_same' (m__law_same n) d0 d1) _
      unfold m__law_same'
      exact (gx_ifx' nx_ret (exb_cmp (fun _ => op_isC) rbp_is (EX.t (ex_val (i := 1) rfl (fun _ => rfl) (fun _ => .inl rfl))) (EX.t ex_non)) (gx_ret (exv_cmp (fun _ => op_isC) rbp_is (EX.t (ex_val (i := 0) rfl (fun _ => rfl) (fun _ => .inl rfl))) (EX.t ex_non))) (gx_ifx' nx_ret (exb_cmp (fun _ => op_isC) rbp_is (EX.t (ex_val (i := 1) rfl (fun _ => rfl) (fun _ => .inl rfl))) (EX.t ex_bl)) (gx_ret (exv_cmp (fun _ => op_isC) rbp_is (EX.t (ex_val (i := 0) rfl (fun _ => rfl) (fun _ => .inl rfl))) (EX.t ex_bl))) (gx_ifx' nx_ret (exb_cmp (fun _ => op_isC) rbp_is (EX.t (ex_val (i := 1) rfl (fun _ => rfl) (fun _ => .inl rfl))) (EX.t ex_bl)) (gx_ret (exv_cmp (fun _ => op_isC) rbp_is (EX.t (ex_val (i := 0) rfl (fun _ => rfl) (fun _ => .inl rfl))) (EX.t ex_bl))) (gx_ifx' nx_ret (exb_tru (EX.t (ex_isi .int (by decide +kernel) c.g_isinstance c.g_int (EX.t (ex_val (i := 1) rfl (fun _ => rfl) (fun _ => .inl rfl)))))) (gx_ret (exv_and (ex_isi .int (by decide +kernel) c.g_isinstance c.g_int (EX.t (ex_val (i := 0) rfl (fun _ => rfl) (fun _ => .inl rfl)))) (exv_and (exv_not (ex_isi .bool (by decide +kernel) c.g_isinstance c.g_bool (EX.t (ex_val (i := 0) rfl (fun _ => rfl) (fun _ => .inl rfl))))) (exv_one (exv_cmp fop_eq rbp_eq (EX.t (ex_val (i := 0) rfl (fun _ => rfl) (fun _ => .inl rfl))) (EX.t (ex_val (i := 1) rfl (fun _ => rfl) (fun _ => .inl rfl)))))))) (gx_ifx' nx_ret (exb_tru (EX.t (ex_isi .str (by decide +kernel) c.g_isinstance c.g_str (EX.t (ex_val (i := 1) rfl (fun _ => rfl) (fun _ => .inl rfl)))))) (gx_ret (exv_and (ex_isi .str (by decide +kernel) c.g_isinstance c.g_str (EX.t (ex_val (i := 0) rfl (fun _ => rfl) (fun _ => .inl rfl)))) (exv_one (exv_cmp fop_eq rbp_eq (EX.t (ex_val (i := 0) rfl (fun _ => rfl) (fun _ => .inl rfl))) (EX.t (ex_val (i := 1) rfl (fun _ => rfl) (fun _ => .inl rfl))))))) (gx_ifx' nx_ret (exb_tru (EX.t (ex_isi .dict (by decide +kernel) c.g_isinstance c.g_dict (EX.t (ex_val (i := 1) rfl (fun _ => rfl) (fun _ => .inl rfl)))))) (gx_ifx' nx_ret (EXW.bb (exw_or (exb_not (exb_tru (EX.t (ex_isi .dict (by decide +kernel) c.g_isinstance c.g_dict (EX.t (ex_val (i := 0) rfl (fun _ => rfl) (fun _ => .inl rfl))))))) (exw_or1 (exb_cmp fop_ne rbp_ne (EX.t (ex_bi fcr_len rc_len c.g_len (by decide +kernel) (exk_top (EX.t (ex_val (i := 0) rfl (fun _ => rfl) (fun _ => .inl rfl))) exk_nil ) rfl)) (EX.t (ex_bi fcr_len rc_len c.g_len (by decide +kernel) (exk_top (EX.t (ex_val (i := 1) rfl (fun _ => rfl) (fun _ => .inl rfl))) exk_nil ) rfl)))))) (gx_ret ex_bl) (gx_forCL (i := 1) (Γf := (fun (s10 : Unit) => [.val d0, .val d1, .any, .any])) (s0 := ()) rfl nx_ret ret_ret (it_keys (i := 1) rfl (fun _ => rfl) (fun _ => .inl rfl)) (tg_name (i := 2) (fun _ => rfl) (fun _ => .inl rfl) (fun _ => .inr rfl)) (.same (.unl (.drop (.drop .nil)))) (fun _ => by simp) (fun s10 x11 => (gx_ifx' nx_ctl (EXW.bb (exw_or (exb_cmp fop_notIn rbp_notIn (EX.t (ex_val (i := 2) rfl (fun _ => rfl) (fun _ => .inl rfl))) (EX.t (ex_val (i := 0) rfl (fun _ => rfl) (fun _ => .inl rfl)))) (exw_or1 (exb_not (exb_tru (EX.t (ex_cS ih (Nat.le_refl _) (fun _ => rfl) (exk_val (ex_sub (EX.t (ex_val (i := 0) rfl (fun _ => rfl) (fun _ => .inl rfl))) (EX.t (ex_val (i := 2) rfl (fun _ => rfl) (fun _ => .inl rfl)))) (exk_val (ex_sub (EX.t (ex_val (i := 1) rfl (fun _ => rfl) (fun _ => .inl rfl))) (EX.t (ex_val (i := 2) rfl (fun _ => rfl) (fun _ => .inl rfl)))) exk_nil ) ) rfl))))))) (gx_retC ex_bl) (gx_endC (s := ()) (.same (.same (.drop (.drop .nil))))))) (fun _ => noL_of rfl) fun s15 => (gx_ret ex_bl))) (gx_ifx' nx_ret (EXW.bb (exw_or (exb_cmp fop_ne rbp_ne (EX.t (ex_isi .tuple (by decide +kernel) c.g_isinstance c.g_tuple (EX.t (ex_val (i := 0) rfl (fun _ => rfl) (fun _ => .inl rfl))))) (EX.t (ex_isi .tuple (by decide +kernel) c.g_isinstance c.g_tuple (EX.t (ex_val (i := 1) rfl (fun _ => rfl) (fun _ => .inl rfl)))))) (exw_or1 (exb_cmp fop_ne rbp_ne (EX.t (ex_isi .list (by decide +kernel) c.g_isinstance c.g_list (EX.t (ex_val (i := 0) rfl (fun _ => rfl) (fun _ => .inl rfl))))) (EX.t (ex_isi .list (by decide +kernel) c.g_isinstance c.g_list (EX.t (ex_val (i := 1) rfl (fun _ => rfl) (fun _ => .inl rfl))))))))) (gx_ret ex_bl) (gx_ifx' nx_ret (exb_cmp fop_ne rbp_ne (EX.t (ex_bi fcr_len rc_len c.g_len (by decide +kernel) (exk_top (EX.t (ex_val (i := 0) rfl (fun _ => rfl) (fun _ => .inl rfl))) exk_nil ) rfl)) (EX.t (ex_bi fcr_len rc_len c.g_len (by decide +kernel) (exk_top (EX.t (ex_val (i := 1) rfl (fun _ => rfl) (fun _ => .inl rfl))) exk_nil ) rfl))) (gx_ret ex_bl) (gx_forC (Γf := (fun (s23 : Unit) => [.val d0, .val d1, .any, .any])) (s0 := ()) nx_ret ret_ret (it_range1 c.g_range (ex_bi fcr_len rc_len c.g_len (by decide +kernel) (exk_top (EX.t (ex_val (i := 1) rfl (fun _ => rfl) (fun _ => .inl rfl))) exk_nil ) rfl)) (tg_name (i := 3) (fun _ => rfl) (fun _ => .inl rfl) (fun _ => .inr rfl)) (.same (.same (.drop (.drop .nil)))) (fun _ => by simp) (fun s23 x24 => (gx_ifx' nx_ctl (exb_not (exb_tru (EX.t (ex_cS ih (Nat.le_refl _) (fun _ => rfl) (exk_val (ex_sub (EX.t (ex_val (i := 0) rfl (fun _ => rfl) (fun _ => .inl rfl))) (EX.t (ex_val (i := 3) rfl (fun _ => rfl) (fun _ => .inl rfl)))) (exk_val (ex_sub (EX.t (ex_val (i := 1) rfl (fun _ => rfl) (fun _ => .inl rfl))) (EX.t (ex_val (i := 3) rfl (fun _ => rfl) (fun _ => .inl rfl)))) exk_nil ) ) rfl)))) (gx_retC ex_bl) (gx_endC (s := ()) (.same (.same (.drop (.drop .nil))))))) fun s28 => (gx_ret ex_bl))))))))))
abbrev s__law_all_ways : Stmt := topS 18
theorem sc__law_all_ways : FnScope ["n", "step", "y"] ["n", "step"] (defScope s__law_all_ways) := ⟨rfl, rfl, rfl, by decide +kernel, rfl, by decide +kernel, by decide +kernel⟩
def m__law_all_ways' (d0 d1 : D) : Option D :=
  (lcM selN (i1 dRg1 (pur d0)) (fun x1 : D => (pur true)) (fun x1 => (bnd (b2 dMod (bnd (b2 dMul (pur d1) (pur x1)) fun a2 => lif (dop1 dInt [a2])) (pur d0)) fun a3 => bnd (pur x1) fun a4 => mkT [a3, a4])))
def m__law_all_ways (ds : List D) : Option D := match ds with
  | [d0, d1] => m__law_all_ways' d0 d1
  | _ => lif none
theorem ok__law_all_ways (c : Ev K mg) : DOk P w K mg base "_law_all_ways" 2 ["n", "step"] [.val, .val] m__law_all_ways := by
  obtain ⟨f, fd, F, gm⟩ := c.f__law_all_ways
  refine ⟨f, fd, fn_mk (k := 1) F sc__law_all_ways rfl (by decide) fun ds hl => ?_, gm, F.kp, F.bindsN fun _ _ _ _ _ _ us hl => match us, hl with | [_, _], _ => rfl⟩
  match ds, hl with
  | [d0, d1], _ =>
    show GX _ tFun [.val d0, .val d1, .any] _ (m__law_all_ways' d0 d1) _
    unfold m__law_all_ways'
    exact (gx_ret (EXN.x (LCX.n (lc (own := [("y", 2)]) (it_range1 c.g_range (ex_val (i := 0) rfl (fun _ => rfl) (fun _ => .inr (.inl rfl)))) (tg_name (i := 2) (fun _ => rfl) (fun _ => .inl rfl) (fun _ => .inr rfl)) (by decide) (by simp) (fun x1 => exi_nil) (fun x1 => (ex_tup (exa_cons (ex_bin (fun _ => op_modN) rop_mod (EX.t (ex_ty (fun _ => call_int1) rc_int c.g_int (by decide +kernel) (exk_top (EX.t (ex_bin (fun _ => op_mulD) rop_mul (EX.t (ex_val (i := 1) rfl (fun _ => rfl) (fun _ => .inr (.inl rfl)))) (EX.t (ex_val (i := 2) rfl (fun _ => rfl) (fun _ => .inl rfl))))) exk_nil ) rfl)) (EX.t (ex_val (i := 0) rfl (fun _ => rfl) (fun _ => .inr (.inl rfl))))) (exa_cons (ex_val (i := 2) rfl (fun _ => rfl) (fun _ => .inl rfl)) exa_nil)) rfl))) (fun _ => blk_of rfl rfl rfl rfl rfl))))
abbrev s__law_laid : Stmt := topS 19
theorem sc__law_laid : FnScope ["n", "step", "signs", "swapped", "found", "x", "y", "pair"] ["n", "step", "signs", "swapped"] (defScope s__law_laid) := ⟨rfl, rfl, rfl, by decide +kernel, rfl, by decide +kernel, by decide +kernel⟩
def m__law_laid' (d0 d1 d2 d3 : D) : Option D :=
  (bnd (mkL []) fun found_1 => (bnd (forM' (selT (selCons selN (selCons selN selNil))) (i1 dSeq (bnd (pur d0) fun a2 => bnd (pur d1) fun a3 => m__law_all_ways [a2, a3])) found_1 (fun (s4 : D) (x5 : (D × (D × Unit))) => (bnd (bnd (b2 dMod (bnd (b2 dMul (b2 dSub2 (pur d2) (pur (.int 0))) (pur x5.1)) fun a11 => lif (dop1 dInt [a11])) (pur d0)) fun a12 => bnd (b2 dMod (bnd (b2 dMul (b2 dSub2 (pur d2) (pur (.int 1))) (pur x5.2.1)) fun a13 => lif (dop1 dInt [a13])) (pur d0)) fun a14 => mkT [a12, a14]) fun pair_6 => (bnd (bnd (iteM (bTru (pur d3)) (bnd (b2 dSub2 (pur pair_6) (pur (.int 1))) fun a15 => bnd (b2 dSub2 (pur pair_6) (pur (.int 0))) fun a16 => mkT [a15, a16]) (pur pair_6)) fun a17 => lif (dApp s4 a17)) fun found_18 => (pur found_18))))) fun s19 => (bnd (pur s19) fun a20 => lif (dop1 dSorted [a20]))))
def m__law_laid (ds : List D) : Option D := match ds with
  | [d0, d1, d2, d3] => m__law_laid' d0 d1 d2 d3
  | _ => lif none
theorem ok__law_laid (c : Ev K mg) : DOk P w K mg base "_law_laid" 3 ["n", "step", "signs", "swapped"] [.val, .val, .val, .val] m__law_laid := by
  obtain ⟨f, fd, F, gm⟩ := c.f__law_laid
  refine ⟨f, fd, fn_mk (k := 2) F sc__law_laid rfl (by decide) fun ds hl => ?_, gm, F.kp, F.bindsN fun _ _ _ _ _ _ us hl => match us, hl with | [_, _, _, _], _ => rfl⟩
  match ds, hl with
  | [d0, d1, d2, d3], _ =>
    show GX _ tFun [.val d0, .val d1, .val d2, .val d3, .any, .any, .any, .any] _ (m__law_laid' d0 d1 d2 d3) _
    unfold m__law_laid'
    exact (gx_seq (sx_setN (i := 4) (en_list exa_nil rfl) (fun _ => rfl) (by simp) (fun _ => .inl rfl) (fun _ => .inr rfl)) fun found_1 => (gx_seq (sx_fr (Γf := (fun (s4 : D) => [.val d0, .val d1, .val d2, .val d3, .own s4, .any, .any, .any])) (s0 := found_1) (it_seq (ex_cS (ok__law_all_ways c) (Nat.le_of_ble_eq_true rfl) (fun _ => rfl) (exk_val (ex_val (i := 0) rfl (fun _ => rfl) (fun _ => .inl rfl)) (exk_val (ex_val (i := 1) rfl (fun _ => rfl) (fun _ => .inl rfl)) exk_nil ) ) rfl)) (tg_tup (n := 2) (tgs_cons (tg_name (i := 5) (fun _ => rfl) (fun _ => .inl rfl) (fun _ => .inr rfl)) (tgs_cons (tg_name (i := 6) (fun _ => rfl) (fun _ => .inl rfl) (fun _ => .inr rfl)) tgs_nil (fun _ _ => by simp)) (fun _ _ => by simp)) (fun _ _ h => selCons_len (fun _ _ h => selCons_len (fun _ _ h => selNil_len h) h) h)) (.same (.same (.same (.same (.same (.drop (.drop (.drop .nil)))))))) (fun _ => by simp) (fun s4 x5 => (gx_seq (sx_set (i := 7) (ex_tup (exa_cons (ex_bin (fun _ => op_modN) rop_mod (EX.t (ex_ty (fun _ => call_int1) rc_int c.g_int (by decide +kernel) (exk_top (EX.t (ex_bin (fun _ => op_mulD) rop_mul (EX.t (ex_sub (EX.t (ex_val (i := 2) rfl (fun _ => rfl) (fun _ => .inl rfl))) (EX.t ex_int))) (EX.t (ex_val (i := 5) rfl (fun _ => rfl) (fun _ => .inl rfl))))) exk_nil ) rfl)) (EX.t (ex_val (i := 0) rfl (fun _ => rfl) (fun _ => .inl rfl)))) (exa_cons (ex_bin (fun _ => op_modN) rop_mod (EX.t (ex_ty (fun _ => call_int1) rc_int c.g_int (by decide +kernel) (exk_top (EX.t (ex_bin (fun _ => op_mulD) rop_mul (EX.t (ex_sub (EX.t (ex_val (i := 2) rfl (fun _ => rfl) (fun _ => .inl rfl))) (EX.t ex_int))) (EX.t (ex_val (i := 6) rfl (fun _ => rfl) (fun _ => .inl rfl))))) exk_nil ) rfl)) (EX.t (ex_val (i := 0) rfl (fun _ => rfl) (fun _ => .inl rfl)))) exa_nil)) rfl) (fun _ => rfl) (by simp) (fun _ => .inl rfl) (fun _ => .inr rfl)) fun pair_6 => (gx_seq (sx_append (i := 4) rfl (ex_ifExp (exb_tru (EX.t (ex_val (i := 3) rfl (fun _ => rfl) (fun _ => .inl rfl)))) (ex_tup (exa_cons (ex_sub (EX.t (ex_val (i := 7) rfl (fun _ => rfl) (fun _ => .inl rfl))) (EX.t ex_int)) (exa_cons (ex_sub (EX.t (ex_val (i := 7) rfl (fun _ => rfl) (fun _ => .inl rfl))) (EX.t ex_int)) exa_nil)) rfl) (ex_val (i := 7) rfl (fun _ => rfl) (fun _ => .inl rfl))) (fun _ => rfl) (fun _ => .inl rfl)) fun found_18 => (gx_end (s := found_18) (.same (.same (.same (.same (.same (.drop (.drop (.drop .nil))))))))))))) fun s19 => (gx_ret (ex_bi fcr_sortD rc_sortD c.g_sorted (by decide +kernel) (exk_top (ex_own (i := 4) rfl (fun _ => rfl) (fun _ => .inl rfl)) exk_nil ) rfl))))
end
end Y

set_option maxRecDepth 100000
set_option maxHeartbeats 4000000
namespace Y
open PySem L2 PM PX
abbrev s__law_rest : Stmt := topS 11
abbrev s__law_pool : Stmt := topS 12
abbrev s__law_draw : Stmt := topS 13
/-! the pool of numbers: what it holds is not told, but that it stays one -/
section
variable {P : Program} {w : World} {K : PySem.W.Frag} {mg : Str → Option Value} {base : Heap}
theorem dMod_int {a b : Int} (h : b ≠ 0) : dMod (.int a) (.int b) = some (.int (a.fmod b)) := if_pos h
theorem fmod_lt {a b : Int} (h : 0 < b) : (a.fmod b).natAbs < b.natAbs := by
  have h1 := Int.fmod_nonneg_of_pos a h
  have h2 := Int.fmod_lt_of_pos a h
  omega
theorem mixed_int (a b : Int) : ∃ c : Int, m__law_mixed [.int a, .int b] = some (.int c) := by
  have small : ∀ x y : Int, y.natAbs < 18446744073709551616 → dMul (.int x) (.int y) = some (.int (x * y)) := fun x y h => if_pos (.inr (.inl h))
  have small' : ∀ x y : Int, x.natAbs < 18446744073709551616 → dMul (.int x) (.int y) = some (.int (x * y)) := fun x y h => if_pos (.inl h)
  have l2 : ∀ (x : Int) (n : Nat), 0 < n → x.natAbs < 2 ^ n → x.natAbs.log2 < n := fun x n h0 h => PySem.Flt.log2_lt_of h0 h
  show ∃ c : Int, m__law_mixed' (.int a) (.int b) = some (.int c)
  unfold m__law_mixed'
  simp only [b2, bnd, pur, lif, Option.bind, id]
  rw [small a 48271 (by decide), small b 69621 (by decide)]
  simp only [dAdd, dop1, dInt]
  rw [dMod_int (by decide)]
  simp only []
  generalize hf : (a * 48271 + b * 69621 + 11).fmod 618970019642690137449562111 = f
  have f1 : f.natAbs < 2 ^ 90 := by
    have := fmod_lt (a := a * 48271 + b * 69621 + 11) (b := 618970019642690137449562111) (by decide)
    rw [hf] at this
    exact Nat.lt_trans this (by decide)
  have f2 := l2 f 90 (by decide) f1
  have mm : ∀ x y : Int, x.natAbs.log2 + y.natAbs.log2 < 1000000 → dMul (.int x) (.int y) = some (.int (x * y)) := fun x y h => if_pos (.inr (.inr h))
  rw [mm f f (by omega), small' 7 f (by decide)]
  simp only []
  rw [dMod_int (by decide)]
  simp only []
  generalize hg : (f * f + 7 * f + b).fmod 162259276829213363391578010288127 = g
  have g1 : g.natAbs < 2 ^ 110 := by
    have := fmod_lt (a := f * f + 7 * f + b) (b := 162259276829213363391578010288127) (by decide)
    rw [hg] at this
    exact Nat.lt_trans this (by decide)
  have g2 := l2 g 110 (by decide) g1
  rw [mm g g (by omega)]
  simp only []
  rw [dMod_int (by decide)]
  simp only []
  rw [mm g 618970019642690137449562111 (by have := l2 618970019642690137449562111 90 (by decide) (by decide); omega)]
  exact ⟨_, rfl⟩
/-! what they promise -/
def spRest (K : PySem.W.Frag) : Sp := fun vs H Q _ => ∃ (F : Hp) (p : Option Addr) (sa : Addr) (i j : Int) (ns : List Int), FH F H ∧ PoolOk K F H p ∧ SqL K F sa (ns.map V.int) ∧ vs = [.ref sa, .int i, .int j] ∧
  ∀ x F' H', Grow K p F H F' H' → Q (.int x) H'
theorem sc__law_rest : FnScope ["script", "place", "fills", "number"] ["script", "place", "fills"] (defScope s__law_rest) := ⟨rfl, rfl, rfl, by decide +kernel, rfl, by decide +kernel, by decide +kernel⟩
theorem sc__law_pool : FnScope ["script"] ["script"] (defScope s__law_pool) := ⟨rfl, rfl, rfl, by decide +kernel, rfl, by decide +kernel, by decide +kernel⟩
theorem sc__law_draw : FnScope ["pool", "limit", "value"] ["pool", "limit"] (defScope s__law_draw) := ⟨rfl, rfl, rfl, by decide +kernel, rfl, by decide +kernel, by decide +kernel⟩
theorem get_int {ns : List Int} {k : Int} (h0 : 0 ≤ k) (h1 : k < ns.length) : ∃ z : Int, atI (ns.map V.int) k = some (.int z) := by
  refine ⟨ns[k.toNat]'(by omega), ?_⟩
  unfold atI ixN
  rw [if_pos h0, if_pos (by simpa using h1)]
  simp
def tRestF (K : PySem.W.Frag) : TS := (tRet (tCall (spM K [.val, .val] m__law_mixed) [] E0 (tCons (tOp (rI0 fun i j => .int (i + j)) (tVar 3) (tOp (rI CMul fun i j => .int (i * j)) (tVar 2) (tC (.int 1000003)))) (tCons (tVar 1) tNil))))
def tRestL (K : PySem.W.Frag) : TS := (tSeq (tIfS (tAnd (tTest (tOp rEq (tVar 2) (tC (.int 0)))) (tAnd (tTest (tOp (rI0 fun i j => .bl (decide (i < j))) (tVar 1) (tCB (fun xs H Q => ∃ x n, xs = [x] ∧ LenV K x H n ∧ Q (.int n) H) (tCons (tVar 0) tNil)))) (tTest (tOp (rI0 fun i j => .bl (decide (j ≤ i))) (tVar 3) (tOp (rI CPow fun i j => .int (i ^ j.toNat)) (tC (.int 10)) (tC (.int 18)))))))
      (tRet (tOp (rI0 fun i j => .int (i - j)) (tVar 3) (tOp (rI CPow fun i j => .int (i ^ j.toNat)) (tC (.int 10)) (tC (.int 18))))) tNext)
      (tRestF K))
theorem ok__law_rest (c : Ev K mg) : ∃ fn fd, FnOk P w K mg base CX0 3 fn fd ["script", "place", "fills"] (spRest K) ∧ mg "_law_rest" = some (.ref fn) ∧ PySem.W.keepIn K (.ref fn) = true ∧ Binds K fd ["script", "place", "fills"] [] := by
  obtain ⟨f, fd, F, gm⟩ := c.f__law_rest
  obtain ⟨fm, fdm, G1, G2, G3, G4⟩ := (ok__law_mixed (P := P) (w := w) (base := base) c).ex
  refine ⟨f, fd, F.ok sc__law_rest (fun vs H Q E h => ?_) (fun cdv A outer s H vs Q E hr h => ?_), gm, F.kp, F.bindsN fun _ _ _ _ _ _ us hl => match us, hl with | [_, _, _], _ => rfl⟩
  · obtain ⟨_, _, _, _, _, _, _, _, _, rfl, _⟩ := h
    rfl
  refine ⟨_, PSs.nox (pss_cons (ps_set (i := 3) sc__law_rest.nd rfl (Or.inl rfl) pe_int)
      (pss_cons (ps_if (pt_cmpR op_gt (pe_callB call_len rfl c.g_len (by decide +kernel) (pa_cons (pv 0) pa_nil)) pe_int rfl)
        (pss_one (ps_set (i := 3) sc__law_rest.nd rfl (Or.inl rfl) (pe_callTy call_int1 rfl c.g_int (by decide +kernel) (pa_cons (pe_ix ix_seq (pv 0) (pe_op op_modN (pe_callTy call_int1 rfl c.g_int (by decide +kernel) (pa_cons (pv 1) pa_nil)) (pe_callB call_len rfl c.g_len (by decide +kernel) (pa_cons (pv 0) pa_nil))) (by intro _ _; rfl)) pa_nil)))) pss_nil)
      (pss_cons (ps_if (pt_cmpR op_lt (pv 3) pe_int rfl) (pss_one (ps_set (i := 3) sc__law_rest.nd rfl (Or.inl rfl) (pe_op op_sub pe_int (pe_op op_mul pe_int (pv 3))))) pss_nil)
      (pss_cons (ps_if (PW.pt (pw_and (pt_cmpR op_eq (pv 2) pe_int rfl) (pw_and (pt_cmpR op_lt (pv 1) (pe_callB call_len rfl c.g_len (by decide +kernel) (pa_cons (pv 0) pa_nil)) rfl) (pw_and1 (pt_cmpR op_ge (pv 3) (pe_op op_pow pe_int pe_int) rfl)))))
        (pss_one (ps_ret (pe_op op_sub (pv 3) (pe_op op_pow pe_int pe_int)))) pss_nil)
      (pss_one (ps_ret (pe_call G1 hr rfl G2 G3 G4 .nil pass0 (pa_cons (pe_op op_add (pv 3) (pe_op op_mul (pv 2) pe_int)) (pa_cons (pv 1) pa_nil))))))))), ?_⟩
  obtain ⟨F0, p, sa, i, j, ns, fh, pl, hs, rfl, hQ⟩ := h
  have hl : ∀ H', SqL K H' sa (ns.map V.int) → LenV K (.ref sa) H' ns.length := fun H' h => .inl ⟨_, h, by simp⟩
  have hS := fh.l hs
  -- the last two statements, for any number
  have last : ∀ z : Int, tRestL K { nx := fun _ H' => Q .non H', rt := Q } [some (.ref sa), some (.int i), some (.int j), some (.int z)] H := by
    intro z
    have c10 : CPow 10 18 := ⟨by decide, by decide, by decide⟩
    have fin : tRestF K { nx := fun _ H' => Q .non H', rt := Q } [some (.ref sa), some (.int i), some (.int j), some (.int z)] H := by
      refine ⟨_, rfl, _, rfl, j, 1000003, rfl, rfl, .inr (by decide), z, _, rfl, rfl, _, rfl, ?_⟩
      obtain ⟨y, ey⟩ := mixed_int (z + j * 1000003) i
      refine ⟨F0, p, [.int (z + j * 1000003), .int i], fh, pl, .val (.int _) (.val (.int _) .nil), ?_⟩
      exact ⟨_, ey, fun v F' H' g r => by cases r; exact hQ y F' H' g⟩
    refine ⟨_, rfl, rfl, _, rfl, ?_⟩
    (dsimp only; split)
    · refine ⟨_, rfl, _, rfl, _, _, rfl, hl H hS, i, _, rfl, rfl, _, rfl, ?_⟩
      (dsimp only; split)
      · refine ⟨_, rfl, 10, 18, rfl, rfl, c10, z, _, rfl, rfl, _, rfl, ?_⟩
        (dsimp only; split)
        · exact ⟨_, rfl, 10, 18, rfl, rfl, c10, z, _, rfl, rfl, hQ _ F0 H (.refl fh)⟩
        · exact fin
      · exact fin
    · exact fin
  have mid : ∀ z : Int, (tSeq (tIfS (tTest (tOp (rI0 fun i j => .bl (decide (i < j))) (tVar 3) (tC (.int 0)))) (tAsg (tOp (rI0 fun i j => .int (i - j)) (tC (.int 1)) (tOp (rI CMul fun i j => .int (i * j)) (tC (.int 2)) (tVar 3))) (gName 3)) tNext) (tRestL K)) { nx := fun _ H' => Q .non H', rt := Q } [some (.ref sa), some (.int i), some (.int j), some (.int z)] H := fun z => by
    refine ⟨_, rfl, z, 0, rfl, rfl, _, rfl, ?_⟩
    (dsimp only; split)
    · exact ⟨_, rfl, 2, z, rfl, rfl, .inl (by decide), 1, _, rfl, rfl, last _⟩
    · exact last z
  refine ⟨_, rfl, _, _, rfl, hl H hS, _, 0, rfl, rfl, _, rfl, ?_⟩
  (dsimp only; split)
  · rename_i hk
    have hk' : (0 : Int) < ns.length := of_decide_eq_true hk
    have h0 := Int.fmod_nonneg_of_pos i hk'
    have h1 := Int.fmod_lt_of_pos i hk'
    obtain ⟨z, ez⟩ := get_int (ns := ns) h0 h1
    refine ⟨_, rfl, _, rfl, .inl ⟨i, rfl, _, rfl, _, _, rfl, hl H hS, i, _, rfl, rfl, by omega, .inl ⟨sa, _, _, _, rfl, rfl, hS, ez, .inl ⟨z, rfl, mid z⟩⟩⟩⟩
  · exact mid 0
/-! draws -/
def spPool (K : PySem.W.Frag) : Sp := fun vs H Q _ => ∃ (F : Hp) (sa : Addr) (ns : List Int), FH F H ∧ SqL K F sa (ns.map V.int) ∧ vs = [.ref sa] ∧
  ∀ F1 H1 a (i j k : Int), Grow K none F H F1 H1 → H1 a = none → Q (.ref a) (upd H1 a (.lst [.ref sa, .int i, .int j, .int k]))
theorem ok__law_pool (c : Ev K mg) : ∃ fn fd, FnOk P w K mg base CX0 4 fn fd ["script"] (spPool K) ∧ mg "_law_pool" = some (.ref fn) ∧ PySem.W.keepIn K (.ref fn) = true ∧ Binds K fd ["script"] [] := by
  obtain ⟨f, fd, F, gm⟩ := c.f__law_pool
  obtain ⟨fm, fdm, G1, G2, G3, G4⟩ := ok__law_rest (P := P) (w := w) (base := base) c
  refine ⟨f, fd, F.ok sc__law_pool (fun vs H Q E h => ?_) (fun cdv A outer s H vs Q E hr h => ?_), gm, F.kp, F.bindsN fun _ _ _ _ _ _ us hl => match us, hl with | [_], _ => rfl⟩
  · obtain ⟨_, _, _, _, _, rfl, _⟩ := h
    rfl
  refine ⟨_, PSs.nox (pss_one (ps_ret (pe_lst (pa_cons (pv 0) (pa_cons pe_int (pa_cons (pe_call G1 hr rfl G2 G3 G4 .nil pass0 (pa_cons (pv 0) (pa_cons pe_int (pa_cons pe_int pa_nil)))) (pa_cons pe_int pa_nil))))))), ?_⟩
  obtain ⟨F0, sa, ns, fh, hs, rfl, hQ⟩ := h
  refine ⟨_, rfl, _, rfl, F0, none, sa, 0, 0, ns, fh, (fun a e => by cases e), hs, rfl, fun x F' H' g => ⟨by rw [sizeLine_eq]; simp, fun a ha => ?_⟩⟩
  exact hQ F' H' a 0 x 0 g ha
theorem Grow.poolset {F H F' H' : Hp} {pa sa : Addr} {ns : List Int} (g : Grow K (some pa) F H F' H') (hn : F' pa = none) (i j k : Int) (hs : SqL K F' sa (ns.map V.int)) : Grow K (some pa) F H F' (upd H' pa (.lst [.ref sa, .int i, .int j, .int k])) where
  ff := g.ff
  nw := g.nw
  hh := fun a o e n => by rw [upd_ne (fun z => n (by rw [z]))]; exact g.hh a o e n
  dm := fun a h => by
    by_cases z : a = pa
    · rw [z, upd_same]; exact fun e => nomatch e
    · rw [upd_ne z]; exact g.dm a h
  fh := fun b o e => by
    have z : b ≠ pa := fun z => by rw [z, hn] at e; cases e
    rw [upd_ne z]; exact g.fh b o e
  pl := fun _ a e => by
    cases e
    exact ⟨hn, sa, i, j, k, ns, upd_same, hs⟩
def m__law_draw : List D → Gen D
  | [_, .int n] => if 0 < n ∧ n < 1073741824 then Gen.draw n fun k => .ret (.int k) else .fail
  | _ => .fail
theorem ok__law_draw (c : Ev K mg) : DOk P w K mg base "_law_draw" 4 ["pool", "limit"] [.pool, .val] m__law_draw := by
  obtain ⟨f, fd, F, gm⟩ := c.f__law_draw
  obtain ⟨fm, fdm, G1, G2, G3, G4⟩ := ok__law_rest (P := P) (w := w) (base := base) c
  refine ⟨f, fd, F.ok sc__law_draw (fun vs H Q E h => ?_) (fun cdv A outer s H vs Q E hr h => ?_), gm, F.kp, F.bindsN fun _ _ _ _ _ _ us hl => match us, hl with | [_, _], _ => rfl⟩
  · obtain ⟨_, _, _, _, _, a, _⟩ := h
    rw [a.length]
    rfl
  refine ⟨_, PSs.nox (pss_cons (ps_if (pt_cmpR op_le (pe_ix ix_seq (pv 0) pe_int (by intro _ _; rfl)) pe_int rfl)
        (pss_cons (ps_asg (pe_op op_add (pe_ix ix_seq (pv 0) pe_int (by intro _ _; rfl)) pe_int) (pg_sub (pv 0) pe_int set_list (by intro _; rfl)) (by rfl) (by rfl) (by rfl))
        (pss_one (ps_asg (pe_call G1 hr rfl G2 G3 G4 .nil pass0 (pa_cons (pe_ix ix_seq (pv 0) pe_int (by intro _ _; rfl)) (pa_cons (pe_ix ix_seq (pv 0) pe_int (by intro _ _; rfl)) (pa_cons (pe_ix ix_seq (pv 0) pe_int (by intro _ _; rfl)) pa_nil)))) (pg_sub (pv 0) pe_int set_list (by intro _; rfl)) (by rfl) (by rfl) (by rfl)))) pss_nil)
      (pss_cons (ps_set (i := 2) sc__law_draw.nd rfl (Or.inl rfl) (pe_op op_modN (pe_callTy call_int1 rfl c.g_int (by decide +kernel) (pa_cons (pe_ix ix_seq (pv 0) pe_int (by intro _ _; rfl)) pa_nil)) (pv 1)))
      (pss_cons (ps_asg (pe_op op_fdivN (pe_callTy call_int1 rfl c.g_int (by decide +kernel) (pa_cons (pe_ix ix_seq (pv 0) pe_int (by intro _ _; rfl)) pa_nil)) (pv 1)) (pg_sub (pv 0) pe_int set_list (by intro _; rfl)) (by rfl) (by rfl) (by rfl))
      (pss_one (ps_ret (pv 2)))))), ?_⟩
  obtain ⟨F0, p, ds, fh, pl, a, hd⟩ := h
  cases a with
  | pool hp a =>
    rename_i pa vs ds
    cases a with
    | val r a =>
      rename_i v d vs ds
      cases a
      subst hp
      cases d with
      | int n =>
        cases r
        have hd' : (if 0 < n ∧ n < 1073741824 then Gen.draw n fun k => Gen.ret (PyData.int k) else Gen.fail).all (fun d => ∀ v F' H', Grow K (some pa) F0 H F' H' → Rep K F' v d → Q v H') := hd
        split at hd'
        · rename_i hn
          have hk := hd'.2
          clear hd hd'
          have ix : ∀ {H' : Hp} {x0 : V} {x1 x2 x3 : Int} (q : Int) (y : V) (Q : VK), H' pa = some (.lst [x0, .int x1, .int x2, .int x3]) → atI [x0, .int x1, .int x2, .int x3] q = some y → Q y H' → rIx K (.ref pa) (.int q) H' Q := fun q y Q e e2 h => .inl ⟨pa, _, q, y, rfl, rfl, SqL.of e, e2, h⟩
          -- what follows the test
          have last : ∀ (F1 H1 : Hp) (sa : Addr) (i x k : Int) (ns : List Int), Grow K (some pa) F0 H F1 H1 → H1 pa = some (.lst [.ref sa, .int i, .int x, .int k]) → F1 pa = none → SqL K F1 sa (ns.map V.int) →
              (tSeq (tAsg (tOp (rI (fun _ j => j ≠ 0) fun i j => .int (i.fmod j)) (tCB (fun xs H Q => (∃ i, xs = [.int i] ∧ Q (.int i) H) ∨ ∃ k, xs = [.bl k] ∧ Q (.int (if k then 1 else 0)) H) (tCons (tOp (rIx K) (tVar 0) (tC (.int 2))) tNil)) (tVar 1)) (gName 2))
              (tSeq (tAsg (tOp (rI CDivN fun i j => .int (i.fdiv j)) (tCB (fun xs H Q => (∃ i, xs = [.int i] ∧ Q (.int i) H) ∨ ∃ k, xs = [.bl k] ∧ Q (.int (if k then 1 else 0)) H) (tCons (tOp (rIx K) (tVar 0) (tC (.int 2))) tNil)) (tVar 1)) (gSub (tVar 0) (tC (.int 2)) rSetL))
              (tRet (tVar 2)))) { nx := fun _ H' => Q .non H', rt := Q } [some (.ref pa), some (.int n), none] H1 := by
            intro F1 H1 sa i x k ns g e en hs
            refine ⟨_, rfl, ix 2 (.int x) _ e rfl (.inl ⟨x, rfl, _, rfl, x, n, rfl, rfl, by omega, ?_⟩)⟩
            refine ⟨_, rfl, ix 2 (.int x) _ e rfl (.inl ⟨x, rfl, _, rfl, x, n, rfl, rfl, ⟨by omega, by omega⟩, ?_⟩)⟩
            refine ⟨_, rfl, pa, _, 2, 2, rfl, rfl, e, rfl, ?_⟩
            refine ⟨_, rfl, ?_⟩
            exact hk (x.fmod n) (Int.fmod_nonneg_of_pos x hn.1) (Int.fmod_lt_of_pos x hn.1) _ F1 _ (g.poolset en i (x.fdiv n) k hs) (.int _)
          obtain ⟨e0, sa, i, x, k, ns, e1, hs⟩ := pl pa rfl
          refine ⟨_, rfl, ix 2 (.int x) _ e1 rfl ⟨x, 1, rfl, rfl, _, rfl, ?_⟩⟩
          (dsimp only; split)
          · refine ⟨_, rfl, ix 3 (.int k) _ e1 rfl ⟨k, 1, rfl, rfl, _, rfl, pa, _, 3, 3, rfl, rfl, e1, rfl, ?_⟩⟩
            have g1 := (Grow.refl (K := K) (p := some pa) fh).poolset e0 i x (k + 1) hs
            have e2 : upd H pa (.lst [.ref sa, .int i, .int x, .int (k + 1)]) pa = some (.lst [.ref sa, .int i, .int x, .int (k + 1)]) := upd_same
            refine ⟨_, rfl, ix 0 (.ref sa) _ e2 rfl ⟨_, rfl, ix 1 (.int i) _ e2 rfl ⟨_, rfl, ix 3 (.int (k + 1)) _ e2 rfl ?_⟩⟩⟩
            refine ⟨F0, some pa, sa, i, k + 1, ns, g1.fh, g1.pl pl, hs, rfl, fun y F2 H2 g2 => ?_⟩
            have g12 := g1.trans g2
            obtain ⟨e3, sa', i', x', k', ns', e4, hs'⟩ := g2.pl (g1.pl pl) pa rfl
            exact ⟨_, rfl, pa, _, 2, 2, rfl, rfl, e4, rfl, last F2 _ sa' i' y k' ns' (g12.poolset e3 i' y k' hs') upd_same e3 hs'⟩
          · exact last F0 H sa i x k ns (.refl fh) e1 e0 hs
        · exact hd'.elim
      | _ => exact hd.elim
end

/-! the law: a pool is made, then what follows -/
def spLaw (K : PySem.W.Frag) : Sp := fun vs H Q _ => ∃ (a : Addr) (ns : List Int), vs = [.ref a] ∧ SqL K H a (ns.map V.int) ∧ ∀ H', Q (.bl true) H'
section
variable {P : Program} {w : World} {K : PySem.W.Frag} {mg : Str → Option Value} {base : Heap} {x qual : Str} {params : Arguments} {st : Stmt} {rest : List Stmt} {scope : Scope} {kws : List (Str × V)} {fn : Addr} {fd : FuncData} {N : List Str} {k : Nat} {m : Gen D}
theorem law_mk (i : Nat) (F : FunD K x qual params (st :: rest) scope [] kws fn fd) (S : FnScope N ["script"] scope) (hi : i < N.length) (h0 : 0 < N.length)
    (hp : ∀ j, PS ((famOf P w K mg base N qual scope fn k S.nd).X j) st (tAsg (tCall (spPool K) [] E0 (tCons (tVar 0) tNil)) (gName i)))
    (hb : GX (famOf P w K mg base N qual scope fn k S.nd) tFun ((List.replicate N.length .any).set i .pool) rest m (pRet K)) (hm : m.all fun d => d = .bool true) : FnOk P w K mg base CX0 (k + 1) fn fd ["script"] (spLaw K) := by
  refine F.ok S (fun vs H Q E h => ?_) (fun cdv A outer s H vs Q E hr h => ?_)
  · obtain ⟨_, _, rfl, _⟩ := h
    rfl
  · obtain ⟨t, h1, h2⟩ := hb
    refine ⟨_, PSs.nox (pss_cons (hp ⟨(cdv, A, outer, s, H, E), hr⟩) (h1 ⟨(cdv, A, outer, s, H, E), hr⟩)), ?_⟩
    obtain ⟨sa, ns, rfl, hs, hQ⟩ := h
    have e0 : (L2.start N [.ref sa])[0]? = some (some (.ref sa)) := by unfold L2.start; rfl
    refine ⟨_, e0, H, sa, ns, (fun a o e => .inl e), hs, rfl, fun F1 H1 a i1 j1 k1 g ha => ?_⟩
    have hF : F1 a = none := g.fh.dom ha
    let H2 : Hp := upd H1 a (.lst [.ref sa, .int i1, .int j1, .int k1])
    let Z : Ent := { p := some a, F := F1, H := H2 }
    have fh2 : FH F1 H2 := fun b o e => by
      have hb : b ≠ a := fun z => by rw [z, hF] at e; cases e
      show upd H1 a _ b = _ ∨ _
      rw [show upd H1 a (.lst [.ref sa, .int i1, .int j1, .int k1]) b = H1 b from upd_ne hb]
      rcases g.fh b o e with q | ⟨q1, ob, q2⟩
      · exact .inl q
      · exact .inr ⟨q1, ob, by show upd H1 a _ b = _; rw [upd_ne hb]; exact q2⟩
    have pl2 : PoolOk K F1 H2 (some a) := fun b e => by
      cases e
      exact ⟨hF, sa, i1, j1, k1, ns, upd_same, (FH.of_same g.ff).l hs⟩
    have bk : Bk K Z F1 (fun _ => none) H2 := { fh := fh2, zf := fun _ _ h => h, zn := fun _ _ => rfl, zh := fun _ _ h _ _ => h, zd := fun _ h => h, zl := fun q hq => (by cases hq), zo := fun _ _ => rfl, fo := fun _ _ => rfl, ho := fun _ _ => rfl, po := fun _ _ => rfl, pl := pl2 }
    have sl : (L2.start N [.ref sa]).length = N.length := start_len h0
    have hsl : ∀ (j : Nat) (q : Slot), ((List.replicate N.length Slot.any).set i .pool)[j]? = some q → SlotOk K Z F1 (fun _ => none) H2 j q ((L2.start N [.ref sa]).set i (some (.ref a)))[j]? := fun j q e => by
      by_cases hj : i = j
      · subst hj
        rw [List.getElem?_set_self (by simpa using hi)] at e
        cases e
        refine ⟨a, ?_, rfl⟩
        rw [List.getElem?_set_self (by rw [sl]; exact hi)]
      · rw [List.getElem?_set_ne hj] at e
        have := List.mem_of_getElem? e
        rw [List.eq_of_mem_replicate this]
        trivial
    have ok : Ok K Z ((List.replicate N.length .any).set i .pool) F1 (fun _ => none) H2 ((L2.start N [.ref sa]).set i (some (.ref a))) := { toBk := bk, ln := by simp [sl], sl := hsl }
    show t _ ((L2.start N [.ref sa]).set i (some (.ref a))) H2
    refine h2 Z F1 (fun _ => none) H2 _ _ (fun σ H h => h) ok (Gen.all_mono (fun d h F' O' H' σ' b v r => ?_) hm)
    subst h
    cases r
    exact hQ H'
end

section
variable {P : Program} {w : World} {K : PySem.W.Frag} {mg : Str → Option Value} {base : Heap}
abbrev s__law_pick : Stmt := topS 14
theorem sc__law_pick : FnScope ["pool", "options"] ["pool", "options"] (defScope s__law_pick) := ⟨rfl, rfl, rfl, by decide +kernel, rfl, by decide +kernel, by decide +kernel⟩
def m__law_pick' (d0 d1 : D) : Gen D :=
  (b2 dSub2 (pur d1) (bnd (bnd (pur d1) fun a1 => lif (dop1 dLen [a1])) fun a2 => m__law_draw [.none, a2]))
def m__law_pick (ds : List D) : Gen D := match ds with
  | [d0, d1] => m__law_pick' d0 d1
  | _ => lif none
theorem ok__law_pick (c : Ev K mg) : DOk P w K mg base "_law_pick" 5 ["pool", "options"] [.pool, .val] m__law_pick := by
  obtain ⟨f, fd, F, gm⟩ := c.f__law_pick
  refine ⟨f, fd, fn_mk (k := 4) F sc__law_pick rfl (by decide) fun ds hl => ?_, gm, F.kp, F.bindsN fun _ _ _ _ _ _ us hl => match us, hl with | [_, _], _ => rfl⟩
  match ds, hl with
  | [d0, d1], _ =>
    show GX _ tFun [.pool, .val d1] _ (m__law_pick' d0 d1) _
    unfold m__law_pick'
    exact (gx_ret (ex_sub (EX.t (ex_val (i := 1) rfl (fun _ => rfl) (fun _ => .inl rfl))) (EX.t (ex_cG (ok__law_draw c) (Nat.le_of_ble_eq_true rfl) (fun _ => rfl) (exk_pool (i := 0) rfl (exk_val (ex_bi fcr_len rc_len c.g_len (by decide +kernel) (exk_top (EX.t (ex_val (i := 1) rfl (fun _ => rfl) (fun _ => .inl rfl))) exk_nil ) rfl) exk_nil ) (fun _ => rfl) (fun _ => .inl rfl)) rfl))))
abbrev s_law : Stmt := topS 20
theorem sc_law : FnScope ["script", "pool", "n", "regular", "ways", "step", "due", "quarter", "mirror", "images", "signs", "told", "groups", "own", "other"] ["script"] (defScope s_law) := ⟨rfl, rfl, rfl, by decide +kernel, rfl, by decide +kernel, by decide +kernel⟩
def m_law : Gen D :=
  (bnd (b2 dAdd (pur (.int 2)) (bnd (bnd (bnd (pur (.int 8)) fun a6 => bnd (pur (.int 39)) fun a7 => mkL [a6, a7]) fun a8 => m__law_pick [.none, a8]) fun a9 => m__law_draw [.none, a9])) fun n_1 => (bnd (bnd (pur n_1) fun a12 => Gen.lift (m__law_regular [a12])) fun regular_10 => (bnd (pur (.dict [])) fun ways_13 => (bnd (forM' selN (i1 dSeq (pur regular_10)) ways_13 (fun (s14 : D) (x15 : D) => (bnd (bnd (bnd (bnd (pur n_1) fun a16 => bnd (pur x15) fun a17 => Gen.lift (m__law_all_ways [a16, a17])) fun a18 => lif (dop1 dSorted [a18])) fun a19 => bnd (pur x15) fun a20 => lif (dSet s14 a20 a19)) fun ways_21 => (pur ways_21)))) fun s22 => (bnd (pur (.dict [])) fun due_23 => (bnd (mkL []) fun quarter_24 => (bnd (mkL []) fun mirror_25 => (bnd (forC selN (i1 dSeq (pur regular_10)) (due_23, quarter_24, mirror_25) (fun (s26 : D × D × D) (x27 : D) => (bnd (mkL []) fun images_28 => (bnd (forM' selN (i1 dSeq (bnd (bnd (pur (.int 1)) fun a29 => bnd (pur (.int 1)) fun a30 => mkT [a29, a30]) fun a31 => bnd (bnd (u1 dNeg (pur (.int 1))) fun a32 => bnd (pur (.int 1)) fun a33 => mkT [a32, a33]) fun a34 => mkL [a31, a34])) images_28 (fun (s35 : D) (x36 : D) => (bnd (b2 dAdd (pur s35) (bnd (bnd (pur n_1) fun a48 => bnd (pur x27) fun a49 => bnd (pur x36) fun a50 => bnd (pur (.bool false)) fun a51 => Gen.lift (m__law_laid [a48, a49, a50, a51])) fun a52 => bnd (bnd (pur n_1) fun a53 => bnd (pur x27) fun a54 => bnd (pur x36) fun a55 => bnd (pur (.bool true)) fun a56 => Gen.lift (m__law_laid [a53, a54, a55, a56])) fun a57 => mkL [a52, a57])) fun images_37 => (pur images_37)))) fun s58 => (bnd (bnd (lcM selN (i1 dSeq (pur regular_10)) (fun x59 : D => (b2 bIn (b2 dSub2 (pur s22) (pur x59)) (pur s58))) (fun x59 => (pur x59))) fun a60 => bnd (pur x27) fun a61 => lif (dSet s26.1 a61 a60)) fun due_62 => (bnd (iteR (b2 bEq (bnd (pur n_1) fun a63 => bnd (pur x27) fun a64 => bnd (bnd (u1 dNeg (pur (.int 1))) fun a65 => bnd (pur (.int 1)) fun a66 => mkT [a65, a66]) fun a67 => bnd (pur (.bool true)) fun a68 => Gen.lift (m__law_laid [a63, a64, a67, a68])) (b2 dSub2 (pur s22) (pur x27))) (bnd (bnd (pur x27) fun a70 => lif (dApp s26.2.1 a70)) fun quarter_71 => (pur quarter_71)) (pur s26.2.1)) fun s69 => (bnd (iteR (b2 bEq (bnd (pur n_1) fun a72 => bnd (pur x27) fun a73 => bnd (bnd (pur (.int 1)) fun a74 => bnd (pur (.int 1)) fun a75 => mkT [a74, a75]) fun a76 => bnd (pur (.bool true)) fun a77 => Gen.lift (m__law_laid [a72, a73, a76, a77])) (b2 dSub2 (pur s22) (pur x27))) (bnd (bnd (pur x27) fun a79 => lif (dApp s26.2.2 a79)) fun mirror_80 => (pur mirror_80)) (pur s26.2.2)) fun s78 => (iteR (bNot (bTru (bnd (bnd (pur n_1) fun a81 => bnd (pur x27) fun a82 => Gen.lift (m_kin [a81, a82])) fun a83 => bnd (b2 dSub2 (pur due_62) (pur x27)) fun a84 => Gen.lift (m__law_same 8 [a83, a84])))) (bnd (pur (.bool false)) fun r85 => pur (Ctl.ret r85)) (pur (Ctl.nxt (due_62, s69, s78))))))))))) (behind (fun d => d) fun s86 => (bnd (bnd (pur n_1) fun a89 => Gen.lift (m_families [a89])) fun told_87 => (bnd (bnd (lcM selN (i1 dSeq (pur regular_10)) (fun x93 : D => (b2 bEq (b2 dSub2 (b2 dSub2 (pur s86.1) (pur x93)) (pur (.int 0))) (pur x93))) (fun x93 => (b2 dSub2 (pur s86.1) (pur x93)))) fun a94 => lif (dop1 dSorted [a94])) fun groups_90 => (iteR (orM (bNot (bTru (bnd (pur told_87) fun a95 => bnd (pur groups_90) fun a96 => Gen.lift (m__law_same 8 [a95, a96])))) (bNot (bTru (bnd (bnd (pur n_1) fun a97 => Gen.lift (m_family_count [a97])) fun a98 => bnd (bnd (pur groups_90) fun a99 => lif (dop1 dLen [a99])) fun a100 => Gen.lift (m__law_same 8 [a98, a100]))))) (pur (.bool false)) (bnd (lcM selN (i1 dSeq (pur regular_10)) (fun x102 : D => (b2 bEq (b2 dMod (bnd (b2 dMul (pur (.int 2)) (pur x102)) fun a103 => lif (dop1 dInt [a103])) (pur n_1)) (pur (.int 0)))) (fun x102 => (pur x102))) fun own_101 => (iteR (b2 bNe (b2 dMul (pur (.int 4)) (bnd (pur groups_90) fun a104 => lif (dop1 dLen [a104]))) (b2 dAdd (b2 dAdd (b2 dAdd (bnd (pur regular_10) fun a105 => lif (dop1 dLen [a105])) (bnd (pur own_101) fun a106 => lif (dop1 dLen [a106]))) (bnd (pur s86.2.1) fun a107 => lif (dop1 dLen [a107]))) (bnd (pur s86.2.2) fun a108 => lif (dop1 dLen [a108])))) (pur (.bool false)) (bnd (bnd (bnd (pur n_1) fun a120 => Gen.lift (m_turned [a120])) fun a121 => bnd (bnd (pur n_1) fun a122 => Gen.lift (m_mirrored [a122])) fun a123 => mkL [a121, a123]) fun a124 => bnd (bnd (pur s86.2.1) fun a125 => bnd (pur s86.2.2) fun a126 => mkL [a125, a126]) fun a127 => Gen.lift (m__law_same 8 [a124, a127]))))))))))))))))
theorem ok_law {f : Addr} {fd : FuncData} (F : FnP K "law" s_law f fd) (c : Ev K mg) (hm : m_law.all fun d => d = .bool true) : FnOk P w K mg base CX0 11 f fd ["script"] (spLaw K) := by
  obtain ⟨fp, fdp, G1, G2, G3, G4⟩ := ok__law_pool (P := P) (w := w) (base := base) c
  refine law_mk (k := 10) 1 F sc_law (by decide) (by decide) (fun j => ps_set (i := 1) sc_law.nd rfl (.inl rfl) (pe_call G1 (j.2.mono (by decide)) rfl G2 G3 G4 .nil pass0 (pa_cons (pv 0) pa_nil)) (by rfl) (.inr rfl)) ?_ hm
  unfold m_law
  exact (gx_seq (sx_set (i := 2) (ex_bin fop_add rop_add (EX.t ex_int) (EX.t (ex_cG (ok__law_draw c) (Nat.le_of_ble_eq_true rfl) (fun _ => rfl) (exk_pool (i := 1) rfl (exk_val (ex_cG (ok__law_pick c) (Nat.le_of_ble_eq_true rfl) (fun _ => rfl) (exk_pool (i := 1) rfl (exk_val (EXN.x (en_list (exa_cons ex_int (exa_cons ex_int exa_nil)) rfl)) exk_nil ) (fun _ => rfl) (fun _ => .inl rfl)) rfl) exk_nil ) (fun _ => rfl) (fun _ => .inl rfl)) rfl))) (fun _ => rfl) (by simp) (fun _ => .inr rfl) (fun _ => .inl rfl)) fun n_1 => (gx_seq (sx_set (i := 3) (ex_cL (ok__law_regular c) (Nat.le_of_ble_eq_true rfl) (fun _ => rfl) (exk_val (ex_val (i := 2) rfl (fun _ => rfl) (fun _ => .inr (.inl rfl))) exk_nil ) rfl) (fun _ => rfl) (by simp) (fun _ => .inl rfl) (fun _ => .inr rfl)) fun regular_10 => (gx_seq (sx_setN (i := 4) en_dict0 (fun _ => rfl) (by simp) (fun _ => .inr rfl) (fun _ => .inl rfl)) fun ways_13 => (gx_seq (sx_fr (Γf := (fun (s14 : D) => [.any, .pool, .val n_1, .val regular_10, .own s14, .any, .any, .any, .any, .any, .any, .any, .any, .any, .any])) (s0 := ways_13) (it_seq (ex_val (i := 3) rfl (fun _ => rfl) (fun _ => .inl rfl))) (tg_name (i := 5) (fun _ => rfl) (fun _ => .inl rfl) (fun _ => .inr rfl)) (.drop (.same (.same (.same (.same (.drop (.drop (.drop (.drop (.drop (.drop (.drop (.drop (.drop (.drop .nil))))))))))))))) (fun _ => by simp) (fun s14 x15 => (gx_seq (sx_put (i := 4) rfl (ex_bi fcr_sortD rc_sortD c.g_sorted (by decide +kernel) (exk_top (EX.t (ex_cL (ok__law_all_ways c) (Nat.le_of_ble_eq_true rfl) (fun _ => rfl) (exk_val (ex_val (i := 2) rfl (fun _ => rfl) (fun _ => .inr (.inl rfl))) (exk_val (ex_val (i := 5) rfl (fun _ => rfl) (fun _ => .inl rfl)) exk_nil ) ) rfl)) exk_nil ) rfl) (ex_val (i := 5) rfl (fun _ => rfl) (fun _ => .inl rfl)) (fun _ => rfl) (fun _ => .inr (.inl rfl))) fun ways_21 => (gx_end (s := ways_21) (.drop (.same (.same (.same (.same (.drop (.drop (.drop (.drop (.drop (.drop (.drop (.drop (.drop (.drop .nil))))))))))))))))))) fun s22 => (gx_seq (sx_setN (i := 6) en_dict0 (fun _ => rfl) (by simp) (fun _ => .inr rfl) (fun _ => .inl rfl)) fun due_23 => (gx_seq (sx_setN (i := 7) (en_list exa_nil rfl) (fun _ => rfl) (by simp) (fun _ => .inl rfl) (fun _ => .inr rfl)) fun quarter_24 => (gx_seq (sx_setN (i := 8) (en_list exa_nil rfl) (fun _ => rfl) (by simp) (fun _ => .inl rfl) (fun _ => .inr rfl)) fun mirror_25 => (gx_frz (i := 4) rfl (gx_forC (Γf := (fun (s26 : D × D × D) => [.any, .pool, .val n_1, .val regular_10, .val s22, .any, .own s26.1, .own s26.2.1, .own s26.2.2, .any, .any, .any, .any, .any, .any])) (s0 := (due_23, quarter_24, mirror_25)) nx_ret ret_ret (it_seq (ex_val (i := 3) rfl (fun _ => rfl) (fun _ => .inl rfl))) (tg_name (i := 5) (fun _ => rfl) (fun _ => .inl rfl) (fun _ => .inr rfl)) (.drop (.same (.same (.same (.same (.drop (.same (.same (.same (.drop (.drop (.drop (.drop (.drop (.drop .nil))))))))))))))) (fun _ => by simp) (fun s26 x27 => (gx_seq (sx_set (i := 9) (EXN.x (en_list exa_nil rfl)) (fun _ => rfl) (by simp) (fun _ => .inr rfl) (fun _ => .inl rfl)) fun images_28 => (gx_seq (sx_fr (Γf := (fun (s35 : D) => [.any, .pool, .val n_1, .val regular_10, .val s22, .val x27, .own s26.1, .own s26.2.1, .own s26.2.2, .val s35, .any, .any, .any, .any, .any])) (s0 := images_28) (it_seq (EXN.x (en_list (exa_cons (ex_tup (exa_cons ex_int (exa_cons ex_int exa_nil)) rfl) (exa_cons (ex_tup (exa_cons (ex_neg (EX.t ex_int)) (exa_cons ex_int exa_nil)) rfl) exa_nil)) rfl))) (tg_name (i := 10) (fun _ => rfl) (fun _ => .inl rfl) (fun _ => .inr rfl)) (.drop (.same (.same (.same (.same (.same (.same (.same (.same (.same (.drop (.drop (.drop (.drop (.drop .nil))))))))))))))) (fun _ => by simp) (fun s35 x36 => (gx_seq (sx_set (i := 9) (ex_bin fop_add rop_add (EX.t (ex_val (i := 9) rfl (fun _ => rfl) (fun _ => .inr (.inl rfl)))) (EXN.t (en_list (exa_cons (ex_cL (ok__law_laid c) (Nat.le_of_ble_eq_true rfl) (fun _ => rfl) (exk_val (ex_val (i := 2) rfl (fun _ => rfl) (fun _ => .inr (.inl rfl))) (exk_val (ex_val (i := 5) rfl (fun _ => rfl) (fun _ => .inl rfl)) (exk_val (ex_val (i := 10) rfl (fun _ => rfl) (fun _ => .inl rfl)) (exk_val ex_bl exk_nil ) ) ) ) rfl) (exa_cons (ex_cL (ok__law_laid c) (Nat.le_of_ble_eq_true rfl) (fun _ => rfl) (exk_val (ex_val (i := 2) rfl (fun _ => rfl) (fun _ => .inr (.inl rfl))) (exk_val (ex_val (i := 5) rfl (fun _ => rfl) (fun _ => .inl rfl)) (exk_val (ex_val (i := 10) rfl (fun _ => rfl) (fun _ => .inl rfl)) (exk_val ex_bl exk_nil ) ) ) ) rfl) exa_nil)) rfl))) (fun _ => rfl) (by simp) (fun _ => .inr rfl) (fun _ => .inl rfl)) fun images_37 => (gx_end (s := images_37) (.drop (.same (.same (.same (.same (.same (.same (.same (.same (.same (.drop (.drop (.drop (.drop (.drop .nil))))))))))))))))))) fun s58 => (gx_seq (sx_put (i := 6) rfl (EXN.x (LCX.n (lc (own := [("other", 14)]) (it_seq (ex_val (i := 3) rfl (fun _ => rfl) (fun _ => .inl rfl))) (tg_name (i := 14) (fun _ => rfl) (fun _ => .inl rfl) (fun _ => .inr rfl)) (by decide) (by simp) (fun x59 => (exi_one (exb_cmp fop_in rbp_in (EX.t (ex_sub (EX.t (ex_val (i := 4) rfl (fun _ => rfl) (fun _ => .inr (.inl rfl)))) (EX.t (ex_val (i := 14) rfl (fun _ => rfl) (fun _ => .inl rfl))))) (EX.t (ex_val (i := 9) rfl (fun _ => rfl) (fun _ => .inr (.inl rfl))))))) (fun x59 => (ex_val (i := 14) rfl (fun _ => rfl) (fun _ => .inl rfl)))) (fun _ => blk_of rfl rfl rfl rfl rfl))) (ex_val (i := 5) rfl (fun _ => rfl) (fun _ => .inl rfl)) (fun _ => rfl) (fun _ => .inr (.inl rfl))) fun due_62 => (gx_seq (Γf := (fun (s69 : D) => [.any, .pool, .val n_1, .val regular_10, .val s22, .val x27, .own due_62, .own s69, .own s26.2.2, .val s58, .any, .any, .any, .any, .any])) (sx_if' (exb_cmp fop_eq rbp_eq (EX.t (ex_cL (ok__law_laid c) (Nat.le_of_ble_eq_true rfl) (fun _ => rfl) (exk_val (ex_val (i := 2) rfl (fun _ => rfl) (fun _ => .inr (.inl rfl))) (exk_val (ex_val (i := 5) rfl (fun _ => rfl) (fun _ => .inl rfl)) (exk_val (ex_tup (exa_cons (ex_neg (EX.t ex_int)) (exa_cons ex_int exa_nil)) rfl) (exk_val ex_bl exk_nil ) ) ) ) rfl)) (EX.t (ex_sub (EX.t (ex_val (i := 4) rfl (fun _ => rfl) (fun _ => .inr (.inl rfl)))) (EX.t (ex_val (i := 5) rfl (fun _ => rfl) (fun _ => .inl rfl)))))) (gx_seq (sx_append (i := 7) rfl (ex_val (i := 5) rfl (fun _ => rfl) (fun _ => .inl rfl)) (fun _ => rfl) (fun _ => .inl rfl)) fun quarter_71 => (gx_end (s := quarter_71) (.drop (.same (.same (.same (.same (.same (.same (.same (.same (.same (.drop (.drop (.drop (.drop (.drop .nil))))))))))))))))) (gx_end (s := s26.2.1) (.drop (.same (.same (.same (.same (.same (.same (.same (.same (.same (.drop (.drop (.drop (.drop (.drop .nil))))))))))))))))) fun s69 => (gx_seq (Γf := (fun (s78 : D) => [.any, .pool, .val n_1, .val regular_10, .val s22, .val x27, .own due_62, .own s69, .own s78, .val s58, .any, .any, .any, .any, .any])) (sx_if' (exb_cmp fop_eq rbp_eq (EX.t (ex_cL (ok__law_laid c) (Nat.le_of_ble_eq_true rfl) (fun _ => rfl) (exk_val (ex_val (i := 2) rfl (fun _ => rfl) (fun _ => .inr (.inl rfl))) (exk_val (ex_val (i := 5) rfl (fun _ => rfl) (fun _ => .inl rfl)) (exk_val (ex_tup (exa_cons ex_int (exa_cons ex_int exa_nil)) rfl) (exk_val ex_bl exk_nil ) ) ) ) rfl)) (EX.t (ex_sub (EX.t (ex_val (i := 4) rfl (fun _ => rfl) (fun _ => .inr (.inl rfl)))) (EX.t (ex_val (i := 5) rfl (fun _ => rfl) (fun _ => .inl rfl)))))) (gx_seq (sx_append (i := 8) rfl (ex_val (i := 5) rfl (fun _ => rfl) (fun _ => .inl rfl)) (fun _ => rfl) (fun _ => .inl rfl)) fun mirror_80 => (gx_end (s := mirror_80) (.drop (.same (.same (.same (.same (.same (.same (.same (.same (.same (.drop (.drop (.drop (.drop (.drop .nil))))))))))))))))) (gx_end (s := s26.2.2) (.drop (.same (.same (.same (.same (.same (.same (.same (.same (.same (.drop (.drop (.drop (.drop (.drop .nil))))))))))))))))) fun s78 => (gx_ifx' nx_ctl (exb_not (exb_tru (EX.t (ex_cL (ok__law_same c 8) (Nat.le_of_ble_eq_true rfl) (fun _ => rfl) (exk_val (ex_cL (ok_kin c) (Nat.le_of_ble_eq_true rfl) (fun _ => rfl) (exk_val (ex_val (i := 2) rfl (fun _ => rfl) (fun _ => .inr (.inl rfl))) (exk_val (ex_val (i := 5) rfl (fun _ => rfl) (fun _ => .inl rfl)) exk_nil ) ) rfl) (exk_val (ex_sub (ex_own (i := 6) rfl (fun _ => rfl) (fun _ => .inr (.inl rfl))) (EX.t (ex_val (i := 5) rfl (fun _ => rfl) (fun _ => .inl rfl)))) exk_nil ) ) rfl)))) (gx_retC ex_bl) (gx_endC (s := (due_62, s69, s78)) (.drop (.same (.same (.same (.same (.drop (.same (.same (.same (.drop (.drop (.drop (.drop (.drop (.drop .nil))))))))))))))))))))))) fun s86 => (gx_seq (sx_set (i := 11) (ex_cL (ok_families c) (Nat.le_of_ble_eq_true rfl) (fun _ => rfl) (exk_val (ex_val (i := 2) rfl (fun _ => rfl) (fun _ => .inr (.inl rfl))) exk_nil ) rfl) (fun _ => rfl) (by simp) (fun _ => .inl rfl) (fun _ => .inr rfl)) fun told_87 => (gx_seq (sx_set (i := 12) (ex_bi fcr_sortD rc_sortD c.g_sorted (by decide +kernel) (exk_top (EXN.t (LCX.n (lc (own := [("step", 5)]) (it_seq (ex_val (i := 3) rfl (fun _ => rfl) (fun _ => .inl rfl))) (tg_name (i := 5) (fun _ => rfl) (fun _ => .inl rfl) (fun _ => .inr rfl)) (by decide) (by simp) (fun x93 => (exi_one (exb_cmp fop_eq rbp_eq (EX.t (ex_sub (EX.t (ex_sub (ex_own (i := 6) rfl (fun _ => rfl) (fun _ => .inr (.inl rfl))) (EX.t (ex_val (i := 5) rfl (fun _ => rfl) (fun _ => .inl rfl))))) (EX.t ex_int))) (EX.t (ex_val (i := 5) rfl (fun _ => rfl) (fun _ => .inl rfl)))))) (fun x93 => (ex_sub (ex_own (i := 6) rfl (fun _ => rfl) (fun _ => .inr (.inl rfl))) (EX.t (ex_val (i := 5) rfl (fun _ => rfl) (fun _ => .inl rfl)))))) (fun _ => blk_of rfl rfl rfl rfl rfl))) exk_nil ) rfl) (fun _ => rfl) (by simp) (fun _ => .inl rfl) (fun _ => .inr rfl)) fun groups_90 => (gx_ifx' nx_ret (EXW.bb (exw_or (exb_not (exb_tru (EX.t (ex_cL (ok__law_same c 8) (Nat.le_of_ble_eq_true rfl) (fun _ => rfl) (exk_val (ex_val (i := 11) rfl (fun _ => rfl) (fun _ => .inl rfl)) (exk_val (ex_val (i := 12) rfl (fun _ => rfl) (fun _ => .inl rfl)) exk_nil ) ) rfl)))) (exw_or1 (exb_not (exb_tru (EX.t (ex_cL (ok__law_same c 8) (Nat.le_of_ble_eq_true rfl) (fun _ => rfl) (exk_val (ex_cL (ok_family_count c) (Nat.le_of_ble_eq_true rfl) (fun _ => rfl) (exk_val (ex_val (i := 2) rfl (fun _ => rfl) (fun _ => .inr (.inl rfl))) exk_nil ) rfl) (exk_val (ex_bi fcr_len rc_len c.g_len (by decide +kernel) (exk_top (EX.t (ex_val (i := 12) rfl (fun _ => rfl) (fun _ => .inl rfl))) exk_nil ) rfl) exk_nil ) ) rfl))))))) (gx_ret ex_bl) (gx_seq (sx_setLc (i := 13) (lc (own := [("step", 5)]) (it_seq (ex_val (i := 3) rfl (fun _ => rfl) (fun _ => .inl rfl))) (tg_name (i := 5) (fun _ => rfl) (fun _ => .inl rfl) (fun _ => .inr rfl)) (by decide) (by simp) (fun x102 => (exi_one (exb_cmp fop_eq rbp_eq (EX.t (ex_bin (fun _ => op_modN) rop_mod (EX.t (ex_ty (fun _ => call_int1) rc_int c.g_int (by decide +kernel) (exk_top (EX.t (ex_bin (fun _ => op_mulD) rop_mul (EX.t ex_int) (EX.t (ex_val (i := 5) rfl (fun _ => rfl) (fun _ => .inl rfl))))) exk_nil ) rfl)) (EX.t (ex_val (i := 2) rfl (fun _ => rfl) (fun _ => .inr (.inl rfl)))))) (EX.t ex_int)))) (fun x102 => (ex_val (i := 5) rfl (fun _ => rfl) (fun _ => .inl rfl)))) (fun _ => blk_of rfl rfl rfl rfl rfl)  (fun _ => rfl) (by simp) (fun _ => rfl) (fun _ => sw_true rfl rfl rfl rfl)) fun own_101 => (gx_frz (i := 13) rfl (gx_ifx' nx_ret (exb_cmp fop_ne rbp_ne (EX.t (ex_bin (fun _ => op_mulD) rop_mul (EX.t ex_int) (EX.t (ex_bi fcr_len rc_len c.g_len (by decide +kernel) (exk_top (EX.t (ex_val (i := 12) rfl (fun _ => rfl) (fun _ => .inl rfl))) exk_nil ) rfl)))) (EX.t (ex_bin fop_add rop_add (EX.t (ex_bin fop_add rop_add (EX.t (ex_bin fop_add rop_add (EX.t (ex_bi fcr_len rc_len c.g_len (by decide +kernel) (exk_top (EX.t (ex_val (i := 3) rfl (fun _ => rfl) (fun _ => .inl rfl))) exk_nil ) rfl)) (EX.t (ex_bi fcr_len rc_len c.g_len (by decide +kernel) (exk_top (EX.t (ex_val (i := 13) rfl (fun _ => rfl) (fun _ => .inl rfl))) exk_nil ) rfl)))) (EX.t (ex_bi fcr_len rc_len c.g_len (by decide +kernel) (exk_top (ex_own (i := 7) rfl (fun _ => rfl) (fun _ => .inl rfl)) exk_nil ) rfl)))) (EX.t (ex_bi fcr_len rc_len c.g_len (by decide +kernel) (exk_top (ex_own (i := 8) rfl (fun _ => rfl) (fun _ => .inl rfl)) exk_nil ) rfl))))) (gx_ret ex_bl) (gx_frz (i := 7) rfl (gx_frz (i := 8) rfl (gx_ret (ex_cL (ok__law_same c 8) (Nat.le_of_ble_eq_true rfl) (fun _ => rfl) (exk_val (EXN.x (en_list (exa_cons (ex_cL (ok_turned c) (Nat.le_of_ble_eq_true rfl) (fun _ => rfl) (exk_val (ex_val (i := 2) rfl (fun _ => rfl) (fun _ => .inr (.inl rfl))) exk_nil ) rfl) (exa_cons (ex_cL (ok_mirrored c) (Nat.le_of_ble_eq_true rfl) (fun _ => rfl) (exk_val (ex_val (i := 2) rfl (fun _ => rfl) (fun _ => .inr (.inl rfl))) exk_nil ) rfl) exa_nil)) rfl)) (exk_val (EXN.x (en_list (exa_cons (ex_val (i := 7) rfl (fun _ => rfl) (fun _ => .inl rfl)) (exa_cons (ex_val (i := 8) rfl (fun _ => rfl) (fun _ => .inl rfl)) exa_nil)) rfl)) exk_nil ) ) rfl)))))))))))))))))))
end
end Y

set_option maxRecDepth 100000
set_option maxHeartbeats 1000000
namespace Y
open PySem L2 PM PX
/-! satins: steps, gcd; shared by k48, k49, k50 -/
abbrev eN (L : List Nat) : D := .list (L.map fun (y : Nat) => PyData.int (y : Int))
theorem filt_len (n : Nat) (t : Nat → Bool) : ((List.range n).filter t).length ≤ n := by
  have := List.length_filter_le t (List.range n)
  simpa using this
theorem eN_len (L : List Nat) : (L.map fun (y : Nat) => PyData.int (y : Int)).length = L.length := List.length_map ..
theorem lc_range {n : Nat} (hn : n < 1000000) {mt : D → Option Bool} (t : Nat → Bool) (h : ∀ y : Nat, y < n → mt (.int (y : Int)) = some (t y)) : lcM (μ := Option) selN (i1 dRg1 (some (PyData.int (n : Int)))) mt (fun x => some x) = some (eN ((List.range n).filter t)) := by
  refine lc_eq (e := fun (y : Nat) => PyData.int (y : Int)) (s := fun (y : Nat) => PyData.int (y : Int)) (xs := List.range n) (t := t) (r := fun (y : Nat) => PyData.int (y : Int)) ?_ (fun _ _ => rfl) (fun y hy => h y (List.mem_range.mp hy)) (fun _ _ _ => rfl) ?_
  · rw [i1_o, dRg1_i (by omega)]; simp
  · have := filt_len n t; omega
theorem lc_nats {L : List Nat} (hn : L.length < 1000000) {mt : D → Option Bool} (t : Nat → Bool) (h : ∀ y : Nat, y ∈ L → mt (.int (y : Int)) = some (t y)) : lcM (μ := Option) selN (i1 dSeq (some (eN L))) mt (fun x => some x) = some (eN (L.filter t)) := by
  refine lc_eq (e := fun (y : Nat) => PyData.int (y : Int)) (s := fun (y : Nat) => PyData.int (y : Int)) (xs := L) (t := t) (r := fun (y : Nat) => PyData.int (y : Int)) ?_ (fun _ _ => rfl) (fun y hy => h y hy) (fun _ _ _ => rfl) ?_
  · rw [i1_o, dSeq_l]
  · have := List.length_filter_le t L; omega
theorem lc_natsg {L : List Nat} (hn : L.length < 1000000) {mt : D → Gen Bool} (t : Nat → Bool) (h : ∀ y : Nat, y ∈ L → mt (.int (y : Int)) = .ret (t y)) : lcM (μ := Gen) selN (i1 dSeq (.ret (eN L))) mt (fun x => .ret x) = .ret (eN (L.filter t)) := by
  refine lc_eqg (e := fun (y : Nat) => PyData.int (y : Int)) (s := fun (y : Nat) => PyData.int (y : Int)) (xs := L) (t := t) (r := fun (y : Nat) => PyData.int (y : Int)) ?_ (fun _ _ => rfl) (fun y hy => h y hy) (fun _ _ _ => rfl) ?_
  · rw [i1_g, dSeq_l]; rfl
  · have := List.length_filter_le t L; omega
/-- the regular steps -/
def regT (n : Nat) : List Nat := (List.range n).filter fun s => decide (Nat.gcd s n = 1)
theorem regT_len (n : Nat) : (regT n).length ≤ n := filt_len n _
theorem mem_regT {n s : Nat} : s ∈ regT n ↔ s < n ∧ Nat.gcd s n = 1 := by
  unfold regT
  rw [List.mem_filter, List.mem_range, decide_eq_true_eq]
theorem lc_reg {n : Nat} (hn : n < 1000000) {mt : D → Option Bool} (h : ∀ y : Nat, y < n → mt (.int (y : Int)) = some (decide (Nat.gcd y n = 1))) : lcM (μ := Option) selN (i1 dRg1 (some (PyData.int (n : Int)))) mt (fun x => some x) = some (eN (regT n)) := lc_range hn _ h
theorem one_dec (k : Nat) : decide (((k : Nat) : Int) = 1) = decide (k = 1) := by
  rw [decide_eq_decide]
  omega
theorem steps_t {n : Nat} (y : Nat) : (b2 bEq (bnd (some (PyData.int (y : Int))) fun a2 => bnd (some (.int (n : Int))) fun a3 => lif (dop2 dGcd [a2, a3])) (some (.int 1)) : Option Bool) = some (decide (Nat.gcd y n = 1)) := by
  rw [o_bnd, o_bnd, o_lif, dGcd_ii, b2_o, bEq_ii, Int.natAbs_natCast, Int.natAbs_natCast, one_dec]
theorem steps_eq {n : Nat} (hn : n < 1000000) : m_steps [.int n] = some (eN (regT n)) := by
  have e0 : m_steps [.int n] = m_steps' (.int n) := rfl
  rw [e0]
  unfold m_steps'
  simp only [o_pur]
  exact lc_reg hn fun y _ => steps_t y
/-- gcd by rests, as the law has it -/
theorem gcd_lp : ∀ (k : Nat) (xs : List Nat) (a b : Nat), b < 2 ^ k → 2 * k + 1 ≤ xs.length →
    lpC (μ := Option) (fun (s1 : D × D) (d : D) => bnd (lif (selN d)) fun (x2 : D) => (iteR (b2 bEq (pur s1.2) (pur (.int 0))) (pur (Ctl.brk (s1.1, s1.2))) (bnd (bnd (pur s1.2) fun a5 => bnd (b2 dMod (bnd (pur s1.1) fun a3 => lif (dop1 dInt [a3])) (pur s1.2)) fun a6 => pur (a5, a6)) fun q4 => (pur (Ctl.nxt (q4.1, q4.2)))))) (xs.map fun (i : Nat) => PyData.int (i : Int)) (PyData.int (a : Int), PyData.int (b : Int)) = some (.inl (PyData.int (Nat.gcd a b : Nat), .int 0)) := by
  have stop : ∀ (x : Nat) (xs : List Nat) (a : Nat), lpC (μ := Option) (fun (s1 : D × D) (d : D) => bnd (lif (selN d)) fun (x2 : D) => (iteR (b2 bEq (pur s1.2) (pur (.int 0))) (pur (Ctl.brk (s1.1, s1.2))) (bnd (bnd (pur s1.2) fun a5 => bnd (b2 dMod (bnd (pur s1.1) fun a3 => lif (dop1 dInt [a3])) (pur s1.2)) fun a6 => pur (a5, a6)) fun q4 => (pur (Ctl.nxt (q4.1, q4.2)))))) ((x :: xs).map fun (i : Nat) => PyData.int (i : Int)) (PyData.int (a : Int), PyData.int ((0 : Nat) : Int)) = some (.inl (PyData.int (Nat.gcd a 0 : Nat), .int 0)) := fun x xs a => by
    rw [List.map_cons]
    unfold lpC
    simp
  have go : ∀ (x : Nat) (xs : List Nat) (a b : Nat), 0 < b → lpC (μ := Option) (fun (s1 : D × D) (d : D) => bnd (lif (selN d)) fun (x2 : D) => (iteR (b2 bEq (pur s1.2) (pur (.int 0))) (pur (Ctl.brk (s1.1, s1.2))) (bnd (bnd (pur s1.2) fun a5 => bnd (b2 dMod (bnd (pur s1.1) fun a3 => lif (dop1 dInt [a3])) (pur s1.2)) fun a6 => pur (a5, a6)) fun q4 => (pur (Ctl.nxt (q4.1, q4.2)))))) ((x :: xs).map fun (i : Nat) => PyData.int (i : Int)) (PyData.int (a : Int), PyData.int (b : Int)) =
      lpC (μ := Option) (fun (s1 : D × D) (d : D) => bnd (lif (selN d)) fun (x2 : D) => (iteR (b2 bEq (pur s1.2) (pur (.int 0))) (pur (Ctl.brk (s1.1, s1.2))) (bnd (bnd (pur s1.2) fun a5 => bnd (b2 dMod (bnd (pur s1.1) fun a3 => lif (dop1 dInt [a3])) (pur s1.2)) fun a6 => pur (a5, a6)) fun q4 => (pur (Ctl.nxt (q4.1, q4.2)))))) (xs.map fun (i : Nat) => PyData.int (i : Int)) (PyData.int (b : Int), PyData.int ((a % b : Nat) : Int)) := fun x xs a b hb => by
    rw [List.map_cons]
    conv => lhs; unfold lpC
    have hb0 : (b : Int) ≠ 0 := by omega
    have e : ((a : Int).fmod (b : Int)) = ((a % b : Nat) : Int) := by
      rw [Int.fmod_eq_emod_of_nonneg _ (by omega)]; simp
    simp only [o_lif, selN_some, o_bnd, o_pur, b2_o, bEq_ii, o_iteR, decide_eq_true_eq, hb0, if_false, dInt_i, dMod_ii _ _ hb0, e]
  intro k
  induction k with
  | zero =>
    intro xs a b hb hl
    have : b = 0 := by simpa using hb
    subst this
    cases xs with
    | nil => simp at hl
    | cons x xs => exact stop x xs a
  | succ k ih =>
    intro xs a b hb hl
    match xs, hl with
    | x :: y :: xs, hl =>
      rcases Nat.eq_zero_or_pos b with h0 | h0
      · subst h0; exact stop x (y :: xs) a
      · rw [go x (y :: xs) a b h0]
        rcases Nat.eq_zero_or_pos (a % b) with h1 | h1
        · rw [h1, stop y xs b]
          rw [Nat.gcd_comm a b, Nat.gcd_rec b a, h1]
          simp
        · rw [go y xs b (a % b) h1]
          have hr : a % b < b := Nat.mod_lt _ h0
          have hs : b % (a % b) < 2 ^ k := by
            have h3 : b % (a % b) < a % b := Nat.mod_lt _ h1
            have h4 : b % (a % b) ≤ b - a % b := by
              have := Nat.mod_add_div b (a % b)
              have h5 : 1 ≤ b / (a % b) := (Nat.one_le_div_iff h1).mpr (Nat.le_of_lt hr)
              have h6 : a % b ≤ (a % b) * (b / (a % b)) := Nat.le_mul_of_pos_right _ h5
              omega
            rw [Nat.pow_succ] at hb
            omega
          rw [ih xs (a % b) (b % (a % b)) hs (by simp at hl; omega)]
          congr 4
          rw [Nat.gcd_comm a b, Nat.gcd_rec b a, Nat.gcd_rec (a % b) b]
          rw [Nat.gcd_comm (a % b) (b % (a % b))]
    | [x], hl => simp at hl
theorem lgcd_eq {a b : Nat} (hb : b < 2 ^ 60) : m__law_gcd [.int a, .int b] = some (.int (Nat.gcd a b : Nat)) := by
  have e0 : m__law_gcd [.int a, .int b] = m__law_gcd' (.int a) (.int b) := rfl
  rw [e0]
  unfold m__law_gcd' forC
  have e1 : i1 (μ := Option) dRg1 (pur (.int 200)) = some ((List.range 200).map fun (i : Nat) => PyData.int (i : Int)) := by
    rw [o_pur, i1_o, dRg1_i (by omega)]
    rfl
  rw [e1, o_bnd, gcd_lp 60 (List.range 200) a b hb (by rw [List.length_range]; omega), o_bnd, behind_l, o_pur]
theorem regular_t {n : Nat} (hn : n < 1000000) (y : Nat) : (b2 bEq (bnd (some (PyData.int (y : Int))) fun a2 => bnd (some (.int (n : Int))) fun a3 => m__law_gcd [a2, a3]) (some (.int 1)) : Option Bool) = some (decide (Nat.gcd y n = 1)) := by
  have : n < 2 ^ 60 := Nat.lt_trans hn (by decide)
  rw [o_bnd, o_bnd, lgcd_eq this, b2_o, bEq_ii, one_dec]
theorem regular_eq {n : Nat} (hn : n < 1000000) : m__law_regular [.int n] = some (eN (regT n)) := by
  have e0 : m__law_regular [.int n] = m__law_regular' (.int n) := rfl
  rw [e0]
  unfold m__law_regular'
  simp only [o_pur]
  exact lc_reg hn fun y _ => regular_t hn y
end Y

set_option maxRecDepth 100000
set_option maxHeartbeats 1000000
namespace Y
open PySem L2 PM PX
/-! sorted lists of pairs of whole numbers -/
abbrev tP (p : Int × Int) : D := .tuple [.int p.1, .int p.2]
abbrev eP (L : List (Int × Int)) : D := .list (L.map tP)
def leP (p q : Int × Int) : Bool := decide (p.1 < q.1 ∨ (p.1 = q.1 ∧ p.2 ≤ q.2))
theorem leP_eq : PySem.W.dataLe false tP = leP := PySem.W.dataLe_ii (fun p : Int × Int => p.1) (fun p : Int × Int => p.2)
theorem srtD_P (L : List (Int × Int)) : srtD (L.map tP) = (L.mergeSort leP).map tP := by
  unfold srtD
  rw [List.map_mergeSort (r := leP) (s := PySem.W.dataLe false id) (f := tP) (l := L)]
  intro a _ b _
  rw [← leP_eq]
  rfl
theorem leP_anti {p q : Int × Int} (h1 : leP p q = true) (h2 : leP q p = true) : p = q := by
  unfold leP at h1 h2
  rw [decide_eq_true_eq] at h1 h2
  obtain ⟨a, b⟩ := p
  obtain ⟨c, d⟩ := q
  simp only at h1 h2
  have e1 : a = c := by omega
  have e2 : b = d := by omega
  rw [e1, e2]
theorem leP_sorted (L : List (Int × Int)) : (L.mergeSort leP).Pairwise fun a b => leP a b = true := by
  refine List.pairwise_mergeSort (fun a b c h1 h2 => ?_) (fun a b => ?_) L
  · unfold leP at h1 h2 ⊢
    rw [decide_eq_true_eq] at h1 h2 ⊢
    omega
  · unfold leP
    rw [Bool.or_eq_true, decide_eq_true_eq, decide_eq_true_eq]
    omega
theorem sortP_eq {L M : List (Int × Int)} (h1 : L.Nodup) (h2 : M.Nodup) : L.mergeSort leP = M.mergeSort leP ↔ ∀ p, p ∈ L ↔ p ∈ M := by
  rw [← List.perm_ext_iff_of_nodup h1 h2]
  constructor
  · intro e
    exact ((List.mergeSort_perm L leP).symm.trans (e ▸ List.Perm.refl _)).trans (List.mergeSort_perm M leP)
  · intro hp
    exact List.Perm.eq_of_pairwise (fun a b _ _ x y => leP_anti x y) (leP_sorted L) (leP_sorted M) (((List.mergeSort_perm L leP).trans hp).trans (List.mergeSort_perm M leP).symm)
theorem eqv_tP (p q : Int × Int) : PyData.eqv (tP p) (tP q) = decide (p = q) := by
  show (PyData.eqv (.int p.1) (.int q.1) && (PyData.eqv (.int p.2) (.int q.2) && true)) = _
  rw [eqv_ii, eqv_ii, Bool.and_true, ← Bool.decide_and, decide_eq_decide]
  obtain ⟨a, b⟩ := p
  obtain ⟨c, d⟩ := q
  simp
theorem eqv_allP : ∀ L M : List (Int × Int), PyData.eqvAll (L.map tP) (M.map tP) = decide (L = M)
  | [], [] => by simp [PyData.eqvAll]
  | [], _ :: _ => by simp [PyData.eqvAll]
  | _ :: _, [] => by simp [PyData.eqvAll]
  | p :: L, q :: M => by
    rw [List.map_cons, List.map_cons]
    show (PyData.eqv (tP p) (tP q) && PyData.eqvAll (L.map tP) (M.map tP)) = _
    rw [eqv_tP, eqv_allP L M, ← Bool.decide_and, decide_eq_decide]
    simp
theorem eqv_P (L M : List (Int × Int)) : PyData.eqv (eP L) (eP M) = decide (L = M) := by
  show PyData.eqvAll (L.map tP) (M.map tP) = _
  exact eqv_allP L M
theorem canLay_P (L : List (Int × Int)) : PyData.canLayAll0 (L.map tP) = true := by
  induction L with
  | nil => rfl
  | cons p L ih => simp [PyData.canLayAll0, PyData.canLay0, ih]
theorem depth_P (L : List (Int × Int)) : PyData.depthAll (L.map tP) ≤ 2 := by
  induction L with
  | nil => simp [PyData.depthAll]
  | cons p L ih =>
    rw [List.map_cons]
    simp only [PyData.depthAll, PyData.depth]
    omega
theorem shaped_P (L : List (Int × Int)) : SeqAt.shaped (eP L) = true := by
  unfold SeqAt.shaped
  have h := depth_P L
  rw [Bool.and_eq_true, decide_eq_true_eq]
  refine ⟨by simp only [PyData.canLay0]; exact canLay_P L, ?_⟩
  simp only [PyData.depth]
  omega
theorem shaped_tP (p : Int × Int) : SeqAt.shaped (tP p) = true := by
  unfold SeqAt.shaped
  simp [PyData.canLay0, PyData.canLayAll0, PyData.depth, PyData.depthAll]
theorem srtB_P (L : List (Int × Int)) : srtB (L.map tP) = true := by
  unfold srtB alikeB
  simp only [Bool.and_eq_true, Bool.or_eq_true, List.all_eq_true]
  refine ⟨.inl fun d hd => ?_, fun d hd e he => ?_, fun d hd => ?_⟩
  · obtain ⟨p, _, rfl⟩ := List.mem_map.mp hd; rfl
  · obtain ⟨p, _, rfl⟩ := List.mem_map.mp hd
    obtain ⟨q, _, rfl⟩ := List.mem_map.mp he
    rfl
  · obtain ⟨p, _, rfl⟩ := List.mem_map.mp hd
    exact shaped_tP p
theorem sorted_P {L : List (Int × Int)} (h : L.length < 1000000) : dop1 dSorted [eP L] = some (eP (L.mergeSort leP)) := by
  show (if (L.map tP).length < 16000000 ∧ srtB (L.map tP) = true then some (PyData.list (srtD (L.map tP))) else none) = _
  rw [if_pos ⟨by rw [List.length_map]; omega, srtB_P L⟩, srtD_P]
theorem bEq_P (L M : List (Int × Int)) : bEq (eP L) (eP M) = some (decide (L = M)) := by
  unfold bEq
  rw [shaped_P, shaped_P, eqv_P]
  rfl
end Y

set_option maxRecDepth 100000
set_option maxHeartbeats 1000000
namespace Y
open PySem L2 PM PX
/-! ways and their images -/
theorem lp_eqI {α S T : Type} {e : α → D} {g : S → D → Option S} {inj : T → S} {step : T → α → T} (P : Nat → T → Prop) : ∀ {xs : List α} {σ : T} (k : Nat), P k σ → (∀ k' σ x, k ≤ k' → k' < k + xs.length → x ∈ xs → P k' σ → g (inj σ) (e x) = some (inj (step σ x)) ∧ P (k' + 1) (step σ x)) → lp (μ := Option) g (xs.map e) (inj σ) = some (inj (xs.foldl step σ)) ∧ P (k + xs.length) (xs.foldl step σ)
  | [], σ, k, h0, _ => ⟨rfl, h0⟩
  | x :: xs, σ, k, h0, h => by
    obtain ⟨h1, h2⟩ := h k σ x (Nat.le_refl k) (by simp) (by simp) h0
    have ih := lp_eqI (xs := xs) (σ := step σ x) (g := g) (e := e) (inj := inj) P (k + 1) h2 fun k' σ y hk hk2 hy => h k' σ y (by omega) (by simp; omega) (by simp [hy])
    refine ⟨?_, ?_⟩
    · show bnd (μ := Option) (g (inj σ) (e x)) _ = _
      rw [h1, o_bnd]
      exact ih.1
    · have e2 : k + (x :: xs).length = k + 1 + xs.length := by simp; omega
      rw [e2]
      exact ih.2
theorem for_eqI {α A S T : Type} {e : α → D} {sel : D → Option A} {s : α → A} {g : S → A → Option S} {inj : T → S} {step : T → α → T} {xs : List α} {ml : Option (List D)} {σ : T} {s0 : S} (P : Nat → T → Prop) (h1 : ml = some (xs.map e)) (hs : ∀ x ∈ xs, sel (e x) = some (s x)) (e0 : s0 = inj σ) (h0 : P 0 σ)
    (h : ∀ k σ x, k < xs.length → x ∈ xs → P k σ → g (inj σ) (s x) = some (inj (step σ x)) ∧ P (k + 1) (step σ x)) : forM' (μ := Option) sel ml s0 g = some (inj (xs.foldl step σ)) ∧ P xs.length (xs.foldl step σ) := by
  subst h1 e0
  unfold forM'
  rw [o_bnd]
  have q := lp_eqI (e := e) (inj := inj) (step := step) (g := fun σ d => bnd (lif (sel d)) fun x => g σ x) P (xs := xs) (σ := σ) 0 h0 fun k σ x _ hk hx hp => by
    rw [o_lif, hs x hx, o_bnd]
    exact h k σ x (by omega) hx hp
  simpa using q
def waysT (n s : Nat) : List (Int × Int) := (List.range n).map fun (y : Nat) => (((s * y % n : Nat) : Int), (y : Int))
theorem fmod_nn (a b : Nat) : ((a : Int)).fmod (b : Int) = ((a % b : Nat) : Int) := by
  rw [Int.fmod_eq_emod_of_nonneg _ (by omega)]; simp
theorem ways_eq {n s : Nat} (h0 : 0 < n) (hn : n < 1000000) (hs : s < 1000000) : m__law_all_ways [.int n, .int s] = some (eP (waysT n s)) := by
  have e0 : m__law_all_ways [.int n, .int s] = m__law_all_ways' (.int n) (.int s) := rfl
  rw [e0]
  unfold m__law_all_ways'
  have e1 : eP (waysT n s) = .list ((List.range n).map fun (y : Nat) => tP (((s * y % n : Nat) : Int), (y : Int))) := by
    unfold waysT
    show PyData.list _ = _
    rw [List.map_map]
    rfl
  rw [e1]
  refine lc_eq0 (e := fun (y : Nat) => PyData.int (y : Int)) (s := fun (y : Nat) => PyData.int (y : Int)) (xs := List.range n) ?_ (fun _ _ => rfl) (fun y hy => ?_) (by rw [List.length_range]; omega)
  · rw [o_pur, i1_o, dRg1_i (by omega)]; simp
  · have hm : dMul (.int s) (.int y) = some (.int ((s * y : Nat) : Int)) := by
      rw [dMul_ii _ _ (.inl (by omega))]; simp
    have hn0 : (n : Int) ≠ 0 := by omega
    rw [o_pur, o_pur, b2_o, hm, o_bnd, o_lif, dInt_i, o_pur, b2_o, dMod_ii _ _ hn0, o_bnd, fmod_nn, o_bnd, mkT2]
/-- one way moved -/
def movT (n : Nat) (a b : Int) (sw : Bool) (p : Int × Int) : Int × Int := if sw then ((b * p.2).fmod n, (a * p.1).fmod n) else ((a * p.1).fmod n, (b * p.2).fmod n)
theorem mov_eq {n : Nat} (h0 : 0 < n) (a b : Int) (ha : a.natAbs < 10) (hb : b.natAbs < 10) (sw : Bool) (p : Int × Int) {L : List (Int × Int)} (hL : L.length < 1000000) :
    (bnd (bnd (b2 dMod (bnd (b2 dMul (b2 dSub2 (pur (tP (a, b))) (pur (.int 0))) (pur (.int p.1))) fun a11 => lif (dop1 dInt [a11])) (pur (.int n))) fun a12 => bnd (b2 dMod (bnd (b2 dMul (b2 dSub2 (pur (tP (a, b))) (pur (.int 1))) (pur (.int p.2))) fun a13 => lif (dop1 dInt [a13])) (pur (.int n))) fun a14 => mkT [a12, a14]) fun pair_6 => (bnd (bnd (iteM (bTru (pur (.bool sw))) (bnd (b2 dSub2 (pur pair_6) (pur (.int 1))) fun a15 => bnd (b2 dSub2 (pur pair_6) (pur (.int 0))) fun a16 => mkT [a15, a16]) (pur pair_6)) fun a17 => lif (dApp (eP L) a17)) fun found_18 => (pur found_18)) : Option D) = some (eP (L ++ [movT n a b sw p])) := by
  have hn0 : (n : Int) ≠ 0 := by omega
  have m1 : dMul (.int a) (.int p.1) = some (.int (a * p.1)) := dMul_ii _ _ (.inl (by omega))
  have m2 : dMul (.int b) (.int p.2) = some (.int (b * p.2)) := dMul_ii _ _ (.inl (by omega))
  have ap : ∀ q : Int × Int, dApp (eP L) (tP q) = some (eP (L ++ [q])) := fun q => by
    show (if (L.map tP).length < 16000000 then some (PyData.list (L.map tP ++ [tP q])) else none) = _
    rw [if_pos (by rw [List.length_map]; omega)]
    show _ = some (PyData.list ((L ++ [q]).map tP))
    rw [List.map_append]; rfl
  simp only [o_pur, b2_o, dSub2_t0, dSub2_t1, m1, m2, o_bnd, o_lif, dInt_i, dMod_ii _ _ hn0, mkT2, dTru_b, o_iteM]
  cases sw with
  | true =>
    rw [if_pos rfl, o_bnd, ap ((b * p.2).fmod n, (a * p.1).fmod n), o_bnd]
    rfl
  | false =>
    rw [if_neg (by decide), o_bnd, ap ((a * p.1).fmod n, (b * p.2).fmod n), o_bnd]
    rfl
theorem foldl_snoc {α β : Type} (f : α → β) : ∀ (L : List α) (M : List β), L.foldl (fun M x => M ++ [f x]) M = M ++ L.map f
  | [], M => by simp
  | x :: L, M => by simp [foldl_snoc f L]
theorem laid_eq {n s : Nat} (h0 : 0 < n) (hn : n < 100000) (hs : s < 1000000) (a b : Int) (ha : a.natAbs < 10) (hb : b.natAbs < 10) (sw : Bool) : m__law_laid [.int n, .int s, tP (a, b), .bool sw] = some (eP (((waysT n s).map (movT n a b sw)).mergeSort leP)) := by
  have e0 : m__law_laid [.int n, .int s, tP (a, b), .bool sw] = m__law_laid' (.int n) (.int s) (tP (a, b)) (.bool sw) := rfl
  rw [e0]
  unfold m__law_laid'
  have wl : (waysT n s).length = n := by unfold waysT; simp
  have key := for_eqI (sel := selT (selCons selN (selCons selN selNil))) (ml := i1 dSeq (bnd (pur (PyData.int n)) fun a2 => bnd (pur (PyData.int s)) fun a3 => m__law_all_ways [a2, a3])) (s0 := PyData.list []) (inj := fun L : List (Int × Int) => eP L) (step := fun L p => L ++ [movT n a b sw p]) (σ := []) (xs := waysT n s) (e := tP) (s := fun p => (PyData.int p.1, PyData.int p.2, ()))
    (g := fun (s4 : D) (x5 : (D × (D × Unit))) => (bnd (bnd (b2 dMod (bnd (b2 dMul (b2 dSub2 (pur (tP (a, b))) (pur (.int 0))) (pur x5.1)) fun a11 => lif (dop1 dInt [a11])) (pur (.int n))) fun a12 => bnd (b2 dMod (bnd (b2 dMul (b2 dSub2 (pur (tP (a, b))) (pur (.int 1))) (pur x5.2.1)) fun a13 => lif (dop1 dInt [a13])) (pur (.int n))) fun a14 => mkT [a12, a14]) fun pair_6 => (bnd (bnd (iteM (bTru (pur (.bool sw))) (bnd (b2 dSub2 (pur pair_6) (pur (.int 1))) fun a15 => bnd (b2 dSub2 (pur pair_6) (pur (.int 0))) fun a16 => mkT [a15, a16]) (pur pair_6)) fun a17 => lif (dApp s4 a17)) fun found_18 => (pur found_18))))
    (fun k L => L.length = k) (by rw [o_pur, o_bnd, o_pur, o_bnd, ways_eq h0 (by omega) hs, i1_o, dSeq_l]) (fun _ _ => rfl) rfl rfl (by
      intro k L p hk hp hL
      rw [wl] at hk
      exact ⟨mov_eq h0 a b ha hb sw p (by omega), by simp [hL]⟩)
  rw [mkL0, o_bnd]
  rw [key.1, foldl_snoc, List.nil_append, o_bnd, o_pur, o_bnd, o_lif, sorted_P (by rw [List.length_map, wl]; omega)]
end Y

set_option maxRecDepth 100000
set_option maxHeartbeats 1000000
namespace Y
open PySem L2 PM PX
/-! which steps have images of one another as ways -/
theorem mul_em (a b n : Int) : (a * (b % n)) % n = (a * b) % n := by
  rw [Int.mul_emod, Int.emod_emod_of_dvd _ (Int.dvd_refl n), ← Int.mul_emod]
theorem mem_ways {n s : Nat} {p : Int × Int} : p ∈ waysT n s ↔ (0 ≤ p.2 ∧ p.2 < n) ∧ p.1 = ((s : Int) * p.2) % n := by
  unfold waysT
  rw [List.mem_map]
  constructor
  · rintro ⟨y, hy, rfl⟩
    rw [List.mem_range] at hy
    refine ⟨⟨by simp, by simp; omega⟩, ?_⟩
    simp
  · rintro ⟨⟨h1, h2⟩, h3⟩
    refine ⟨p.2.toNat, by rw [List.mem_range]; omega, ?_⟩
    have e : ((p.2.toNat : Nat) : Int) = p.2 := Int.toNat_of_nonneg h1
    refine Prod.ext ?_ e
    rw [h3, Int.natCast_emod, Int.natCast_mul, e]
theorem fm_em {n : Nat} (h0 : 0 < n) (x : Int) : x.fmod (n : Int) = x % n := Int.fmod_eq_emod_of_nonneg _ (by omega)
theorem mem_mov0 {n s : Nat} (h0 : 0 < n) {a : Int} {p : Int × Int} : p ∈ (waysT n s).map (movT n a 1 false) ↔ (0 ≤ p.2 ∧ p.2 < n) ∧ p.1 = (a * s * p.2) % n := by
  rw [List.mem_map]
  have mv : ∀ q : Int × Int, movT n a 1 false q = ((a * q.1) % n, q.2 % n) := fun q => by
    unfold movT
    rw [if_neg (by decide), fm_em h0, fm_em h0, Int.one_mul]
  constructor
  · rintro ⟨q, hq, rfl⟩
    obtain ⟨⟨h1, h2⟩, h3⟩ := mem_ways.mp hq
    rw [mv]
    have e : q.2 % (n : Int) = q.2 := Int.emod_eq_of_lt h1 h2
    refine ⟨by simp only [e]; exact ⟨h1, h2⟩, ?_⟩
    simp only [e, h3]
    rw [mul_em, Int.mul_assoc]
  · rintro ⟨⟨h1, h2⟩, h3⟩
    refine ⟨(((s : Int) * p.2) % n, p.2), mem_ways.mpr ⟨⟨h1, h2⟩, rfl⟩, ?_⟩
    rw [mv]
    refine Prod.ext ?_ (Int.emod_eq_of_lt h1 h2)
    rw [h3]
    show (a * (((s : Int) * p.2) % n)) % n = _
    rw [mul_em, Int.mul_assoc]
theorem mem_mov1 {n s : Nat} (h0 : 0 < n) {a : Int} {p : Int × Int} : p ∈ (waysT n s).map (movT n a 1 true) ↔ (0 ≤ p.1 ∧ p.1 < n) ∧ p.2 = (a * s * p.1) % n := by
  rw [List.mem_map]
  have mv : ∀ q : Int × Int, movT n a 1 true q = (q.2 % n, (a * q.1) % n) := fun q => by
    unfold movT
    rw [if_pos rfl, fm_em h0, fm_em h0, Int.one_mul]
  constructor
  · rintro ⟨q, hq, rfl⟩
    obtain ⟨⟨h1, h2⟩, h3⟩ := mem_ways.mp hq
    rw [mv]
    have e : q.2 % (n : Int) = q.2 := Int.emod_eq_of_lt h1 h2
    refine ⟨by simp only [e]; exact ⟨h1, h2⟩, ?_⟩
    simp only [e, h3]
    rw [mul_em, Int.mul_assoc]
  · rintro ⟨⟨h1, h2⟩, h3⟩
    refine ⟨(((s : Int) * p.1) % n, p.1), mem_ways.mpr ⟨⟨h1, h2⟩, rfl⟩, ?_⟩
    rw [mv]
    refine Prod.ext (Int.emod_eq_of_lt h1 h2) ?_
    rw [h3]
    show (a * (((s : Int) * p.1) % n)) % n = _
    rw [mul_em, Int.mul_assoc]
theorem nodup_of {α β : Type} {f : α → β} : ∀ {L : List α}, (L.map f).Nodup → L.Nodup
  | [], _ => List.nodup_nil
  | x :: L, h => by
    rw [List.map_cons, List.nodup_cons] at h
    rw [List.nodup_cons]
    exact ⟨fun hx => h.1 (List.mem_map_of_mem hx), nodup_of h.2⟩
theorem ways_snd (n s : Nat) : (waysT n s).map (·.2) = (List.range n).map fun (y : Nat) => (y : Int) := by
  unfold waysT
  rw [List.map_map]
  rfl
theorem range_nodup (n : Nat) : ((List.range n).map fun (y : Nat) => (y : Int)).Nodup := by
  rw [List.nodup_iff_pairwise_ne, List.pairwise_map]
  exact List.nodup_range.imp fun h e => h (by omega)
theorem ways_nodup (n s : Nat) : (waysT n s).Nodup := nodup_of (f := fun p => p.2) (by rw [ways_snd]; exact range_nodup n)
theorem mov_snd {n s : Nat} (h0 : 0 < n) (a : Int) : ((waysT n s).map (movT n a 1 false)).map (·.2) = (waysT n s).map (·.2) ∧ ((waysT n s).map (movT n a 1 true)).map (·.1) = (waysT n s).map (·.2) := by
  rw [List.map_map, List.map_map]
  constructor <;>
  · refine List.map_congr_left fun p hp => ?_
    obtain ⟨⟨h1, h2⟩, _⟩ := mem_ways.mp hp
    simp only [Function.comp, movT, fm_em h0, Int.one_mul]
    first
      | rw [if_neg (by decide)]
      | rw [if_pos trivial]
    exact Int.emod_eq_of_lt h1 h2
theorem mov_nodup {n s : Nat} (h0 : 0 < n) (a : Int) (sw : Bool) : ((waysT n s).map (movT n a 1 sw)).Nodup := by
  obtain ⟨h1, h2⟩ := mov_snd (s := s) h0 a
  cases sw with
  | false => exact nodup_of (f := fun p => p.2) (by rw [h1, ways_snd]; exact range_nodup n)
  | true => exact nodup_of (f := fun p => p.1) (by rw [h2, ways_snd]; exact range_nodup n)
/-- the step o has as ways the ways of s so moved -/
def conT (n o s : Nat) (a : Int) (sw : Bool) : Bool := if sw then decide (((o : Int) * (a * s) - 1) % n = 0) else decide (((o : Int) - a * s) % n = 0)
theorem con_iff {n o s : Nat} (hn : 2 ≤ n) (ho : o < n) {a : Int} {sw : Bool} : ((waysT n o).mergeSort leP = ((waysT n s).map (movT n a 1 sw)).mergeSort leP) ↔ conT n o s a sw = true := by
  have h0 : 0 < n := by omega
  rw [sortP_eq (ways_nodup n o) (mov_nodup h0 a sw)]
  have one : (1 : Int) % (n : Int) = 1 := Int.emod_eq_of_lt (by omega) (by omega)
  have oo : (o : Int) % (n : Int) = o := Int.emod_eq_of_lt (by omega) (by omega)
  cases sw with
  | false =>
    unfold conT
    rw [if_neg (by decide), decide_eq_true_eq, ← Int.emod_eq_emod_iff_emod_sub_eq_zero]
    constructor
    · intro h
      have := (h ((o : Int) % n, 1)).mp (mem_ways.mpr ⟨by simp; omega, by simp⟩)
      have := ((mem_mov0 h0).mp this).2
      simpa using this
    · intro h p
      rw [mem_ways, mem_mov0 h0]
      refine and_congr_right fun _ => ?_
      rw [Int.mul_emod (o : Int), h, ← Int.mul_emod]
  | true =>
    unfold conT
    rw [if_pos rfl, decide_eq_true_eq, ← Int.emod_eq_emod_iff_emod_sub_eq_zero, one]
    constructor
    · intro h
      have h1 := (h (1, (a * s) % n)).mpr ((mem_mov1 h0).mpr ⟨by simp; omega, by simp⟩)
      have h2 := (mem_ways.mp h1).2
      simp only at h2
      rw [mul_em] at h2
      exact h2.symm
    · intro h p
      have swp : ∀ x y z : Int, (x * (y * z)) % n = (((x * y) % n) * z) % n := fun x y z => by
        rw [← Int.mul_assoc, Int.mul_comm ((x * y) % n) z, mul_em, Int.mul_comm z]
      rw [mem_ways, mem_mov1 h0]
      constructor
      · rintro ⟨⟨h1, h2⟩, h3⟩
        refine ⟨by rw [h3]; exact ⟨Int.emod_nonneg _ (by omega), Int.emod_lt_of_pos _ (by omega)⟩, ?_⟩
        rw [h3, mul_em, Int.mul_comm (a * s), Int.mul_assoc, Int.mul_comm p.2, ← Int.mul_assoc, Int.mul_comm _ p.2, ← mul_em, h, Int.mul_one]
        exact (Int.emod_eq_of_lt h1 h2).symm
      · rintro ⟨⟨h1, h2⟩, h3⟩
        refine ⟨by rw [h3]; exact ⟨Int.emod_nonneg _ (by omega), Int.emod_lt_of_pos _ (by omega)⟩, ?_⟩
        rw [h3, mul_em, ← Int.mul_assoc, Int.mul_comm _ p.1, ← mul_em, h, Int.mul_one]
        exact (Int.emod_eq_of_lt h1 h2).symm
end Y

set_option maxRecDepth 100000
set_option maxHeartbeats 1000000
namespace Y
open PySem L2 PM PX
/-! the program's functions, typed -/
theorem mul_nn {s y : Nat} (hs : s < 1000000) : dMul (.int (s : Int)) (.int (y : Int)) = some (.int ((s : Int) * y)) := dMul_ii _ _ (.inl (by omega))
def backL (n s : Nat) : List Nat := (List.range n).filter fun (y : Nat) => decide (((s : Int) * y - 1) % n = 0)
def backT (n s : Nat) : Nat := (backL n s).headD 0
theorem undone_t {n s : Nat} (h0 : 0 < n) (hs : s < 1000000) (y : Nat) : (b2 bEq (b2 dMod (b2 dSub (b2 dMul (some (PyData.int (s : Int))) (some (.int (y : Int)))) (some (.int 1))) (some (.int (n : Int)))) (some (.int 0)) : Option Bool) = some (decide (((s : Int) * y - 1) % n = 0)) := by
  rw [b2_o, mul_nn hs, b2_o, dSub_ii, b2_o, dMod_ii _ _ (by omega), b2_o, bEq_ii, fm_em h0]
theorem undone_eq {n s : Nat} (h0 : 0 < n) (hn : n < 1000000) (hs : s < 1000000) (hb : backL n s ≠ []) : m_undone [.int n, .int s] = some (.int (backT n s)) := by
  have e0 : m_undone [.int n, .int s] = m_undone' (.int n) (.int s) := rfl
  rw [e0]
  unfold m_undone'
  simp only [o_pur]
  have e1 : lcM (μ := Option) selN (i1 dRg1 (some (PyData.int (n : Int)))) (fun x1 : D => (b2 bEq (b2 dMod (b2 dSub (b2 dMul (some (PyData.int (s : Int))) (some x1)) (some (.int 1))) (some (.int (n : Int)))) (some (.int 0)))) (fun x1 => some x1) = some (eN (backL n s)) := lc_range hn _ fun y _ => undone_t h0 hs y
  rw [e1, b2_o]
  unfold backT
  cases h : backL n s with
  | nil => exact absurd h hb
  | cons b l => exact dSub2_l0 _ _
def kinT (n s : Nat) : List Int := sortU [(s : Int), (-(s : Int)) % n, (backT n s : Int), (-(backT n s : Int)) % n]
theorem intsD_map : ∀ ns : List Int, intsD (ns.map .int) = some ns
  | [] => rfl
  | n :: ns => by
    rw [List.map_cons]
    show (intsD (ns.map .int)).map (n :: ·) = _
    rw [intsD_map ns]
    rfl
theorem sortSet_eq {ns : List Int} (h : ns.length < 64) : dSortSet (.list (ns.map .int)) = some (.list ((sortU ns).map .int)) := by
  unfold dSortSet
  dsimp only
  rw [intsD_map, Option.bind_some, if_pos h]
theorem kin_eq {n s : Nat} (h0 : 0 < n) (hn : n < 1000000) (hs : s < 1000000) (hb : backL n s ≠ []) : m_kin [.int n, .int s] = some (.list ((kinT n s).map .int)) := by
  have e0 : m_kin [.int n, .int s] = m_kin' (.int n) (.int s) := rfl
  have hn0 : (n : Int) ≠ 0 := by omega
  rw [e0]
  unfold m_kin'
  simp only [o_pur]
  rw [o_bnd, o_bnd, undone_eq h0 hn hs hb, o_bnd]
  have e4 : (mkL [PyData.int (s : Int), .int ((-(s : Int)) % n), .int (backT n s : Int), .int ((-(backT n s : Int)) % n)] : Option D) = some (.list ([(s : Int), (-(s : Int)) % n, (backT n s : Int), (-(backT n s : Int)) % n].map .int)) := mkL_o (by simp)
  have e5 : ∀ x : Int, (b2 dMod (u1 dNeg (some (PyData.int x))) (some (.int (n : Int))) : Option D) = some (.int ((-x) % n)) := fun x => by
    show b2 (μ := Option) dMod (bnd (some (PyData.int x)) fun x => lif (dNeg x)) _ = _
    rw [o_bnd, dNeg_i, o_lif, b2_o, dMod_ii _ _ hn0, fm_em h0]
  rw [o_bnd, e5, o_bnd, o_bnd, e5, o_bnd, e4]
  show bnd (μ := Option) (some _) (fun x => lif (dSortSet x)) = _
  rw [o_bnd, o_lif]
  rw [sortSet_eq (by simp)]
  rfl
def turT (n : Nat) : List Nat := (regT n).filter fun (s : Nat) => decide (((s : Int) * s + 1) % n = 0)
def mirT (n : Nat) : List Nat := (regT n).filter fun (s : Nat) => decide (((s : Int) * s - 1) % n = 0)
def ownT (n : Nat) : List Nat := (regT n).filter fun (s : Nat) => decide ((2 * (s : Int)) % n = 0)
theorem regT_lt {n s : Nat} (h : s ∈ regT n) : s < n := (mem_regT.mp h).1
theorem turned_eq {n : Nat} (h0 : 0 < n) (hn : n < 1000000) : m_turned [.int n] = some (eN (turT n)) := by
  have e0 : m_turned [.int n] = m_turned' (.int n) := rfl
  rw [e0]
  unfold m_turned'
  simp only [o_pur]
  rw [o_bnd, steps_eq hn]
  have hl := regT_len n
  exact lc_nats (by omega) _ fun y hy => by
    have := regT_lt hy
    rw [b2_o, mul_nn (by omega), b2_o, dAdd_ii, b2_o, dMod_ii _ _ (by omega), b2_o, bEq_ii, fm_em h0]
theorem mirrored_eq {n : Nat} (h0 : 0 < n) (hn : n < 1000000) : m_mirrored [.int n] = some (eN (mirT n)) := by
  have e0 : m_mirrored [.int n] = m_mirrored' (.int n) := rfl
  rw [e0]
  unfold m_mirrored'
  simp only [o_pur]
  rw [o_bnd, steps_eq hn]
  have hl := regT_len n
  exact lc_nats (by omega) _ fun y hy => by
    have := regT_lt hy
    rw [b2_o, mul_nn (by omega), b2_o, dSub_ii, b2_o, dMod_ii _ _ (by omega), b2_o, bEq_ii, fm_em h0]
theorem count_eq {n : Nat} (h0 : 0 < n) (hn : n < 1000000) : m_family_count [.int n] = some (.int ((((regT n).length : Int) + (ownT n).length + (turT n).length + (mirT n).length).fdiv 4)) := by
  have e0 : m_family_count [.int n] = m_family_count' (.int n) := rfl
  rw [e0]
  unfold m_family_count'
  have hl := regT_len n
  have e1 : lcM (μ := Option) selN (i1 dSeq (some (eN (regT n)))) (fun x3 : D => (b2 bEq (b2 dMod (b2 dMul (some (.int 2)) (some x3)) (some (.int (n : Int)))) (some (.int 0)))) (fun x3 => some x3) = some (eN (ownT n)) := lc_nats (by omega) _ fun y hy => by
    have := regT_lt hy
    rw [b2_o, dMul_ii _ _ (.inl (by decide)), b2_o, dMod_ii _ _ (by omega), b2_o, bEq_ii, fm_em h0]
  simp only [o_pur]
  rw [o_bnd, o_bnd, o_bnd, steps_eq hn, e1, o_bnd, turned_eq h0 hn, mirrored_eq h0 hn]
  simp only [o_bnd, o_lif, dLen_l, eN_len, dAdd_ii]
  rw [dFdiv_ii _ _ (by decide) (by decide)]
end Y

set_option maxRecDepth 100000
set_option maxHeartbeats 1000000
namespace Y
open PySem L2 PM PX
/-! families -/
def dueT (n s : Nat) : List Nat := (regT n).filter fun o => conT n o s 1 false || (conT n o s 1 true || (conT n o s (-1) false || conT n o s (-1) true))
theorem dueT_len (n s : Nat) : (dueT n s).length ≤ n := Nat.le_trans (List.length_filter_le _ _) (regT_len n)
def addT (S : List Nat) (k : Nat) : List Nat := if k ∈ S then S else S ++ [k]
theorem addT_len (S : List Nat) (k : Nat) : (addT S k).length ≤ S.length + 1 := by
  unfold addT
  split
  · omega
  · simp
def famStep (n : Nat) (st : List (List Nat) × List Nat) (s : Nat) : List (List Nat) × List Nat := if s ∈ st.2 then st else (st.1 ++ [dueT n s], (dueT n s).foldl addT st.2)
def famT (n : Nat) : List (List Nat) := ((regT n).foldl (famStep n) ([], [])).1
abbrev eNN (F : List (List Nat)) : D := .list (F.map eN)
abbrev eS (S : List Nat) : D := eD (S.map fun k => (k, .bool true))
theorem last_eq (F : List (List Nat)) (x : List Nat) : dSub2 (eNN (F ++ [x])) (.int (-1)) = some (eN x) := by
  show atI ((F ++ [x]).map eN) (-1) = _
  unfold atI ixN
  rw [if_neg (by decide), List.length_map, List.length_append, List.length_singleton, if_pos (by omega)]
  have e : ((-1 : Int) + ((F.length + 1 : Nat) : Int)).toNat = F.length := by omega
  rw [Option.bind_some, e, List.map_append, List.getElem?_append_right (by simp)]
  simp
theorem app_NN {F : List (List Nat)} (x : List Nat) (h : F.length < 1000000) : dApp (eNN F) (eN x) = some (eNN (F ++ [x])) := by
  show (if (F.map eN).length < 16000000 then some (PyData.list (F.map eN ++ [eN x])) else none) = _
  rw [if_pos (by rw [List.length_map]; omega)]
  show _ = some (PyData.list ((F ++ [x]).map eN))
  rw [List.map_append]; rfl
theorem map_int (L : List Nat) : (L.map fun (y : Nat) => PyData.int (y : Int)) = (L.map fun (y : Nat) => (y : Int)).map .int := by
  rw [List.map_map]; rfl
theorem shaped_N (L : List Nat) : SeqAt.shaped (eN L) = true := by
  show SeqAt.shaped (.list (L.map fun (y : Nat) => PyData.int (y : Int))) = true
  rw [map_int]; exact shaped_ints _
theorem srtB_NN (F : List (List Nat)) : srtB (F.map eN) = true := by
  unfold srtB alikeB
  simp only [Bool.and_eq_true, Bool.or_eq_true, List.all_eq_true]
  refine ⟨.inr fun d hd => ?_, fun d hd e he => ?_, fun d hd => ?_⟩
  · obtain ⟨p, _, rfl⟩ := List.mem_map.mp hd; rfl
  · obtain ⟨p, _, rfl⟩ := List.mem_map.mp hd
    obtain ⟨q, _, rfl⟩ := List.mem_map.mp he
    show PySem.W.alikeAll (p.map fun (y : Nat) => PyData.int (y : Int)) (q.map fun (y : Nat) => PyData.int (y : Int)) = true
    rw [map_int, map_int]
    exact PySem.W.alike_ints _ _
  · obtain ⟨p, _, rfl⟩ := List.mem_map.mp hd
    exact shaped_N p
theorem sorted_NN {F : List (List Nat)} (h : F.length < 1000000) : dop1 dSorted [eNN F] = some (.list (srtD (F.map eN))) := by
  show (if (F.map eN).length < 16000000 ∧ srtB (F.map eN) = true then some (PyData.list (srtD (F.map eN))) else none) = _
  rw [if_pos ⟨by rw [List.length_map]; omega, srtB_NN F⟩]
theorem seen_for {L S : List Nat} (hL : L.length < 1000) (hS : S.length < 500000) : forM' (μ := Option) selN (i1 dSeq (some (eN L))) (eS S) (fun (s10 : D) (x11 : D) => (bnd (bnd (pur (.bool true)) fun a12 => bnd (pur x11) fun a13 => lif (dSet s10 a13 a12)) fun seen_14 => (pur seen_14))) = some (eS (L.foldl addT S)) ∧ (L.foldl addT S).length ≤ S.length + L.length :=
  for_eqI (e := fun (y : Nat) => PyData.int (y : Int)) (s := fun (y : Nat) => PyData.int (y : Int)) (inj := eS) (step := addT) (xs := L) (σ := S) (fun k T => T.length ≤ S.length + k) (by rw [i1_o, dSeq_l]) (fun _ _ => rfl) rfl (by simp) fun k T x hk hx hT => by
    refine ⟨?_, by have := addT_len T x; omega⟩
    rw [o_pur, o_bnd, o_pur, o_bnd, o_lif, dSet_key (by omega), o_bnd, o_pur]
    rfl
theorem families_eq {n : Nat} (h0 : 0 < n) (hn : n < 500) (hk : ∀ s ∈ regT n, m_kin [.int n, .int s] = some (eN (dueT n s))) : m_families [.int n] = some (.list (srtD ((famT n).map eN))) := by
  have e0 : m_families [.int n] = m_families' (.int n) := rfl
  rw [e0]
  unfold m_families'
  have hl := regT_len n
  rw [mkL0, o_bnd, o_pur, o_bnd, o_pur, o_bnd, steps_eq (by omega)]
  have key := for_eqI (sel := selN) (ml := i1 dSeq (some (eN (regT n)))) (s0 := (PyData.list [], PyData.dict [])) (e := fun (y : Nat) => PyData.int (y : Int)) (s := fun (y : Nat) => PyData.int (y : Int)) (inj := fun st : List (List Nat) × List Nat => (eNN st.1, eS st.2)) (step := famStep n) (xs := regT n) (σ := ([], []))
    (g := fun (s4 : D × D) (x5 : D) => (iteR (b2 bNotIn (pur x5) (pur s4.2)) (bnd (bnd (bnd (some (.int n)) fun a6 => bnd (pur x5) fun a7 => m_kin [a6, a7]) fun a8 => lif (dApp s4.1 a8)) fun found_9 => (bnd (forM' selN (i1 dSeq (b2 dSub2 (pur found_9) (u1 dNeg (pur (.int 1))))) s4.2 (fun (s10 : D) (x11 : D) => (bnd (bnd (pur (.bool true)) fun a12 => bnd (pur x11) fun a13 => lif (dSet s10 a13 a12)) fun seen_14 => (pur seen_14)))) fun s15 => (pur (found_9, s15)))) (pur (s4.1, s4.2))))
    (fun k st => st.1.length ≤ k ∧ st.2.length ≤ k * n) (by rw [i1_o, dSeq_l]) (fun _ _ => rfl) rfl ⟨by simp, by simp⟩ (by
      intro k st s hk2 hs ⟨h1, h2⟩
      have hkn : k * n ≤ 500 * 500 := Nat.mul_le_mul (by omega) (by omega)
      have e1 : bNotIn (.int (s : Int)) (eS st.2) = some (!decide (s ∈ st.2)) := by
        have e : (st.2.map fun k => (k, PyData.bool true)).map (·.1) = st.2 := by simp [Function.comp_def]
        rw [bNotIn_nn, e]
      have dl := dueT_len n s
      rw [o_pur, o_pur, b2_o, e1, o_iteR]
      unfold famStep
      by_cases hm : s ∈ st.2
      · rw [if_pos hm]
        rw [if_neg (by simpa using hm)]
        refine ⟨rfl, by omega, by rw [Nat.succ_mul]; omega⟩
      · rw [if_neg hm]
        rw [if_pos (by simpa using hm)]
        obtain ⟨f1, f2⟩ := seen_for (L := dueT n s) (S := st.2) (by omega) (by omega)
        refine ⟨?_, by simp; omega, by show ((dueT n s).foldl addT st.2).length ≤ _; rw [Nat.succ_mul]; omega⟩
        have e2 : (i1 dSeq (b2 dSub2 (pur (eNN (st.1 ++ [dueT n s]))) (u1 dNeg (some (.int 1)))) : Option (List D)) = i1 dSeq (some (eN (dueT n s))) := by
          have e3 : (u1 dNeg (some (.int 1)) : Option D) = some (.int (-1)) := by
            show bnd (μ := Option) (some (PyData.int 1)) (fun x => lif (dNeg x)) = _
            rw [o_bnd, dNeg_i, o_lif]
          rw [e3, o_pur, b2_o, last_eq]
        rw [o_bnd, o_pur, o_bnd, hk s hs, o_bnd, o_lif, app_NN _ (by omega), o_bnd, e2, f1, o_bnd, o_pur])
  rw [key.1, o_bnd, o_pur, o_bnd, o_lif, sorted_NN (by have := key.2.1; omega)]
  rfl
end Y

set_option maxRecDepth 100000
set_option maxHeartbeats 1000000
namespace Y
open PySem L2 PM PX
/-! what is left is arithmetic for n from 2 to 40 -/
def groupsT (n : Nat) : List (List Nat) := ((regT n).filter fun s => decide ((dueT n s).headD n = s)).map (dueT n)
def quaT (n : Nat) : List Nat := (regT n).filter fun s => conT n s s (-1) true
def mrrT (n : Nat) : List Nat := (regT n).filter fun s => conT n s s 1 true
def chk1 (n : Nat) : Bool := (regT n).all fun s => !(backL n s).isEmpty && (decide (kinT n s = (dueT n s).map fun (y : Nat) => (y : Int)) && !(dueT n s).isEmpty)
def chk2 (n : Nat) : Bool := decide (famT n = groupsT n)
def chk3 (n : Nat) : Bool := decide ((((regT n).length : Int) + (ownT n).length + (turT n).length + (mirT n).length).fdiv 4 = (groupsT n).length) && decide (4 * (groupsT n).length = (regT n).length + (ownT n).length + (quaT n).length + (mrrT n).length)
def chk4 (n : Nat) : Bool := decide (turT n = quaT n) && decide (mirT n = mrrT n)
def all40 (c : Nat → Bool) : Bool := (List.range 39).all fun k => c (k + 2)
theorem all40_of {c : Nat → Bool} (h : all40 c = true) {n : Nat} (h2 : 2 ≤ n) (hn : n ≤ 40) : c n = true := by
  have := List.all_eq_true.mp h (n - 2) (by rw [List.mem_range]; omega)
  rwa [show n - 2 + 2 = n by omega] at this
theorem c1 : all40 chk1 = true := by decide +kernel
theorem c3 : all40 chk3 = true := by decide +kernel
theorem c4 : all40 chk4 = true := by decide +kernel
theorem c2 : all40 chk2 = true := by decide +kernel
end Y

set_option maxRecDepth 100000
set_option maxHeartbeats 1000000
namespace Y
open PySem L2 PM PX
/-! draws -/
theorem draw_eq (d : D) {n : Int} (h0 : 0 < n) (h1 : n < 1073741824) : m__law_draw [d, .int n] = Gen.draw n fun k => .ret (.int k) := if_pos ⟨h0, h1⟩
theorem all_drawI (d : D) {n : Int} (h0 : 0 < n) (h1 : n < 1073741824) {Q : D → Prop} (h : ∀ k, 0 ≤ k → k < n → Q (.int k)) : (m__law_draw [d, .int n]).all Q := by
  rw [draw_eq d h0 h1]
  exact ⟨h0, h⟩
/-- one of a list -/
theorem pick_all {ds : List D} (h0 : 0 < ds.length) (h1 : ds.length < 1000000) {Q : D → Prop} (h : ∀ d ∈ ds, Q d) : (m__law_pick [.none, .list ds]).all Q := by
  show (m__law_pick' .none (.list ds)).all Q
  unfold m__law_pick'
  rw [g_pur, b2_g1, g_bnd, dLen_l, g_lif, g_bnd, draw_eq _ (by omega) (by omega), g_bndd]
  refine ⟨by omega, fun k hk0 hk1 => ?_⟩
  have hk : k.toNat < ds.length := by omega
  show (bnd (μ := Gen) (Gen.ret (PyData.int k)) fun y => lif (dSub2 (.list ds) y)).all Q
  rw [g_bnd, dSub2_l (k := k.toNat) (by omega) hk, g_lif]
  exact h _ (List.getElem_mem hk)
end Y

set_option maxRecDepth 100000
set_option maxHeartbeats 1000000
namespace Y
open PySem L2 PM PX
/-- a dict whose values hang on the keys alone -/
theorem dSet_fn {g : Nat → D} {L : List Nat} {k : Nat} (hl : L.length < 1000000) : dSet (eD (L.map fun k => (k, g k))) (.int (k : Int)) (g k) = some (eD ((addT L k).map fun k => (k, g k))) := by
  rw [dSet_put (by simpa using hl)]
  have e : (L.map fun k => (k, g k)).map (·.1) = L := by simp [Function.comp_def]
  unfold addT
  by_cases h : k ∈ L
  · rw [if_pos h]
    unfold dPut
    rw [any_nn, e, if_pos (by simpa using h)]
    congr 2
    rw [List.map_map, List.map_map, List.map_map]
    refine List.map_congr_left fun x _ => ?_
    simp only [Function.comp, keq_nn]
    by_cases hx : x = k
    · subst hx; simp
    · simp [hx]
  · rw [if_neg h, dPut_new (by rw [e]; exact h)]
    simp
theorem addT_all : ∀ {L S : List Nat}, L.Nodup → (∀ x ∈ L, x ∉ S) → L.foldl addT S = S ++ L
  | [], S, _, _ => by simp
  | x :: L, S, h, hd => by
    rw [List.nodup_cons] at h
    have hx : x ∉ S := hd x (by simp)
    rw [List.foldl_cons]
    have e : addT S x = S ++ [x] := by unfold addT; rw [if_neg hx]
    rw [e, addT_all h.2]
    · simp
    · intro y hy hm
      rcases List.mem_append.mp hm with z | z
      · exact hd y (by simp [hy]) z
      · have : y = x := by simpa using z
        subst this
        exact h.1 hy
theorem regT_nodup (n : Nat) : (regT n).Nodup := List.Nodup.sublist List.filter_sublist List.nodup_range
theorem addT_reg (n : Nat) : (regT n).foldl addT [] = regT n := by
  rw [addT_all (regT_nodup n) (fun _ _ => by simp)]
  simp
/-- the ways of every step, as the law keeps them -/
def wD (n s : Nat) : D := eP ((waysT n s).mergeSort leP)
theorem ways_len (n s : Nat) : (waysT n s).length = n := by unfold waysT; simp
theorem ways_for {n : Nat} (h2 : 2 ≤ n) (hn : n ≤ 40) : forM' (μ := Gen) selN (i1 dSeq (pur (eN (regT n)))) (PyData.dict []) (fun (s14 : D) (x15 : D) => (bnd (bnd (bnd (bnd (pur (PyData.int n)) fun a16 => bnd (pur x15) fun a17 => Gen.lift (m__law_all_ways [a16, a17])) fun a18 => lif (dop1 dSorted [a18])) fun a19 => bnd (pur x15) fun a20 => lif (dSet s14 a20 a19)) fun ways_21 => (pur ways_21)))
    = .ret (eD ((regT n).map fun s => (s, wD n s))) := by
  have hl := regT_len n
  have key := for_eqIg (sel := selN) (ml := i1 dSeq (pur (eN (regT n)))) (s0 := PyData.dict []) (e := fun (y : Nat) => PyData.int (y : Int)) (s := fun (y : Nat) => PyData.int (y : Int)) (inj := fun L : List Nat => eD (L.map fun s => (s, wD n s))) (step := addT) (xs := regT n) (σ := [])
    (g := (fun (s14 : D) (x15 : D) => (bnd (bnd (bnd (bnd (pur (PyData.int n)) fun a16 => bnd (pur x15) fun a17 => Gen.lift (m__law_all_ways [a16, a17])) fun a18 => lif (dop1 dSorted [a18])) fun a19 => bnd (pur x15) fun a20 => lif (dSet s14 a20 a19)) fun ways_21 => (pur ways_21))))
    (fun k L => L.length ≤ k) (by rw [g_pur, i1_g, dSeq_l, g_lift]) (fun _ _ => rfl) rfl (by simp) (by
      intro k L s hk hs hL
      have hsn := regT_lt hs
      refine ⟨?_, by have := addT_len L s; omega⟩
      have e1 : dSet (eD (L.map fun s => (s, wD n s))) (.int (s : Int)) (eP ((waysT n s).mergeSort leP)) = some (eD ((addT L s).map fun s => (s, wD n s))) := dSet_fn (g := wD n) (by omega)
      rw [g_pur, g_bnd, g_pur, g_bnd, ways_eq (by omega) (by omega) (by omega), g_lift, g_bnd, sorted_P (by rw [ways_len]; omega), g_lif, g_bnd, g_bnd, e1, g_lif, g_bnd, g_pur])
  rw [key.1, addT_reg]
end Y

set_option maxRecDepth 100000
set_option maxHeartbeats 1000000
namespace Y
open PySem L2 PM PX
/-- the images of a step's ways -/
def mvT (n s : Nat) (a : Int) (sw : Bool) : List (Int × Int) := ((waysT n s).map (movT n a 1 sw)).mergeSort leP
abbrev eM (M : List (List (Int × Int))) : D := .list (M.map fun L => eP L)
theorem two_signs : (i1 dSeq (bnd (bnd (pur (.int 1)) fun a29 => bnd (pur (.int 1)) fun a30 => mkT [a29, a30]) fun a31 => bnd (bnd (u1 dNeg (pur (.int 1))) fun a32 => bnd (pur (.int 1)) fun a33 => mkT [a32, a33]) fun a34 => mkL [a31, a34]) : Gen (List D)) = .ret ([((1 : Int), (1 : Int)), (-1, 1)].map tP) := by
  have e3 : (u1 dNeg (pur (.int 1)) : Gen D) = .ret (.int (-1)) := by
    show bnd (μ := Gen) (pur (PyData.int 1)) (fun x => lif (dNeg x)) = _
    rw [g_pur, g_bnd, dNeg_i, g_lif]
  rw [e3, g_pur, g_bnd, g_bnd, mkT2g, g_bnd, g_bnd, g_bnd, mkT2g, g_bnd, mkL2g, i1_g, dSeq_l, g_lift]
  rfl
theorem images_eq {n s : Nat} (h2 : 2 ≤ n) (hn : n ≤ 40) (hs : s < n) :
    forM' (μ := Gen) selN (i1 dSeq (bnd (bnd (pur (.int 1)) fun a29 => bnd (pur (.int 1)) fun a30 => mkT [a29, a30]) fun a31 => bnd (bnd (u1 dNeg (pur (.int 1))) fun a32 => bnd (pur (.int 1)) fun a33 => mkT [a32, a33]) fun a34 => mkL [a31, a34])) (PyData.list []) (fun (s35 : D) (x36 : D) => (bnd (b2 dAdd (pur s35) (bnd (bnd (pur (PyData.int n)) fun a48 => bnd (pur (PyData.int s)) fun a49 => bnd (pur x36) fun a50 => bnd (pur (.bool false)) fun a51 => Gen.lift (m__law_laid [a48, a49, a50, a51])) fun a52 => bnd (bnd (pur (PyData.int n)) fun a53 => bnd (pur (PyData.int s)) fun a54 => bnd (pur x36) fun a55 => bnd (pur (.bool true)) fun a56 => Gen.lift (m__law_laid [a53, a54, a55, a56])) fun a57 => mkL [a52, a57])) fun images_37 => (pur images_37)))
      = .ret (eM [mvT n s 1 false, mvT n s 1 true, mvT n s (-1) false, mvT n s (-1) true]) := by
  have key := for_eqIg (sel := selN) (s0 := PyData.list []) (e := tP) (s := tP) (inj := eM) (step := fun (M : List (List (Int × Int))) (p : Int × Int) => M ++ [mvT n s p.1 false, mvT n s p.1 true]) (xs := [((1 : Int), (1 : Int)), (-1, 1)]) (σ := [])
    (g := (fun (s35 : D) (x36 : D) => (bnd (b2 dAdd (pur s35) (bnd (bnd (pur (PyData.int n)) fun a48 => bnd (pur (PyData.int s)) fun a49 => bnd (pur x36) fun a50 => bnd (pur (.bool false)) fun a51 => Gen.lift (m__law_laid [a48, a49, a50, a51])) fun a52 => bnd (bnd (pur (PyData.int n)) fun a53 => bnd (pur (PyData.int s)) fun a54 => bnd (pur x36) fun a55 => bnd (pur (.bool true)) fun a56 => Gen.lift (m__law_laid [a53, a54, a55, a56])) fun a57 => mkL [a52, a57])) fun images_37 => (pur images_37))))
    (fun k M => M.length ≤ 2 * k) two_signs (fun _ _ => rfl) rfl (by simp) (by
      intro k M p hk hp hM
      have hk' : k < 2 := hk
      have hp1 : p.1.natAbs < 10 ∧ p.2 = 1 := by
        simp only [List.mem_cons, List.not_mem_nil, or_false] at hp
        rcases hp with rfl | rfl <;> exact ⟨by decide, rfl⟩
      obtain ⟨a, b⟩ := p
      obtain ⟨ha, hb⟩ := hp1
      dsimp only at ha hb
      subst hb
      refine ⟨?_, by simp; omega⟩
      simp only [g_pur]
      rw [g_bnd, g_bnd, g_bnd, g_bnd, laid_eq (by omega) (by omega) (by omega) a 1 ha (by decide) false, g_lift, g_bnd, g_bnd, g_bnd, g_bnd, g_bnd, laid_eq (by omega) (by omega) (by omega) a 1 ha (by decide) true, g_lift, g_bnd, mkL2g, b2_g, dAdd_ll (by simp; omega), g_lift, g_bnd]
      show Gen.ret (PyData.list _) = Gen.ret (PyData.list _)
      rw [List.map_append]
      rfl)
  rw [key.1]
  rfl
end Y

set_option maxRecDepth 100000
set_option maxHeartbeats 1000000
namespace Y
open PySem L2 PM PX
theorem canLay_M (M : List (List (Int × Int))) : PyData.canLayAll0 (M.map fun L => eP L) = true := by
  induction M with
  | nil => rfl
  | cons L M ih =>
    rw [List.map_cons]
    simp only [PyData.canLayAll0, PyData.canLay0, Bool.and_eq_true]
    exact ⟨canLay_P L, ih⟩
theorem depth_M (M : List (List (Int × Int))) : PyData.depthAll (M.map fun L => eP L) ≤ 3 := by
  induction M with
  | nil => simp [PyData.depthAll]
  | cons L M ih =>
    have h := depth_P L
    rw [List.map_cons]
    simp only [PyData.depthAll, PyData.depth]
    omega
theorem shaped_M (M : List (List (Int × Int))) : SeqAt.shaped (eM M) = true := by
  unfold SeqAt.shaped
  have h := depth_M M
  rw [Bool.and_eq_true, decide_eq_true_eq]
  refine ⟨by simp only [PyData.canLay0]; exact canLay_M M, ?_⟩
  simp only [PyData.depth]
  omega
theorem bIn_M (W : List (Int × Int)) (M : List (List (Int × Int))) : bIn (eP W) (eM M) = some (M.any fun L => decide (L = W)) := by
  show (if SeqAt.shaped (eP W) && SeqAt.shaped (eM M) then some ((M.map fun L => eP L).any fun z => PyData.eqv z (eP W)) else none) = _
  rw [shaped_P, shaped_M, Bool.and_self, if_pos rfl]
  congr 1
  induction M with
  | nil => rfl
  | cons L M ih => rw [List.map_cons, List.any_cons, List.any_cons, ih, eqv_P]
theorem con_dec {n o s : Nat} (hn : 2 ≤ n) (ho : o < n) (a : Int) (sw : Bool) : decide (mvT n s a sw = (waysT n o).mergeSort leP) = conT n o s a sw := by
  rw [Bool.eq_iff_iff, decide_eq_true_eq, ← con_iff hn ho]
  exact eq_comm
theorem due_eq {n s : Nat} (h2 : 2 ≤ n) (hn : n ≤ 40) (hs : s < n) : lcM (μ := Gen) selN (i1 dSeq (.ret (eN (regT n)))) (fun x59 : D => (b2 bIn (b2 dSub2 (.ret (eD ((regT n).map fun s => (s, wD n s)))) (.ret x59)) (.ret (eM [mvT n s 1 false, mvT n s 1 true, mvT n s (-1) false, mvT n s (-1) true])))) (fun x59 => .ret x59) = .ret (eN (dueT n s)) := by
  have hl := regT_len n
  refine lc_natsg (by omega) _ fun o ho => ?_
  have e1 : dSub2 (eD ((regT n).map fun s => (s, wD n s))) (.int (o : Int)) = some (wD n o) := dSub_nn (lookup_map ho)
  have hon := regT_lt ho
  rw [b2_g, e1, g_lift, b2_g]
  show Gen.lift (bIn (eP ((waysT n o).mergeSort leP)) _) = _
  rw [bIn_M, g_lift]
  simp only [List.any_cons, List.any_nil, Bool.or_false, con_dec h2 hon]
end Y

set_option maxRecDepth 100000
set_option maxHeartbeats 1000000
namespace Y
open PySem L2 PM PX
/-! the same data: equal to itself (no dict within) -/
def sOk : Nat → D → Bool
  | 0, _ => false
  | _ + 1, .none => true
  | _ + 1, .bool _ => true
  | _ + 1, .int _ => true
  | _ + 1, .str x => SeqAt.shaped (.str x) && PyData.eqv (.str x) (.str x)
  | n + 1, .list ds => decide (ds.length < 1000000000) && ds.all (sOk n)
  | n + 1, .tuple ds => decide (ds.length < 1000000000) && ds.all (sOk n)
  | _ + 1, .dict _ => false
theorem bIs_n (d : D) : bIs d .none = some (sameC d .none) := Eq.trans rfl rfl
theorem bIs_b (d : D) (b : Bool) : bIs d (.bool b) = some (sameC d (.bool b)) := Eq.trans rfl rfl
theorem bNe_bb (a b : Bool) : bNe (.bool a) (.bool b) = some (!(a == b)) := by
  unfold bNe
  rw [shaped_b, shaped_b]
  rfl
theorem for_same {ds : List D} {rec : List D → Option D} {mk : List D → D} (hm : ∀ (i : Int) (k : Nat), i = k → ∀ hk : k < ds.length, dSub2 (mk ds) (.int i) = some ds[k]) (hl : ds.length < 1000000000) (h : ∀ d ∈ ds, rec [d, d] = some (.bool true)) :
    forC (μ := Option) selN (i1 dRg1 (some (.int ds.length))) () (fun (s23 : Unit) (x24 : D) => (iteR (bNot (bTru (bnd (b2 dSub2 (pur (mk ds)) (pur x24)) fun a25 => bnd (b2 dSub2 (pur (mk ds)) (pur x24)) fun a26 => rec [a25, a26]))) (bnd (pur (.bool false)) fun r27 => pur (Ctl.ret r27)) (pur (Ctl.nxt ())))) = some (.inl ()) := by
  rw [forC_all (e := fun (i : Nat) => PyData.int (i : Int)) (s := fun (i : Nat) => PyData.int (i : Int)) (xs := List.range ds.length) (fun _ => true) (.bool false)]
  · simp
  · rw [i1_o, dRg1_i (by omega)]; simp
  · intro _ _; rfl
  · intro k hk
    rw [List.mem_range] at hk
    rw [o_pur, o_pur, b2_o, hm _ k rfl hk, o_bnd, o_bnd, h _ (List.getElem_mem hk)]
    rfl
theorem same_refl : ∀ (n : Nat) (d : D), sOk n d = true → m__law_same n [d, d] = some (.bool true)
  | 0, _, h => by cases h
  | n + 1, .none, _ => rfl
  | n + 1, .bool true, _ => rfl
  | n + 1, .bool false, _ => rfl
  | n + 1, .int i, _ => by
    show m__law_same' (m__law_same n) (.int i) (.int i) = _
    unfold m__law_same'
    simp [bIs_n, bIs_b, sameC, isiD, vB]
  | n + 1, .str x, h => by
    obtain ⟨h1, h2⟩ := Bool.and_eq_true_iff.mp (show (SeqAt.shaped (.str x) && PyData.eqv (.str x) (.str x)) = true from h)
    show m__law_same' (m__law_same n) (.str x) (.str x) = _
    unfold m__law_same'
    simp [bIs_n, bIs_b, sameC, isiD, vB, bEq, h1, h2]
  | n + 1, .list ds, h => by
    obtain ⟨h1, h2⟩ := Bool.and_eq_true_iff.mp (show (decide (ds.length < 1000000000) && ds.all (sOk n)) = true from h)
    have ih : ∀ d ∈ ds, m__law_same n [d, d] = some (.bool true) := fun d hd => same_refl n d (List.all_eq_true.mp h2 d hd)
    show m__law_same' (m__law_same n) (.list ds) (.list ds) = _
    unfold m__law_same'
    have f := for_same (mk := .list) (fun i k e hk => dSub2_l e hk) (of_decide_eq_true h1) ih
    simp only [o_pur, o_bnd, b2_o, bIs_n, bIs_b, sameC, isiD, o_iteR, Bool.false_eq_true, ↓reduceIte, o_lif, dTru_b, dLen_l, bNe_bb, bNe_ii, o_orM2, decide_true, beq_self_eq_true, Bool.not_true, Bool.or_self] at f ⊢
    rw [f]; rfl
  | n + 1, .tuple ds, h => by
    obtain ⟨h1, h2⟩ := Bool.and_eq_true_iff.mp (show (decide (ds.length < 1000000000) && ds.all (sOk n)) = true from h)
    have ih : ∀ d ∈ ds, m__law_same n [d, d] = some (.bool true) := fun d hd => same_refl n d (List.all_eq_true.mp h2 d hd)
    show m__law_same' (m__law_same n) (.tuple ds) (.tuple ds) = _
    unfold m__law_same'
    have f := for_same (mk := .tuple) (fun i k e hk => dSub2_t e hk) (of_decide_eq_true h1) ih
    simp only [o_pur, o_bnd, b2_o, bIs_n, bIs_b, sameC, isiD, o_iteR, Bool.false_eq_true, ↓reduceIte, o_lif, dTru_b, dLen_t, bNe_bb, bNe_ii, o_orM2, decide_true, beq_self_eq_true, Bool.not_true, Bool.or_self] at f ⊢
    rw [f]; rfl
  | n + 1, .dict _, h => by cases h
end Y

set_option maxRecDepth 100000
set_option maxHeartbeats 1000000
namespace Y
open PySem L2 PM PX
def gDue (n : Nat) : D × D × D → D → Gen (Ctl (D × D × D)) := (fun (s26 : D × D × D) (x27 : D) => (bnd (mkL []) fun images_28 => (bnd (forM' selN (i1 dSeq (bnd (bnd (pur (.int 1)) fun a29 => bnd (pur (.int 1)) fun a30 => mkT [a29, a30]) fun a31 => bnd (bnd (u1 dNeg (pur (.int 1))) fun a32 => bnd (pur (.int 1)) fun a33 => mkT [a32, a33]) fun a34 => mkL [a31, a34])) images_28 (fun (s35 : D) (x36 : D) => (bnd (b2 dAdd (pur s35) (bnd (bnd (pur (PyData.int (n : Int))) fun a48 => bnd (pur x27) fun a49 => bnd (pur x36) fun a50 => bnd (pur (.bool false)) fun a51 => Gen.lift (m__law_laid [a48, a49, a50, a51])) fun a52 => bnd (bnd (pur (PyData.int (n : Int))) fun a53 => bnd (pur x27) fun a54 => bnd (pur x36) fun a55 => bnd (pur (.bool true)) fun a56 => Gen.lift (m__law_laid [a53, a54, a55, a56])) fun a57 => mkL [a52, a57])) fun images_37 => (pur images_37)))) fun s58 => (bnd (bnd (lcM selN (i1 dSeq (pur (eN (regT n)))) (fun x59 : D => (b2 bIn (b2 dSub2 (pur (eD ((regT n).map fun s => (s, wD n s)))) (pur x59)) (pur s58))) (fun x59 => (pur x59))) fun a60 => bnd (pur x27) fun a61 => lif (dSet s26.1 a61 a60)) fun due_62 => (bnd (iteR (b2 bEq (bnd (pur (PyData.int (n : Int))) fun a63 => bnd (pur x27) fun a64 => bnd (bnd (u1 dNeg (pur (.int 1))) fun a65 => bnd (pur (.int 1)) fun a66 => mkT [a65, a66]) fun a67 => bnd (pur (.bool true)) fun a68 => Gen.lift (m__law_laid [a63, a64, a67, a68])) (b2 dSub2 (pur (eD ((regT n).map fun s => (s, wD n s)))) (pur x27))) (bnd (bnd (pur x27) fun a70 => lif (dApp s26.2.1 a70)) fun quarter_71 => (pur quarter_71)) (pur s26.2.1)) fun s69 => (bnd (iteR (b2 bEq (bnd (pur (PyData.int (n : Int))) fun a72 => bnd (pur x27) fun a73 => bnd (bnd (pur (.int 1)) fun a74 => bnd (pur (.int 1)) fun a75 => mkT [a74, a75]) fun a76 => bnd (pur (.bool true)) fun a77 => Gen.lift (m__law_laid [a72, a73, a76, a77])) (b2 dSub2 (pur (eD ((regT n).map fun s => (s, wD n s)))) (pur x27))) (bnd (bnd (pur x27) fun a79 => lif (dApp s26.2.2 a79)) fun mirror_80 => (pur mirror_80)) (pur s26.2.2)) fun s78 => (iteR (bNot (bTru (bnd (bnd (pur (PyData.int (n : Int))) fun a81 => bnd (pur x27) fun a82 => Gen.lift (m_kin [a81, a82])) fun a83 => bnd (b2 dSub2 (pur due_62) (pur x27)) fun a84 => Gen.lift (m__law_same 8 [a83, a84])))) (bnd (pur (.bool false)) fun r85 => pur (Ctl.ret r85)) (pur (Ctl.nxt (due_62, s69, s78))))))))))
def stT (n : Nat) (st : List Nat × List Nat × List Nat) (s : Nat) : List Nat × List Nat × List Nat := (addT st.1 s, if conT n s s (-1) true then st.2.1 ++ [s] else st.2.1, if conT n s s 1 true then st.2.2 ++ [s] else st.2.2)
abbrev inS (n : Nat) (st : List Nat × List Nat × List Nat) : D × D × D := (eD (st.1.map fun s => (s, eN (dueT n s))), eN st.2.1, eN st.2.2)
theorem app_N {L : List Nat} (x : Nat) (h : L.length < 1000000) : dApp (eN L) (.int (x : Int)) = some (eN (L ++ [x])) := by
  show (if (L.map fun (y : Nat) => PyData.int (y : Int)).length < 16000000 then some (PyData.list ((L.map fun (y : Nat) => PyData.int (y : Int)) ++ [PyData.int (x : Int)])) else none) = _
  rw [if_pos (by rw [List.length_map]; omega)]
  show _ = some (PyData.list ((L ++ [x]).map fun (y : Nat) => PyData.int (y : Int)))
  rw [List.map_append]; rfl
theorem eN_ok (L : List Nat) (h : L.length < 1000000) : sOk 8 (eN L) = true := by
  show (decide ((L.map fun (y : Nat) => PyData.int (y : Int)).length < 1000000000) && (L.map fun (y : Nat) => PyData.int (y : Int)).all (sOk 7)) = true
  rw [Bool.and_eq_true, decide_eq_true_eq, List.all_eq_true]
  refine ⟨by rw [List.length_map]; omega, fun d hd => ?_⟩
  obtain ⟨i, _, rfl⟩ := List.mem_map.mp hd
  rfl
theorem kin_due {n s : Nat} (h2 : 2 ≤ n) (hn : n ≤ 40) (hs : s ∈ regT n) : m_kin [.int n, .int s] = some (eN (dueT n s)) := by
  have c := List.all_eq_true.mp (all40_of c1 h2 hn) s hs
  rw [Bool.and_eq_true, Bool.and_eq_true, Bool.not_eq_true', List.isEmpty_eq_false_iff, decide_eq_true_eq] at c
  have hsn := regT_lt hs
  rw [kin_eq (by omega) (by omega) (by omega) c.1, c.2.1, ← map_int]
theorem turn_eq {n s : Nat} (h2 : 2 ≤ n) (hn : n ≤ 40) (hs : s ∈ regT n) {st : List Nat × List Nat × List Nat} (h1 : st.1.length < 1000) (h3 : st.2.1.length < 1000) (h4 : st.2.2.length < 1000) : gDue n (inS n st) (.int (s : Int)) = .ret (.nxt (inS n (stT n st s))) := by
  have hsn := regT_lt hs
  have hl := regT_len n
  have dl := dueT_len n s
  obtain ⟨L, q, m⟩ := st
  dsimp only at h1 h3 h4
  have e1 : dSet (eD (L.map fun s => (s, eN (dueT n s)))) (.int (s : Int)) (eN (dueT n s)) = some (eD ((addT L s).map fun s => (s, eN (dueT n s)))) := dSet_fn (g := fun s => eN (dueT n s)) (by omega)
  have e2 : dSub2 (eD ((regT n).map fun s => (s, wD n s))) (.int (s : Int)) = some (wD n s) := dSub_nn (lookup_map hs)
  have hm : s ∈ addT L s := by
    unfold addT
    split
    · assumption
    · simp
  have e3 : dSub2 (eD ((addT L s).map fun s => (s, eN (dueT n s)))) (.int (s : Int)) = some (eN (dueT n s)) := dSub_nn (lookup_map (g := fun s => eN (dueT n s)) hm)
  have neg : (u1 dNeg (Gen.ret (PyData.int 1)) : Gen D) = .ret (.int (-1)) := by
    show bnd (μ := Gen) (Gen.ret (PyData.int 1)) (fun x => lif (dNeg x)) = _
    rw [g_bnd, dNeg_i, g_lif]
  have ld : ∀ a : Int, a.natAbs < 10 → (b2 bEq (Gen.lift (m__law_laid [.int n, .int s, tP (a, 1), .bool true])) (b2 dSub2 (Gen.ret (eD ((regT n).map fun s => (s, wD n s)))) (Gen.ret (.int (s : Int)))) : Gen Bool) = .ret (conT n s s a true) := fun a ha => by
    rw [laid_eq (by omega) (by omega) (by omega) a 1 ha (by decide) true, g_lift, b2_g, e2, g_lift, b2_g]
    show Gen.lift (bEq (eP (mvT n s a true)) (eP ((waysT n s).mergeSort leP))) = _
    rw [bEq_P, con_dec h2 hsn, g_lift]
  have im := images_eq h2 hn hsn
  simp only [g_pur] at im
  unfold gDue
  simp only [g_pur]
  rw [mkL0g, g_bnd, im, g_bnd, due_eq h2 hn hsn, g_bnd, g_bnd, e1, g_lif, g_bnd]
  rw [g_bnd, g_bnd, neg, g_bnd, g_bnd, mkT2g, g_bnd, g_bnd, ld (-1) (by decide), g_iteR]
  rw [g_bnd, app_N s (by omega), g_lif, g_bnd]
  have ite1 : (if conT n s s (-1) true = true then Gen.ret (eN (q ++ [s])) else Gen.ret (eN q) : Gen D) = .ret (eN (if conT n s s (-1) true then q ++ [s] else q)) := by split <;> rfl
  rw [ite1, g_bnd]
  rw [g_bnd, g_bnd, g_bnd, g_bnd, mkT2g, g_bnd, g_bnd, ld 1 (by decide), g_iteR]
  rw [g_bnd, app_N s (by omega), g_lif, g_bnd]
  have ite2 : (if conT n s s 1 true = true then Gen.ret (eN (m ++ [s])) else Gen.ret (eN m) : Gen D) = .ret (eN (if conT n s s 1 true then m ++ [s] else m)) := by split <;> rfl
  rw [ite2, g_bnd]
  rw [g_bnd, g_bnd, kin_due h2 hn hs, g_lift, g_bnd, b2_g, e3, g_lift, g_bnd, same_refl 8 _ (eN_ok _ (by omega)), g_lift]
  rfl
theorem fold_st (n : Nat) : ∀ (xs : List Nat) (L q m : List Nat), xs.foldl (stT n) (L, q, m) = (xs.foldl addT L, q ++ xs.filter (fun s => conT n s s (-1) true), m ++ xs.filter (fun s => conT n s s 1 true))
  | [], L, q, m => by simp
  | x :: xs, L, q, m => by
    rw [List.foldl_cons]
    show xs.foldl (stT n) (addT L x, _, _) = _
    rw [fold_st n xs]
    rw [List.foldl_cons, List.filter_cons, List.filter_cons]
    cases h1 : conT n x x (-1) true <;> cases h2 : conT n x x 1 true <;> simp
theorem due_for {n : Nat} (h2 : 2 ≤ n) (hn : n ≤ 40) : forC (μ := Gen) selN (i1 dSeq (.ret (eN (regT n)))) (PyData.dict [], PyData.list [], PyData.list []) (gDue n) = .ret (.inl (inS n (regT n, quaT n, mrrT n))) := by
  have hl := regT_len n
  have key := forC_eqIg (sel := selN) (ml := i1 dSeq (.ret (eN (regT n)))) (s0 := (PyData.dict [], PyData.list [], PyData.list [])) (e := fun (y : Nat) => PyData.int (y : Int)) (s := fun (y : Nat) => PyData.int (y : Int)) (inj := inS n) (step := stT n) (xs := regT n) (σ := ([], [], [])) (g := gDue n)
    (fun k st => st.1.length ≤ k ∧ st.2.1.length ≤ k ∧ st.2.2.length ≤ k) (by rw [i1_g, dSeq_l, g_lift]) (fun _ _ => rfl) rfl ⟨by simp, by simp, by simp⟩ (by
      intro k st s hk hs ⟨h1, h3, h4⟩
      refine ⟨turn_eq h2 hn hs (by omega) (by omega) (by omega), ?_, ?_, ?_⟩
      · have := addT_len st.1 s
        show (addT st.1 s).length ≤ _
        omega
      · show (if conT n s s (-1) true then st.2.1 ++ [s] else st.2.1).length ≤ _
        split
        · simp; omega
        · omega
      · show (if conT n s s 1 true then st.2.2 ++ [s] else st.2.2).length ≤ _
        split
        · simp; omega
        · omega)
  rw [key.1, fold_st, addT_reg]
  rfl
end Y

set_option maxRecDepth 100000
set_option maxHeartbeats 1000000
namespace Y
open PySem L2 PM PX
theorem groups_lc {n : Nat} (h2 : 2 ≤ n) (hn : n ≤ 40) : lcM (μ := Gen) selN (i1 dSeq (.ret (eN (regT n)))) (fun x93 : D => (b2 bEq (b2 dSub2 (b2 dSub2 (.ret (eD ((regT n).map fun s => (s, eN (dueT n s))))) (.ret x93)) (.ret (.int 0))) (.ret x93))) (fun x93 => (b2 dSub2 (.ret (eD ((regT n).map fun s => (s, eN (dueT n s))))) (.ret x93))) = .ret (eNN (groupsT n)) := by
  have hl := regT_len n
  have e0 : eNN (groupsT n) = .list (((regT n).filter fun s => decide ((dueT n s).headD n = s)).map fun s => eN (dueT n s)) := by
    unfold groupsT
    show PyData.list _ = _
    rw [List.map_map]
    rfl
  rw [e0]
  have e1 : ∀ s ∈ regT n, dSub2 (eD ((regT n).map fun s => (s, eN (dueT n s)))) (.int (s : Int)) = some (eN (dueT n s)) := fun s hs => dSub_nn (lookup_map (g := fun s => eN (dueT n s)) hs)
  refine lc_eqg (e := fun (y : Nat) => PyData.int (y : Int)) (s := fun (y : Nat) => PyData.int (y : Int)) (xs := regT n) (t := fun s => decide ((dueT n s).headD n = s)) (r := fun s => eN (dueT n s)) ?_ (fun _ _ => rfl) (fun s hs => ?_) (fun s hs _ => ?_) ?_
  · rw [i1_g, dSeq_l, g_lift]
  · have c := List.all_eq_true.mp (all40_of c1 h2 hn) s hs
    rw [Bool.and_eq_true, Bool.and_eq_true, Bool.not_eq_true', Bool.not_eq_true', List.isEmpty_eq_false_iff, List.isEmpty_eq_false_iff] at c
    rw [b2_g, e1 s hs, g_lift]
    cases hd : dueT n s with
    | nil => exact absurd hd c.2.2
    | cons o l =>
      rw [b2_g]
      have e3 : dSub2 (eN (o :: l)) (.int 0) = some (.int (o : Int)) := dSub2_l0 _ _
      rw [e3, g_lift, b2_g, bEq_ii, g_lift]
      congr 1
      rw [decide_eq_decide]
      show (o : Int) = s ↔ o = s
      omega
  · rw [b2_g, e1 s hs, g_lift]
  · have := List.length_filter_le (fun s => decide ((dueT n s).headD n = s)) (regT n)
    omega
theorem groups_len (n : Nat) : (groupsT n).length ≤ n := by
  unfold groupsT
  rw [List.length_map]
  exact Nat.le_trans (List.length_filter_le _ _) (regT_len n)
theorem srt_ok {F : List (List Nat)} (h : F.length < 1000000) (hF : ∀ L ∈ F, L.length < 1000000) : sOk 8 (.list (srtD (F.map eN))) = true := by
  show (decide ((srtD (F.map eN)).length < 1000000000) && (srtD (F.map eN)).all (sOk 7)) = true
  rw [Bool.and_eq_true, decide_eq_true_eq, List.all_eq_true]
  unfold srtD
  refine ⟨by rw [List.length_mergeSort, List.length_map]; omega, fun d hd => ?_⟩
  rw [List.mem_mergeSort] at hd
  obtain ⟨L, hL, rfl⟩ := List.mem_map.mp hd
  show (decide ((L.map fun (y : Nat) => PyData.int (y : Int)).length < 1000000000) && (L.map fun (y : Nat) => PyData.int (y : Int)).all (sOk 6)) = true
  rw [Bool.and_eq_true, decide_eq_true_eq, List.all_eq_true]
  refine ⟨by rw [List.length_map]; have := hF L hL; omega, fun d hd => ?_⟩
  obtain ⟨i, _, rfl⟩ := List.mem_map.mp hd
  rfl
end Y

set_option maxRecDepth 100000
set_option maxHeartbeats 1000000
namespace Y
open PySem L2 PM PX
theorem law_det {n : Nat} (h2 : 2 ≤ n) (hn : n ≤ 40) : ∀ (told groups : D), told = .list (srtD ((groupsT n).map eN)) → m__law_same 8 [told, told] = some (.bool true) := fun told groups h => by
  subst h
  have := groups_len n
  refine same_refl 8 _ (srt_ok (by omega) fun L hL => ?_)
  unfold groupsT at hL
  obtain ⟨s, _, rfl⟩ := List.mem_map.mp hL
  have := dueT_len n s
  omega
theorem law_true : m_law.all fun d => d = .bool true := by
  unfold m_law
  refine all_bnd (fun d => ∃ n : Nat, 2 ≤ n ∧ n ≤ 40 ∧ d = .int n) ?_ ?_
  · rw [g_pur, b2_g1]
    refine all_bnd (fun d => ∃ k : Int, 0 ≤ k ∧ k < 39 ∧ d = .int k) ?_ ?_
    · refine all_bnd (fun d => d = .int 8 ∨ d = .int 39) ?_ ?_
      · rw [g_pur, g_bnd, g_pur, g_bnd, mkL2g, g_bnd]
        refine pick_all (by simp) (by simp) fun d hd => ?_
        simpa using hd
      · rintro _ (rfl | rfl)
        · exact all_drawI _ (by decide) (by decide) fun k h0 h1 => ⟨k, h0, by omega, rfl⟩
        · exact all_drawI _ (by decide) (by decide) fun k h0 h1 => ⟨k, h0, by omega, rfl⟩
    · rintro _ ⟨k, h0, h1, rfl⟩
      rw [dAdd_ii, g_lif]
      exact ⟨(2 + k).toNat, by omega, by omega, by rw [Int.toNat_of_nonneg (by omega)]⟩
  rintro _ ⟨n, h2, hn, rfl⟩
  have wf := ways_for h2 hn
  have df := due_for h2 hn
  unfold gDue at df
  have hl := regT_len n
  have gl := groups_len n
  have e2 := of_decide_eq_true (all40_of c2 h2 hn)
  have e3 := all40_of c3 h2 hn
  have e4 := all40_of c4 h2 hn
  unfold chk3 at e3
  unfold chk4 at e4
  rw [Bool.and_eq_true, decide_eq_true_eq, decide_eq_true_eq] at e3 e4
  have fam := families_eq (n := n) (by omega) (by omega) (fun s hs => kin_due h2 hn hs)
  rw [e2] at fam
  have cnt := count_eq (n := n) (by omega) (by omega)
  rw [e3.1] at cnt
  have ow : lcM (μ := Gen) selN (i1 dSeq (.ret (eN (regT n)))) (fun x102 : D => (b2 bEq (b2 dMod (bnd (b2 dMul (.ret (.int 2)) (.ret x102)) fun a103 => lif (dop1 dInt [a103])) (.ret (.int (n : Int)))) (.ret (.int 0)))) (fun x102 => .ret x102) = .ret (eN (ownT n)) := lc_natsg (by omega) _ fun y hy => by
    rw [b2_g, dMul_ii _ _ (.inl (by decide)), g_lift, g_bnd, dInt_i, g_lif, b2_g, dMod_ii _ _ (by omega), g_lift, b2_g, bEq_ii, g_lift, fm_em (by omega)]
  simp only [g_pur, mkL0g] at wf df ⊢
  rw [g_bnd, regular_eq (by omega), g_lift, g_bnd, g_bnd, wf, g_bnd, g_bnd, g_bnd, g_bnd, df, g_bnd, behind_l]
  rw [g_bnd, fam, g_lift, g_bnd, groups_lc h2 hn, g_bnd, sorted_NN (by omega), g_lif, g_bnd]
  have sl : (srtD ((groupsT n).map eN)).length = (groupsT n).length := by
    unfold srtD
    rw [List.length_mergeSort, List.length_map]
  have bt : (bNot (bTru (Gen.ret (PyData.bool true))) : Gen Bool) = .ret false := rfl
  have s1 := same_refl 8 (.int ((groupsT n).length : Int)) rfl
  rw [g_bnd, g_bnd, law_det h2 hn _ .none rfl, g_lift, bt, g_orM, if_neg (by decide)]
  rw [g_bnd, cnt, g_lift, g_bnd, g_bnd, dLen_l, sl, g_lif, g_bnd, s1, g_lift, bt, g_iteR, if_neg (by decide)]
  rw [ow, g_bnd]
  have tl : (b2 bNe (b2 dMul (Gen.ret (.int 4)) (Gen.ret (.int (groupsT n).length))) (b2 dAdd (b2 dAdd (b2 dAdd (bnd (Gen.ret (eN (regT n))) fun a105 => lif (dop1 dLen [a105])) (bnd (Gen.ret (eN (ownT n))) fun a106 => lif (dop1 dLen [a106]))) (bnd (Gen.ret (inS n (regT n, quaT n, mrrT n)).2.1) fun a107 => lif (dop1 dLen [a107]))) (bnd (Gen.ret (inS n (regT n, quaT n, mrrT n)).2.2) fun a108 => lif (dop1 dLen [a108]))) : Gen Bool) = .ret false := by
    dsimp only [inS]
    have q : (4 : Int) * (groupsT n).length = (regT n).length + (ownT n).length + (quaT n).length + (mrrT n).length := by
      have := e3.2
      omega
    rw [b2_g, dMul_ii _ _ (.inl (by decide)), g_lift, g_bnd, g_bnd, dLen_l, dLen_l, g_lif, g_lif, b2_g, dAdd_ii, g_lift, g_bnd, dLen_l, g_lif, b2_g, dAdd_ii, g_lift, g_bnd, dLen_l, g_lif, b2_g, dAdd_ii, g_lift, b2_g, bNe_ii, g_lift, eN_len, eN_len, eN_len, eN_len, decide_eq_true q]
    rfl
  rw [tl, g_iteR, if_neg (by decide)]
  rw [g_bnd, turned_eq (by omega) (by omega), g_lift, g_bnd, g_bnd, mirrored_eq (by omega) (by omega), g_lift, g_bnd, mkL2g, g_bnd, g_bnd, g_bnd, mkL2g, g_bnd, e4.1, e4.2]
  have l1 : (quaT n).length < 1000 := Nat.lt_of_le_of_lt (List.length_filter_le _ _) (by omega)
  have l2 : (mrrT n).length < 1000 := Nat.lt_of_le_of_lt (List.length_filter_le _ _) (by omega)
  have s2 := same_refl 8 (.list [eN (quaT n), eN (mrrT n)]) (by
    have h7 : ∀ L : List Nat, L.length < 1000 → sOk 7 (eN L) = true := fun L h => by
      show (decide ((L.map fun (y : Nat) => PyData.int (y : Int)).length < 1000000000) && (L.map fun (y : Nat) => PyData.int (y : Int)).all (sOk 6)) = true
      rw [Bool.and_eq_true, decide_eq_true_eq, List.all_eq_true]
      refine ⟨by rw [List.length_map]; omega, fun d hd => ?_⟩
      obtain ⟨i, _, rfl⟩ := List.mem_map.mp hd
      rfl
    show (decide ([eN (quaT n), eN (mrrT n)].length < 1000000000) && [eN (quaT n), eN (mrrT n)].all (sOk 7)) = true
    simp [h7 _ l1, h7 _ l2])
  rw [s2, g_lift]
  rfl
end Y

set_option maxRecDepth 100000
set_option maxHeartbeats 0
namespace Y
open PySem L2 PM PX
def hFn : List He.DefD := [dD "steps" (topS 2), dD "undone" (topS 3), dD "kin" (topS 4), dD "families" (topS 5), dD "turned" (topS 6), dD "mirrored" (topS 7), dD "family_count" (topS 8), dD "_law_mixed" (topS 10), dD "_law_rest" (topS 11), dD "_law_pool" (topS 12), dD "_law_draw" (topS 13), dD "_law_pick" (topS 14), dD "_law_gcd" (topS 15), dD "_law_regular" (topS 16), dD "_law_same" (topS 17), dD "_law_all_ways" (topS 18), dD "_law_laid" (topS 19), dD "law" (topS 20)]
def hFa : List Chk := [ckG "steps", ckG "undone", ckG "kin", ckG "families", ckG "turned", ckG "mirrored", ckG "family_count", ckG "_law_mixed", ckG "_law_rest", ckG "_law_pool", ckG "_law_draw", ckG "_law_pick", ckG "_law_gcd", ckG "_law_regular", ckG "_law_same", ckG "_law_all_ways", ckG "_law_laid", ckG "law", ckF "bool", ckF "dict", ckF "int", ckF "isinstance", ckF "len", ckF "list", ckF "range", ckF "set", ckF "sorted", ckF "str", ckF "tuple", ckB "gcd" "math.gcd"]
abbrev hR : PySem.W.OpenRow := PySem.W.OpenLaw.row PySem.Challenge.rw_loomwork_k49_families_of_kin
abbrev hK : PySem.W.Hook := hookY 4 hFa hFn
def hOb (s : PySem.W.SharedT) : He.AlD := obsYG 4 hFa hFn (HandSHeadRun.getT s)
theorem hOb_eq (s : PySem.W.SharedT) : hOb s = hK.obs s.abs := obsYG_eq (HandSHeadRun.getT_eq s)
def hLoose : List PySem.Str := ["__name__", "steps", "undone", "kin", "families", "turned", "mirrored", "family_count", "_law_mixed", "_law_rest", "_law_pool", "_law_draw", "_law_pick", "_law_gcd", "_law_regular", "_law_same", "_law_all_ways", "_law_laid"]
theorem hRun (w : World) : HandSHeadRun.RunEqI hR (PySem.W.view hR.prog [0, 20]) hK hOb 4000 hLoose w := by
  unfold HandSHeadRun.RunEqI
  kernel_rfl
section
variable {P : Program} {w : World} {K : PySem.W.Frag} {h : Heap} {mg : Str → Option Value}
theorem ev_of (X : K.In h) (G : h.Ns mainGlobals mg) (c : SaysY hFa hFn K) : Ev K mg where
  g_bool := ckF_ok X G (c.fact 18 (f := ckF "bool") rfl)
  g_dict := ckF_ok X G (c.fact 19 (f := ckF "dict") rfl)
  g_int := ckF_ok X G (c.fact 20 (f := ckF "int") rfl)
  g_isinstance := ckF_ok X G (c.fact 21 (f := ckF "isinstance") rfl)
  g_len := ckF_ok X G (c.fact 22 (f := ckF "len") rfl)
  g_list := ckF_ok X G (c.fact 23 (f := ckF "list") rfl)
  g_range := ckF_ok X G (c.fact 24 (f := ckF "range") rfl)
  g_set := ckF_ok X G (c.fact 25 (f := ckF "set") rfl)
  g_sorted := ckF_ok X G (c.fact 26 (f := ckF "sorted") rfl)
  g_str := ckF_ok X G (c.fact 27 (f := ckF "str") rfl)
  g_tuple := ckF_ok X G (c.fact 28 (f := ckF "tuple") rfl)
  i_gcd := ckB_ok X G (c.fact 29 (f := ckB "gcd" "math.gcd") rfl)
  f_steps := c.fun_ X G 0 0 rfl rfl
  f_undone := c.fun_ X G 1 1 rfl rfl
  f_kin := c.fun_ X G 2 2 rfl rfl
  f_families := c.fun_ X G 3 3 rfl rfl
  f_turned := c.fun_ X G 4 4 rfl rfl
  f_mirrored := c.fun_ X G 5 5 rfl rfl
  f_family_count := c.fun_ X G 6 6 rfl rfl
  f__law_mixed := c.fun_ X G 7 7 rfl rfl
  f__law_rest := c.fun_ X G 8 8 rfl rfl
  f__law_pool := c.fun_ X G 9 9 rfl rfl
  f__law_draw := c.fun_ X G 10 10 rfl rfl
  f__law_pick := c.fun_ X G 11 11 rfl rfl
  f__law_gcd := c.fun_ X G 12 12 rfl rfl
  f__law_regular := c.fun_ X G 13 13 rfl rfl
  f__law_same := c.fun_ X G 14 14 rfl rfl
  f__law_all_ways := c.fun_ X G 15 15 rfl rfl
  f__law_laid := c.fun_ X G 16 16 rfl rfl
  f_law := c.fun_ X G 17 17 rfl rfl
theorem hFacts {f : Addr} (X : K.In h) (G : h.Ns mainGlobals mg) (hfa : mg ("law" : Str) = some (.ref f)) (c : SaysY hFa hFn K) :
    ∃ fd : FuncData, (∀ (s : Shared) (v : Value), BindsTo s fd ⟨[v], []⟩ [("script", v)]) ∧ ∀ base : Heap, K.In base → base.Ns mainGlobals mg → FnOk P w K mg base CX0 11 f fd ["script"] (spLaw K) := by
  obtain ⟨f2, fd, F, gm⟩ := (ev_of X G c).f_law
  have e := hfa.symm.trans gm
  cases e
  have b := FunD.bindsA (ps := ["script"]) F fun _ _ _ _ _ _ us hl => match us, hl with | [_], _ => rfl
  exact ⟨fd, fun s v => b s [v] rfl, fun base _ _ => ok_law F (ev_of X G c) law_true⟩
end
end Y
open PySem PySem.W PySem.Calls PyProof.Rows
theorem PySem.Challenge.cw_loomwork_k49_families_of_kin_holds : PySem.Challenge.rw_loomwork_k49_families_of_kin.Holds := by
  w_on; o_law
  refine HandSHeadRun.head_imp (r := OpenLaw.row PySem.Challenge.rw_loomwork_k49_families_of_kin) (q := view (OpenLaw.row PySem.Challenge.rw_loomwork_k49_families_of_kin).prog [0, 20]) (H := Y.hK) (ob := Y.hOb) (M := 4000) (loose := Y.hLoose) (d := HandSHeadRun.topDef (OpenLaw.row PySem.Challenge.rw_loomwork_k49_families_of_kin).prog 20) (kwd := []) Y.hOb_eq Y.hRun (by kernel_rfl) (by kernel_rfl) (by kernel_rfl) (by rfl) (by first | assumption | decide +kernel) (by decide +kernel) ⟨rfl, rfl, rfl, rfl, rfl, by decide +kernel⟩ ?hw ?hc
  case hw => w_witness2
  case hc =>
    refine L2.walk_ofE (l := PySem.Challenge.rw_loomwork_k49_families_of_kin) (n := 63) (k := 11) (x := "script") (CX := L2.CX0) rfl (by decide) (by kernel_rfl) ⟨rfl, by decide, by decide⟩ ?F (fun _ _ _ _ z => z)
    intro w mg fa h YY G hmg0
    obtain ⟨K, KX, c⟩ := YY
    have hmg : mg ("law" : PySem.Str) = some (.ref fa) := by
      have e : (HandSHeadRun.topDef (OpenLaw.row PySem.Challenge.rw_loomwork_k49_families_of_kin).prog 20).name = ("law" : PySem.Str) := by kernel_rfl
      rw [← e]
      exact hmg0
    obtain ⟨fd, hb, hF⟩ := Y.hFacts (P := (PySem.Challenge.rw_loomwork_k49_families_of_kin).prog) (w := w) KX G hmg c
    exact ⟨K, fd, Y.spLaw K, KX, hb, fun H a ns hl _ hS => ⟨a, ns, rfl, hS, fun _ => rfl⟩, hF⟩

