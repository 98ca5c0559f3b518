import PyProof.Rows.All
import Wide.All
import OpenK.AllK
import Wide.FinOn
import HandS.Base
import HandS.Call
import HandS.List
import HandS.Comp
import HandS.Dict
import HandS.Iter
import HandS.Exc
import HandS.Wide
import HandS.CallSlots
import HandS.Defaults
import HandS.WordsExc
import HandS.HeadEnd
import PyProof.Rows.EqDataRows
import KE.LtData
import HandS.IsInst
import HandS.Flow
import HandS.Style
import HandS.Codes
import HandS.TupAny
import HandS.TupLen
import HandS.WordsDict
import HandS.Small
import HandS.TupMul
import PyProof.P3In
import KE.SortData
import KE.DataAny
import HandS.Zip
import HandS.ReplaceList
import HandS.SetKeys
import HandS.DictComp
import HandS.StrMore
import HandS.More
import HandS.ListEq
import HandS.DictEq
import PyProof.NeKinds
import PyProof.ReprRoads
import PyProof.CallFns
import HandS.SetBool
import HandS.ListItems
import HandS.NoneIn
import KE.GoesMore
import HandS.Replace
import HandS.Head0
import HandS.Head1
import HandS.Head2
import HandS.HeadHook1
import HandS.HeadHook2
import PyProof.InstNe
import HandS.OwnEq
import KE.DataMinMax
import HandS.SetFor
import HandS.Text
import PyProof.EqKinds
import HandS.TupSets
import PyProof.InstSpecial
import PySem.Challenge.RW_heldhints_k51_askers_told
set_option Elab.async false
set_option linter.all false
set_option maxRecDepth 100000
/-! Md0: plain data (D), a store of objects, how they stand in the layer's heap. -/
namespace Md
open PySem PySem.Spec PyProof.Rows L2

/-- plain data: tuples, and lists that nobody changes, by value; what changes by its place in the store -/
inductive D where
  | non | bl (b : Bool) | int (i : Int) | str (x : Str)
  | tup (xs : List D) | lst (xs : List D) | wls (xs : List D) | ref (n : Nat) | glo (x : Str)
  | exc (c : Str) (ns : List Str) (vs : List D)
  deriving Inhabited

/-- an object that may change -/
inductive Ob where
  | lst (xs : List D)
  | lok (xs : List D)
  | ins (c : Str) (fs : List (Str × D))
  | dct (lk : Bool) (kvs : List (D × D))
  deriving Inhabited

abbrev S := List Ob
inductive Res (α : Type) where
  | ok (a : α) (s : S)
  | exc (e : D) (s : S)
  | bad
abbrev M (α : Type) := S → Res α
def ret {α : Type} (a : α) : M α := fun s => .ok a s
def bnd {α β : Type} (m : M α) (f : α → M β) : M β := fun s => match m s with
  | .ok a s' => f a s'
  | .exc e s' => .exc e s'
  | .bad => .bad
def bad {α : Type} : M α := fun _ => .bad
def thr {α : Type} (e : D) : M α := fun s => .exc e s
def get? (n : Nat) : M Ob := fun s => match s[n]? with
  | some o => .ok o s
  | none => .bad
def put (n : Nat) (o : Ob) : M Unit := fun s => .ok () (s.set n o)
def new (o : Ob) : M D := fun s => .ok (.ref s.length) (s ++ [o])
/-- an answer, where there is one -/
def opt {α : Type} : Option α → M α
  | some a => ret a
  | none => bad

/-- who owns what: the store's places, the lists that stay as they are -/
structure Ow where
  mu : List Addr
  fz : Addr → Prop

section
variable (K : PySem.W.Frag) (mg : Str → Option Value)
/-- a written object -/
def Wrt (c : String) (a : Addr) (vs : List V) : Prop :=
  ∃ (o : Obj) (its : Array Value) (n : Nat), K.lookup a = some o ∧ o.cls = .type c ∧ (c = "list" → o.dict = none) ∧ o.data = .seq its n ∧ its.size ≤ sizeLine ∧ Vals vs its.toList
def TupAt (H : Hp) (a : Addr) (vs : List V) : Prop := H a = some (.tup vs) ∨ Wrt K "tuple" a vs
def LstAt (O : Ow) (H : Hp) (a : Addr) (vs : List V) : Prop := O.fz a ∧ H a = some (.lst vs)
def WlsAt (O : Ow) (H : Hp) (a : Addr) (vs : List V) : Prop := (O.fz a ∧ ∃ o, H a = some (.frz o (.lst vs))) ∨ Wrt K "list" a vs
mutual
inductive DV (O : Ow) (H : Hp) : D → V → Prop
  | non : DV O H .non .non
  | bl (b : Bool) : DV O H (.bl b) (.bl b)
  | int (i : Int) : DV O H (.int i) (.int i)
  | str (x : Str) : DV O H (.str x) (.str x)
  | tup {ds : List D} {vs : List V} {a : Addr} : TupAt K H a vs → DVs O H ds vs → DV O H (.tup ds) (.ref a)
  | lst {ds : List D} {vs : List V} {a : Addr} : LstAt O H a vs → DVs O H ds vs → DV O H (.lst ds) (.ref a)
  | wls {ds : List D} {vs : List V} {a : Addr} : WlsAt K O H a vs → DVs O H ds vs → DV O H (.wls ds) (.ref a)
  | ref {n : Nat} {a : Addr} : O.mu[n]? = some a → DV O H (.ref n) (.ref a)
  | glo {x : Str} {a : Addr} : mg x = some (.ref a) → DV O H (.glo x) (.ref a)
inductive DVs (O : Ow) (H : Hp) : List D → List V → Prop
  | nil : DVs O H [] []
  | cons {d : D} {v : V} {ds : List D} {vs : List V} : DV O H d v → DVs O H ds vs → DVs O H (d :: ds) (v :: vs)
end
inductive Flds (O : Ow) (H : Hp) : List (Str × D) → List (Str × V) → Prop
  | nil : Flds O H [] []
  | cons {x : Str} {d : D} {v : V} {fs : List (Str × D)} {vs : List (Str × V)} : DV K mg O H d v → Flds O H fs vs → Flds O H ((x, d) :: fs) ((x, v) :: vs)
/-- keys: ints and texts -/
def keyD : D → Option Key
  | .int i => some (.inl i)
  | .str x => some (.inr x)
  | _ => none
inductive PrK (O : Ow) (H : Hp) : List (D × D) → List (Key × V) → Prop
  | nil : PrK O H [] []
  | cons {k : D} {q : Key} {d : D} {v : V} {fs : List (D × D)} {vs : List (Key × V)} : keyD k = some q → DV K mg O H d v → PrK O H fs vs → PrK O H ((k, d) :: fs) ((q, v) :: vs)
/-- a dict's own thing, and whether it is locked -/
def Lk (lk : Bool) (H : Hp) (a : Addr) (u : HO) : Prop := match lk with
  | true => ∃ o, H a = some (.frz o u)
  | false => H a = some u
def OV (O : Ow) (H : Hp) (a : Addr) : Ob → Prop
  | .lst ds => ∃ vs, H a = some (.lst vs) ∧ DVs K mg O H ds vs
  | .lok ds => ∃ o vs, H a = some (.frz o (.lst vs)) ∧ DVs K mg O H ds vs
  | .ins c fs => ∃ C dx vs, mg c = some (.ref C) ∧ H a = some (.ins C dx vs) ∧ Flds K mg O H fs vs
  | .dct lk kvs => ∃ vs, Lk lk H a (.dK vs) ∧ PrK K mg O H kvs vs
structure Mono0 (O : Ow) (H : Hp) (O' : Ow) (H' : Hp) : Prop where
  mu : ∃ nu, O'.mu = O.mu ++ nu
  fz : ∀ a, O.fz a → O'.fz a
  fk : ∀ a o, O.fz a → H a = some o → H' a = some o
  tp : ∀ a xs, H a = some (.tup xs) → H' a = some (.tup xs)
structure Mono (O : Ow) (H : Hp) (O' : Ow) (H' : Hp) : Prop where
  mu : ∃ nu, O'.mu = O.mu ++ nu
  fz : ∀ a, O.fz a → O'.fz a
  fk : ∀ a o, O.fz a → H a = some o → H' a = some o
  tp : ∀ a xs, H a = some (.tup xs) → H' a = some (.tup xs)
  zk : ∀ a o u, H a = some (.frz o u) → H' a = some (.frz o u)
structure Ext (O : Ow) (H : Hp) (O' : Ow) (H' : Hp) : Prop extends Mono O H O' H' where
  fr : ∀ a o, H a = some o → a ∉ O.mu → H' a = some o
  nw : ∀ a, (a ∈ O'.mu ∨ O'.fz a) → (a ∈ O.mu ∨ O.fz a) ∨ H a = none
structure RelS (O : Ow) (H : Hp) (s : S) : Prop where
  len : O.mu.length = s.length
  nd : O.mu.Nodup
  sep : ∀ a, a ∈ O.mu → ¬ O.fz a
  obs : ∀ (n : Nat) (a : Addr) (o : Ob), O.mu[n]? = some a → s[n]? = some o → OV K mg O H a o
  fzs : ∀ a, O.fz a → ∃ o, H a = some o
/-- an environment, slot by slot; what is none is not known -/
inductive RelE (O : Ow) (H : Hp) : List (Option D) → L2.St → Prop
  | nil : RelE O H [] []
  | no {v : Option V} {e : List (Option D)} {sg : L2.St} : RelE O H e sg → RelE O H (none :: e) (v :: sg)
  | yes {d : D} {v : V} {e : List (Option D)} {sg : L2.St} : DV K mg O H d v → RelE O H e sg → RelE O H (some d :: e) (some v :: sg)
end

/-! ### what goes on to hold -/
section
variable {K : PySem.W.Frag} {mg : Str → Option Value} {O O' O2 : Ow} {H H' H2 : Hp}
theorem Mono.refl : Mono O H O H := ⟨⟨[], by simp⟩, fun _ h => h, fun _ _ _ h => h, fun _ _ h => h, fun _ _ _ h => h⟩
theorem Mono.trans (a : Mono O H O' H') (b : Mono O' H' O2 H2) : Mono O H O2 H2 := by
  obtain ⟨n1, e1⟩ := a.mu
  obtain ⟨n2, e2⟩ := b.mu
  exact ⟨⟨n1 ++ n2, by rw [e2, e1, List.append_assoc]⟩, fun x h => b.fz x (a.fz x h), fun x o h e => b.fk x o (a.fz x h) (a.fk x o h e), fun x xs e => b.tp x xs (a.tp x xs e), fun x o u e => b.zk x o u (a.zk x o u e)⟩
theorem Mono.base (m : Mono O H O' H') : Mono0 O H O' H' := ⟨m.mu, m.fz, m.fk, m.tp⟩
theorem Mono0.get (m : Mono0 O H O' H') {n : Nat} {a : Addr} (h : O.mu[n]? = some a) : O'.mu[n]? = some a := by
  obtain ⟨nu, e⟩ := m.mu
  rw [e, List.getElem?_append_left (List.getElem?_eq_some_iff.mp h).1]
  exact h
theorem Mono.get (m : Mono O H O' H') {n : Nat} {a : Addr} (h : O.mu[n]? = some a) : O'.mu[n]? = some a := m.base.get h
theorem Mono.mem (m : Mono O H O' H') {a : Addr} (h : a ∈ O.mu) : a ∈ O'.mu := by
  obtain ⟨nu, e⟩ := m.mu
  rw [e]
  exact List.mem_append_left _ h
theorem TupAt.mono0 (m : Mono0 O H O' H') {a : Addr} {vs : List V} (h : TupAt K H a vs) : TupAt K H' a vs := by
  rcases h with h | h
  · exact .inl (m.tp _ _ h)
  · exact .inr h
theorem LstAt.mono0 (m : Mono0 O H O' H') {a : Addr} {vs : List V} (h : LstAt O H a vs) : LstAt O' H' a vs :=
  ⟨m.fz _ h.1, m.fk _ _ h.1 h.2⟩
theorem WlsAt.mono0 (m : Mono0 O H O' H') {a : Addr} {vs : List V} (h : WlsAt K O H a vs) : WlsAt K O' H' a vs := by
  rcases h with ⟨f, o, h⟩ | h
  · exact .inl ⟨m.fz _ f, o, m.fk _ _ f h⟩
  · exact .inr h
mutual
theorem DV.mono0 (m : Mono0 O H O' H') : ∀ {d : D} {v : V}, DV K mg O H d v → DV K mg O' H' d v
  | _, _, .non => .non
  | _, _, .bl b => .bl b
  | _, _, .int i => .int i
  | _, _, .str x => .str x
  | _, _, .tup h t => .tup (h.mono0 m) (DVs.mono0 m t)
  | _, _, .lst h t => .lst (h.mono0 m) (DVs.mono0 m t)
  | _, _, .wls h t => .wls (h.mono0 m) (DVs.mono0 m t)
  | _, _, .ref h => .ref (m.get h)
  | _, _, .glo h => .glo h
theorem DVs.mono0 (m : Mono0 O H O' H') : ∀ {ds : List D} {vs : List V}, DVs K mg O H ds vs → DVs K mg O' H' ds vs
  | _, _, .nil => .nil
  | _, _, .cons h t => .cons (DV.mono0 m h) (DVs.mono0 m t)
end
theorem Flds.mono0 (m : Mono0 O H O' H') : ∀ {fs : List (Str × D)} {vs : List (Str × V)}, Flds K mg O H fs vs → Flds K mg O' H' fs vs
  | _, _, .nil => .nil
  | _, _, .cons h t => .cons (h.mono0 m) (Flds.mono0 m t)
theorem PrK.mono0 (m : Mono0 O H O' H') : ∀ {fs : List (D × D)} {vs : List (Key × V)}, PrK K mg O H fs vs → PrK K mg O' H' fs vs
  | _, _, .nil => .nil
  | _, _, .cons e h t => .cons e (h.mono0 m) (PrK.mono0 m t)
theorem RelE.mono0 (m : Mono0 O H O' H') : ∀ {e : List (Option D)} {sg : L2.St}, RelE K mg O H e sg → RelE K mg O' H' e sg
  | _, _, .nil => .nil
  | _, _, .no t => .no (RelE.mono0 m t)
  | _, _, .yes h t => .yes (h.mono0 m) (RelE.mono0 m t)
/-- an object that is itself as it was -/
theorem OV.mono0 (m : Mono0 O H O' H') {a : Addr} (e : H' a = H a) : ∀ {o : Ob}, OV K mg O H a o → OV K mg O' H' a o
  | .lst _, ⟨vs, h, t⟩ => ⟨vs, by rw [e]; exact h, t.mono0 m⟩
  | .lok _, ⟨o, vs, h, t⟩ => ⟨o, vs, by rw [e]; exact h, t.mono0 m⟩
  | .ins _ _, ⟨C, dx, vs, g, h, t⟩ => ⟨C, dx, vs, g, by rw [e]; exact h, t.mono0 m⟩
  | .dct lk _, h => by
    have lkE : ∀ {u : HO}, Lk lk H a u → Lk lk H' a u := fun {u} q => by
      cases lk with
      | true => obtain ⟨o, q⟩ := q; exact ⟨o, by rw [e]; exact q⟩
      | false => show H' a = some u; rw [e]; exact q
    obtain ⟨vs, h, t⟩ := h
    exact ⟨vs, lkE h, t.mono0 m⟩
theorem TupAt.mono (m : Mono O H O' H') {a : Addr} {vs : List V} (h : TupAt K H a vs) : TupAt K H' a vs := h.mono0 m.base
theorem LstAt.mono (m : Mono O H O' H') {a : Addr} {vs : List V} (h : LstAt O H a vs) : LstAt O' H' a vs := h.mono0 m.base
theorem WlsAt.mono (m : Mono O H O' H') {a : Addr} {vs : List V} (h : WlsAt K O H a vs) : WlsAt K O' H' a vs := h.mono0 m.base
theorem DV.mono (m : Mono O H O' H') {d : D} {v : V} (h : DV K mg O H d v) : DV K mg O' H' d v := h.mono0 m.base
theorem DVs.mono (m : Mono O H O' H') {ds : List D} {vs : List V} (h : DVs K mg O H ds vs) : DVs K mg O' H' ds vs := h.mono0 m.base
theorem Flds.mono (m : Mono O H O' H') {fs : List (Str × D)} {vs : List (Str × V)} (h : Flds K mg O H fs vs) : Flds K mg O' H' fs vs := h.mono0 m.base
theorem PrK.mono (m : Mono O H O' H') {fs : List (D × D)} {vs : List (Key × V)} (h : PrK K mg O H fs vs) : PrK K mg O' H' fs vs := h.mono0 m.base
theorem RelE.mono (m : Mono O H O' H') {e : List (Option D)} {sg : L2.St} (h : RelE K mg O H e sg) : RelE K mg O' H' e sg := h.mono0 m.base
theorem OV.mono (m : Mono O H O' H') {a : Addr} (e : H' a = H a) {o : Ob} (h : OV K mg O H a o) : OV K mg O' H' a o := h.mono0 m.base e
theorem OV.there {a : Addr} : ∀ {o : Ob}, OV K mg O H a o → ∃ u, H a = some u ∧ ∀ xs, u ≠ .tup xs
  | .lst _, ⟨vs, h, _⟩ => ⟨_, h, fun _ z => nomatch z⟩
  | .lok _, ⟨o, vs, h, _⟩ => ⟨_, h, fun _ z => nomatch z⟩
  | .ins _ _, ⟨C, dx, vs, _, h, _⟩ => ⟨_, h, fun _ z => nomatch z⟩
  | .dct lk _, h => by
    have lkE : ∀ {u : HO}, Lk lk H a u → (∀ xs, u ≠ .tup xs) → ∃ u, H a = some u ∧ ∀ xs, u ≠ .tup xs := fun {u} q nt => by
      cases lk with
      | true => obtain ⟨o, q⟩ := q; exact ⟨_, q, fun _ z => nomatch z⟩
      | false => exact ⟨u, q, nt⟩
    obtain ⟨vs, h, _⟩ := h
    exact lkE h fun _ z => nomatch z
theorem Ext.refl : Ext O H O H := ⟨.refl, fun _ _ h _ => h, fun _ h => .inl h⟩
theorem RelS.at_ {s : S} (r : RelS K mg O H s) {a : Addr} (h : a ∈ O.mu) : ∃ (n : Nat) (o : Ob), O.mu[n]? = some a ∧ s[n]? = some o := by
  obtain ⟨n, e⟩ := List.mem_iff_getElem?.mp h
  have hn : n < s.length := by rw [← r.len]; exact (List.getElem?_eq_some_iff.mp e).1
  exact ⟨n, s[n], e, List.getElem?_eq_getElem hn⟩
theorem RelS.there {s : S} (r : RelS K mg O H s) {a : Addr} (h : a ∈ O.mu) : ∃ u, H a = some u ∧ ∀ xs, u ≠ .tup xs := by
  obtain ⟨n, o, e1, e2⟩ := r.at_ h
  exact (r.obs n a o e1 e2).there
theorem Ext.trans {s : S} (a : Ext O H O' H') (r : RelS K mg O' H' s) (b : Ext O' H' O2 H2) : Ext O H O2 H2 := by
  refine ⟨a.toMono.trans b.toMono, fun x o e n => ?_, fun x h => ?_⟩
  · have e1 := a.fr x o e n
    refine b.fr x o e1 fun hm => ?_
    rcases a.nw x (.inl hm) with (z | z) | z
    · exact n z
    · exact r.sep x hm (a.fz x z)
    · rw [z] at e; cases e
  · rcases b.nw x h with z | z
    · exact a.nw x z
    · cases q : H x with
      | none => exact .inr rfl
      | some o =>
        by_cases hm : x ∈ O.mu
        · exact .inl (.inl hm)
        · rw [a.fr x o q hm] at z; cases z
end

/-! ### what comes of a run -/
section
variable (K : PySem.W.Frag) (mg : Str → Option Value)
def Post {α : Type} (O : Ow) (H : Hp) (r : Res α) (R : α → S → Ow → Hp → Prop) (X : D → S → Ow → Hp → Prop) : Prop := match r with
  | .ok a s => ∀ O' H', Ext O H O' H' → RelS K mg O' H' s → R a s O' H'
  | .exc e s => ∀ O' H', Ext O H O' H' → RelS K mg O' H' s → X e s O' H'
  | .bad => False
end
section
variable {K : PySem.W.Frag} {mg : Str → Option Value} {O O' O2 : Ow} {H H' H2 : Hp} {α β : Type}
theorem Post.imp {r : Res α} {R R' : α → S → Ow → Hp → Prop} {X X' : D → S → Ow → Hp → Prop} (h : Post K mg O H r R X)
    (hR : ∀ a s O' H', r = .ok a s → Ext O H O' H' → RelS K mg O' H' s → R a s O' H' → R' a s O' H') (hX : ∀ e s O' H', Ext O H O' H' → RelS K mg O' H' s → X e s O' H' → X' e s O' H') : Post K mg O H r R' X' := by
  cases r with
  | ok a s => exact fun O' H' x q => hR a s O' H' rfl x q (h O' H' x q)
  | exc e s => exact fun O' H' x q => hX e s O' H' x q (h O' H' x q)
  | bad => exact h
theorem Post.split {m : M α} {f : α → M β} {s : S} {R : β → S → Ow → Hp → Prop} {X : D → S → Ow → Hp → Prop} (h : Post K mg O H (bnd m f s) R X) :
    Post K mg O H (m s) (fun a s1 O1 H1 => Post K mg O1 H1 (f a s1) R X) X := by
  unfold bnd at h
  cases e : m s with
  | ok a s1 =>
    rw [e] at h
    intro O1 H1 x1 q1
    dsimp only at h ⊢
    cases e2 : f a s1 with
    | ok b s2 => rw [e2] at h; exact fun O2 H2 x2 q2 => h O2 H2 (x1.trans q1 x2) q2
    | exc b s2 => rw [e2] at h; exact fun O2 H2 x2 q2 => h O2 H2 (x1.trans q1 x2) q2
    | bad => rw [e2] at h; exact h
  | exc b s1 => rw [e] at h; exact h
  | bad => rw [e] at h; exact h
theorem Post.ret {a : α} {s : S} {R : α → S → Ow → Hp → Prop} {X : D → S → Ow → Hp → Prop} (h : Post K mg O H (ret a s) R X) (q : RelS K mg O H s) : R a s O H := h O H .refl q
end
end Md

set_option Elab.async false
set_option linter.all false
set_option maxRecDepth 100000
/-! Md1: readings of expressions, arguments, tests, statements by plain functions; the general rules. -/
namespace Md
open PySem PySem.Spec PyProof.Rows L2

abbrev Rs := List (Option D)
abbrev W0 : WX := fun _ _ _ _ => False

section
variable (K : PySem.W.Frag) (mg : Str → Option Value)
/-- an exception in the air: its class, what its own dict holds -/
def EV (O : Ow) (H : Hp) (e : D) (cls : Value) (dd : Option Addr) : Prop :=
  ∃ c ns vs C, e = .exc c ns vs ∧ mg c = some (.ref C) ∧ cls = .ref C ∧
    ((ns = [] ∧ vs = [] ∧ dd = none) ∨ ∃ d fs, dd = some d ∧ O.fz d ∧ H d = some (.xd fs) ∧ Flds K mg O H (ns.zip vs) fs)
abbrev XW (W : WX) (sg : L2.St) : D → S → Ow → Hp → Prop := fun e _ O H => ∀ c dd, EV K mg O H e c dd → W c dd sg H
def tM (W : WX) (f : Rs → M D) : TE := fun sg H Q => ∃ O env s, RelE K mg O H env sg ∧ RelS K mg O H s ∧
  Post K mg O H (f env s) (fun d _ O' H' => ∀ v, DV K mg O' H' d v → Q v H') (XW K mg W sg)
def tMA (W : WX) (f : Rs → M (List D)) : TA := fun sg H Q => ∃ O env s, RelE K mg O H env sg ∧ RelS K mg O H s ∧
  Post K mg O H (f env s) (fun ds _ O' H' => ∀ vs, DVs K mg O' H' ds vs → Q vs H') (XW K mg W sg)
def tMT (W : WX) (f : Rs → M Bool) : TT := fun sg H Q => ∃ O env s, RelE K mg O H env sg ∧ RelS K mg O H s ∧
  Post K mg O H (f env s) (fun b _ O' H' => Q b H') (XW K mg W sg)
end
abbrev RE (X : Cx) (W : WX) (e : Expr) (f : Rs → M D) : Prop := PE X e (tM X.K X.mg W f)
abbrev RA (X : Cx) (W : WX) (es : List Expr) (f : Rs → M (List D)) : Prop := PA X es (tMA X.K X.mg W f)
abbrev RT (X : Cx) (W : WX) (e : Expr) (f : Rs → M Bool) : Prop := PT X e (tMT X.K X.mg W f)
abbrev RW (X : Cx) (W : WX) (e : Expr) (f : Rs → M Bool) : Prop := PW X e (tMT X.K X.mg W f)
theorem pe_weak {X : Cx} {e : Expr} {t t' : TE} (h : PE X e t) (w : ∀ sg H Q, t' sg H Q → t sg H Q) : PE X e t' := ⟨fun pins s sg H Q I q => h.run pins s sg H Q I (w _ _ _ q)⟩
theorem pt_weak {X : Cx} {e : Expr} {t t' : TT} (h : PT X e t) (w : ∀ sg H Q, t' sg H Q → t sg H Q) : PT X e t' := ⟨fun pins s sg H Q I q => h.run pins s sg H Q I (w _ _ _ q)⟩
theorem pw_weak {X : Cx} {e : Expr} {t t' : TT} (h : PW X e t) (w : ∀ sg H Q, t' sg H Q → t sg H Q) : PW X e t' := ⟨fun wh pins s sg H Q I q => h.run wh pins s sg H Q I (w _ _ _ q)⟩
theorem pa_weak {X : Cx} {es : List Expr} {t t' : TA} (h : PA X es t) (w : ∀ sg H Q, t' sg H Q → t sg H Q) : PA X es t' := ⟨fun p pins s sg H Q I q => h.run p pins s sg H Q I (w _ _ _ q)⟩
theorem ps_weak {X : Cx} {e : Stmt} {t t' : TS} (h : PS X e t) (w : ∀ D sg H, t' D sg H → t D sg H) : PS X e t' := ⟨fun pins s sg H D I q => h.run pins s sg H D I (w _ _ _ q)⟩
theorem pss_weak {X : Cx} {e : List Stmt} {t t' : TS} (h : PSs X e t) (w : ∀ D sg H, t' D sg H → t D sg H) : PSs X e t' := ⟨fun pins s sg H D I q => h.run pins s sg H D I (w _ _ _ q)⟩

section
variable {X : Cx} {W : WX} {a b c : Expr} {fa fb fc : Rs → M D} {pos : Pos}
theorem RelE.get {K : PySem.W.Frag} {mg : Str → Option Value} {O : Ow} {H : Hp} : ∀ {env : Rs} {sg : L2.St}, RelE K mg O H env sg → ∀ {i : Nat} {d : D}, env[i]? = some (some d) → ∃ v, sg[i]? = some (some v) ∧ DV K mg O H d v
  | _, _, .nil, i, d, e => by simp at e
  | _, _, .no t, 0, d, e => by simp at e
  | _, _, .no t, i + 1, d, e => by simpa using RelE.get t (i := i) (by simpa using e)
  | _, _, .yes h t, 0, d, e => by
    have e' := (Option.some.inj (Option.some.inj (by simpa using e)))
    subst e'
    exact ⟨_, rfl, h⟩
  | _, _, .yes h t, i + 1, d, e => by simpa using RelE.get t (i := i) (by simpa using e)
/-- a slot's value -/
def vr (i : Nat) : Rs → M D := fun env => match env[i]? with
  | some (some d) => ret d
  | _ => bad
theorem re_var (i : Nat) {x : Str} (hN : X.N[i]? = some x := by rfl) (hv : Vis X.env.scope x := by first | exact Or.inl rfl | exact Or.inr (Or.inl rfl) | exact Or.inr (Or.inr rfl))
    (hd : (x == ("__debug__" : Str)) = false := by decide) (hcd : (x == ("__classdict__" : Str)) = false := by decide) : RE X W (.Name x pos) (vr i) := by
  refine pe_weak (pe_var hN hv hd hcd) fun sg H Q ⟨O, env, s, hE, hS, hP⟩ => ?_
  cases e : env[i]? with
  | none => simp only [vr, e] at hP; exact hP.elim
  | some o =>
    cases o with
    | none => simp only [vr, e] at hP; exact hP.elim
    | some d =>
      simp only [vr, e] at hP
      obtain ⟨v, e2, dv⟩ := hE.get e
      exact ⟨v, e2, hP.ret hS v dv⟩
def cst (d : D) : Rs → M D := fun _ => ret d
theorem re_cst {d : D} {v : V} (h : PE X a (tC v)) (hd : ∀ O H, DV X.K X.mg O H d v) : RE X W a (cst d) :=
  pe_weak h fun sg H Q ⟨O, env, s, hE, hS, hP⟩ => hP.ret hS v (hd _ _)
theorem re_int {i : Int} {j : Nat} : RE X W (.Constant (.int i) j pos) (cst (.int i)) := re_cst pe_int fun _ _ => .int i
theorem re_bl {k : Bool} {j : Nat} : RE X W (.Constant (.bool k) j pos) (cst (.bl k)) := re_cst pe_bl fun _ _ => .bl k
theorem re_non {j : Nat} : RE X W (.Constant .none j pos) (cst .non) := re_cst pe_non fun _ _ => .non
theorem re_str {x : Str} {j : Nat} : RE X W (.Constant (.str x) j pos) (cst (.str x)) := re_cst pe_str fun _ _ => .str x

/-! ### operators -/
def OpOk (K : PySem.W.Frag) (mg : Str → Option Value) (r : R2) (g : D → D → M D) : Prop := ∀ (O : Ow) (H : Hp) (s : S) (d1 d2 : D) (v w : V) (Q : VK) (X' : D → S → Ow → Hp → Prop), RelS K mg O H s → DV K mg O H d1 v → DV K mg O H d2 w →
  Post K mg O H (g d1 d2 s) (fun d _ O' H' => ∀ u, DV K mg O' H' d u → Q u H') X' → r v w H Q
def op2 (g : D → D → M D) (fa fb : Rs → M D) : Rs → M D := fun env => bnd (fa env) fun x => bnd (fb env) fun y => g x y
/-- two in a row -/
theorem two {K : PySem.W.Frag} {mg : Str → Option Value} {sg : L2.St} {H : Hp} {O : Ow} {env : Rs} {s : S} {α : Type} {g : D → D → M α} {R : α → S → Ow → Hp → Prop} {R2 : V → V → Hp → Prop} (hE : RelE K mg O H env sg) (hS : RelS K mg O H s)
    (hP : Post K mg O H (bnd (fa env) (fun x => bnd (fb env) fun y => g x y) s) R (XW K mg W sg))
    (h : ∀ O' H' s' d1 d2 v w, RelE K mg O' H' env sg → RelS K mg O' H' s' → DV K mg O' H' d1 v → DV K mg O' H' d2 w → Post K mg O' H' (g d1 d2 s') R (XW K mg W sg) → R2 v w H') :
    tM K mg W fa sg H fun x H1 => tM K mg W fb sg H1 fun y H2 => R2 x y H2 := by
  refine ⟨O, env, s, hE, hS, hP.split.imp (fun d1 s1 O1 H1 _ x1 q1 p1 v dv => ?_) fun _ _ _ _ _ _ z => z⟩
  refine ⟨O1, env, s1, hE.mono x1.toMono, q1, p1.split.imp (fun d2 s2 O2 H2 _ x2 q2 p2 w dw => ?_) fun _ _ _ _ _ _ z => z⟩
  exact h O2 H2 s2 d1 d2 v w (hE.mono (x1.toMono.trans x2.toMono)) q2 (dv.mono x2.toMono) dw p2
theorem re_op {op : Operator} {r : R2} {g : D → D → M D} (ho : OpR X (binaryOp op) r) (hg : OpOk X.K X.mg r g) (ha : RE X W a fa) (hb : RE X W b fb) : RE X W (.BinOp a op b pos) (op2 g fa fb) := by
  refine pe_weak (pe_op ho ha hb) fun sg H Q ⟨O, env, s, hE, hS, hP⟩ => ?_
  exact two hE hS hP fun O' H' s' d1 d2 v w _ q dv dw p => hg O' H' s' d1 d2 v w Q _ q dv dw p
theorem re_cmp {op : CmpOp} {r : R2} {g : D → D → M D} (ho : OpR X (compareOp op) r) (hg : OpOk X.K X.mg r g) (ha : RE X W a fa) (hb : RE X W b fb) (hm : behindInMarks op b = false := by rfl) : RE X W (.Compare a [op] [b] pos) (op2 g fa fb) := by
  refine pe_weak (pe_cmpR ho ha hb hm) fun sg H Q ⟨O, env, s, hE, hS, hP⟩ => ?_
  exact two hE hS hP fun O' H' s' d1 d2 v w _ q dv dw p => hg O' H' s' d1 d2 v w Q _ q dv dw p
/-- a value's bool -/
def toB (f : Rs → M D) : Rs → M Bool := fun env => bnd (f env) fun d => match d with
  | .bl k => ret k
  | _ => bad
theorem rt_cmp {op : CmpOp} {r : R2} {g : D → D → M D} (ho : OpR X (compareOp op) r) (hg : OpOk X.K X.mg r g) (ha : RE X W a fa) (hb : RE X W b fb) (hm : behindInMarks op b = false := by rfl) : RT X W (.Compare a [op] [b] pos) (toB (op2 g fa fb)) := by
  refine pt_weak (pt_cmpR ho ha hb hm) fun sg H Q ⟨O, env, s, hE, hS, hP⟩ => ?_
  have hP' := hP.split
  have hP2 : Post X.K X.mg O H (bnd (fa env) (fun x => bnd (fb env) fun y => g x y) s) (fun d s1 O1 H1 => Post X.K X.mg O1 H1 ((match d with | .bl k => ret k | _ => bad : M Bool) s1) (fun b _ O' H' => Q b H') (XW X.K X.mg W sg)) (XW X.K X.mg W sg) := hP'
  refine two hE hS hP2 fun O' H' s' d1 d2 v w _ q dv dw p => hg O' H' s' d1 d2 v w _ (XW X.K X.mg W sg) q dv dw (p.imp (fun d s2 O2 H2 _ x2 q2 p2 u du => ?_) fun _ _ _ _ _ _ z => z)
  cases d with
  | bl k => cases du; exact ⟨k, rfl, p2.ret q2⟩
  | _ => exact p2.elim
theorem rt_val {fe : Rs → M D} {e : Expr} (h : RE X W e fe) (he : ∀ whole, isTrue e X.env whole = (do let v ← whole; standAt e.pos; holding [v] (truthy v)) := by intro _; rfl) : RT X W e (toB fe) := by
  refine pt_weak (pt_val h he) fun sg H Q ⟨O, env, s, hE, hS, hP⟩ => ?_
  refine ⟨O, env, s, hE, hS, hP.split.imp (fun d s2 O2 H2 _ x2 q2 p2 u du => ?_) fun _ _ _ _ _ _ z => z⟩
  cases d with
  | bl k => cases du; exact ⟨k, rfl, p2.ret q2⟩
  | _ => exact p2.elim

/-! ### and, or, not -/
variable {ga gb : Rs → M Bool} {rest : List Expr}
def andB (f g : Rs → M Bool) : Rs → M Bool := fun env => bnd (f env) fun k => if k = true then g env else ret false
def orB (f g : Rs → M Bool) : Rs → M Bool := fun env => bnd (f env) fun k => if k = true then ret true else g env
def notB (f : Rs → M Bool) : Rs → M Bool := fun env => bnd (f env) fun k => ret (!k)
theorem rw_and1 (ha : RT X W a ga) : RW X W (.BoolOp .And [a] pos) ga := pw_and1 ha
theorem rw_or1 (ha : RT X W a ga) : RW X W (.BoolOp .Or [a] pos) ga := pw_or1 ha
theorem rw_and (ha : RT X W a ga) (hb : RW X W (.BoolOp .And (b :: rest) pos) gb) : RW X W (.BoolOp .And (a :: b :: rest) pos) (andB ga gb) := by
  refine pw_weak (pw_and ha hb) fun sg H Q ⟨O, env, s, hE, hS, hP⟩ => ?_
  refine ⟨O, env, s, hE, hS, hP.split.imp (fun k s2 O2 H2 _ x2 q2 p2 => ?_) fun _ _ _ _ _ _ z => z⟩
  cases k with
  | true => exact ⟨O2, env, s2, hE.mono x2.toMono, q2, p2⟩
  | false => exact p2.ret q2
theorem rw_or (ha : RT X W a ga) (hb : RW X W (.BoolOp .Or (b :: rest) pos) gb) : RW X W (.BoolOp .Or (a :: b :: rest) pos) (orB ga gb) := by
  refine pw_weak (pw_or ha hb) fun sg H Q ⟨O, env, s, hE, hS, hP⟩ => ?_
  refine ⟨O, env, s, hE, hS, hP.split.imp (fun k s2 O2 H2 _ x2 q2 p2 => ?_) fun _ _ _ _ _ _ z => z⟩
  cases k with
  | true => exact p2.ret q2
  | false => exact ⟨O2, env, s2, hE.mono x2.toMono, q2, p2⟩
theorem rt_bop (h : RW X W a ga) : RT X W a ga := h.pt
theorem rt_not (ha : RT X W a ga) : RT X W (.UnaryOp .Not a pos) (notB ga) := by
  refine pt_weak (pt_not ha) fun sg H Q ⟨O, env, s, hE, hS, hP⟩ => ?_
  exact ⟨O, env, s, hE, hS, hP.split.imp (fun k s2 O2 H2 _ x2 q2 p2 => p2.ret q2) fun _ _ _ _ _ _ z => z⟩
/-- .. as values, bools all -/
def bv (f : Rs → M Bool) : Rs → M D := fun env => bnd (f env) fun k => ret (.bl k)
def andV (fa fb : Rs → M D) : Rs → M D := fun env => bnd (fa env) fun d => match d with
  | .bl true => fb env
  | .bl false => ret (.bl false)
  | _ => bad
def orV (fa fb : Rs → M D) : Rs → M D := fun env => bnd (fa env) fun d => match d with
  | .bl true => ret (.bl true)
  | .bl false => fb env
  | _ => bad
def notV (fa : Rs → M D) : Rs → M D := fun env => bnd (fa env) fun d => match d with
  | .bl k => ret (.bl (!k))
  | _ => bad
theorem re_one {op : PySem.BoolOp} (ha : RE X W a fa) : RE X W (.BoolOp op [a] pos) fa := pe_one ha
theorem re_and (ha : RE X W a fa) (hb : RE X W (.BoolOp .And (b :: rest) pos) fb) : RE X W (.BoolOp .And (a :: b :: rest) pos) (andV fa fb) := by
  refine pe_weak (pe_and ha hb) fun sg H Q ⟨O, env, s, hE, hS, hP⟩ => ?_
  refine ⟨O, env, s, hE, hS, hP.split.imp (fun d s2 O2 H2 _ x2 q2 p2 u du => ?_) fun _ _ _ _ _ _ z => z⟩
  cases d with
  | bl k =>
    cases du
    cases k with
    | true => exact ⟨true, rfl, O2, env, s2, hE.mono x2.toMono, q2, p2⟩
    | false => exact ⟨false, rfl, p2.ret q2 _ (.bl false)⟩
  | _ => exact p2.elim
theorem re_or (ha : RE X W a fa) (hb : RE X W (.BoolOp .Or (b :: rest) pos) fb) : RE X W (.BoolOp .Or (a :: b :: rest) pos) (orV fa fb) := by
  refine pe_weak (pe_or ha hb) fun sg H Q ⟨O, env, s, hE, hS, hP⟩ => ?_
  refine ⟨O, env, s, hE, hS, hP.split.imp (fun d s2 O2 H2 _ x2 q2 p2 u du => ?_) fun _ _ _ _ _ _ z => z⟩
  cases d with
  | bl k =>
    cases du
    cases k with
    | true => exact ⟨true, rfl, p2.ret q2 _ (.bl true)⟩
    | false => exact ⟨false, rfl, O2, env, s2, hE.mono x2.toMono, q2, p2⟩
  | _ => exact p2.elim
theorem re_not (ha : RE X W a fa) : RE X W (.UnaryOp .Not a pos) (notV fa) := by
  refine pe_weak (pe_not ha) fun sg H Q ⟨O, env, s, hE, hS, hP⟩ => ?_
  refine ⟨O, env, s, hE, hS, hP.split.imp (fun d s2 O2 H2 _ x2 q2 p2 u du => ?_) fun _ _ _ _ _ _ z => z⟩
  cases d with
  | bl k => cases du; exact ⟨k, rfl, p2.ret q2 _ (.bl _)⟩
  | _ => exact p2.elim
def ifV (g : Rs → M Bool) (fa fb : Rs → M D) : Rs → M D := fun env => bnd (g env) fun k => if k = true then fa env else fb env
theorem re_if {e : Expr} {ge : Rs → M Bool} (he : RT X W e ge) (ha : RE X W a fa) (hb : RE X W b fb) : RE X W (.IfExp e a b pos) (ifV ge fa fb) := by
  refine pe_weak (pe_ifExp he ha hb) fun sg H Q ⟨O, env, s, hE, hS, hP⟩ => ?_
  refine ⟨O, env, s, hE, hS, hP.split.imp (fun k s2 O2 H2 _ x2 q2 p2 => ?_) fun _ _ _ _ _ _ z => z⟩
  cases k with
  | true => exact ⟨O2, env, s2, hE.mono x2.toMono, q2, p2⟩
  | false => exact ⟨O2, env, s2, hE.mono x2.toMono, q2, p2⟩
/-- a op b op' c -/
def chn (g g' : D → D → M D) (fa fb fc : Rs → M D) : Rs → M D := fun env => bnd (fa env) fun x => bnd (fb env) fun y => bnd (g x y) fun z => match z with
  | .bl true => bnd (fc env) fun u => g' y u
  | .bl false => ret (.bl false)
  | _ => bad
theorem chain_ok {K : PySem.W.Frag} {mg : Str → Option Value} {r r' : R2} {g g' : D → D → M D} (hg : OpOk K mg r g) (hg' : OpOk K mg r' g') {sg : L2.St} {H : Hp} {Q : VK} (h : tM K mg W (chn g g' fa fb fc) sg H Q) : tChain r r' (tM K mg W fa) (tM K mg W fb) (tM K mg W fc) sg H Q := by
  obtain ⟨O, env, s, hE, hS, hP⟩ := h
  unfold tChain
  have hP2 : Post K mg O H (bnd (fa env) (fun x => bnd (fb env) fun y => bnd (g x y) fun z => (match z with
    | .bl true => bnd (fc env) fun u => g' y u
    | .bl false => ret (.bl false)
    | _ => bad : M D)) s) (fun d _ O' H' => ∀ v, DV K mg O' H' d v → Q v H') (XW K mg W sg) := hP
  refine two hE hS hP2 fun O' H' s' d1 d2 v w hE' q dv dw p => hg O' H' s' d1 d2 v w _ _ q dv dw (p.split.imp (fun z s2 O2 H2 _ x2 q2 p2 u du => ?_) fun _ _ _ _ _ _ z => z)
  cases z with
  | bl k =>
    cases du
    cases k with
    | true =>
      refine ⟨true, rfl, ?_⟩
      rw [if_pos rfl]
      refine ⟨O2, env, s2, hE'.mono x2.toMono, q2, p2.split.imp (fun d3 s3 O3 H3 _ x3 q3 p3 u3 du3 => ?_) fun _ _ _ _ _ _ z => z⟩
      exact hg' O3 H3 s3 d2 d3 w u3 Q _ q3 ((dw.mono x2.toMono).mono x3.toMono) du3 p3
    | false =>
      refine ⟨false, rfl, ?_⟩
      rw [if_neg Bool.false_ne_true]
      exact p2.ret q2 _ (.bl false)
  | _ => exact p2.elim
theorem re_chain {op op' : CmpOp} {r r' : R2} {g g' : D → D → M D} (ho : OpR X (compareOp op) r) (ho' : OpR X (compareOp op') r') (hg : OpOk X.K X.mg r g) (hg' : OpOk X.K X.mg r' g') (ha : RE X W a fa) (hb : RE X W b fb) (hc : RE X W c fc)
    (hm : lastMarks [op, op'] [b, c] = false := by rfl) : RE X W (.Compare a [op, op'] [b, c] pos) (chn g g' fa fb fc) :=
  pe_weak (pe_chain ho ho' ha hb hc hm) fun _ _ _ h => chain_ok hg hg' h

/-! ### arguments, displays -/
def aNil : Rs → M (List D) := fun _ => ret []
def aCons (f : Rs → M D) (g : Rs → M (List D)) : Rs → M (List D) := fun env => bnd (f env) fun d => bnd (g env) fun ds => ret (d :: ds)
theorem ra_nil : RA X W [] aNil := pa_weak pa_nil fun _ _ _ ⟨O, env, s, hE, hS, hP⟩ => hP.ret hS _ .nil
theorem ra_cons {e : Expr} {es : List Expr} {f : Rs → M D} {g : Rs → M (List D)} (he : RE X W e f) (hs : RA X W es g) (hst : starEach (e :: es) X.env = (false, eval e X.env) :: starEach es X.env := by rfl) : RA X W (e :: es) (aCons f g) := by
  refine pa_weak (pa_cons he hs hst) fun sg H Q ⟨O, env, s, hE, hS, hP⟩ => ?_
  refine ⟨O, env, s, hE, hS, hP.split.imp (fun d s2 O2 H2 _ x2 q2 p2 u du => ?_) fun _ _ _ _ _ _ z => z⟩
  refine ⟨O2, env, s2, hE.mono x2.toMono, q2, p2.split.imp (fun ds s3 O3 H3 _ x3 q3 p3 us dus => ?_) fun _ _ _ _ _ _ z => z⟩
  exact p3.ret q3 _ (.cons (du.mono x3.toMono) dus)
end

/-! ### new things -/
section
variable {K : PySem.W.Frag} {mg : Str → Option Value} {O : Ow} {H : Hp} {s : S} {p : Addr} {ds : List D} {vs : List V}
theorem DVs.length : ∀ {ds : List D} {vs : List V}, DVs K mg O H ds vs → ds.length = vs.length
  | _, _, .nil => rfl
  | _, _, .cons _ t => by simp [DVs.length t]
theorem notMu (r : RelS K mg O H s) (hp : H p = none) : p ∉ O.mu := fun hm => by
  obtain ⟨u, e, _⟩ := r.there hm
  rw [hp] at e; cases e
theorem notFz (r : RelS K mg O H s) (hp : H p = none) : ¬ O.fz p := fun hf => by
  obtain ⟨u, e⟩ := r.fzs p hf
  rw [hp] at e; cases e
theorem upd_new {o : HO} {b : Addr} {u : HO} (hp : H p = none) (e : H b = some u) : upd H p o b = some u := by
  rw [upd_ne (by rintro rfl; rw [hp] at e; cases e)]; exact e
/-- a new thing that is not the store's -/
theorem new_else {o : HO} (r : RelS K mg O H s) (hp : H p = none) : Ext O H O (upd H p o) ∧ RelS K mg O (upd H p o) s := by
  have m : Mono O H O (upd H p o) := ⟨⟨[], by simp⟩, fun _ h => h, fun a u _ e => upd_new hp e, fun a xs e => upd_new hp e, fun a o u e => upd_new hp e⟩
  refine ⟨⟨m, fun a u e _ => upd_new hp e, fun a h => .inl h⟩, r.len, r.nd, r.sep, fun n a o' e1 e2 => ?_, fun a h => ?_⟩
  · refine (r.obs n a o' e1 e2).mono m (upd_ne ?_)
    rintro rfl
    exact notMu r hp (List.mem_of_getElem? e1)
  · obtain ⟨u, e⟩ := r.fzs a h
    exact ⟨u, upd_new hp e⟩
theorem new_tup (r : RelS K mg O H s) (hp : H p = none) (dv : DVs K mg O H ds vs) : Ext O H O (upd H p (.tup vs)) ∧ RelS K mg O (upd H p (.tup vs)) s ∧ DV K mg O (upd H p (.tup vs)) (.tup ds) (.ref p) := by
  obtain ⟨x, q⟩ := new_else (o := .tup vs) r hp
  exact ⟨x, q, .tup (.inl upd_same) (dv.mono x.toMono)⟩
/-- one more thing that stays as it is -/
abbrev Ow.fix (O : Ow) (p : Addr) : Ow := ⟨O.mu, fun a => O.fz a ∨ a = p⟩
theorem new_fix {o : HO} (r : RelS K mg O H s) (hp : H p = none) : Ext O H (O.fix p) (upd H p o) ∧ RelS K mg (O.fix p) (upd H p o) s := by
  have m : Mono O H (O.fix p) (upd H p o) := ⟨⟨[], by simp⟩, fun _ h => .inl h, fun a u _ e => upd_new hp e, fun a xs e => upd_new hp e, fun a o u e => upd_new hp e⟩
  refine ⟨⟨m, fun a u e _ => upd_new hp e, fun a h => ?_⟩, r.len, r.nd, fun a hm h => ?_, fun n a o' e1 e2 => ?_, fun a h => ?_⟩
  · rcases h with h | h | h
    · exact .inl (.inl h)
    · exact .inl (.inr h)
    · exact .inr (by rw [h]; exact hp)
  · rcases h with h | h
    · exact r.sep a hm h
    · rw [h] at hm; exact notMu r hp hm
  · refine (r.obs n a o' e1 e2).mono m (upd_ne ?_)
    rintro rfl
    exact notMu r hp (List.mem_of_getElem? e1)
  · rcases h with h | h
    · obtain ⟨u, e⟩ := r.fzs a h
      exact ⟨u, upd_new hp e⟩
    · exact ⟨o, by rw [h]; exact upd_same⟩
theorem new_lst (r : RelS K mg O H s) (hp : H p = none) (dv : DVs K mg O H ds vs) : Ext O H (O.fix p) (upd H p (.lst vs)) ∧ RelS K mg (O.fix p) (upd H p (.lst vs)) s ∧ DV K mg (O.fix p) (upd H p (.lst vs)) (.lst ds) (.ref p) := by
  obtain ⟨x, q⟩ := new_fix (o := .lst vs) r hp
  exact ⟨x, q, .lst ⟨.inr rfl, upd_same⟩ (dv.mono x.toMono)⟩
/-- a new object of the store -/
abbrev Ow.add (O : Ow) (p : Addr) : Ow := ⟨O.mu ++ [p], O.fz⟩
theorem new_ob {o : HO} {b : Ob} (r : RelS K mg O H s) (hp : H p = none) (hv : ∀ m : Mono O H (O.add p) (upd H p o), OV K mg (O.add p) (upd H p o) p b) : Ext O H (O.add p) (upd H p o) ∧ RelS K mg (O.add p) (upd H p o) (s ++ [b]) ∧ DV K mg (O.add p) (upd H p o) (.ref s.length) (.ref p) := by
  have m : Mono O H (O.add p) (upd H p o) := ⟨⟨[p], rfl⟩, fun _ h => h, fun a u _ e => upd_new hp e, fun a xs e => upd_new hp e, fun a o u e => upd_new hp e⟩
  have hv := hv m
  have nm := notMu r hp
  refine ⟨⟨m, fun a u e _ => upd_new hp e, fun a h => ?_⟩, ⟨by simp [r.len], ?_, fun a hm h => ?_, fun n a o' e1 e2 => ?_, fun a h => ?_⟩, .ref ?_⟩
  · rcases h with h | h
    · rcases List.mem_append.mp h with h | h
      · exact .inl (.inl h)
      · exact .inr (by rw [List.mem_singleton.mp h]; exact hp)
    · exact .inl (.inr h)
  · refine List.nodup_append.mpr ⟨r.nd, by simp, fun a ha b hb e => ?_⟩
    rw [List.mem_singleton.mp hb] at e
    exact nm (e ▸ ha)
  · rcases List.mem_append.mp hm with hm | hm
    · exact r.sep a hm h
    · rw [List.mem_singleton.mp hm] at h; exact notFz r hp h
  · by_cases hn : n < O.mu.length
    · have e1' : O.mu[n]? = some a := by rw [← e1]; exact (List.getElem?_append_left hn).symm
      have e2' : s[n]? = some o' := by rw [← e2]; exact (List.getElem?_append_left (by rw [← r.len]; exact hn)).symm
      refine (r.obs n a o' e1' e2').mono m (upd_ne ?_)
      rintro rfl
      exact nm (List.mem_of_getElem? e1')
    · have e3 : n = O.mu.length := by
        have := (List.getElem?_eq_some_iff.mp e1).1
        simp at this
        omega
      subst e3
      have e1' : p = a := by simpa using e1
      have e2' : b = o' := by rw [r.len] at e2; simpa using e2
      subst e1'; subst e2'
      exact hv
  · obtain ⟨u, e⟩ := r.fzs a h
    exact ⟨u, upd_new hp e⟩
  · rw [← r.len]; simp
theorem new_mut (r : RelS K mg O H s) (hp : H p = none) (dv : DVs K mg O H ds vs) : Ext O H (O.add p) (upd H p (.lst vs)) ∧ RelS K mg (O.add p) (upd H p (.lst vs)) (s ++ [.lst ds]) ∧ DV K mg (O.add p) (upd H p (.lst vs)) (.ref s.length) (.ref p) :=
  new_ob r hp fun m => ⟨vs, upd_same, dv.mono m⟩
/-- an object of the store becomes another thing -/
theorem set_ob {o : HO} {b : Ob} {n : Nat} {a : Addr} (r : RelS K mg O H s) (ha : O.mu[n]? = some a) (nz : ∀ x y, H a ≠ some (.frz x y)) (hv : ∀ m : Mono O H O (upd H a o), OV K mg O (upd H a o) a b) : Ext O H O (upd H a o) ∧ RelS K mg O (upd H a o) (s.set n b) := by
  have hm : a ∈ O.mu := List.mem_of_getElem? ha
  obtain ⟨u0, eu, nt⟩ := r.there hm
  have m : Mono O H O (upd H a o) := ⟨⟨[], by simp⟩, fun _ h => h, fun c u f e => by rw [upd_ne (by rintro rfl; exact r.sep _ hm f)]; exact e, fun c xs e => by rw [upd_ne (by rintro rfl; rw [eu] at e; exact nt xs (Option.some.inj e))]; exact e, fun c x y e => by rw [upd_ne (by rintro rfl; exact nz x y e)]; exact e⟩
  have hv := hv m
  refine ⟨⟨m, fun c u e nc => by rw [upd_ne (by rintro rfl; exact nc hm)]; exact e, fun c h => .inl h⟩, by simp [r.len], r.nd, r.sep, fun k c o' e1 e2 => ?_, fun c h => ?_⟩
  · by_cases hk : k = n
    · subst hk
      rw [ha] at e1; cases e1
      have hlt : k < s.length := by rw [← r.len]; exact (List.getElem?_eq_some_iff.mp ha).1
      rw [List.getElem?_set_self hlt] at e2; cases e2
      exact hv
    · rw [List.getElem?_set_ne (Ne.symm hk)] at e2
      refine (r.obs k c o' e1 e2).mono m (upd_ne ?_)
      rintro rfl
      obtain ⟨hk1, ek⟩ := List.getElem?_eq_some_iff.mp e1
      obtain ⟨hn1, en⟩ := List.getElem?_eq_some_iff.mp ha
      exact hk ((List.getElem_inj r.nd).mp (ek.trans en.symm))
  · obtain ⟨u, e⟩ := r.fzs c h
    by_cases hc : c = a
    · exact ⟨o, by rw [hc]; exact upd_same⟩
    · exact ⟨u, by rw [upd_ne hc]; exact e⟩
theorem DV.ob (r : RelS K mg O H s) {n : Nat} {v : V} {o : Ob} (h : DV K mg O H (.ref n) v) (e : s[n]? = some o) : ∃ a, v = .ref a ∧ O.mu[n]? = some a ∧ OV K mg O H a o := by
  cases h with
  | ref ha => exact ⟨_, rfl, ha, r.obs _ _ _ ha e⟩
end
end Md

set_option Elab.async false
set_option linter.all false
set_option maxRecDepth 100000
/-! Md2: statements, loops, comprehensions, defs. -/
namespace Md
open PySem PySem.Spec PyProof.Rows L2

inductive SR where
  | nx (e : Rs) (s : S) | rt (d : D) (s : S) | bk (e : Rs) (s : S) | ct (e : Rs) (s : S) | exc (x : D) (e : Rs) (s : S) | bad
abbrev SM := Rs → S → SR
section
variable (K : PySem.W.Frag) (mg : Str → Option Value)
def PostS (O : Ow) (H : Hp) (r : SR) (E : Ends) (W : WX) : Prop := match r with
  | .nx e s => ∀ O' H' sg, Ext O H O' H' → RelS K mg O' H' s → RelE K mg O' H' e sg → E.nx sg H'
  | .bk e s => ∀ O' H' sg, Ext O H O' H' → RelS K mg O' H' s → RelE K mg O' H' e sg → E.bk sg H'
  | .ct e s => ∀ O' H' sg, Ext O H O' H' → RelS K mg O' H' s → RelE K mg O' H' e sg → E.ct sg H'
  | .rt d s => ∀ O' H' v, Ext O H O' H' → RelS K mg O' H' s → DV K mg O' H' d v → E.rt v H'
  | .exc x e s => ∀ O' H' sg c dd, Ext O H O' H' → RelS K mg O' H' s → RelE K mg O' H' e sg → EV K mg O' H' x c dd → W c dd sg H'
  | .bad => False
def tMS (W : WX) (g : SM) : TS := fun E sg H => ∃ O env s, RelE K mg O H env sg ∧ RelS K mg O H s ∧ PostS K mg O H (g env s) E W
end
abbrev RS (X : Cx) (W : WX) (st : Stmt) (g : SM) : Prop := PS X st (tMS X.K X.mg W g)
abbrev RSs (X : Cx) (W : WX) (sts : List Stmt) (g : SM) : Prop := PSs X sts (tMS X.K X.mg W g)
/-- an expression first -/
def thn {α : Type} (f : Rs → M α) (k : α → SM) : SM := fun env s => match f env s with
  | .ok a s' => k a env s'
  | .exc x s' => .exc x env s'
  | .bad => .bad
def skp : SM := fun env s => .nx env s
def seq (g h : SM) : SM := fun env s => match g env s with
  | .nx e s' => h e s'
  | r => r
section
variable {K : PySem.W.Frag} {mg : Str → Option Value} {O O' : Ow} {H H' : Hp} {W : WX} {E : Ends} {sg : L2.St} {env : Rs} {s : S}
theorem PostS.ext {r : SR} (h : PostS K mg O H r E W) (x : Ext O H O' H') {s' : S} (q : RelS K mg O' H' s') : PostS K mg O' H' r E W := by
  cases r with
  | nx e s => exact fun O2 H2 g x2 => h O2 H2 g (x.trans q x2)
  | bk e s => exact fun O2 H2 g x2 => h O2 H2 g (x.trans q x2)
  | ct e s => exact fun O2 H2 g x2 => h O2 H2 g (x.trans q x2)
  | rt d s => exact fun O2 H2 v x2 => h O2 H2 v (x.trans q x2)
  | exc d e s => exact fun O2 H2 g c dd x2 => h O2 H2 g c dd (x.trans q x2)
  | bad => exact h
/-- what an expression's part of a statement asks -/
theorem PostS.thn {α : Type} {f : Rs → M α} {k : α → SM} (hE : RelE K mg O H env sg) (h : PostS K mg O H (thn f k env s) E W) :
    Post K mg O H (f env s) (fun a s1 O1 H1 => PostS K mg O1 H1 (k a env s1) E W) (XW K mg W sg) := by
  unfold Md.thn at h
  cases e : f env s with
  | ok a s1 => rw [e] at h; exact fun O1 H1 x q => h.ext x q
  | exc d s1 => rw [e] at h; exact fun O1 H1 x q c dd ev => h O1 H1 sg c dd x q (hE.mono x.toMono) ev
  | bad => rw [e] at h; exact h
theorem Post.ext {α : Type} {r : Res α} {R : α → S → Ow → Hp → Prop} {X : D → S → Ow → Hp → Prop} (h : Post K mg O H r R X) (x : Ext O H O' H') {s' : S} (q : RelS K mg O' H' s') : Post K mg O' H' r R X := by
  cases r with
  | ok a s => exact fun O2 H2 x2 => h O2 H2 (x.trans q x2)
  | exc d s => exact fun O2 H2 x2 => h O2 H2 (x.trans q x2)
  | bad => exact h
end
section
variable {X : Cx} {W : WX} {a b c e : Expr} {fa fb : Rs → M D} {pos : Pos} {st : Stmt} {rest : List Stmt} {g h : SM}
theorem rss_nil : RSs X W [] skp := pss_weak pss_nil fun E sg H ⟨O, env, s, hE, hS, hP⟩ => hP O H sg .refl hS hE
theorem seq_ok {K : PySem.W.Frag} {mg : Str → Option Value} {E : Ends} {sg : L2.St} {H : Hp} (q : tMS K mg W (seq g h) E sg H) : tSeq (tMS K mg W g) (tMS K mg W h) E sg H := by
  obtain ⟨O, env, s, hE, hS, hP⟩ := q
  refine ⟨O, env, s, hE, hS, ?_⟩
  unfold seq at hP
  cases e : g env s with
  | nx e1 s1 => rw [e] at hP; exact fun O1 H1 sg1 x q r => ⟨O1, e1, s1, r, q, hP.ext x q⟩
  | bk e1 s1 => rw [e] at hP; exact hP
  | ct e1 s1 => rw [e] at hP; exact hP
  | rt d s1 => rw [e] at hP; exact hP
  | exc d e1 s1 => rw [e] at hP; exact hP
  | bad => rw [e] at hP; exact hP
theorem rss_cons (h1 : RS X W st g) (h2 : RSs X W rest h) : RSs X W (st :: rest) (seq g h) := pss_weak (pss_cons h1 h2) fun _ _ _ q => seq_ok q
theorem rss_one (h1 : RS X W st g) : RSs X W [st] g := pss_one h1
theorem rs_pass : RS X W (.Pass pos) skp := ps_weak ps_pass fun E sg H ⟨O, env, s, hE, hS, hP⟩ => hP O H sg .refl hS hE
def brk : SM := fun env s => .bk env s
def cnt : SM := fun env s => .ct env s
theorem rs_break : RS X W (.Break pos) brk := ps_weak ps_break fun E sg H ⟨O, env, s, hE, hS, hP⟩ => hP O H sg .refl hS hE
theorem rs_continue : RS X W (.Continue pos) cnt := ps_weak ps_continue fun E sg H ⟨O, env, s, hE, hS, hP⟩ => hP O H sg .refl hS hE
def drp (f : Rs → M D) : SM := thn f fun _ => skp
theorem rs_expr (he : RE X W e fa) (hs : swapsWith e none pos.line X.env = pure false := by rfl) : RS X W (.Expr e pos) (drp fa) := by
  refine ps_weak (ps_expr he hs) fun E sg H ⟨O, env, s, hE, hS, hP⟩ => ?_
  exact ⟨O, env, s, hE, hS, (hP.thn hE).imp (fun d s1 O1 H1 _ x q p v dv => p O1 H1 sg .refl q (hE.mono x.toMono)) fun _ _ _ _ _ _ z => z⟩
def rtn (f : Rs → M D) : SM := thn f fun d _ s => .rt d s
theorem rs_ret (he : RE X W e fa) : RS X W (.Return (some e) pos) (rtn fa) := by
  refine ps_weak (ps_ret he) fun E sg H ⟨O, env, s, hE, hS, hP⟩ => ?_
  exact ⟨O, env, s, hE, hS, (hP.thn hE).imp (fun d s1 O1 H1 _ x q p v dv => p O1 H1 v .refl q dv) fun _ _ _ _ _ _ z => z⟩
def rtN : SM := fun _ s => .rt .non s
theorem rs_retN : RS X W (.Return none pos) rtN := ps_weak ps_retN fun E sg H ⟨O, env, s, hE, hS, hP⟩ => hP O H .non .refl hS .non
def ifS (t : Rs → M Bool) (g h : SM) : SM := thn t fun k => if k = true then g else h
theorem rs_if {p q : List Stmt} {t : Rs → M Bool} (ht : RT X W c t) (hp : RSs X W p g) (hq : RSs X W q h) : RS X W (.If c p q pos) (ifS t g h) := by
  refine ps_weak (ps_if ht hp hq) fun E sg H ⟨O, env, s, hE, hS, hP⟩ => ?_
  refine ⟨O, env, s, hE, hS, (hP.thn hE).imp (fun k s1 O1 H1 _ x q p => ?_) fun _ _ _ _ _ _ z => z⟩
  cases k with
  | true => exact ⟨O1, env, s1, hE.mono x.toMono, q, p⟩
  | false => exact ⟨O1, env, s1, hE.mono x.toMono, q, p⟩

/-! ### targets -/
/-- the slots ws may turn -/
def PostG (K : PySem.W.Frag) (mg : Str → Option Value) (ws : List Nat) (sg0 : L2.St) (O : Ow) (H : Hp) (r : Res Rs) (Q : L2.St → Hp → Prop) : Prop := match r with
  | .ok e s => ∀ O' H' sg, Ext O H O' H' → RelS K mg O' H' s → RelE K mg O' H' e sg → wipe sg ws = wipe sg0 ws → Q sg H'
  | _ => False
theorem wipe_set_out {ws : List Nat} {i : Nat} {o : Option V} : ∀ {ws : List Nat} {sg : L2.St}, i ∉ ws → wipe (sg.set i o) ws = (wipe sg ws).set i o
  | [], _, _ => rfl
  | v :: vs, sg, h => by
    have h1 : i ≠ v := fun e => h (by simp [e])
    have h2 : i ∉ vs := fun e => h (by simp [e])
    show (wipe (sg.set i o) vs).set v none = ((wipe sg vs).set v none).set i o
    rw [wipe_set_out (ws := ws) h2, List.set_comm _ _ h1]
theorem wipe_set {i : Nat} {o : Option V} : ∀ {ws : List Nat} {sg : L2.St}, i ∈ ws → wipe (sg.set i o) ws = wipe sg ws
  | v :: vs, sg, h => by
    show (wipe (sg.set i o) vs).set v none = (wipe sg vs).set v none
    by_cases h2 : i ∈ vs
    · rw [wipe_set h2]
    · have e : i = v := by
        rcases List.mem_cons.mp h with e | e
        · exact e
        · exact absurd e h2
      subst e
      rw [wipe_set_out (ws := vs) h2, List.set_set]
/-- a target: how a value is put -/
abbrev TgM := D → Rs → M Rs
def tMG (K : PySem.W.Frag) (mg : Str → Option Value) (ws : List Nat) (t : TgM) : TG := fun v sg H Q => ∃ O env s d, RelE K mg O H env sg ∧ RelS K mg O H s ∧ DV K mg O H d v ∧ PostG K mg ws sg O H (t d env s) Q
abbrev RG (X : Cx) (ws : List Nat) (tg : Expr) (t : TgM) : Prop := PG X tg (tMG X.K X.mg ws t)
theorem pg_weak {t t' : TG} (h : PG X e t) (w : ∀ v sg H Q, t' v sg H Q → t v sg H Q) : PG X e t' := ⟨fun pins s sg H v u Q I r q => h.run pins s sg H v u Q I r (w _ _ _ _ q)⟩
theorem PostG.ext {K : PySem.W.Frag} {mg : Str → Option Value} {O O' : Ow} {H H' : Hp} {r : Res Rs} {ws : List Nat} {sg0 : L2.St} {Q : L2.St → Hp → Prop} (h : PostG K mg ws sg0 O H r Q) (x : Ext O H O' H') {s' : S} (q : RelS K mg O' H' s') : PostG K mg ws sg0 O' H' r Q := by
  cases r with
  | ok e s => exact fun O2 H2 g x2 => h O2 H2 g (x.trans q x2)
  | exc d s => exact h
  | bad => exact h
theorem RelE.set {K : PySem.W.Frag} {mg : Str → Option Value} {O : Ow} {H : Hp} {d : D} {v : V} (dv : DV K mg O H d v) : ∀ {env : Rs} {sg : L2.St}, RelE K mg O H env sg → ∀ i : Nat, RelE K mg O H (env.set i (some d)) (sg.set i (some v))
  | _, _, .nil, _ => .nil
  | _, _, .no t, 0 => .yes dv t
  | _, _, .yes _ t, 0 => .yes dv t
  | _, _, .no t, i + 1 => .no (RelE.set dv t i)
  | _, _, .yes h t, i + 1 => .yes h (RelE.set dv t i)
def toN (i : Nat) : TgM := fun d env => ret (env.set i (some d))
theorem rg_name (i : Nat) {x : Str} (hN : X.N.Nodup) (hi : X.N[i]? = some x := by rfl) (hx : Loc X.env.scope x := by first | exact Or.inl rfl | exact Or.inr rfl)
    (hf : X.fn x = true ∨ X.env.scope.names.lookup x = some .local := by first | exact .inl rfl | exact .inr rfl | assumption) {ws : List Nat} (hw : i ∈ ws := by decide) : RG X ws (.Name x pos) (toN i) := by
  refine pg_weak (pg_name hN hi hx hf) fun v sg H Q ⟨O, env, s, d, hE, hS, dv, hP⟩ => ?_
  exact hP O H (sg.set i (some v)) .refl hS (hE.set dv i) (wipe_set hw)
def tMGs (K : PySem.W.Frag) (mg : Str → Option Value) (ws : List Nat) (t : List D → Rs → M Rs) : TGs := fun vs sg H Q => ∃ O env s ds, RelE K mg O H env sg ∧ RelS K mg O H s ∧ DVs K mg O H ds vs ∧ PostG K mg ws sg O H (t ds env s) Q
abbrev RGs (X : Cx) (ws : List Nat) (tgs : List Expr) (t : List D → Rs → M Rs) : Prop := PGs X tgs (tMGs X.K X.mg ws t)
theorem pgs_weak {es : List Expr} {t t' : TGs} (h : PGs X es t) (w : ∀ v sg H Q, t' v sg H Q → t v sg H Q) : PGs X es t' := ⟨fun pins s sg H v u Q I r q => h.run pins s sg H v u Q I r (w _ _ _ _ q)⟩
def toNil : List D → Rs → M Rs := fun ds env => match ds with
  | [] => ret env
  | _ => bad
def toCons (t : TgM) (u : List D → Rs → M Rs) : List D → Rs → M Rs := fun ds env => match ds with
  | d :: ds => bnd (t d env) (u ds)
  | [] => bad
theorem rgs_nil {ws : List Nat} : RGs X ws [] toNil := by
  refine pgs_weak pgs_nil fun v sg H Q ⟨O, env, s, ds, hE, hS, dv, hP⟩ => ?_
  cases dv with
  | nil => exact ⟨rfl, hP O H sg .refl hS hE rfl⟩
  | cons _ _ => exact hP.elim
theorem rgs_cons {ws : List Nat} {es : List Expr} {t : TgM} {u : List D → Rs → M Rs} (h1 : RG X ws e t) (h2 : RGs X ws es u) (hs : (assignEach (e :: es) X.env).map (·.2) = assign e X.env :: (assignEach es X.env).map (·.2) := by rfl) : RGs X ws (e :: es) (toCons t u) := by
  refine pgs_weak (pgs_cons h1 h2 hs) fun vs sg H Q ⟨O, env, s, ds, hE, hS, dv, hP⟩ => ?_
  cases dv with
  | nil => exact hP.elim
  | @cons d v ds vs hd hds =>
    refine ⟨v, vs, rfl, O, env, s, d, hE, hS, hd, ?_⟩
    have hP : PostG X.K X.mg ws sg O H (bnd (t d env) (u ds) s) Q := hP
    unfold bnd at hP
    cases e : t d env s with
    | ok e1 s1 =>
      rw [e] at hP
      intro O1 H1 sg1 x q r w1
      refine ⟨O1, e1, s1, ds, r, q, hds.mono x.toMono, ?_⟩
      have hP1 := hP.ext x q
      cases e2 : u ds e1 s1 with
      | ok e3 s3 => dsimp only at hP1; rw [e2] at hP1; exact fun O2 H2 sg2 x2 q2 r2 w2 => hP1 O2 H2 sg2 x2 q2 r2 (w2.trans w1)
      | exc d s1 => dsimp only at hP1; rw [e2] at hP1; exact hP1
      | bad => dsimp only at hP1; rw [e2] at hP1; exact hP1
    | exc d s1 => rw [e] at hP; exact hP
    | bad => rw [e] at hP; exact hP
/-- a, b, .. of a tuple -/
def toTup (n : Nat) (u : List D → Rs → M Rs) : TgM := fun d env => match d with
  | .tup ds => if ds.length = n then u ds env else bad
  | _ => bad
theorem TupAt.sq {K : PySem.W.Frag} {H : Hp} {a : Addr} {vs : List V} (h : TupAt K H a vs) : SqT K H a vs := by
  rcases h with h | ⟨o, its, n, h1, h2, _, h3, h4, h5⟩
  · exact .of h
  · exact .inr ⟨o, its, n, h1, h2, h3, h4, h5⟩
theorem rg_tup {es : List Expr} {k n : Nat} {u : List D → Rs → M Rs} {ws : List Nat} (hc : X.calm = true) (h : RGs X ws es u) (hn : (assignEach es X.env).length = n := by rfl) (hst : (assignEach es X.env).findIdx? (·.1) = none := by rfl) : RG X ws (.Tuple es k pos) (toTup n u) := by
  refine pg_weak (pg_tup hc h hn hst) fun v sg H Q ⟨O, env, s, d, hE, hS, dv, hP⟩ => ?_
  cases dv with
  | @tup ds vs a ta hds =>
    have hP : PostG X.K X.mg ws sg O H ((if ds.length = n then u ds env else bad) s) Q := hP
    by_cases hl : ds.length = n
    · rw [if_pos hl] at hP
      exact ⟨a, vs, rfl, ta.sq, by rw [← hds.length]; exact hl, O, env, s, ds, hE, hS, hds, hP⟩
    · rw [if_neg hl] at hP; exact hP.elim
  | _ => exact hP.elim
def tgS (t : TgM) : D → SM := fun d env s => match t d env s with
  | .ok e s' => .nx e s'
  | _ => .bad
def asg (f : Rs → M D) (t : TgM) : SM := thn f (tgS t)
theorem tgS_ok {K : PySem.W.Frag} {mg : Str → Option Value} {O : Ow} {H : Hp} {t : TgM} {d : D} {env : Rs} {s : S} {E : Ends} {ws : List Nat} {sg : L2.St} (h : PostS K mg O H (tgS t d env s) E W) : PostG K mg ws sg O H (t d env s) E.nx := by
  unfold tgS at h
  cases e : t d env s with
  | ok e1 s1 => rw [e] at h; exact fun O' H' sg x q r _ => h O' H' sg x q r
  | exc d s1 => rw [e] at h; exact h
  | bad => rw [e] at h; exact h
theorem rs_asg {ws : List Nat} {tg : Expr} {t : TgM} (he : RE X W e fa) (hg : RG X ws tg t) (hs : swapsWithSole [tg] e pos.line X.env = pure false := by rfl) (hw : swappedStores [tg] e X.env = pure none := by rfl)
    (h1 : (assignEach [tg] X.env).map (·.2) = [assign tg X.env] := by rfl) : RS X W (.Assign [tg] e pos) (asg fa t) := by
  refine ps_weak (ps_asg he hg hs hw h1) fun E sg H ⟨O, env, s, hE, hS, hP⟩ => ?_
  exact ⟨O, env, s, hE, hS, (hP.thn hE).imp (fun d s1 O1 H1 _ x q p v dv => ⟨O1, env, s1, d, hE.mono x.toMono, q, dv, tgS_ok p⟩) fun _ _ _ _ _ _ z => z⟩
/-- name = value -/
theorem rs_set (i : Nat) {x : Str} {pos' : Pos} (hN : X.N.Nodup) (he : RE X W e fa) (hi : X.N[i]? = some x := by rfl) (hx : Loc X.env.scope x := by first | exact Or.inl rfl | exact Or.inr rfl)
    (hs : swapsWith e (some (.Name x pos')) pos.line X.env = pure false := by rfl) (hf : X.fn x = true ∨ X.env.scope.names.lookup x = some .local := by first | exact .inl rfl | exact .inr rfl | assumption) : RS X W (.Assign [.Name x pos'] e pos) (asg fa (toN i)) := by
  refine ps_weak (ps_set hN hi hx he hs hf) fun E sg H ⟨O, env, s, hE, hS, hP⟩ => ?_
  exact ⟨O, env, s, hE, hS, (hP.thn hE).imp (fun d s1 O1 H1 _ x q p v dv => p O1 H1 _ .refl q ((hE.mono x.toMono).set dv i)) fun _ _ _ _ _ _ z => z⟩

/-! ### walks -/
structure Wk (K : PySem.W.Frag) (mg : Str → Option Value) (O0 : Ow) (H0 : Hp) (J : It) (items : List D) : Prop where
  go : ∀ (i : Nat) (O : Ow) (H : Hp), Ext O0 H0 O H → i < items.length → J.go i H
  yld : ∀ (i : Nat) (O : Ow) (H : Hp) (s : S) (x : V) (H' : Hp), i < items.length → Ext O0 H0 O H → RelS K mg O H s → J.yld i H x H' → ∃ d O', items[i]? = some d ∧ Ext O H O' H' ∧ RelS K mg O' H' s ∧ DV K mg O' H' d x
  stop : ∀ (O : Ow) (H : Hp), Ext O0 H0 O H → J.stop items.length H
def tMI (K : PySem.W.Frag) (mg : Str → Option Value) (W : WX) (it : Rs → M (List D)) : TI := fun sg H R => ∃ O env s, RelE K mg O H env sg ∧ RelS K mg O H s ∧
  Post K mg O H (it env s) (fun items _ O' H' => ∀ J, Wk K mg O' H' J items → R J H') (XW K mg W sg)
abbrev RI (X : Cx) (W : WX) (tg iter : Expr) (it : Rs → M (List D)) : Prop := PI X tg iter (tMI X.K X.mg W it)
theorem pi_weak {tg iter : Expr} {t t' : TI} (h : PI X tg iter t) (w : ∀ sg H R, t' sg H R → t sg H R) : PI X tg iter t' := ⟨fun pins s sg H R I q => h.run pins s sg H R I (w _ _ _ q)⟩

/-! ### for -/
def forL (b : D → SM) : List D → SM
  | [] => fun env s => .nx env s
  | d :: ds => fun env s => match b d env s with
    | .nx e s' => forL b ds e s'
    | .ct e s' => forL b ds e s'
    | .bk e s' => .nx e s'
    | r => r
def forS (it : Rs → M (List D)) (t : TgM) (b : SM) : SM := thn it (forL fun d => seq (tgS t d) b)
theorem for_ok {ws : List Nat} {K : PySem.W.Frag} {mg : Str → Option Value} {it : Rs → M (List D)} {t : TgM} {g : SM} {E : Ends} {sg : L2.St} {H : Hp} (h : tMS K mg W (forS it t g) E sg H) : tFor (tMI K mg W it) (tMG K mg ws t) (tMS K mg W g) E sg H := by
  obtain ⟨O, env, s, hE, hS, hP⟩ := h
  refine ⟨O, env, s, hE, hS, (hP.thn hE).imp (fun items s1 O1 H1 _ x1 q1 p1 J wk => ?_) fun _ _ _ _ _ _ z => z⟩
  refine ⟨fun i m sg H => m = items.length - i ∧ i ≤ items.length ∧ ∃ O env s, Ext O1 H1 O H ∧ RelE K mg O H env sg ∧ RelS K mg O H s ∧ PostS K mg O H (forL (fun d => seq (tgS t d) g) (items.drop i) env s) E W,
    ⟨items.length, by simp, Nat.zero_le _, O1, env, s1, .refl, hE.mono x1.toMono, q1, p1⟩, ?_⟩
  rintro i m sg2 H2 ⟨rfl, hi, O2, env2, s2, x2, hE2, hS2, hP2⟩
  by_cases hlt : i < items.length
  · refine .inr ⟨wk.go i O2 H2 x2 hlt, fun sg H => i + 1 ≤ items.length ∧ ∃ O env s, Ext O1 H1 O H ∧ RelE K mg O H env sg ∧ RelS K mg O H s ∧ PostS K mg O H (forL (fun d => seq (tgS t d) g) (items.drop (i + 1)) env s) E W,
      fun sg' H' ⟨a, b⟩ => ⟨items.length - (i + 1), by omega, rfl, a, b⟩, fun y H3 hy => ?_⟩
    obtain ⟨d, O3, ed, x3, q3, dv⟩ := wk.yld i O2 H2 s2 y H3 hlt x2 hS2 hy
    have edr : items.drop i = d :: items.drop (i + 1) := by
      rw [List.drop_eq_getElem_cons hlt]
      rw [List.getElem?_eq_getElem hlt] at ed
      rw [Option.some.inj ed]
    rw [edr] at hP2
    have hP3 := hP2.ext x3 q3
    refine ⟨O3, env2, s2, d, hE2.mono x3.toMono, q3, dv, ?_⟩
    have x13 := x2.trans hS2 x3
    have hP3 : PostS K mg O3 H3 (match seq (tgS t d) g env2 s2 with
      | .nx e s' => forL (fun d => seq (tgS t d) g) (items.drop (i + 1)) e s'
      | .ct e s' => forL (fun d => seq (tgS t d) g) (items.drop (i + 1)) e s'
      | .bk e s' => .nx e s'
      | r => r) E W := hP3
    unfold seq tgS at hP3
    cases e1 : t d env2 s2 with
    | exc d s1 => rw [e1] at hP3; exact hP3
    | bad => rw [e1] at hP3; exact hP3
    | ok e4 s4 =>
      rw [e1] at hP3
      dsimp only at hP3
      intro O4 H4 sg4 x4 q4 r4 _
      refine ⟨O4, e4, s4, r4, q4, ?_⟩
      have x14 := x13.trans q3 x4
      have hP4 := hP3.ext x4 q4
      cases e5 : g e4 s4 with
      | nx e6 s6 => rw [e5] at hP4; exact fun O5 H5 sg5 x5 q5 r5 => ⟨hlt, O5, e6, s6, x14.trans q4 x5, r5, q5, hP4.ext x5 q5⟩
      | ct e6 s6 => rw [e5] at hP4; exact fun O5 H5 sg5 x5 q5 r5 => ⟨hlt, O5, e6, s6, x14.trans q4 x5, r5, q5, hP4.ext x5 q5⟩
      | bk e6 s6 => rw [e5] at hP4; exact hP4
      | rt d6 s6 => rw [e5] at hP4; exact hP4
      | exc d6 e6 s6 => rw [e5] at hP4; exact hP4
      | bad => rw [e5] at hP4; exact hP4
  · have e : i = items.length := by omega
    subst e
    rw [List.drop_length] at hP2
    exact .inl ⟨wk.stop O2 H2 x2, hP2 O2 H2 sg2 .refl hS2 hE2⟩
theorem rs_for {ws : List Nat} {tg iter : Expr} {body : List Stmt} {it : Rs → M (List D)} {t : TgM} (hp : PassesOwn (model X.prog X.w) X.A X.env X.xe) (hc : X.calm = true) (hi : RI X W tg iter it) (hg : RG X ws tg t) (hb : RSs X W body g)
    (hs : ∀ x, foldedSetIterable iter X.env x = pure x := by intro _; rfl) : RS X W (.For tg iter body [] pos) (forS it t g) := ps_weak (ps_for hp hc hi hg hb hs) fun _ _ _ h => for_ok h
/-! ### while, so many turns at most -/
def whl (t : Rs → M Bool) (b : SM) : Nat → SM
  | 0 => fun _ _ => .bad
  | n + 1 => thn t fun k => if k = true then (fun env s => match b env s with
    | .nx e s' => whl t b n e s'
    | .ct e s' => whl t b n e s'
    | .bk e s' => .nx e s'
    | r => r) else skp
theorem while_ok {K : PySem.W.Frag} {mg : Str → Option Value} {t : Rs → M Bool} {g : SM} {n : Nat} {E : Ends} {sg : L2.St} {H : Hp} (h : tMS K mg W (whl t g n) E sg H) : tWhile (tMT K mg W t) (tMS K mg W g) E sg H := by
  refine ⟨fun m sg H => tMS K mg W (whl t g m) E sg H, ⟨n, h⟩, ?_⟩
  rintro m sg1 H1 ⟨O1, env, s, hE, hS, hP⟩
  cases m with
  | zero => exact hP.elim
  | succ m =>
    refine ⟨O1, env, s, hE, hS, (hP.thn hE).imp (fun k s2 O2 H2 _ x2 q2 p2 => ?_) fun _ _ _ _ _ _ z => z⟩
    cases k with
    | false =>
      rw [if_neg Bool.false_ne_true] at p2 ⊢
      exact p2 O2 H2 sg1 .refl q2 (hE.mono x2.toMono)
    | true =>
      rw [if_pos rfl] at p2 ⊢
      refine ⟨fun sg H => tMS K mg W (whl t g m) E sg H, fun sg' H' q => ⟨m, Nat.lt_succ_self _, q⟩, O2, env, s2, hE.mono x2.toMono, q2, ?_⟩
      cases e5 : g env s2 with
      | nx e6 s6 => rw [e5] at p2; exact fun O5 H5 sg5 x5 q5 r5 => ⟨O5, e6, s6, r5, q5, p2.ext x5 q5⟩
      | ct e6 s6 => rw [e5] at p2; exact fun O5 H5 sg5 x5 q5 r5 => ⟨O5, e6, s6, r5, q5, p2.ext x5 q5⟩
      | bk e6 s6 => rw [e5] at p2; exact p2
      | rt d6 s6 => rw [e5] at p2; exact p2
      | exc d6 e6 s6 => rw [e5] at p2; exact p2
      | bad => rw [e5] at p2; exact p2
theorem rs_while (n : Nat) {body : List Stmt} {t : Rs → M Bool} (hp : PassesOwn (model X.prog X.w) X.A X.env X.xe) (hc : RT X W c t) (hb : RSs X W body g) : RS X W (.While c body [] pos) (whl t g n) := ps_weak (ps_while hp hc hb) fun _ _ _ h => while_ok h
end
end Md

set_option Elab.async false
set_option linter.all false
set_option maxRecDepth 100000
/-! Md3: list comprehensions. -/
namespace Md
open PySem PySem.Spec PyProof.Rows L2

def wipeR (e : Rs) : List Nat → Rs
  | [] => e
  | v :: vs => (wipeR e vs).set v none
theorem RelE.setN {K : PySem.W.Frag} {mg : Str → Option Value} {O : Ow} {H : Hp} : ∀ {env : Rs} {sg : L2.St}, RelE K mg O H env sg → ∀ i : Nat, RelE K mg O H (env.set i none) (sg.set i none)
  | _, _, .nil, _ => .nil
  | _, _, .no t, 0 => .no t
  | _, _, .yes _ t, 0 => .no t
  | _, _, .no t, i + 1 => .no (RelE.setN t i)
  | _, _, .yes h t, i + 1 => .yes h (RelE.setN t i)
theorem RelE.wipe {K : PySem.W.Frag} {mg : Str → Option Value} {O : Ow} {H : Hp} {env : Rs} {sg : L2.St} (h : RelE K mg O H env sg) : ∀ ws : List Nat, RelE K mg O H (wipeR env ws) (L2.wipe sg ws)
  | [] => h
  | v :: vs => (RelE.wipe h vs).setN v
theorem wipe_twice : ∀ (ws : List Nat) (sg : L2.St), wipe (wipe sg ws) ws = wipe sg ws := by
  have key : ∀ (vs : List Nat) (sg : L2.St) (ws : List Nat), (∀ v ∈ vs, v ∈ ws) → wipe (wipe sg vs) ws = wipe sg ws := by
    intro vs
    induction vs with
    | nil => intro sg ws _; rfl
    | cons v vs ih =>
      intro sg ws h
      show wipe ((wipe sg vs).set v none) ws = wipe sg ws
      rw [wipe_set (h v (by simp)), ih sg ws fun w hw => h w (by simp [hw])]
  exact fun ws sg => key ws sg ws fun _ h => h

/-- the comprehension's turns -/
def lcR (t : TgM) (tt : Rs → M Bool) (te : Rs → M D) (env : Rs) : List D → M (List D)
  | [] => ret []
  | d :: ds => bnd (t d env) fun e => bnd (tt e) fun k => if k = true then bnd (te e) fun y => bnd (lcR t tt te env ds) fun ys => ret (y :: ys) else lcR t tt te env ds
def nox {α : Type} (m : M α) : M α := fun s => match m s with
  | .ok a s' => .ok a s'
  | _ => .bad
def lcM (own : List Nat) (it : Rs → M (List D)) (t : TgM) (tt : Rs → M Bool) (te : Rs → M D) (fin : List D → M D) : Rs → M D := fun env =>
  bnd (it env) fun items => if items.length ≤ sizeLine then bnd (nox (lcR t tt te (wipeR env own) items)) fin else bad
/-- a list that stays, a list of the store -/
def finL (ys : List D) : M D := ret (.lst ys)
def finM (ys : List D) : M D := new (.lst ys)

theorem iteFF {A B : Prop} (h : B) : if false = true then A else B := by
  rw [if_neg Bool.false_ne_true]
  exact h
theorem iteTT {A B : Prop} (h : A) : if true = true then A else B := by
  rw [if_pos rfl]
  exact h
theorem bnd_ok {α β : Type} {m : M α} {f : α → M β} {s : S} {b : β} {s' : S} (h : bnd m f s = .ok b s') : ∃ a s1, m s = .ok a s1 ∧ f a s1 = .ok b s' := by
  unfold bnd at h
  cases e : m s with
  | ok a s1 => rw [e] at h; exact ⟨a, s1, rfl, h⟩
  | exc d s1 => rw [e] at h; cases h
  | bad => rw [e] at h; cases h

section
variable {K : PySem.W.Frag} {mg : Str → Option Value} {O O1 : Ow} {H H1 : Hp} {s : S} {p : Addr}
theorem DVs.snoc {ds : List D} {vs : List V} {d : D} {v : V} : DVs K mg O H ds vs → DV K mg O H d v → DVs K mg O H (ds ++ [d]) (vs ++ [v])
  | .nil, h => .cons h .nil
  | .cons a t, h => .cons a (DVs.snoc t h)
/-- a thing that was laid beside becomes one that stays -/
theorem adopt_fix (r : RelS K mg O H s) (x : Ext O1 H1 O H) (h1 : H1 p = none) (hm : p ∉ O.mu) (hf : ¬ O.fz p) {o : HO} (e : H p = some o) : Ext O1 H1 (O.fix p) H ∧ RelS K mg (O.fix p) H s := by
  have m : Mono O H (O.fix p) H := ⟨⟨[], by simp⟩, fun _ h => .inl h, fun _ _ _ e => e, fun _ _ e => e, fun _ _ _ e => e⟩
  refine ⟨⟨x.toMono.trans m, x.fr, fun a h => ?_⟩, r.len, r.nd, fun a ha h => ?_, fun n a o' e1 e2 => (r.obs n a o' e1 e2).mono m rfl, fun a h => ?_⟩
  · rcases h with h | h | h
    · exact x.nw a (.inl h)
    · exact x.nw a (.inr h)
    · exact .inr (by rw [h]; exact h1)
  · rcases h with h | h
    · exact r.sep a ha h
    · rw [h] at ha; exact hm ha
  · rcases h with h | h
    · exact r.fzs a h
    · exact ⟨o, by rw [h]; exact e⟩
/-- .. or one of the store's -/
theorem adopt_mut (r : RelS K mg O H s) (x : Ext O1 H1 O H) (h1 : H1 p = none) (hm : p ∉ O.mu) (hf : ¬ O.fz p) {b : Ob} (hv : ∀ m : Mono O H (O.add p) H, OV K mg (O.add p) H p b) : Ext O1 H1 (O.add p) H ∧ RelS K mg (O.add p) H (s ++ [b]) ∧ (O.add p).mu[s.length]? = some p := by
  have m : Mono O H (O.add p) H := ⟨⟨[p], rfl⟩, fun _ h => h, fun _ _ _ e => e, fun _ _ e => e, fun _ _ _ e => e⟩
  have hv := hv m
  refine ⟨⟨x.toMono.trans m, x.fr, fun a h => ?_⟩, ⟨by simp [r.len], ?_, fun a ha h => ?_, fun n a o' e1 e2 => ?_, r.fzs⟩, by rw [← r.len]; simp⟩
  · rcases h with h | h
    · rcases List.mem_append.mp h with h | h
      · exact x.nw a (.inl h)
      · exact .inr (by rw [List.mem_singleton.mp h]; exact h1)
    · exact x.nw a (.inr h)
  · refine List.nodup_append.mpr ⟨r.nd, by simp, fun a ha b hb e => ?_⟩
    rw [List.mem_singleton.mp hb] at e
    exact hm (e ▸ ha)
  · rcases List.mem_append.mp ha with ha | ha
    · exact r.sep a ha h
    · rw [List.mem_singleton.mp ha] at h; exact hf h
  · by_cases hn : n < O.mu.length
    · have e1' : O.mu[n]? = some a := by rw [← e1]; exact (List.getElem?_append_left hn).symm
      have e2' : s[n]? = some o' := by rw [← e2]; exact (List.getElem?_append_left (by rw [← r.len]; exact hn)).symm
      exact (r.obs n a o' e1' e2').mono m rfl
    · have e3 : n = O.mu.length := by
        have := (List.getElem?_eq_some_iff.mp e1).1
        simp at this
        omega
      subst e3
      have e1' : p = a := by simpa using e1
      have e2' : b = o' := by rw [r.len] at e2; simpa using e2
      subst e1'; subst e2'
      exact hv
/-- the thing beside turns -/
theorem beside {o : HO} (r : RelS K mg O H s) (x : Ext O1 H1 O H) (h1 : H1 p = none) (hm : p ∉ O.mu) (hf : ¬ O.fz p) (nt : ∀ xs, H p ≠ some (.tup xs)) (nz : ∀ x y, H p ≠ some (.frz x y)) : Mono O H O (upd H p o) ∧ Ext O1 H1 O (upd H p o) ∧ RelS K mg O (upd H p o) s := by
  have m : Mono O H O (upd H p o) := ⟨⟨[], by simp⟩, fun _ h => h, fun a u f e => by rw [upd_ne (by rintro rfl; exact hf f)]; exact e, fun a xs e => by rw [upd_ne (by rintro rfl; exact nt xs e)]; exact e, fun a x y e => by rw [upd_ne (by rintro rfl; exact nz x y e)]; exact e⟩
  refine ⟨m, ⟨x.toMono.trans m, fun a u e n => ?_, x.nw⟩, r.len, r.nd, r.sep, fun n a o' e1 e2 => (r.obs n a o' e1 e2).mono m (upd_ne ?_), fun a h => ?_⟩
  · rw [upd_ne (by rintro rfl; rw [h1] at e; cases e)]
    exact x.fr a u e n
  · rintro rfl
    exact hm (List.mem_of_getElem? e1)
  · obtain ⟨u, e⟩ := r.fzs a h
    exact ⟨u, by rw [upd_ne (by rintro rfl; exact hf h)]; exact e⟩
theorem Ext.beside {O' : Ow} {H' : Hp} (x : Ext O H O' H') (hm : p ∉ O.mu) (hf : ¬ O.fz p) {o : HO} (e : H p = some o) : p ∉ O'.mu ∧ ¬ O'.fz p ∧ H' p = some o := by
  refine ⟨fun h => ?_, fun h => ?_, x.fr p o e hm⟩
  · rcases x.nw p (.inl h) with (z | z) | z
    · exact hm z
    · exact hf z
    · rw [e] at z; cases z
  · rcases x.nw p (.inr h) with (z | z) | z
    · exact hm z
    · exact hf z
    · rw [e] at z; cases z
end

section
variable {X : Cx} {W : WX}
abbrev RTs (X : Cx) (W : WX) (ifs : List Expr) (f : Rs → M Bool) : Prop := PTs X ifs (tMT X.K X.mg W f)
def yesB : Rs → M Bool := fun _ => ret true
theorem rts_nil : RTs X W [] yesB := ⟨fun pins s sg H Q I ⟨O, env, st, hE, hS, hP⟩ => pts_nil.run pins s sg H Q I (hP.ret hS)⟩
theorem rts_one {c : Expr} {t : Rs → M Bool} (h : RT X W c t) : RTs X W [c] t := pts_one h
/-- what the end does: the list becomes the answer -/
def FinOk (K : PySem.W.Frag) (mg : Str → Option Value) (fin : List D → M D) : Prop := ∀ (O1 O : Ow) (H1 H : Hp) (s : S) (p : Addr) (ds : List D) (vs : List V) (Q : VK) (X' : D → S → Ow → Hp → Prop), RelS K mg O H s → Ext O1 H1 O H → H1 p = none → p ∉ O.mu → ¬ O.fz p → H p = some (.lst vs) → DVs K mg O H ds vs →
  Post K mg O1 H1 (fin ds s) (fun d _ O' H' => ∀ u, DV K mg O' H' d u → Q u H') X' → Q (.ref p) H
theorem finL_ok {K : PySem.W.Frag} {mg : Str → Option Value} : FinOk K mg finL := fun O1 O H1 H s p ds vs Q X' r x h1 hm hf e dv hP => by
  obtain ⟨x2, r2⟩ := adopt_fix r x h1 hm hf e
  have m : Mono O H (O.fix p) H := ⟨⟨[], by simp⟩, fun _ h => .inl h, fun _ _ _ e => e, fun _ _ e => e, fun _ _ _ e => e⟩
  exact hP _ _ x2 r2 _ (.lst ⟨.inr rfl, e⟩ (dv.mono m))
theorem finM_ok {K : PySem.W.Frag} {mg : Str → Option Value} : FinOk K mg finM := fun O1 O H1 H s p ds vs Q X' r x h1 hm hf e dv hP => by
  obtain ⟨x2, r2, e2⟩ := adopt_mut (b := .lst ds) r x h1 hm hf fun m => ⟨vs, e, dv.mono m⟩
  exact hP _ _ x2 r2 _ (.ref e2)
theorem lc_ok {K : PySem.W.Frag} {mg : Str → Option Value} {own : List Nat} {it : Rs → M (List D)} {t : TgM} {tt : Rs → M Bool} {te : Rs → M D} {fin : List D → M D} (hf : FinOk K mg fin) {sg : L2.St} {H : Hp} {Q : VK}
    (h : tM K mg W (lcM own it t tt te fin) sg H Q) : tLc (tMI K mg W it) (tMG K mg own t) (tMT K mg W0 tt) (tM K mg W0 te) own sg H Q := by
  obtain ⟨O, env, s, hE, hS, hP⟩ := h
  refine ⟨O, env, s, hE, hS, hP.split.imp (fun items s1 O1 H1 _ x1 q1 p1 J wk => ?_) fun _ _ _ _ _ _ z => z⟩
  intro D hD
  have hl : items.length ≤ sizeLine := by
    by_cases hl : items.length ≤ sizeLine
    · exact hl
    · rw [if_neg hl] at p1; exact p1.elim
  rw [if_pos hl] at p1
  have nb : ∃ zs sz, lcR t tt te (wipeR env own) items s1 = .ok zs sz := by
    unfold bnd nox at p1
    cases e : lcR t tt te (wipeR env own) items s1 with
    | ok a b => exact ⟨a, b, rfl⟩
    | exc a b => rw [e] at p1; exact p1.elim
    | bad => rw [e] at p1; exact p1.elim
  obtain ⟨zs, sz, ez⟩ := nb
  have pz : Post K mg O1 H1 (fin zs sz) (fun d _ O' H' => ∀ v, DV K mg O' H' d v → Q v H') (XW K mg W sg) := by
    unfold bnd nox at p1
    rw [ez] at p1
    exact p1
  have b0 := beside (o := .lst []) q1 (.refl : Ext O1 H1 O1 H1) hD (notMu q1 hD) (notFz q1 hD) (fun xs e => by rw [hD] at e; cases e) (fun x y e => by rw [hD] at e; cases e)
  have hE1 : RelE K mg O1 H1 (wipeR env own) (wipe sg own) := (hE.mono x1.toMono).wipe own
  refine ⟨fun i m H => m = items.length - i ∧ i ≤ items.length ∧ ∃ O s acc accV ys, Ext O1 H1 O H ∧ D ∉ O.mu ∧ ¬ O.fz D ∧ H D = some (.lst accV) ∧ DVs K mg O H acc accV ∧ acc.length ≤ i ∧ RelE K mg O H (wipeR env own) (wipe sg own) ∧ RelS K mg O H s ∧
      lcR t tt te (wipeR env own) (items.drop i) s = .ok ys sz ∧ zs = acc ++ ys,
    ⟨items.length, by simp, Nat.zero_le _, O1, s1, [], [], zs, b0.2.1, notMu q1 hD, notFz q1 hD, upd_same, .nil, Nat.le_refl _, hE1.mono b0.1, b0.2.2, ez, rfl⟩, ?_⟩
  rintro i m H2 ⟨rfl, hi, O2, s2, acc, accV, ys, x2, nm, nf, eD, dacc, la, hE2, hS2, er, ezs⟩
  by_cases hlt : i < items.length
  · refine .inr ⟨wk.go i O2 H2 x2 hlt, fun H => i + 1 ≤ items.length ∧ ∃ O s acc accV ys, Ext O1 H1 O H ∧ D ∉ O.mu ∧ ¬ O.fz D ∧ H D = some (.lst accV) ∧ DVs K mg O H acc accV ∧ acc.length ≤ i + 1 ∧ RelE K mg O H (wipeR env own) (wipe sg own) ∧ RelS K mg O H s ∧
      lcR t tt te (wipeR env own) (items.drop (i + 1)) s = .ok ys sz ∧ zs = acc ++ ys, fun H' ⟨a, b⟩ => ⟨items.length - (i + 1), by omega, rfl, a, b⟩, fun y H3 hy => ?_⟩
    obtain ⟨d, O3, ed, x3, q3, dv⟩ := wk.yld i O2 H2 s2 y H3 hlt x2 hS2 hy
    have edr : items.drop i = d :: items.drop (i + 1) := by
      rw [List.drop_eq_getElem_cons hlt]
      rw [List.getElem?_eq_getElem hlt] at ed
      rw [Option.some.inj ed]
    rw [edr] at er
    obtain ⟨e4, s4, h4, er⟩ := bnd_ok er
    obtain ⟨k, s5, h5, er⟩ := bnd_ok er
    obtain ⟨nm3, nf3, eD3⟩ := x3.beside nm nf eD
    have x13 := x2.trans hS2 x3
    refine ⟨O3, wipeR env own, s2, d, hE2.mono x3.toMono, q3, dv, ?_⟩
    rw [h4]
    intro O4 H4 sg4 x4 q4 r4 w4
    refine ⟨w4.trans (wipe_twice own sg), O4, e4, s4, r4, q4, ?_⟩
    rw [h5]
    intro O5 H5 x5 q5
    have x14 := x13.trans q3 x4
    have x15 := x14.trans q4 x5
    obtain ⟨nm4, nf4, eD4⟩ := x4.beside nm3 nf3 eD3
    obtain ⟨nm5, nf5, eD5⟩ := x5.beside nm4 nf4 eD4
    have m35 := (x3.toMono.trans x4.toMono).trans x5.toMono
    cases k with
    | false =>
      rw [if_neg Bool.false_ne_true] at er
      exact iteFF ⟨hlt, O5, s5, acc, accV, ys, x15, nm5, nf5, eD5, dacc.mono m35, Nat.le_succ_of_le la, hE2.mono m35, q5, er, ezs⟩
    | true =>
      rw [if_pos rfl] at er
      refine iteTT ?_
      obtain ⟨z6, s6, h6, er⟩ := bnd_ok er
      obtain ⟨ys2, s7, h7, er⟩ := bnd_ok er
      refine ⟨O5, e4, s5, r4.mono x5.toMono, q5, ?_⟩
      rw [h6]
      intro O6 H6 x6 q6 v6 dv6
      have x16 := x15.trans q5 x6
      obtain ⟨nm6, nf6, eD6⟩ := x6.beside nm5 nf5 eD5
      have b6 := beside (o := .lst (accV ++ [v6])) q6 x16 hD nm6 nf6 (fun xs e => by rw [eD6] at e; cases e) (fun x y e => by rw [eD6] at e; cases e)
      have m36 := m35.trans x6.toMono
      have erq : (Res.ok (z6 :: ys2) s7 : Res (List Md.D)) = .ok ys sz := er
      injection erq with e8 e9
      subst e8
      subst e9
      refine ⟨accV, eD6, ?_, hlt, O6, s6, acc ++ [z6], accV ++ [v6], ys2, b6.2.1, nm6, nf6, upd_same, (DVs.snoc (dacc.mono m36) dv6).mono b6.1, by simp; omega, (hE2.mono m36).mono b6.1, b6.2.2, h7, by rw [ezs]; simp⟩
      rw [← dacc.length]
      omega
  · have e : i = items.length := by omega
    subst e
    rw [List.drop_length] at er
    have erq : (Res.ok [] s2 : Res (List Md.D)) = .ok ys sz := er
    injection erq with e8 e9
    subst e8
    subst e9
    rw [List.append_nil] at ezs
    subst ezs
    exact .inl ⟨wk.stop O2 H2 x2, hf O1 O2 H1 H2 s2 D zs accV Q _ hS2 x2 hD nm nf eD dacc pz⟩
/-- as a value -/
theorem re_lc {fin : List D → M D} (hf : FinOk X.K X.mg fin) {elt tg iter : Expr} {ifs : List Expr} {scope : Scope} (own : List (Str × Nat)) {pos : Pos} {it : Rs → M (List D)} {t : TgM} {tt : Rs → M Bool} {te : Rs → M D} (hc : X.calm = true) (hN : X.N.Nodup) (ok : blkC X.N X.env.scope scope own = true) (hi : RI X W tg iter it)
    (hg : ∀ (s : Shared) (H : Hp) (C : Addr) (cl : List (Str × Addr)) (fp : List Addr), RG (X.blk s H scope (compEnvC scope cl C X.env) fp) (own.map (·.2)) tg t)
    (ht : ∀ (s : Shared) (H : Hp) (C : Addr) (cl : List (Str × Addr)) (fp : List Addr), RTs (X.blk s H scope (compEnvC scope cl C X.env) fp) W0 ifs tt)
    (he : ∀ (s : Shared) (H : Hp) (C : Addr) (cl : List (Str × Addr)) (fp : List Addr), RE (X.blk s H scope (compEnvC scope cl C X.env) fp) W0 elt te) (hs : ∀ x, foldedSetIterable iter X.env x = pure x := by intro _; rfl) :
    RE X W (.ListComp elt [⟨tg, iter, ifs, 0⟩] scope pos) (lcM (own.map (·.2)) it t tt te fin) :=
  pe_weak (pe_lc hc hN hi (blkOk_by ok) hg ht he hs) fun _ _ _ h => lc_ok hf h
/-- name = [..] on one line -/
theorem rs_setLc (i : Nat) {y : Str} {py : Pos} {fin : List D → M D} (hf : FinOk X.K X.mg fin) {elt tg iter : Expr} {ifs : List Expr} {scope : Scope} (own : List (Str × Nat)) {pos spos : Pos} {it : Rs → M (List D)} {t : TgM} {tt : Rs → M Bool} {te : Rs → M D} (hc : X.calm = true) (hN : X.N.Nodup) (ok : blkC X.N X.env.scope scope own = true)
    (hsw : swapsWith (.ListComp elt [⟨tg, iter, ifs, 0⟩] scope pos) (some (.Name y py)) spos.line X.env = pure true) (hi : RI X W tg iter it)
    (hg : ∀ (s : Shared) (H : Hp) (C : Addr) (cl : List (Str × Addr)) (fp : List Addr), RG (X.blk s H scope (compEnvC scope cl C X.env) fp) (own.map (·.2)) tg t)
    (ht : ∀ (s : Shared) (H : Hp) (C : Addr) (cl : List (Str × Addr)) (fp : List Addr), RTs (X.blk s H scope (compEnvC scope cl C X.env) fp) W0 ifs tt)
    (he : ∀ (s : Shared) (H : Hp) (C : Addr) (cl : List (Str × Addr)) (fp : List Addr), RE (X.blk s H scope (compEnvC scope cl C X.env) fp) W0 elt te)
    (hy : X.N[i]? = some y := by rfl) (hyl : X.env.scope.names.lookup y = some .local := by rfl) (hs : ∀ x, foldedSetIterable iter X.env x = pure x := by intro _; rfl) :
    RS X W (.Assign [.Name y py] (.ListComp elt [⟨tg, iter, ifs, 0⟩] scope pos) spos) (asg (lcM (own.map (·.2)) it t tt te fin) (toN i)) := by
  refine ps_weak (ps_setLc (wi := tMI X.K X.mg W it) (g := tMG X.K X.mg (own.map (·.2)) t) (tt := tMT X.K X.mg W0 tt) (te := tM X.K X.mg W0 te) hc hN hy hyl hsw hi (blkOk_by ok) hg ht he hs) fun E sg H ⟨O, env, s, hE, hS, hP⟩ => ?_
  refine lc_ok hf ⟨O, env, s, hE, hS, (hP.thn hE).imp (fun d s1 O1 H1 _ x q p v dv => ?_) fun _ _ _ _ _ _ z => z⟩
  exact p O1 H1 _ .refl q ((hE.mono x.toMono).set dv i)
end
end Md

set_option Elab.async false
set_option linter.all false
set_option maxRecDepth 100000
/-! Md4: defs, calls, methods, instances, the end of a law. -/
namespace Md
open PySem PySem.Spec PyProof.Rows L2

/-- what a def promises: its plain function's answer -/
def spM (K : PySem.W.Frag) (mg : Str → Option Value) (n : Nat) (G : List D → M D) : Sp := fun vs H Q E => vs.length = n ∧ ∃ O ds s, DVs K mg O H ds vs ∧ RelS K mg O H s ∧
  Post K mg O H (G ds s) (fun d _ O' H' => ∀ v, DV K mg O' H' d v → Q v H') (fun e _ O' H' => ∀ c dd, EV K mg O' H' e c dd → E c dd H')
/-- a body's plain function -/
def endS : SR → Res D
  | .nx _ s' => .ok .non s'
  | .rt d s' => .ok d s'
  | .exc x _ s' => .exc x s'
  | _ => .bad
/-- g: the body; np: how many parameters; n: how many names -/
def run (g : SM) (np n : Nat) : List D → M D := fun ds s => if ds.length = np then endS (g (ds.map some ++ List.replicate (n - np) none) s) else .bad
/-- only so many arguments -/
def Ar (n : Nat) (G : List D → M D) : Prop := ∀ ds s, ds.length ≠ n → G ds s = .bad
theorem run_ar (g : SM) (np n : Nat) : Ar np (run g np n) := fun ds s h => by
  unfold run
  rw [if_neg h]
theorem relE_start {K : PySem.W.Frag} {mg : Str → Option Value} {O : Ow} {H : Hp} : ∀ {ds : List D} {vs : List V} (k : Nat), DVs K mg O H ds vs → RelE K mg O H (ds.map some ++ List.replicate k none) (vs.map some ++ List.replicate k none)
  | _, _, 0, .nil => .nil
  | _, _, k + 1, .nil => .no (relE_start k .nil)
  | _, _, k, .cons h t => .yes h (relE_start k t)
/-! ### defs whose calls never stand inside a repr -/
structure RmG (k : Nat) (A : Around) : Prop where
  rm : Room k A
  gd : A.guards = some []
theorem RmG.mono {j k : Nat} {A : Around} (r : RmG k A) (h : j ≤ k) : RmG j A := ⟨r.rm.mono h, r.gd⟩
theorem RmG.deeper {k : Nat} {A : Around} (r : RmG (k + 1) A) (env : Env) : RmG k (A.deeper env) := ⟨r.rm.deeper env, r.gd⟩
theorem RmG.make {k : Nat} {A : Around} (r : RmG (k + 1) A) (C : Addr) (us : List Value) : RmG k (A.under (.builtin "type.__call__" ⟨.ref C :: us, []⟩)) := ⟨r.rm.make C us [], by
  have e : (Code.builtin "type.__call__" ⟨.ref C :: us, []⟩).isGuard = false := by
    show guardIds.contains "type.__call__" = false
    decide +kernel
  simp [Around.under, Code.guards, e, pushGuards, r.gd]⟩
/-- as FnOk, but for calls at such places alone -/
structure FnG (P : Program) (w : World) (K : PySem.W.Frag) (mg : Str → Option Value) (base : Heap) (CX : CXT) (k : Nat) (f : Addr) (fd : FuncData) (ps : List Str) (sp : Sp) : Prop where
  len : ∀ vs H Q E, sp vs H Q E → vs.length = ps.length
  run : ∀ (A : Around) (outer : List Env) (s : Shared) (H : Hp) (args : Args) (us : List Value) (vs : List V) (Q : VK) (E : XK), RmG k A → Env0 P w K mg base A outer s H → BindsTo s fd args (ps.zip us) → Vals vs us → sp vs H Q E → codeAny (model P w) A (.call (.ref f) args) (CR CX outer P w H s Q E) s
theorem FnG.mono {P : Program} {w : World} {K : PySem.W.Frag} {mg : Str → Option Value} {base : Heap} {CX : CXT} {j k : Nat} {f : Addr} {fd : FuncData} {ps : List Str} {sp : Sp} (F : FnG P w K mg base CX j f fd ps sp) (h : j ≤ k) : FnG P w K mg base CX k f fd ps sp :=
  ⟨F.len, fun A outer s H args us vs Q E r => F.run A outer s H args us vs Q E (r.mono h)⟩
/-- a def, by its body's reading -/
theorem fnG_of {CX : CXT} {P : Program} {w : World} {K : PySem.W.Frag} {mg : Str → Option Value} {base : Heap} {x qual : Str} {params : Arguments} {body : List Stmt} {scope : Scope} {dvs : List V} {kws : List (Str × V)} {f : Addr} {fd : FuncData} {N ps : List Str} {k : Nat} {sp : Sp}
    (F : FunD K x qual params body scope dvs kws f fd) (S : FnScope N ps scope) (len : ∀ vs H Q E, sp vs H Q E → vs.length = ps.length)
    (hb : ∀ (cdv : Value) (A : Around) (outer : List Env) (s : Shared) (H : Hp) (vs : List V) (Q : VK) (E : XK), RmG k (A.deeper (envOfC qual scope s.heap.objs.size f cdv)) → sp vs H Q E →
      ∃ t, PSs (cxOf CX P w K mg base N qual scope f cdv A outer s H E) body t ∧ t { nx := fun _ H' => Q .non H', rt := Q } (L2.start N vs) H) : FnG P w K mg base CX (k + 1) f fd ps sp := by
  obtain ⟨oc, od, dV, kV, doc, pm, an, cdv, ct, osl, rfl, lk, hcd, _, _⟩ := F.ex
  refine ⟨len, fun A outer s H args us vs Q E hr e0 hbd r hsp => ?_⟩
  have nv := len _ _ _ _ hsp
  have kin : K.In s.heap := e0.mod.kin.keeps fun b o e => (e0.bs b o e).1
  have nol : s.heap.NoLimit := e0.mod.nolimit.keeps fun b o e => (e0.bs b o e).1
  have kinds : ∀ y ∈ ps.zip us, scope.names.lookup y.1 = some .local ∨ (scope.names.lookup y.1 = some .cell ∧ ((cellsFrom (s.heap.objs.size + 1) scope.names []).lookup y.1).isSome = true) := by
    rintro ⟨m, v⟩ hy
    exact (S.par m (List.of_mem_zip hy).1).imp id fun q => ⟨q, PySem.W.cellsFrom_some _ _ _ (.inl q)⟩
  refine codeAny_call_function hr.rm.depth (kin _ _ lk) rfl S.co S.gen rfl (PySem.W.codeRec_of kin hcd) (hbd _ _ _ _ (wpAny_newFunctionEnv_cells S.kind kinds fun env he s1 y => ?_))
  subst he
  obtain ⟨t, ht, hq⟩ := hb cdv A outer s H vs Q E (hr.deeper _) hsp
  refine ⟨nol.keeps y.toInCall.keep, codeAny_func (wpAny_mono (ht.run [] s1 (L2.start N vs) H _ (inv_start S hr.rm.hd e0 nv r y) hq) (fun fl s' hs => ?_) fun e s' hs => hs)⟩
  cases fl with
  | ret u => obtain ⟨v, sg', H', J, rv, q⟩ := hs; exact ⟨v, H', J.os, J.bare, J.base, J.hok, rv, q⟩
  | next => obtain ⟨sg', H', J, q⟩ := hs; exact ⟨V.non, H', J.os, J.bare, J.base, J.hok, rfl, q⟩
  | brk => obtain ⟨_, _, _, q⟩ := hs; exact q.elim
  | cont => obtain ⟨_, _, _, q⟩ := hs; exact q.elim
theorem runG {X : Cx} {k : Nat} {f : Addr} {fd : FuncData} {ps : List Str} {sp : Sp} {CX : CXT} {ds : List Value} {dvs : List V} {E : L2.St → XK} {pins : List (Addr × Obj)} {sg : L2.St} {H : Hp} {s : Shared} {Q : VK} {us : List Value} {vs : List V}
    (F : FnG X.prog X.w X.K X.mg X.base CX k f fd ps sp) (hr : RmG k X.A) (hb : Binds X.K fd ps ds) (hd : Vals dvs ds) (hx : PassesAt CX X sg (E sg)) (I : L2.Inv X pins sg H s) (r : Vals vs us) (h : sp (vs ++ dvs) H Q (E sg)) :
    wpAny (model X.prog X.w) X.A (call (.ref f) us) (EP X pins sg Q) X.xe s := by
  have nl : (us ++ ds).length = ps.length := by rw [← (r.append hd).length]; exact F.len _ _ _ _ h
  refine wpAny_call (codeAny_mono (F.run X.A X.stack s H ⟨us, []⟩ (us ++ ds) (vs ++ dvs) Q (E sg) hr I.env0 (hb s us I.kIn nl) (r.append hd) h) fun z s' hq => ?_)
  match z, hq with
  | .error e, hq => exact hx pins H s e s' I hq
  | .ok (.ret u), hq => exact I.after hq
  | .ok .next, hq => exact hq.elim
  | .ok .brk, hq => exact hq.elim
  | .ok .cont, hq => exact hq.elim
section
variable {P : Program} {w : World} {K : PySem.W.Frag} {mg : Str → Option Value} {base : Heap} {x qual : Str} {params : Arguments} {body : List Stmt} {scope : Scope} {dvs : List V} {kws : List (Str × V)} {f : Addr} {fd : FuncData}
theorem run_ok {O : Ow} {H : Hp} {g : SM} {np n : Nat} {ds : List D} {s : S} {Q : VK} {E : XK} (hl : ds.length = np) (h : Post K mg O H (run g np n ds s) (fun d _ O' H' => ∀ v, DV K mg O' H' d v → Q v H') (fun e _ O' H' => ∀ c dd, EV K mg O' H' e c dd → E c dd H')) :
    PostS K mg O H (g (ds.map some ++ List.replicate (n - np) none) s) { nx := fun _ H' => Q .non H', rt := Q } (fun c d _ H => E c d H) := by
  unfold run at h
  rw [if_pos hl] at h
  cases e : g (ds.map some ++ List.replicate (n - np) none) s with
  | nx e1 s1 => rw [e] at h; exact fun O' H' sg x q _ => h O' H' x q .non .non
  | rt d s1 => rw [e] at h; exact fun O' H' v x q => h O' H' x q v
  | exc d e1 s1 => rw [e] at h; exact fun O' H' sg c dd x q _ => h O' H' x q c dd
  | bk e1 s1 => rw [e] at h; exact h.elim
  | ct e1 s1 => rw [e] at h; exact h.elim
  | bad => rw [e] at h; exact h.elim
theorem fn_md {N ps : List Str} {g : SM} {k : Nat} (F : FunD K x qual params body scope dvs kws f fd) (Sc : FnScope N ps scope)
    (hb : ∀ (cdv : Value) (A : Around) (outer : List Env) (s : Shared) (H : Hp) (E : XK), RmG k (A.deeper (envOfC qual scope s.heap.objs.size f cdv)) → RSs (cxOf (L2.CX P w) P w K mg base N qual scope f cdv A outer s H E) (fun c d _ H => E c d H) body g) :
    FnG P w K mg base (L2.CX P w) (k + 1) f fd ps (spM K mg ps.length (run g ps.length N.length)) := by
  refine fnG_of F Sc (fun vs H Q E h => h.1) fun cdv A outer s H vs Q E hr h => ⟨_, hb cdv A outer s H E hr, ?_⟩
  obtain ⟨hl, O, ds, st, dv, rs, hP⟩ := h
  refine ⟨O, _, st, ?_, rs, run_ok (dv.length.trans hl) hP⟩
  unfold L2.start
  rw [hl]
  exact relE_start _ dv
/-- a def of the module, by its plain function -/
structure Fn (P : Program) (w : World) (K : PySem.W.Frag) (mg : Str → Option Value) (base : Heap) (k : Nat) (x : Str) (dds : List D) (G : List D → M D) : Prop where
  ex : ∃ f fd ps ds dvs n, FnG P w K mg base (L2.CX P w) k f fd ps (spM K mg n G) ∧ mg x = some (.ref f) ∧ PySem.W.keepIn K (.ref f) = true ∧ Binds K fd ps ds ∧ Vals dvs ds ∧ (∀ O H, DVs K mg O H dds dvs) ∧ Ar n G
/-- a method of a class -/
structure Mt (P : Program) (w : World) (K : PySem.W.Frag) (mg : Str → Option Value) (base : Heap) (k : Nat) (c m : Str) (dds : List D) (G : List D → M D) : Prop where
  ex : ∃ C f fd ps ds dvs n, mg c = some (.ref C) ∧ Cls K C ∧ Meth K C m f ∧ FnG P w K mg base (L2.CX P w) k f fd ps (spM K mg n G) ∧ Binds K fd ps ds ∧ Vals dvs ds ∧ (∀ O H, DVs K mg O H dds dvs) ∧ Ar n G
/-- a class that is made by its __init__ -/
structure Mc (P : Program) (w : World) (K : PySem.W.Frag) (mg : Str → Option Value) (base : Heap) (k : Nat) (c : Str) (dds : List D) (G : List D → M D) : Prop where
  ex : ∃ C f fd ps ds dvs n, mg c = some (.ref C) ∧ Mk K C f ∧ FnG P w K mg base (L2.CX P w) k f fd ps (spM K mg n G) ∧ Binds K fd ps ds ∧ Vals dvs ds ∧ (∀ O H, DVs K mg O H dds dvs) ∧ Ar n G
/-- a field of a class's instances -/
structure Fd (K : PySem.W.Frag) (mg : Str → Option Value) (c f : Str) : Prop where
  ex : ∃ C, mg c = some (.ref C) ∧ Cls K C ∧ NoAttr K C f
end
theorem DVs.app {K : PySem.W.Frag} {mg : Str → Option Value} {O : Ow} {H : Hp} : ∀ {a b : List D} {u v : List V}, DVs K mg O H a u → DVs K mg O H b v → DVs K mg O H (a ++ b) (u ++ v)
  | _, _, _, _, .nil, h => h
  | _, _, _, _, .cons h t, h2 => .cons h (DVs.app t h2)

section
variable {X : Cx} {W : WX} {k : Nat} {x c m f : Str} {dds : List D} {G : List D → M D} {p pos apos : Pos} {e o : Expr} {es : List Expr} {fa : Rs → M (List D)} {fo : Rs → M D}
/-- a call -/
def callM (G : List D → M D) (dds : List D) (fa : Rs → M (List D)) : Rs → M D := fun env => bnd (fa env) fun ds => G (ds ++ dds)
theorem call_md {O : Ow} {H : Hp} {s : S} {ds : List D} {vs dvs : List V} {n : Nat} {sg : L2.St} {Q : VK} (ar : Ar n G) (hd : ∀ O H, DVs X.K X.mg O H dds dvs) (q : RelS X.K X.mg O H s) (dv : DVs X.K X.mg O H ds vs)
    (hP : Post X.K X.mg O H (G (ds ++ dds) s) (fun d _ O' H' => ∀ v, DV X.K X.mg O' H' d v → Q v H') (XW X.K X.mg W sg)) : spM X.K X.mg n G (vs ++ dvs) H Q (WE W sg) := by
  have dv2 := dv.app (hd O H)
  refine ⟨?_, O, ds ++ dds, s, dv2, q, hP⟩
  rw [← dv2.length]
  by_cases hl : (ds ++ dds).length = n
  · exact hl
  · rw [ar _ _ hl] at hP; exact hP.elim
theorem re_call (F : Fn X.prog X.w X.K X.mg X.base k x dds G) (hr : RmG k X.A) (tk : Takes X W) (ha : RA X W (e :: es) fa) (hg : Gl X x := by rfl)
    (hdb : (x == ("__debug__" : Str)) = false := by decide) (he : starEach (e :: es) X.env = (false, eval e X.env) :: starEach es X.env := by rfl) (hpl : (backTo pos (starEach es X.env)).any (·.1) = false := by rfl) :
    RE X W (.Call (.Name x p) (e :: es) [] pos) (callM G dds fa) := by
  obtain ⟨f, fd, ps, ds, dvs, n, F, hm, hk, hb, hd, hD, ar⟩ := F.ex
  refine ⟨fun pins s sg H Q I ⟨O, env, st, hE, hS, hP⟩ => ?_⟩
  refine wpAny_Call_Name_kw (ld_glob I hg hm ?_ hdb)
  refine PySem.W.callWith_K (h₀ := X.base) I.ok.mod.kin hk (L2.thn (ha.run pos pins s sg H (fun vs H1 => spM X.K X.mg n G (vs ++ dvs) H1 Q (WE W sg)) I ⟨O, env, st, hE, hS, hP.split.imp (fun ds s1 O1 H1 _ x1 q1 p1 vs dv => call_md ar hD q1 dv p1) fun _ _ _ _ _ _ z => z⟩)
    fun us s1 ⟨vs, H1, I1, r, q⟩ => ⟨I1.kIn, runG (E := WE W) F hr hb hd (passAt tk sg) I1 r q⟩) he hpl
theorem re_call0 (F : Fn X.prog X.w X.K X.mg X.base k x dds G) (hr : RmG k X.A) (tk : Takes X W) (hg : Gl X x := by rfl) (hdb : (x == ("__debug__" : Str)) = false := by decide) :
    RE X W (.Call (.Name x p) [] [] pos) (callM G dds aNil) := by
  obtain ⟨f, fd, ps, ds, dvs, n, F, hm, hk, hb, hd, hD, ar⟩ := F.ex
  refine ⟨fun pins s sg H Q I ⟨O, env, st, hE, hS, hP⟩ => ?_⟩
  refine wpAny_Call_Name_kw (ld_glob I hg hm ?_ hdb)
  exact PySem.W.callWith_K0 I.kIn hk (runG (E := WE W) (us := []) F hr hb hd (passAt tk sg) I .nil (call_md ar hD hS .nil hP))

/-! ### instances -/
/-- the instance at a place, of the class c -/
def insOf (c : Str) (d : D) : M (Nat × List (Str × D)) := match d with
  | .ref n => bnd (get? n) fun o => match o with
    | .ins c' fs => if c' = c then ret (n, fs) else bad
    | _ => bad
  | _ => bad
theorem insOf_ok {K : PySem.W.Frag} {mg : Str → Option Value} {O : Ow} {H : Hp} {s : S} {α : Type} {d : D} {v : V} {c : Str} {C : Addr} (hC : mg c = some (.ref C)) (r : RelS K mg O H s) (dv : DV K mg O H d v) {g : Nat × List (Str × D) → M α} {R : α → S → Ow → Hp → Prop} {X' : D → S → Ow → Hp → Prop}
    (hP : Post K mg O H (bnd (insOf c d) g s) R X') : ∃ n fs a dx vs, d = .ref n ∧ v = .ref a ∧ O.mu[n]? = some a ∧ s[n]? = some (.ins c fs) ∧ H a = some (.ins C dx vs) ∧ Flds K mg O H fs vs ∧ Post K mg O H (g (n, fs) s) R X' := by
  cases d with
  | ref n =>
    cases dv with
    | @ref _ a ha =>
      have hn : n < s.length := by rw [← r.len]; exact (List.getElem?_eq_some_iff.mp ha).1
      have e : s[n]? = some s[n] := List.getElem?_eq_getElem hn
      have ob := r.obs n a _ ha e
      have hP : Post K mg O H (bnd (bnd (get? n) fun o => (match o with | .ins c' fs => if c' = c then ret (n, fs) else bad | _ => bad : M (Nat × List (Str × Md.D)))) g s) R X' := hP
      unfold bnd get? at hP
      rw [e] at hP
      cases hs : s[n] with
      | ins c' fs =>
        rw [hs] at hP ob e
        by_cases hc : c' = c
        · subst hc
          obtain ⟨C2, dx, vs, hm, hH, fl⟩ := ob
          rw [hC] at hm; cases hm
          dsimp only at hP
          rw [if_pos rfl] at hP
          exact ⟨n, fs, a, dx, vs, rfl, rfl, ha, e, hH, fl, hP⟩
        · dsimp only at hP
          rw [if_neg hc] at hP
          exact hP.elim
      | lst xs => rw [hs] at hP; exact hP.elim
      | lok xs => rw [hs] at hP; exact hP.elim
      | dct lk kvs => rw [hs] at hP; exact hP.elim
  | _ => exact hP.elim
theorem Flds.look {K : PySem.W.Frag} {mg : Str → Option Value} {O : Ow} {H : Hp} {f : Str} : ∀ {fs : List (Str × D)} {vs : List (Str × V)}, Flds K mg O H fs vs → (fs.lookup f = none ∧ vs.lookup f = none) ∨ ∃ d v, fs.lookup f = some d ∧ vs.lookup f = some v ∧ DV K mg O H d v
  | _, _, .nil => .inl ⟨rfl, rfl⟩
  | _, _, .cons (x := x) (d := d) (v := v) h t => by
    by_cases e : f = x
    · subst e
      exact .inr ⟨d, v, by simp [List.lookup], by simp [List.lookup], h⟩
    · have e' : (f == x) = false := by simpa using e
      rcases Flds.look (f := f) t with ⟨a, b⟩ | ⟨d', v', a, b, c⟩
      · exact .inl ⟨by simp [List.lookup, e', a], by simp [List.lookup, e', b]⟩
      · exact .inr ⟨d', v', by simp [List.lookup, e', a], by simp [List.lookup, e', b], c⟩
/-- o.f -/
def fldM (c f : Str) (fo : Rs → M D) : Rs → M D := fun env => bnd (fo env) fun d => bnd (insOf c d) fun q => opt (q.2.lookup f)
theorem re_fld (F : Fd X.K X.mg c f) (ho : RE X W o fo) (hb : attributeBase o f X.env (eval o X.env) = eval o X.env := by rfl) : RE X W (.Attribute o f pos) (fldM c f fo) := by
  obtain ⟨C, hC, cl, na⟩ := F.ex
  refine pe_weak (pe_fld ho hb) fun sg H Q ⟨O, env, s, hE, hS, hP⟩ => ?_
  refine ⟨O, env, s, hE, hS, hP.split.imp (fun d s1 O1 H1 _ x1 q1 p1 v dv => ?_) fun _ _ _ _ _ _ z => z⟩
  obtain ⟨n, fs, a, dx, vs, rfl, rfl, ha, es, eH, fl, p2⟩ := insOf_ok hC q1 dv p1
  rcases fl.look (f := f) with ⟨e1, e2⟩ | ⟨d, u, e1, e2, du⟩
  · dsimp only at p2
    rw [e1] at p2
    exact p2.elim
  · dsimp only at p2
    rw [e1] at p2
    exact ⟨a, C, dx, vs, u, rfl, eH, cl, na, e2, p2.ret q1 u du⟩
def putFD (f : Str) (v : D) : List (Str × D) → List (Str × D)
  | [] => [(f, v)]
  | (g, x) :: r => if g = f then (g, v) :: r else (g, x) :: putFD f v r
theorem Flds.put {K : PySem.W.Frag} {mg : Str → Option Value} {O : Ow} {H : Hp} {f : Str} {d : D} {v : V} (dv : DV K mg O H d v) : ∀ {fs : List (Str × D)} {vs : List (Str × V)}, Flds K mg O H fs vs → Flds K mg O H (putFD f d fs) (putF f v vs)
  | _, _, .nil => .cons dv .nil
  | _, _, .cons (x := x) h t => by
    unfold putFD putF
    by_cases e : x = f
    · rw [if_pos e, if_pos e]; exact .cons dv t
    · rw [if_neg e, if_neg e]; exact .cons h (Flds.put dv t)
theorem Flds.length {K : PySem.W.Frag} {mg : Str → Option Value} {O : Ow} {H : Hp} : ∀ {fs : List (Str × D)} {vs : List (Str × V)}, Flds K mg O H fs vs → fs.length = vs.length
  | _, _, .nil => rfl
  | _, _, .cons h t => by simp [Flds.length t]
/-- o.f = v -/
def stF (c f : Str) (fv fo : Rs → M D) : SM := Md.thn fv fun d => Md.thn fo fun e env s => match insOf c e s with
  | .ok q s' => if q.2.length < 1000 then .nx env (s'.set q.1 (.ins c (putFD f d q.2))) else .bad
  | _ => .bad
theorem rs_fld (F : Fd X.K X.mg c f) {v : Expr} {fv : Rs → M D} {pos' : Pos} (ho : RE X W o fo) (hv : RE X W v fv) (hs : swapsWith v (some (.Attribute o f pos')) pos.line X.env = pure false := by rfl) : RS X W (.Assign [.Attribute o f pos'] v pos) (stF c f fv fo) := by
  obtain ⟨C, hC, cl, na⟩ := F.ex
  refine ps_weak (ps_fld ho hv hs) fun E sg H ⟨O, env, s, hE, hS, hP⟩ => ?_
  refine ⟨O, env, s, hE, hS, (hP.thn hE).imp (fun d s1 O1 H1 _ x1 q1 p1 y dy => ?_) fun _ _ _ _ _ _ z => z⟩
  have hE1 := hE.mono x1.toMono
  refine ⟨O1, env, s1, hE1, q1, (p1.thn hE1).imp (fun d2 s2 O2 H2 _ x2 q2 p2 w dw => ?_) fun _ _ _ _ _ _ z => z⟩
  have p3 : Post X.K X.mg O2 H2 (bnd (insOf c d2) (fun q s' => if q.2.length < 1000 then .ok () (s'.set q.1 (.ins c (putFD f d q.2))) else .bad) s2) (fun _ s' O' H' => ∀ sg', RelE X.K X.mg O' H' env sg' → E.nx sg' H') (fun _ _ _ _ => False) := by
    unfold bnd
    cases e : insOf c d2 s2 with
    | ok q s' =>
      rw [e] at p2
      dsimp only at p2 ⊢
      by_cases hl : q.2.length < 1000
      · rw [if_pos hl] at p2 ⊢
        exact fun O' H' x q sg' r => p2 O' H' sg' x q r
      · rw [if_neg hl] at p2; exact p2.elim
    | exc a b => rw [e] at p2; exact p2.elim
    | bad => rw [e] at p2; exact p2.elim
  obtain ⟨n, fs, a, dx, vs, rfl, rfl, ha, es, eH, fl, p4⟩ := insOf_ok hC q2 dw p3
  dsimp only at p4
  by_cases hl : fs.length < 1000
  · rw [if_pos hl] at p4
    have dy2 := dy.mono x2.toMono
    obtain ⟨x3, q3⟩ := set_ob (o := .ins C dx (putF f y vs)) (b := .ins c (putFD f d fs)) q2 ha (fun x y e => by rw [eH] at e; cases e) fun m => ⟨C, dx, _, hC, upd_same, (fl.put dy2).mono m⟩
    exact ⟨a, C, dx, vs, rfl, eH, cl, na, by rw [← fl.length]; exact hl, p4 O2 _ x3 q3 sg ((hE1.mono x2.toMono).mono x3.toMono)⟩
  · rw [if_neg hl] at p4; exact p4.elim
/-- o.m(e, ..) -/
def mtM (c m : Str) (G : List D → M D) (dds : List D) (fo : Rs → M D) (fa : Rs → M (List D)) : Rs → M D := fun env => bnd (fo env) fun d => bnd (insOf c d) fun q => if q.2.lookup m = none then bnd (fa env) fun ds => G (d :: (ds ++ dds)) else bad
theorem re_meth {pl : Sem Bool} (F : Mt X.prog X.w X.K X.mg X.base k c m dds G) (hr : RmG k X.A) (tk : Takes X W) (ho : RE X W o fo) (ha : RA X W (e :: es) fa)
    (hst : starEach (e :: es) X.env = (false, eval e X.env) :: starEach es X.env := by rfl) (hpl : (backTo pos (starEach es X.env)).any (·.1) = false := by rfl)
    (ht : eval (.Call (.Attribute o m apos) (e :: es) [] pos) X.env = (do
      let ov ← eval o X.env
      standAt apos.atName
      let (f, first) ← holding [ov] (getMethod ov m pl)
      callWith pos f first (backTo pos (starEach (e :: es) X.env)) (backToKw pos (keywordEach [] X.env))) := by rfl) :
    RE X W (.Call (.Attribute o m apos) (e :: es) [] pos) (mtM c m G dds fo fa) := by
  obtain ⟨C, f, fd, ps, ds, dvs, n, hC, cl, hm, F, hb, hd, hD, ar⟩ := F.ex
  refine ⟨fun pins s sg H Q I ⟨O, env, st, hE, hS, hP⟩ => ?_⟩
  refine PySem.W.methodCall_KW (pl := pl) (L2.thn (ho.run pins s sg H (fun x H1 => ∃ O1 s1 nn a dx vs, RelE X.K X.mg O1 H1 env sg ∧ RelS X.K X.mg O1 H1 s1 ∧ x = .ref a ∧ O1.mu[nn]? = some a ∧ H1 a = some (.ins C dx vs) ∧ vs.lookup m = none ∧
    Post X.K X.mg O1 H1 (bnd (fa env) (fun ds => G (.ref nn :: (ds ++ dds))) s1) (fun d _ O' H' => ∀ v, DV X.K X.mg O' H' d v → Q v H') (XW X.K X.mg W sg)) I ⟨O, env, st, hE, hS, hP.split.imp (fun d s1 O1 H1 _ x1 q1 p1 v dv => ?_) fun _ _ _ _ _ _ z => z⟩) fun u s1 ⟨x, H1, I1, rx, O1, s2, nn, a, dx, vs, hE1, q1, ex, ha1, ea, l, p2⟩ => ?_) ht
  · obtain ⟨n, fs, a, dx, vs, rfl, rfl, ha, es, eH, fl, p2⟩ := insOf_ok hC q1 dv p1
    dsimp only at p2
    rcases fl.look (f := m) with ⟨e1, e2⟩ | ⟨d, u, e1, e2, du⟩
    · rw [if_pos e1] at p2
      exact ⟨O1, s1, n, a, dx, vs, hE.mono x1.toMono, q1, rfl, ha, eH, e2, p2⟩
    · rw [if_neg (by rw [e1]; exact fun z => nomatch z)] at p2
      exact p2.elim
  · subst ex
    obtain rfl : u = Value.ref a := rx
    refine getmeth_ok I1 ea cl hm l ?_
    refine PySem.W.callWith_K (first := [.ref a]) (h₀ := X.base) I.ok.mod.kin hm.kp (L2.thn (ha.run pos pins s1 sg H1 (fun vs H2 => spM X.K X.mg n G (.ref a :: (vs ++ dvs)) H2 Q (WE W sg)) I1 ⟨O1, env, s2, hE1, q1, p2.split.imp (fun ds s3 O3 H3 _ x3 q3 p3 vs dv => ?_) fun _ _ _ _ _ _ z => z⟩) fun us s4 ⟨vs, H2, I2, r, q2⟩ => ⟨I2.kIn, ?_⟩) hst hpl
    · have z := call_md (ds := .ref nn :: ds) (vs := .ref a :: vs) ar hD q3 (.cons (.ref (x3.toMono.get ha1)) dv) p3
      exact z
    · exact runG (E := WE W) (us := .ref a :: us) (vs := .ref a :: vs) F hr hb hd (passAt tk sg) I2 (.cons rfl r) q2
/-- o.m() -/
theorem re_meth0 {pl : Sem Bool} (F : Mt X.prog X.w X.K X.mg X.base k c m dds G) (hr : RmG k X.A) (tk : Takes X W) (ho : RE X W o fo)
    (ht : eval (.Call (.Attribute o m apos) [] [] pos) X.env = (do
      let ov ← eval o X.env
      standAt apos.atName
      let (f, first) ← holding [ov] (getMethod ov m pl)
      callWith pos f first (backTo pos (starEach [] X.env)) (backToKw pos (keywordEach [] X.env))) := by rfl) :
    RE X W (.Call (.Attribute o m apos) [] [] pos) (mtM c m G dds fo aNil) := by
  obtain ⟨C, f, fd, ps, ds, dvs, n, hC, cl, hm, F, hb, hd, hD, ar⟩ := F.ex
  refine ⟨fun pins s sg H Q I ⟨O, env, st, hE, hS, hP⟩ => ?_⟩
  refine PySem.W.methodCall_KW (pl := pl) (L2.thn (ho.run pins s sg H (fun x H1 => ∃ a dx vs, x = .ref a ∧ H1 a = some (.ins C dx vs) ∧ vs.lookup m = none ∧ spM X.K X.mg n G (.ref a :: ([] ++ dvs)) H1 Q (WE W sg)) I ⟨O, env, st, hE, hS, hP.split.imp (fun d s1 O1 H1 _ x1 q1 p1 v dv => ?_) fun _ _ _ _ _ _ z => z⟩) fun u s1 ⟨x, H1, I1, rx, a, dx, vs, ex, ea, l, q2⟩ => ?_) ht
  · obtain ⟨n, fs, a, dx, vs, rfl, rfl, ha, es, eH, fl, p2⟩ := insOf_ok hC q1 dv p1
    dsimp only at p2
    rcases fl.look (f := m) with ⟨e1, e2⟩ | ⟨d, u, e1, e2, du⟩
    · rw [if_pos e1] at p2
      exact ⟨a, dx, vs, rfl, eH, e2, call_md (ds := [.ref n]) (vs := [.ref a]) ar hD q1 (.cons dv .nil) p2⟩
    · rw [if_neg (by rw [e1]; exact fun z => nomatch z)] at p2
      exact p2.elim
  · subst ex
    obtain rfl : u = Value.ref a := rx
    refine getmeth_ok I1 ea cl hm l ?_
    exact PySem.W.callWith_K0 (first := [.ref a]) I1.kIn hm.kp (runG (E := WE W) (us := [.ref a]) (vs := [.ref a]) F hr hb hd (passAt tk sg) I1 (.cons rfl .nil) q2)
/-- C(e, ..) -/
def mkM (c : Str) (G : List D → M D) (dds : List D) (fa : Rs → M (List D)) : Rs → M D := fun env => bnd (fa env) fun ds => bnd (new (.ins c [])) fun r => bnd (G (r :: (ds ++ dds))) fun d => match d with
  | .non => ret r
  | _ => bad
theorem made_md {C dx x : Addr} {c : Str} {O : Ow} {H : Hp} {s : S} (hC : X.mg c = some (.ref C)) (r : RelS X.K X.mg O H s) (hx : H x = none) (hd : H dx = none) (ne : dx ≠ x) :
    Ext O H (O.add x) (upd (upd H dx (.own x)) x (.ins C dx [])) ∧ RelS X.K X.mg (O.add x) (upd (upd H dx (.own x)) x (.ins C dx [])) (s ++ [.ins c []]) ∧ DV X.K X.mg (O.add x) (upd (upd H dx (.own x)) x (.ins C dx [])) (.ref s.length) (.ref x) := by
  obtain ⟨x1, r1⟩ := new_else (o := .own x) r hd
  have hx1 : upd H dx (.own x) x = none := by rw [upd_ne (Ne.symm ne)]; exact hx
  obtain ⟨x2, r2, d2⟩ := new_ob (o := .ins C dx []) (b := .ins c []) r1 hx1 fun m => ⟨C, dx, [], hC, upd_same, .nil⟩
  exact ⟨x1.trans r1 x2, r2, d2⟩
theorem run_mk {C : Addr} {fI : Addr} {fd : FuncData} {ps : List Str} {ds : List Value} {dvs : List V} {n : Nat} {pins : List (Addr × Obj)} {sg : L2.St} {H : Hp} {s : Shared} {us : List Value} {vs : List V} {Q : VK} {O : Ow} {st : S} {ks : List D}
    (hC : X.mg c = some (.ref C)) (hM : Mk X.K C fI) (F : FnG X.prog X.w X.K X.mg X.base (L2.CX X.prog X.w) k fI fd ps (spM X.K X.mg n G)) (hb : Binds X.K fd ps ds) (hd : Vals dvs ds) (hD : ∀ O H, DVs X.K X.mg O H dds dvs) (ar : Ar n G) (hr : RmG (k + 1) X.A) (tk : Takes X W)
    (I : L2.Inv X pins sg H s) (r : Vals vs us) (q : RelS X.K X.mg O H st) (dv : DVs X.K X.mg O H ks vs)
    (hP : Post X.K X.mg O H (bnd (new (.ins c [])) (fun r => bnd (G (r :: (ks ++ dds))) fun d => (match d with | .non => ret r | _ => bad : M D)) st) (fun d _ O' H' => ∀ v, DV X.K X.mg O' H' d v → Q v H') (XW X.K X.mg W sg)) :
    wpAny (model X.prog X.w) X.A (call (.ref C) us) (EP X pins sg Q) X.xe s := by
  have hx : H (s.heap.objs.size + 1) = none := I.hok.fresh (Nat.le_succ _)
  have hdx : H s.heap.objs.size = none := I.hok.fresh (Nat.le_refl _)
  obtain ⟨x1, r1, d1⟩ := made_md (X := X) (c := c) hC q hx hdx (Nat.ne_of_lt (Nat.lt_succ_self _))
  have I2 := L2.Inv.made (C := C) I
  have hP2 : Post X.K X.mg O H (bnd (G (.ref st.length :: (ks ++ dds))) (fun d => (match d with | .non => ret (.ref st.length) | _ => bad : M D)) (st ++ [.ins c []])) (fun d _ O' H' => ∀ v, DV X.K X.mg O' H' d v → Q v H') (XW X.K X.mg W sg) := hP
  have hP3 := hP2.ext x1 r1
  have hq : spM X.K X.mg n G (.ref (s.heap.objs.size + 1) :: (vs ++ dvs)) (upd (upd H s.heap.objs.size (.own (s.heap.objs.size + 1))) (s.heap.objs.size + 1) (.ins C s.heap.objs.size [])) (fun v H2 => v = .non ∧ Q (.ref (s.heap.objs.size + 1)) H2) (WE W sg) := by
    refine call_md (ds := .ref st.length :: ks) (vs := .ref (s.heap.objs.size + 1) :: vs) ar hD r1 (.cons d1 (dv.mono x1.toMono)) (hP3.split.imp (fun d s3 O3 H3 _ x3 q3 p3 u du => ?_) fun _ _ _ _ _ _ z => z)
    cases d with
    | non => cases du; exact ⟨rfl, p3.ret q3 _ (d1.mono x3.toMono)⟩
    | _ => exact p3.elim
  have r2 : Vals (V.ref (s.heap.objs.size + 1) :: (vs ++ dvs)) (Value.ref (s.heap.objs.size + 1) :: (us ++ ds)) := .cons rfl (r.append hd)
  have hl : (Value.ref (s.heap.objs.size + 1) :: us ++ ds).length = ps.length := by
    have e := r2.length
    rw [F.len _ _ _ _ hq] at e
    exact e.symm
  refine wpAny_call (make_map (f := fI) I.kIn hM.makes hM.init (beq_iff_eq.mp hM.fn) (codeAny_mono (F.run _ X.stack _ _ ⟨Value.ref (s.heap.objs.size + 1) :: us, []⟩ (Value.ref (s.heap.objs.size + 1) :: (us ++ ds)) _ _ _ (hr.make C us)
    (I2.env0.make C us []) (hb _ (Value.ref (s.heap.objs.size + 1) :: us) I2.kIn hl) r2 hq) fun r s' hq' => ?_))
  cases r with
  | error e => exact passAt tk sg pins _ _ e s' I2 hq'
  | ok fl =>
    cases fl with
    | ret u =>
      obtain ⟨v, H', I3, rv, ev, q3⟩ := I2.after hq'
      subst ev
      exact ⟨rv, ⟨V.ref (s.heap.objs.size + 1), H', I3, rfl, q3⟩⟩
    | next => exact False.elim hq'
    | brk => exact False.elim hq'
    | cont => exact False.elim hq'
theorem re_make (F : Mc X.prog X.w X.K X.mg X.base k c dds G) (hr : RmG (k + 1) X.A) (tk : Takes X W) (ha : RA X W (e :: es) fa) (hg : Gl X c := by rfl) (hdb : (c == ("__debug__" : Str)) = false := by decide)
    (he : starEach (e :: es) X.env = (false, eval e X.env) :: starEach es X.env := by rfl) (hpl : (backTo pos (starEach es X.env)).any (·.1) = false := by rfl) : RE X W (.Call (.Name c p) (e :: es) [] pos) (mkM c G dds fa) := by
  obtain ⟨C, fI, fd, ps, ds, dvs, n, hC, hM, F, hb, hd, hD, ar⟩ := F.ex
  refine ⟨fun pins s sg H Q I ⟨O, env, st, hE, hS, hP⟩ => ?_⟩
  refine wpAny_Call_Name_kw (ld_glob I hg hC ?_ hdb)
  refine PySem.W.callWith_K (h₀ := X.base) I.ok.mod.kin hM.kp (L2.thn (ha.run pos pins s sg H (fun vs H1 => ∃ O1 s1 ks, RelS X.K X.mg O1 H1 s1 ∧ DVs X.K X.mg O1 H1 ks vs ∧
    Post X.K X.mg O1 H1 (bnd (new (.ins c [])) (fun r => bnd (G (r :: (ks ++ dds))) fun d => (match d with | .non => ret r | _ => bad : M D)) s1) (fun d _ O' H' => ∀ v, DV X.K X.mg O' H' d v → Q v H') (XW X.K X.mg W sg)) I
    ⟨O, env, st, hE, hS, hP.split.imp (fun ks s1 O1 H1 _ x1 q1 p1 vs dv => ⟨O1, s1, ks, q1, dv, p1⟩) fun _ _ _ _ _ _ z => z⟩) fun us s1 ⟨vs, H1, I1, r, O1, s2, ks, q1, dv, p1⟩ => ⟨I1.kIn, ?_⟩) he hpl
  exact run_mk hC hM F hb hd hD ar hr tk I1 r q1 dv p1
theorem re_make0 (F : Mc X.prog X.w X.K X.mg X.base k c dds G) (hr : RmG (k + 1) X.A) (tk : Takes X W) (hg : Gl X c := by rfl) (hdb : (c == ("__debug__" : Str)) = false := by decide) : RE X W (.Call (.Name c p) [] [] pos) (mkM c G dds aNil) := by
  obtain ⟨C, fI, fd, ps, ds, dvs, n, hC, hM, F, hb, hd, hD, ar⟩ := F.ex
  refine ⟨fun pins s sg H Q I ⟨O, env, st, hE, hS, hP⟩ => ?_⟩
  refine wpAny_Call_Name_kw (ld_glob I hg hC ?_ hdb)
  exact PySem.W.callWith_K0 I.kIn hM.kp (run_mk (us := []) (vs := []) hC hM F hb hd hD ar hr tk I .nil hS .nil hP)
end

/-! ### the end -/
/-- the law's promise, from its plain function's answer -/
theorem law_md {K : PySem.W.Frag} {mg : Str → Option Value} {G : List D → M D} {n : Nat} (h : ∀ ns : List Int, ns.length ≤ n → ∃ s, G [.wls (ns.map .int)] [] = .ok (.bl true) s) (H : Hp) (a : Addr) (ns : List Int) (hl : ns.length ≤ n) (hO : Only H) (hS : SqL K H a (ns.map V.int)) :
    spM K mg 1 G [.ref a] H (fun v _ => v = .bl true) fun _ _ _ => False := by
  obtain ⟨s, e⟩ := h ns hl
  have dints : ∀ (O : Ow) (ns : List Int), DVs K mg O H (ns.map .int) (ns.map V.int) := fun O ns => by
    induction ns with
    | nil => exact .nil
    | cons i r ih => exact .cons (.int i) ih
  have fin : ∀ (O : Ow), Post K mg O H (G [.wls (ns.map .int)] []) (fun d _ O' H' => ∀ v, DV K mg O' H' d v → v = .bl true) (fun e _ O' H' => ∀ c dd, EV K mg O' H' e c dd → False) := fun O => by
    rw [e]
    intro O' H' _ _ v dv
    cases dv
    rfl
  rcases hS with hS | hS
  · rcases hS with hS | ⟨o, hS⟩
    · rcases hO a with z | ⟨o, xs, z⟩
      · rw [hS] at z; cases z
      · rw [hS] at z; cases z
    · exact ⟨rfl, ⟨[], fun b => b = a⟩, [.wls (ns.map .int)], [], .cons (.wls (.inl ⟨rfl, o, hS⟩) (dints _ ns)) .nil,
        ⟨rfl, List.nodup_nil, fun b hb => absurd hb (by simp), fun n b ob e1 e2 => by simp at e1, fun b hb => ⟨.frz o (.lst (ns.map V.int)), (show b = a from hb) ▸ hS⟩⟩, fin _⟩
  · obtain ⟨o, its, k, h1, h2, h3, h4, h5, h6⟩ := hS
    exact ⟨rfl, ⟨[], fun _ => False⟩, [.wls (ns.map .int)], [], .cons (.wls (.inr ⟨o, its, k, h1, h2, fun _ => h3, h4, h5, h6⟩) (dints _ ns)) .nil,
      ⟨rfl, List.nodup_nil, fun b hb => absurd hb (by simp), fun n b ob e1 e2 => by simp at e1, fun b hb => hb.elim⟩, fin _⟩
theorem cx_never (P : Program) (w : World) (H : Hp) (s : Shared) (e : Value) (s' : Shared) : L2.CX P w [] H s (fun _ _ _ => False) e s' → False := fun ⟨_, _, _, _, _, _, _, _, _, _, _, _, z⟩ => z
end Md

set_option Elab.async false
set_option linter.all false
set_option maxRecDepth 100000
/-! Md5: arithmetic, ==, <, and what data reads as. -/
namespace Md
open PySem PySem.Spec PyProof.Rows L2

/-! ### data as the library has it -/
def toPyL (f : D → Option PyData) : List D → Option (List PyData)
  | [] => some []
  | d :: ds => match f d, toPyL f ds with
    | some x, some xs => some (x :: xs)
    | _, _ => none
def toPy (s : S) : Nat → D → Option PyData
  | 0, _ => none
  | n + 1, d => match d with
    | .non => some .none
    | .bl b => some (.bool b)
    | .int i => some (.int i)
    | .str x => if PyData.strOk x = true then some (.str x) else none
    | .tup ds => (toPyL (toPy s n) ds).map .tuple
    | .lst ds => (toPyL (toPy s n) ds).map .list
    | .wls ds => (toPyL (toPy s n) ds).map .list
    | .ref k => match s[k]? with
      | some (.lst ds) => (toPyL (toPy s n) ds).map .list
      | some (.lok ds) => (toPyL (toPy s n) ds).map .list
      | _ => none
    | _ => none
theorem toPyL_ok {f : D → Option PyData} : ∀ {ds : List D} {xs : List PyData}, toPyL f ds = some xs → ∀ {P : D → PyData → Prop}, (∀ d x, f d = some x → P d x) → Paired P ds xs
  | [], xs, h, P, hP => by
    injection h with h
    subst h
    exact .nil
  | d :: ds, xs, h, P, hP => by
    unfold toPyL at h
    cases e1 : f d with
    | none => rw [e1] at h; cases h
    | some x =>
      cases e2 : toPyL f ds with
      | none => rw [e1, e2] at h; cases h
      | some ys =>
        rw [e1, e2] at h
        injection h with h
        subst h
        exact .cons (hP d x e1) (toPyL_ok e2 hP)
theorem toPy_shape (s : S) : ∀ (n : Nat) (d : D) (x : PyData), toPy s n d = some x → x.canLay0 = true ∧ x.depth ≤ n := by
  have lists : ∀ {n : Nat} {ds : List D} {xs : List PyData}, (∀ d x, toPy s n d = some x → x.canLay0 = true ∧ x.depth ≤ n) → toPyL (toPy s n) ds = some xs → PyData.canLayAll0 xs = true ∧ PyData.depthAll xs ≤ n := by
    intro n ds xs ih h
    have p := toPyL_ok h (P := fun _ x => x.canLay0 = true ∧ x.depth ≤ n) (fun d x e => ih d x e)
    clear h
    induction p with
    | nil => exact ⟨by simp [PyData.canLayAll0], by simp [PyData.depthAll]⟩
    | cons h t iht => exact ⟨by simp [PyData.canLayAll0, h.1, iht.1], by simp only [PyData.depthAll]; omega⟩
  intro n
  induction n with
  | zero => intro d x h; cases h
  | succ n ih =>
    intro d x h
    cases d with
    | non => injection h with h; subst h; exact ⟨by simp [PyData.canLay0], by simp [PyData.depth]⟩
    | bl b => injection h with h; subst h; exact ⟨by simp [PyData.canLay0], by simp [PyData.depth]⟩
    | int b => injection h with h; subst h; exact ⟨by simp [PyData.canLay0], by simp [PyData.depth]⟩
    | str b =>
      have h : (if PyData.strOk b = true then some (PyData.str b) else none) = some x := h
      by_cases e : PyData.strOk b = true
      · rw [if_pos e] at h; injection h with h; subst h; exact ⟨by simp [PyData.canLay0, e], by simp [PyData.depth]⟩
      · rw [if_neg e] at h; cases h
    | tup ds =>
      obtain ⟨xs, e1, e2⟩ := Option.map_eq_some_iff.mp (show (toPyL (toPy s n) ds).map PyData.tuple = some x from h)
      subst e2
      obtain ⟨a, b⟩ := lists ih e1
      exact ⟨by simp [PyData.canLay0, a], by simp only [PyData.depth]; omega⟩
    | lst ds =>
      obtain ⟨xs, e1, e2⟩ := Option.map_eq_some_iff.mp (show (toPyL (toPy s n) ds).map PyData.list = some x from h)
      subst e2
      obtain ⟨a, b⟩ := lists ih e1
      exact ⟨by simp [PyData.canLay0, a], by simp only [PyData.depth]; omega⟩
    | wls ds =>
      obtain ⟨xs, e1, e2⟩ := Option.map_eq_some_iff.mp (show (toPyL (toPy s n) ds).map PyData.list = some x from h)
      subst e2
      obtain ⟨a, b⟩ := lists ih e1
      exact ⟨by simp [PyData.canLay0, a], by simp only [PyData.depth]; omega⟩
    | ref k =>
      have h : (match s[k]? with
        | some (.lst ds) => (toPyL (toPy s n) ds).map PyData.list
        | some (.lok ds) => (toPyL (toPy s n) ds).map PyData.list
        | _ => none) = some x := h
      split at h
      · obtain ⟨xs, e1, e2⟩ := Option.map_eq_some_iff.mp h
        subst e2
        obtain ⟨a, b⟩ := lists ih e1
        exact ⟨by simp [PyData.canLay0, a], by simp only [PyData.depth]; omega⟩
      · obtain ⟨xs, e1, e2⟩ := Option.map_eq_some_iff.mp h
        subst e2
        obtain ⟨a, b⟩ := lists ih e1
        exact ⟨by simp [PyData.canLay0, a], by simp only [PyData.depth]; omega⟩
      · cases h
    | glo y => cases h
    | exc c ns vs => cases h
/-! what a value of the layer reads as -/
mutual
inductive RdV (K : PySem.W.Frag) (H : Hp) : V → PyData → Prop
  | non : RdV K H .non .none
  | bl (b : Bool) : RdV K H (.bl b) (.bool b)
  | int (i : Int) : RdV K H (.int i) (.int i)
  | str (x : Str) : RdV K H (.str x) (.str x)
  | tup {a : Addr} {vs : List V} {xs : List PyData} : SqT K H a vs → RdVs K H vs xs → RdV K H (.ref a) (.tuple xs)
  | lst {a : Addr} {vs : List V} {xs : List PyData} : SqL K H a vs → RdVs K H vs xs → RdV K H (.ref a) (.list xs)
inductive RdVs (K : PySem.W.Frag) (H : Hp) : List V → List PyData → Prop
  | nil : RdVs K H [] []
  | cons {v : V} {vs : List V} {x : PyData} {xs : List PyData} : RdV K H v x → RdVs K H vs xs → RdVs K H (v :: vs) (x :: xs)
end
section
variable {K : PySem.W.Frag} {mg : Str → Option Value} {O : Ow} {H : Hp} {s : S}
theorem LstAt.sq {a : Addr} {vs : List V} (h : LstAt O H a vs) : SqL K H a vs := .of h.2
theorem WlsAt.sq {a : Addr} {vs : List V} (h : WlsAt K O H a vs) : SqL K H a vs := by
  rcases h with ⟨_, o, h⟩ | ⟨o, its, n, h1, h2, h0, h3, h4, h5⟩
  · exact .inl (.inr ⟨o, h⟩)
  · exact .inr ⟨o, its, n, h1, h2, h0 rfl, h3, h4, h5⟩
theorem rdv_list {n : Nat} (ih : ∀ d v x, DV K mg O H d v → toPy s n d = some x → RdV K H v x) : ∀ {ds : List D} {vs : List V} {xs : List PyData}, DVs K mg O H ds vs → toPyL (toPy s n) ds = some xs → RdVs K H vs xs
  | _, _, xs, .nil, h => by
    injection h with h
    subst h
    exact .nil
  | d :: ds, _, xs, .cons a t, h => by
    unfold toPyL at h
    cases e1 : toPy s n d with
    | none => rw [e1] at h; cases h
    | some x =>
      cases e2 : toPyL (toPy s n) ds with
      | none => rw [e1, e2] at h; cases h
      | some ys =>
        rw [e1, e2] at h
        injection h with h
        subst h
        exact .cons (ih _ _ _ a e1) (rdv_list ih t e2)
theorem rdv_of (r : RelS K mg O H s) : ∀ (n : Nat) (d : D) (v : V) (x : PyData), DV K mg O H d v → toPy s n d = some x → RdV K H v x := by
  intro n
  induction n with
  | zero => intro d v x _ h; cases h
  | succ n ih =>
    intro d v x dv h
    cases dv with
    | non => injection h with h; subst h; exact .non
    | bl b => injection h with h; subst h; exact .bl b
    | int b => injection h with h; subst h; exact .int b
    | str b =>
      have h : (if PyData.strOk b = true then some (PyData.str b) else none) = some x := h
      by_cases e : PyData.strOk b = true
      · rw [if_pos e] at h; injection h with h; subst h; exact .str b
      · rw [if_neg e] at h; cases h
    | @tup ds vs a ta t =>
      obtain ⟨xs, e1, e2⟩ := Option.map_eq_some_iff.mp (show (toPyL (toPy s n) ds).map PyData.tuple = some x from h)
      subst e2
      exact .tup ta.sq (rdv_list ih t e1)
    | @lst ds vs a ta t =>
      obtain ⟨xs, e1, e2⟩ := Option.map_eq_some_iff.mp (show (toPyL (toPy s n) ds).map PyData.list = some x from h)
      subst e2
      exact .lst ta.sq (rdv_list ih t e1)
    | @wls ds vs a ta t =>
      obtain ⟨xs, e1, e2⟩ := Option.map_eq_some_iff.mp (show (toPyL (toPy s n) ds).map PyData.list = some x from h)
      subst e2
      exact .lst ta.sq (rdv_list ih t e1)
    | @ref k a ha =>
      have h : (match s[k]? with
        | some (.lst ds) => (toPyL (toPy s n) ds).map PyData.list
        | some (.lok ds) => (toPyL (toPy s n) ds).map PyData.list
        | _ => none) = some x := h
      split at h
      · rename_i ds e
        obtain ⟨xs, e1, e2⟩ := Option.map_eq_some_iff.mp h
        subst e2
        obtain ⟨vs, eH, t⟩ := r.obs k a _ ha e
        exact .lst (.of eH) (rdv_list ih t e1)
      · rename_i ds e
        obtain ⟨xs, e1, e2⟩ := Option.map_eq_some_iff.mp h
        subst e2
        obtain ⟨o, vs, eH, t⟩ := r.obs k a _ ha e
        exact .lst (.inl (.inr ⟨o, eH⟩)) (rdv_list ih t e1)
      · cases h
    | glo g => cases h
end
section
variable {X : Cx} {pins : List (Addr × Obj)} {sg : L2.St} {H : Hp} {s : Shared}
mutual
theorem reads_of (I : L2.Inv X pins sg H s) : ∀ {v : V} {x : PyData} {u : Value}, RdV X.K H v x → RelV v u → ∃ as, Reads s.heap u x as
  | _, _, _, .non, r => by cases r; exact ⟨_, .none⟩
  | _, _, _, .bl b, r => by cases r; exact ⟨_, .bool b⟩
  | _, _, _, .int i, r => by obtain ⟨t, rfl⟩ := r; exact ⟨_, .int i t⟩
  | _, _, _, .str x, r => by obtain ⟨t, rfl⟩ := r; exact ⟨_, .str x t⟩
  | _, _, _, .tup h t, r => by
    cases r
    obtain ⟨its, rv, ⟨o, e, hc, n, hd⟩, _⟩ := I.tuple h
    obtain ⟨as, ra⟩ := readsAll_of I t rv
    exact ⟨_, .tuple e hc hd (by simpa using ra)⟩
  | _, _, _, .lst h t, r => by
    cases r
    obtain ⟨its, rv, ⟨o, n, e, hc, hdt, hd⟩, _⟩ := I.list h
    obtain ⟨as, ra⟩ := readsAll_of I t rv
    exact ⟨_, .list e hc hd (by simpa using ra)⟩
theorem readsAll_of (I : L2.Inv X pins sg H s) : ∀ {vs : List V} {xs : List PyData} {us : List Value}, RdVs X.K H vs xs → Vals vs us → ∃ as, ReadsAll s.heap us xs as
  | _, _, _, .nil, .nil => ⟨_, .nil⟩
  | _, _, _, .cons h t, .cons r q => by
    obtain ⟨as, ra⟩ := reads_of I h r
    obtain ⟨bs, rb⟩ := readsAll_of I t q
    exact ⟨_, .cons ra rb⟩
end
end
/-! ### == and < of data -/
def rEqP (K : PySem.W.Frag) (f : Bool → Bool) : R2 := fun x y H Q => ∃ px py, RdV K H x px ∧ RdV K H y py ∧ (px.canLay0 = true ∧ px.depth ≤ 60) ∧ (py.canLay0 = true ∧ py.depth ≤ 60) ∧ Q (.bl (f (PyData.eqv px py))) H
section
variable {X : Cx}
theorem op_eqP (hu : X.A.units + 64 < cLine) : OpR X (compareOp .Eq) (rEqP X.K id) := by
  intro pins s sg H x y v u Q I r1 r2 ⟨px, py, h1, h2, s1, s2, q⟩
  obtain ⟨as, ra⟩ := reads_of I h1 r1
  obtain ⟨bs, rb⟩ := reads_of I h2 r2
  refine PySem.SeqAt.compareEq_reads ra rb s1.1 s2.1 (by omega) ⟨.bl _, H, I, rfl, q⟩
theorem op_neP (hu : X.A.units + 64 < cLine) : OpR X (compareOp .NotEq) (rEqP X.K not) := by
  intro pins s sg H x y v u Q I r1 r2 ⟨px, py, h1, h2, s1, s2, q⟩
  obtain ⟨as, ra⟩ := reads_of I h1 r1
  obtain ⟨bs, rb⟩ := reads_of I h2 r2
  refine PySem.SeqAt.compareNe_reads ra rb s1.1 s2.1 (by omega) ⟨.bl _, H, I, rfl, q⟩
def rLtP (K : PySem.W.Frag) : R2 := fun x y H Q => ∃ px py, RdV K H x px ∧ RdV K H y py ∧ PySem.W.alike px py = true ∧ px ≠ .none ∧ px.depth ≤ 60 ∧ Q (.bl (PySem.W.dataLt px py)) H
theorem op_ltP (hu : X.A.units + 64 < cLine) : OpR X (compareOp .Lt) (rLtP X.K) := by
  intro pins s sg H x y v u Q I r1 r2 ⟨px, py, h1, h2, al, nn, dp, q⟩
  obtain ⟨as, ra⟩ := reads_of I h1 r1
  obtain ⟨bs, rb⟩ := reads_of I h2 r2
  exact PySem.W.rcLt_alike px py X.A s v u as bs ra rb al nn (by omega) X.prog X.w X.xe _ ⟨.bl _, H, I, rfl, q⟩
end
def py2 (p : PyData → PyData → Option D) : D → D → M D := fun a b s => match toPy s 20 a, toPy s 20 b with
  | some x, some y => opt (p x y) s
  | _, _ => .bad
def eqG (f : Bool → Bool) : D → D → M D := py2 fun x y => some (.bl (f (PyData.eqv x y)))
def ltG : D → D → M D := py2 fun x y => if PySem.W.alike x y = true then (match x with | .none => none | _ => some (.bl (PySem.W.dataLt x y))) else none
section
variable {X : Cx} {W : WX} {a b : Expr} {fa fb : Rs → M D} {pos : Pos}
theorem eqG_ok (f : Bool → Bool) : OpOk X.K X.mg (rEqP X.K f) (eqG f) := by
  intro O H s d1 d2 v w Q X' r dv dw h
  unfold eqG py2 at h
  cases e1 : toPy s 20 d1 with
  | none => rw [e1] at h; exact h.elim
  | some x =>
    cases e2 : toPy s 20 d2 with
    | none => rw [e1, e2] at h; exact h.elim
    | some y =>
      rw [e1, e2] at h
      have q := Post.ret h r
      obtain ⟨a1, a2⟩ := toPy_shape s 20 d1 x e1
      obtain ⟨b1, b2⟩ := toPy_shape s 20 d2 y e2
      exact ⟨x, y, rdv_of r 20 d1 v x dv e1, rdv_of r 20 d2 w y dw e2, ⟨a1, by omega⟩, ⟨b1, by omega⟩, q _ (.bl _)⟩
theorem ltG_ok : OpOk X.K X.mg (rLtP X.K) ltG := by
  intro O H s d1 d2 v w Q X' r dv dw h
  unfold ltG py2 at h
  cases e1 : toPy s 20 d1 with
  | none => rw [e1] at h; exact h.elim
  | some x =>
    cases e2 : toPy s 20 d2 with
    | none => rw [e1, e2] at h; exact h.elim
    | some y =>
      rw [e1, e2] at h
      dsimp only at h
      by_cases al : PySem.W.alike x y = true
      · rw [if_pos al] at h
        obtain ⟨a1, a2⟩ := toPy_shape s 20 d1 x e1
        have fin : x ≠ .none → Q (.bl (PySem.W.dataLt x y)) H → rLtP X.K v w H Q := fun nn q => ⟨x, y, rdv_of r 20 d1 v x dv e1, rdv_of r 20 d2 w y dw e2, al, nn, by omega, q⟩
        cases x with
        | none => exact h.elim
        | _ => exact fin (fun z => nomatch z) (Post.ret h r _ (.bl _))
      · rw [if_neg al] at h; exact h.elim
/-! ### ints -/
def int2 (p : Int → Int → Option D) : D → D → M D := fun a b => match a, b with
  | .int i, .int j => opt (p i j)
  | _, _ => bad
theorem int2_ok {K : PySem.W.Frag} {mg : Str → Option Value} {C : Int → Int → Prop} {g : Int → Int → V} {p : Int → Int → Option D} (h : ∀ i j d, p i j = some d → C i j ∧ ∀ O H, DV K mg O H d (g i j)) : OpOk K mg (rI C g) (int2 p) := by
  intro O H s d1 d2 v w Q X' r dv dw q
  cases d1 with
  | int i =>
    cases d2 with
    | int j =>
      cases dv; cases dw
      have q : Post K mg O H (opt (p i j) s) _ X' := q
      cases e : p i j with
      | none => rw [e] at q; exact q.elim
      | some d =>
        rw [e] at q
        obtain ⟨c, dd⟩ := h i j d e
        exact ⟨i, j, rfl, rfl, c, Post.ret q r _ (dd O H)⟩
    | _ => exact q.elim
  | _ => cases d2 <;> exact q.elim
theorem int20_ok {K : PySem.W.Frag} {mg : Str → Option Value} {g : Int → Int → V} {p : Int → Int → D} (h : ∀ i j O H, DV K mg O H (p i j) (g i j)) : OpOk K mg (rI0 g) (int2 fun i j => some (p i j)) := by
  intro O H s d1 d2 v w Q X' r dv dw q
  cases d1 with
  | int i =>
    cases d2 with
    | int j =>
      cases dv; cases dw
      exact ⟨i, j, rfl, rfl, Post.ret (show Post K mg O H (ret (p i j) s) _ X' from q) r _ (h i j O H)⟩
    | _ => exact q.elim
  | _ => cases d2 <;> exact q.elim
def addI : D → D → M D := int2 fun i j => some (.int (i + j))
def subI : D → D → M D := int2 fun i j => some (.int (i - j))
def modI : D → D → M D := int2 fun i j => if 0 < j then some (.int (i % j)) else none
def fdivI : D → D → M D := int2 fun i j => if 0 < j ∧ j < 2 ^ 200 then some (.int (i / j)) else none
def mulI : D → D → M D := int2 fun i j => if (-(2 ^ 64) < i ∧ i < 2 ^ 64) ∨ (-(2 ^ 64) < j ∧ j < 2 ^ 64) then some (.int (i * j)) else none
def powI : D → D → M D := int2 fun i j => if 0 ≤ j ∧ j ≤ 100 ∧ 0 ≤ i ∧ i < 1000 then some (.int (i ^ j.toNat)) else none
def shlI : D → D → M D := int2 fun i j => if 0 ≤ j ∧ j ≤ 100 ∧ 0 ≤ i ∧ i < 1000 then some (.int (i * 2 ^ j.toNat)) else none
def ltI : D → D → M D := int2 fun i j => some (.bl (decide (i < j)))
def leI : D → D → M D := int2 fun i j => some (.bl (decide (i ≤ j)))
def gtI : D → D → M D := int2 fun i j => some (.bl (decide (j < i)))
def geI : D → D → M D := int2 fun i j => some (.bl (decide (j ≤ i)))
theorem re_add (ha : RE X W a fa) (hb : RE X W b fb) : RE X W (.BinOp a .Add b pos) (op2 addI fa fb) := re_op op_add (int20_ok fun i j O H => .int _) ha hb
theorem re_sub (ha : RE X W a fa) (hb : RE X W b fb) : RE X W (.BinOp a .Sub b pos) (op2 subI fa fb) := re_op op_sub (int20_ok fun i j O H => .int _) ha hb
theorem re_mod (ha : RE X W a fa) (hb : RE X W b fb) : RE X W (.BinOp a .Mod b pos) (op2 modI fa fb) := re_op op_mod (int2_ok fun i j d e => by
  by_cases h : 0 < j
  · rw [if_pos h] at e; injection e with e; subst e; exact ⟨h, fun _ _ => .int _⟩
  · rw [if_neg h] at e; cases e) ha hb
theorem re_fdiv (ha : RE X W a fa) (hb : RE X W b fb) : RE X W (.BinOp a .FloorDiv b pos) (op2 fdivI fa fb) := re_op op_fdivW (int2_ok fun i j d e => by
  by_cases h : 0 < j ∧ j < 2 ^ 200
  · rw [if_pos h] at e; injection e with e; subst e
    refine ⟨wide_div (b := 200) h.1 ?_ (by decide) (by decide), fun _ _ => .int _⟩
    have h2 := h.2
    have e2 : ((2 : Int) ^ 200) = ((2 ^ 200 : Nat) : Int) := by norm_cast
    omega
  · rw [if_neg h] at e; cases e) ha hb
theorem re_mul (ha : RE X W a fa) (hb : RE X W b fb) : RE X W (.BinOp a .Mult b pos) (op2 mulI fa fb) := re_op op_mul (int2_ok fun i j d e => by
  by_cases h : (-(2 ^ 64) < i ∧ i < 2 ^ 64) ∨ (-(2 ^ 64) < j ∧ j < 2 ^ 64)
  · rw [if_pos h] at e; injection e with e; subst e; exact ⟨h, fun _ _ => .int _⟩
  · rw [if_neg h] at e; cases e) ha hb
theorem re_pow (ha : RE X W a fa) (hb : RE X W b fb) : RE X W (.BinOp a .Pow b pos) (op2 powI fa fb) := re_op op_pow (int2_ok fun i j d e => by
  by_cases h : 0 ≤ j ∧ j ≤ 100 ∧ 0 ≤ i ∧ i < 1000
  · rw [if_pos h] at e; injection e with e; subst e; exact ⟨⟨h.1, by omega, by omega⟩, fun _ _ => .int _⟩
  · rw [if_neg h] at e; cases e) ha hb
theorem re_shl (ha : RE X W a fa) (hb : RE X W b fb) : RE X W (.BinOp a .LShift b pos) (op2 shlI fa fb) := re_op op_shl (int2_ok fun i j d e => by
  by_cases h : 0 ≤ j ∧ j ≤ 100 ∧ 0 ≤ i ∧ i < 1000
  · rw [if_pos h] at e; injection e with e; subst e; exact ⟨⟨h.1, by omega, by omega⟩, fun _ _ => .int _⟩
  · rw [if_neg h] at e; cases e) ha hb
end
end Md

set_option Elab.async false
set_option linter.all false
set_option maxRecDepth 100000
/-! Md6: kinds, displays, items, slices, walks, the plain built-ins. -/
namespace Md
open PySem PySem.Spec PyProof.Rows L2

/-! ### calls of built-ins -/
def CallOk (K : PySem.W.Frag) (mg : Str → Option Value) (r : List V → Hp → VK → Prop) (g : List D → M D) : Prop := ∀ (O : Ow) (H : Hp) (s : S) (ds : List D) (vs : List V) (Q : VK) (X' : D → S → Ow → Hp → Prop), RelS K mg O H s → DVs K mg O H ds vs →
  Post K mg O H (g ds s) (fun d _ O' H' => ∀ u, DV K mg O' H' d u → Q u H') X' → r vs H Q
section
variable {X : Cx} {W : WX} {x : Str} {p pos : Pos} {e : Expr} {es : List Expr} {fa : Rs → M (List D)} {id T : String} {r : List V → Hp → VK → Prop} {g : List D → M D}
theorem re_cB (hc : CallR X (.builtin id) r) (ok : CallOk X.K X.mg r g) (hm : X.mg x = none) (hv : bootBuiltins x = some (.builtin id)) (ha : RA X W (e :: es) fa) (hg : Gl X x := by rfl) (hn : x ≠ "__name__" := by decide) (hdb : (x == ("__debug__" : Str)) = false := by decide)
    (he : starEach (e :: es) X.env = (false, eval e X.env) :: starEach es X.env := by rfl) (hpl : (backTo pos (starEach es X.env)).any (·.1) = false := by rfl) : RE X W (.Call (.Name x p) (e :: es) [] pos) (callM g [] fa) := by
  refine pe_weak (pe_callB hc hg hm hv ha hn hdb he hpl) fun sg H Q ⟨O, env, s, hE, hS, hP⟩ => ?_
  refine ⟨O, env, s, hE, hS, hP.split.imp (fun ds s1 O1 H1 _ x1 q1 p1 vs dv => ?_) fun _ _ _ _ _ _ z => z⟩
  rw [List.append_nil] at p1
  exact ok O1 H1 s1 ds vs Q _ q1 dv p1
theorem re_cT (hc : CallR X (.type T) r) (ok : CallOk X.K X.mg r g) (hm : X.mg x = none) (hv : bootBuiltins x = some (.type T)) (ha : RA X W (e :: es) fa) (hg : Gl X x := by rfl) (hn : x ≠ "__name__" := by decide) (hdb : (x == ("__debug__" : Str)) = false := by decide)
    (he : starEach (e :: es) X.env = (false, eval e X.env) :: starEach es X.env := by rfl) (hpl : (backTo pos (starEach es X.env)).any (·.1) = false := by rfl) : RE X W (.Call (.Name x p) (e :: es) [] pos) (callM g [] fa) := by
  refine pe_weak (pe_callTy hc hg hm hv ha hn hdb he hpl) fun sg H Q ⟨O, env, s, hE, hS, hP⟩ => ?_
  refine ⟨O, env, s, hE, hS, hP.split.imp (fun ds s1 O1 H1 _ x1 q1 p1 vs dv => ?_) fun _ _ _ _ _ _ z => z⟩
  rw [List.append_nil] at p1
  exact ok O1 H1 s1 ds vs Q _ q1 dv p1
end

/-! ### kinds -/
inductive Ty where
  | non | bl | int | str | tup | lst | dct
  deriving DecidableEq
def Ty.name : Ty → String
  | .non => "NoneType" | .bl => "bool" | .int => "int" | .str => "str" | .tup => "tuple" | .lst => "list" | .dct => "dict"
def Ty.sub : Ty → Ty → Bool
  | .bl, .int => true
  | a, b => decide (a = b)
theorem Ty.kit {K : PySem.W.Frag} (a b : Ty) (hb : b ≠ .non) : PySem.W.kitOne K (.type a.name) (.type b.name) = some (a.sub b) := by
  cases b with
  | non => exact absurd rfl hb
  | _ => cases a <;> exact kit_ty (by decide +kernel)
def tyD (s : S) : D → Option Ty
  | .non => some .non
  | .bl _ => some .bl
  | .int _ => some .int
  | .str _ => some .str
  | .tup _ => some .tup
  | .lst _ => some .lst
  | .wls _ => some .lst
  | .ref n => match s[n]? with
    | some (.lst _) => some .lst
    | some (.lok _) => some .lst
    | some (.dct _ _) => some .dct
    | _ => none
  | _ => none
theorem tyD_ok {K : PySem.W.Frag} {mg : Str → Option Value} {O : Ow} {H : Hp} {s : S} (r : RelS K mg O H s) {d : D} {v : V} {t : Ty} (dv : DV K mg O H d v) (h : tyD s d = some t) : TyX K H v (.type t.name) := by
  cases dv with
  | non => injection h with h; subst h; exact .base .non
  | bl b => injection h with h; subst h; exact .base (.bl b)
  | int b => injection h with h; subst h; exact .base (.int b)
  | str b => injection h with h; subst h; exact .base (.str b)
  | tup ta _ =>
    injection h with h
    subst h
    rcases ta with e | ⟨o, its, n, e, c, _⟩
    · exact .base (.tup e)
    · exact .kTuple e c
  | lst ta _ => injection h with h; subst h; exact .base (.lst ta.2)
  | wls ta _ =>
    injection h with h
    subst h
    rcases ta with ⟨_, o, e⟩ | ⟨o, its, n, e, c, _⟩
    · exact .base (.frz e)
    · exact .kList e c
  | @ref n a ha =>
    have h : (match s[n]? with
      | some (.lst _) => some Ty.lst
      | some (.lok _) => some Ty.lst
      | some (.dct _ _) => some Ty.dct
      | _ => none) = some t := h
    cases e : s[n]? with
    | none => rw [e] at h; cases h
    | some ob =>
      rw [e] at h
      have q := r.obs n a ob ha e
      cases ob with
      | lst xs =>
        injection h with h
        subst h
        obtain ⟨vs, eH, _⟩ := q
        exact .base (.lst eH)
      | lok xs =>
        injection h with h
        subst h
        obtain ⟨o, vs, eH, _⟩ := q
        exact .base (.frz eH)
      | ins c fs => cases h
      | dct lk kvs =>
        injection h with h
        subst h
        obtain ⟨vs, eH, _⟩ := q
        cases lk with
        | false => exact .base (.dK eH)
        | true =>
          obtain ⟨o, eH⟩ := eH
          exact .fDict eH
  | glo g => cases h
/-- isinstance(e, T) -/
def isiM (T : Ty) (fe : Rs → M D) : Rs → M D := fun env => bnd (fe env) fun d s => match tyD s d with
  | some t => .ok (.bl (t.sub T)) s
  | none => .bad
/-- isinstance(e, (S, T)) -/
def isi2M (T U : Ty) (fe : Rs → M D) : Rs → M D := fun env => bnd (fe env) fun d s => match tyD s d with
  | some t => .ok (.bl (t.sub T || t.sub U)) s
  | none => .bad
section
variable {X : Cx} {W : WX} {e : Expr} {fe : Rs → M D} {p p1 p2 pos : Pos}
theorem re_isi (T : Ty) {x : Str} (hT : T ≠ .non) (hm : X.mg "isinstance" = none) (hmT : X.mg x = none) (hv : bootBuiltins x = some (.type T.name)) (he : RE X W e fe) (hg : Gl X "isinstance" := by rfl) (hgx : Gl X x := by rfl) (hn : x ≠ "__name__" := by decide) (hdb : (x == ("__debug__" : Str)) = false := by decide)
    (hst : starEach (e :: [.Name x p1]) X.env = (false, eval e X.env) :: starEach [.Name x p1] X.env := by rfl) :
    RE X W (.Call (.Name "isinstance" p) [e, .Name x p1] [] pos) (isiM T fe) := by
  refine pe_weak (pe_callB call_isi hg hm boot_isinstance (pa_cons he (pa_cons (te := tC (.ty T.name)) (pe_bltn hgx hmT hv (show RelV (.ty T.name) (.type T.name) from rfl) hn hdb) pa_nil) hst) (by decide) (by decide) hst) fun sg H Q ⟨O, env, s, hE, hS, hP⟩ => ?_
  refine ⟨O, env, s, hE, hS, hP.split.imp (fun d s1 O1 H1 _ x1 q1 p1 v dv => ?_) fun _ _ _ _ _ _ z => z⟩
  cases ty : tyD s1 d with
  | none => simp only [ty] at p1; exact p1.elim
  | some t =>
    simp only [ty] at p1
    exact ⟨v, .ty T.name, .type t.name, .type T.name, t.sub T, rfl, .ty _, tyD_ok q1 dv ty, Ty.kit t T hT, p1 O1 H1 .refl q1 _ (.bl _)⟩
end

/-! ### new lists -/
/-- the answer is a new list -/
def NewOk (K : PySem.W.Frag) (mg : Str → Option Value) (fin : List D → M D) : Prop := ∀ (O : Ow) (H : Hp) (s : S) (p : Addr) (ds : List D) (vs : List V) (Q : VK) (X' : D → S → Ow → Hp → Prop), RelS K mg O H s → H p = none → DVs K mg O H ds vs →
  Post K mg O H (fin ds s) (fun d _ O' H' => ∀ u, DV K mg O' H' d u → Q u H') X' → Q (.ref p) (upd H p (.lst vs))
theorem newL {K : PySem.W.Frag} {mg : Str → Option Value} : NewOk K mg finL := fun O H s p ds vs Q X' r hp dv hP => by
  obtain ⟨x, q, d⟩ := new_lst r hp dv
  exact hP _ _ x q _ d
theorem newM {K : PySem.W.Frag} {mg : Str → Option Value} : NewOk K mg finM := fun O H s p ds vs Q X' r hp dv hP => by
  obtain ⟨x, q, d⟩ := new_mut r hp dv
  exact hP _ _ x q _ d
theorem newT {K : PySem.W.Frag} {mg : Str → Option Value} {O : Ow} {H : Hp} {s : S} {p : Addr} {ds : List D} {vs : List V} {Q : VK} {X' : D → S → Ow → Hp → Prop} (r : RelS K mg O H s) (hp : H p = none) (dv : DVs K mg O H ds vs)
    (hP : Post K mg O H (ret (.tup ds) s) (fun d _ O' H' => ∀ u, DV K mg O' H' d u → Q u H') X') : Q (.ref p) (upd H p (.tup vs)) := by
  obtain ⟨x, q, d⟩ := new_tup r hp dv
  exact hP _ _ x q _ d
/-- (e, ..), [e, ..] -/
def tupE (fa : Rs → M (List D)) : Rs → M D := fun env => bnd (fa env) fun ds => if ds.length ≤ sizeLine then ret (.tup ds) else bad
def lstE (fin : List D → M D) (fa : Rs → M (List D)) : Rs → M D := fun env => bnd (fa env) fun ds => if ds.length ≤ sizeLine then fin ds else bad
section
variable {X : Cx} {W : WX} {e a b : Expr} {es : List Expr} {fa : Rs → M (List D)} {fx fy : Rs → M D} {pos : Pos} {fin : List D → M D}
theorem re_tup {k : Nat} (h : RA X W es fa) : RE X W (.Tuple es k pos) (tupE fa) := by
  refine pe_weak (pe_tup h) fun sg H Q ⟨O, env, s, hE, hS, hP⟩ => ?_
  refine ⟨O, env, s, hE, hS, hP.split.imp (fun ds s1 O1 H1 _ x1 q1 p1 vs dv => ?_) fun _ _ _ _ _ _ z => z⟩
  by_cases hl : ds.length ≤ sizeLine
  · rw [if_pos hl] at p1
    exact ⟨by rw [← dv.length]; exact hl, fun p hp => newT q1 hp dv p1⟩
  · rw [if_neg hl] at p1; exact p1.elim
theorem re_lst (hf : NewOk X.K X.mg fin) (h : RA X W es fa) : RE X W (.List es pos) (lstE fin fa) := by
  refine pe_weak (pe_lst h) fun sg H Q ⟨O, env, s, hE, hS, hP⟩ => ?_
  refine ⟨O, env, s, hE, hS, hP.split.imp (fun ds s1 O1 H1 _ x1 q1 p1 vs dv => ?_) fun _ _ _ _ _ _ z => z⟩
  by_cases hl : ds.length ≤ sizeLine
  · rw [if_pos hl] at p1
    exact ⟨by rw [← dv.length]; exact hl, fun p hp => hf O1 H1 s1 p ds vs Q _ q1 hp dv p1⟩
  · rw [if_neg hl] at p1; exact p1.elim
end

/-! ### what is in a list, in a tuple -/
def lstD (s : S) : D → Option (List D)
  | .lst xs => some xs
  | .wls xs => some xs
  | .ref n => match s[n]? with
    | some (.lst xs) => some xs
    | some (.lok xs) => some xs
    | _ => none
  | _ => none
def tupD : D → Option (List D)
  | .tup xs => some xs
  | _ => none
section
variable {K : PySem.W.Frag} {mg : Str → Option Value} {O : Ow} {H : Hp} {s : S} {d : D} {v : V} {ds : List D}
theorem lstD_ok (r : RelS K mg O H s) (dv : DV K mg O H d v) (h : lstD s d = some ds) : ∃ p vs, v = .ref p ∧ SqL K H p vs ∧ DVs K mg O H ds vs := by
  cases dv with
  | lst ta t => injection h with h; subst h; exact ⟨_, _, rfl, ta.sq, t⟩
  | wls ta t => injection h with h; subst h; exact ⟨_, _, rfl, ta.sq, t⟩
  | @ref n a ha =>
    have h : (match s[n]? with
      | some (.lst xs) => some xs
      | some (.lok xs) => some xs
      | _ => none) = some ds := h
    cases e : s[n]? with
    | none => rw [e] at h; cases h
    | some ob =>
      rw [e] at h
      cases ob with
      | lst xs =>
        injection h with h
        subst h
        obtain ⟨vs, eH, t⟩ := r.obs n a _ ha e
        exact ⟨_, _, rfl, .of eH, t⟩
      | lok xs =>
        injection h with h
        subst h
        obtain ⟨o, vs, eH, t⟩ := r.obs n a _ ha e
        exact ⟨_, _, rfl, .inl (.inr ⟨o, eH⟩), t⟩
      | _ => cases h
  | _ => cases h
theorem tupD_ok (dv : DV K mg O H d v) (h : tupD d = some ds) : ∃ p vs, v = .ref p ∧ SqT K H p vs ∧ DVs K mg O H ds vs := by
  cases dv with
  | tup ta t => injection h with h; subst h; exact ⟨_, _, rfl, ta.sq, t⟩
  | _ => cases h
theorem DVs.at_ : ∀ {ds : List D} {vs : List V}, DVs K mg O H ds vs → ∀ {i : Nat} {d : D}, ds[i]? = some d → ∃ v, vs[i]? = some v ∧ DV K mg O H d v
  | _, _, .nil, i, d, e => by simp at e
  | _, _, .cons h t, 0, d, e => by
    have e' := Option.some.inj (show some _ = some d from e)
    subst e'
    exact ⟨_, rfl, h⟩
  | _, _, .cons h t, i + 1, d, e => by simpa using DVs.at_ t (i := i) (d := d) (by simpa using e)
theorem DVs.atI {ds : List D} {vs : List V} (t : DVs K mg O H ds vs) {i : Int} {d : D} (e : atI ds i = some d) : ∃ v, atI vs i = some v ∧ DV K mg O H d v := by
  unfold L2.atI at e ⊢
  rw [← t.length]
  cases q : ixN ds.length i with
  | none => rw [q] at e; cases e
  | some j => rw [q] at e; exact t.at_ e
theorem DVs.drop : ∀ {ds : List D} {vs : List V} (n : Nat), DVs K mg O H ds vs → DVs K mg O H (ds.drop n) (vs.drop n)
  | _, _, 0, h => h
  | _, _, n + 1, .nil => .nil
  | _, _, n + 1, .cons _ t => DVs.drop n t
theorem DVs.take : ∀ {ds : List D} {vs : List V} (n : Nat), DVs K mg O H ds vs → DVs K mg O H (ds.take n) (vs.take n)
  | _, _, 0, h => .nil
  | _, _, n + 1, .nil => .nil
  | _, _, n + 1, .cons h t => .cons h (DVs.take n t)
theorem DVs.rev : ∀ {ds : List D} {vs : List V}, DVs K mg O H ds vs → DVs K mg O H ds.reverse vs.reverse
  | _, _, .nil => .nil
  | _, _, .cons h t => by
    rw [List.reverse_cons, List.reverse_cons]
    exact (DVs.rev t).snoc h
/-- the items of xs[lo:hi] -/
def cutD (xs : List D) (lo hi : Option Int) : List D := (xs.drop (HT.sIx xs.length 0 lo)).take (HT.sIx xs.length xs.length hi - HT.sIx xs.length 0 lo)
theorem DVs.cut {ds : List D} {vs : List V} (h : DVs K mg O H ds vs) (lo hi : Option Int) : DVs K mg O H (cutD ds lo hi) (cutV vs lo hi) := by
  unfold cutD cutV
  rw [← h.length]
  exact (h.drop _).take _
end

/-! ### several ways of one operator -/
theorem OpOk.or {K : PySem.W.Frag} {mg : Str → Option Value} {r1 r2 : R2} {g g1 g2 : D → D → M D} (h1 : OpOk K mg r1 g1) (h2 : OpOk K mg r2 g2) (hg : ∀ a b s, g a b s = g1 a b s ∨ g a b s = g2 a b s) : OpOk K mg (fun x y H Q => r1 x y H Q ∨ r2 x y H Q) g := by
  intro O H s d1 d2 v w Q X' r dv dw h
  rcases hg d1 d2 s with e | e
  · rw [e] at h; exact .inl (h1 O H s d1 d2 v w Q X' r dv dw h)
  · rw [e] at h; exact .inr (h2 O H s d1 d2 v w Q X' r dv dw h)
theorem CallOk.or {K : PySem.W.Frag} {mg : Str → Option Value} {r1 r2 : List V → Hp → VK → Prop} {g g1 g2 : List D → M D} (h1 : CallOk K mg r1 g1) (h2 : CallOk K mg r2 g2) (hg : ∀ a s, g a s = g1 a s ∨ g a s = g2 a s) : CallOk K mg (fun x H Q => r1 x H Q ∨ r2 x H Q) g := by
  intro O H s ds vs Q X' r dv h
  rcases hg ds s with e | e
  · rw [e] at h; exact .inl (h1 O H s ds vs Q X' r dv h)
  · rw [e] at h; exact .inr (h2 O H s ds vs Q X' r dv h)
theorem re_alt {X : Cx} {W : WX} {e : Expr} {f f1 f2 : Rs → M D} (h1 : RE X W e f1) (h2 : RE X W e f2) (hf : ∀ env s, f env s = f1 env s ∨ f env s = f2 env s) : RE X W e f := ⟨fun pins s sg H Q I ⟨O, env, st, hE, hS, hP⟩ => by
  rcases hf env st with q | q
  · exact h1.run pins s sg H Q I ⟨O, env, st, hE, hS, by rw [← q]; exact hP⟩
  · exact h2.run pins s sg H Q I ⟨O, env, st, hE, hS, by rw [← q]; exact hP⟩⟩
theorem ri_alt {X : Cx} {W : WX} {tg e : Expr} {f f1 f2 : Rs → M (List D)} (h1 : RI X W tg e f1) (h2 : RI X W tg e f2) (hf : ∀ env s, f env s = f1 env s ∨ f env s = f2 env s) : RI X W tg e f := ⟨fun pins s sg H Q I ⟨O, env, st, hE, hS, hP⟩ => by
  rcases hf env st with q | q
  · exact h1.run pins s sg H Q I ⟨O, env, st, hE, hS, by rw [← q]; exact hP⟩
  · exact h2.run pins s sg H Q I ⟨O, env, st, hE, hS, by rw [← q]; exact hP⟩⟩

/-! ### + -/
/-- a list that is no written one -/
def plnD (s : S) : D → Option (List D)
  | .lst xs => some xs
  | .ref n => match s[n]? with
    | some (.lst xs) => some xs
    | _ => none
  | _ => none
theorem plnD_ok {K : PySem.W.Frag} {mg : Str → Option Value} {O : Ow} {H : Hp} {s : S} {d : D} {v : V} {ds : List D} (r : RelS K mg O H s) (dv : DV K mg O H d v) (h : plnD s d = some ds) : ∃ p vs, v = .ref p ∧ H p = some (.lst vs) ∧ DVs K mg O H ds vs := by
  cases dv with
  | lst ta t => injection h with h; subst h; exact ⟨_, _, rfl, ta.2, t⟩
  | @ref n a ha =>
    have h : (match s[n]? with
      | some (.lst xs) => some xs
      | _ => none) = some ds := h
    cases e : s[n]? with
    | none => rw [e] at h; cases h
    | some ob =>
      rw [e] at h
      cases ob with
      | lst xs =>
        injection h with h
        subst h
        obtain ⟨vs, eH, t⟩ := r.obs n a _ ha e
        exact ⟨_, _, rfl, eH, t⟩
      | _ => cases h
  | _ => cases h
def catL (fin : List D → M D) : D → D → M D := fun a b s => match plnD s a, plnD s b with
  | some xs, some ys => if xs.length + ys.length ≤ sizeLine then fin (xs ++ ys) s else .bad
  | _, _ => .bad
theorem catL_ok {K : PySem.W.Frag} {mg : Str → Option Value} {fin : List D → M D} (hf : NewOk K mg fin) : OpOk K mg rCat (catL fin) := by
  intro O H s d1 d2 v w Q X' r dv dw h
  unfold catL at h
  cases e1 : plnD s d1 with
  | none => rw [e1] at h; exact h.elim
  | some xs =>
    cases e2 : plnD s d2 with
    | none => rw [e1, e2] at h; exact h.elim
    | some ys =>
      rw [e1, e2] at h
      dsimp only at h
      obtain ⟨p, vs, rfl, ep, ha⟩ := plnD_ok r dv e1
      obtain ⟨q, us, rfl, eq, hb⟩ := plnD_ok r dw e2
      by_cases hl : xs.length + ys.length ≤ sizeLine
      · rw [if_pos hl] at h
        exact ⟨p, q, vs, us, rfl, rfl, ep, eq, by rw [← ha.length, ← hb.length]; exact hl, fun z hz => hf O H s z _ _ Q X' r hz (ha.app hb) h⟩
      · rw [if_neg hl] at h; exact h.elim
def catT : D → D → M D := fun a b => match a, b with
  | .tup xs, .tup ys => if xs.length + ys.length ≤ sizeLine then ret (.tup (xs ++ ys)) else bad
  | _, _ => bad
theorem catT_ok {K : PySem.W.Frag} {mg : Str → Option Value} : OpOk K mg (rCatA K) catT := by
  intro O H s d1 d2 v w Q X' r dv dw h
  cases d1 with
  | tup xs =>
    cases d2 with
    | tup ys =>
      obtain ⟨p, vs, rfl, ep, ha⟩ := tupD_ok dv rfl
      obtain ⟨q, us, rfl, eq, hb⟩ := tupD_ok dw rfl
      have h : Post K mg O H ((if xs.length + ys.length ≤ sizeLine then ret (.tup (xs ++ ys)) else bad : M D) s) _ X' := h
      by_cases hl : xs.length + ys.length ≤ sizeLine
      · rw [if_pos hl] at h
        refine ⟨p, q, vs, us, rfl, rfl, ep, eq, by rw [← ha.length, ← hb.length]; exact hl, fun z => ?_, fun _ z => ?_, fun _ _ z hz => newT r hz (ha.app hb) h⟩
        · subst z
          cases ha
          exact Post.ret h r _ dw
        · subst z
          cases hb
          rw [List.append_nil] at h
          exact Post.ret h r _ dv
      · rw [if_neg hl] at h; exact h.elim
    | _ => exact h.elim
  | _ => cases d2 <;> exact h.elim
def catS : D → D → M D := fun a b => match a, b with
  | .str x, .str y => if x.length + y.length ≤ sizeLine then ret (.str (x ++ y)) else bad
  | _, _ => bad
theorem catS_ok {K : PySem.W.Frag} {mg : Str → Option Value} : OpOk K mg (fun x y H Q => ∃ i j, x = .str i ∧ y = .str j ∧ i.length + j.length ≤ sizeLine ∧ Q (.str (i ++ j)) H) catS := by
  intro O H s d1 d2 v w Q X' r dv dw h
  cases d1 with
  | str x =>
    cases d2 with
    | str y =>
      cases dv; cases dw
      have h : Post K mg O H ((if x.length + y.length ≤ sizeLine then ret (.str (x ++ y)) else bad : M D) s) _ X' := h
      by_cases hl : x.length + y.length ≤ sizeLine
      · rw [if_pos hl] at h; exact ⟨x, y, rfl, rfl, hl, Post.ret h r _ (.str _)⟩
      · rw [if_neg hl] at h; exact h.elim
    | _ => exact h.elim
  | _ => cases d2 <;> exact h.elim
/-- a + b -/
def addD (fin : List D → M D) : D → D → M D := fun a b => match a with
  | .int _ => addI a b
  | .str _ => catS a b
  | .tup _ => catT a b
  | _ => catL fin a b
theorem re_plus {X : Cx} {W : WX} {a b : Expr} {fa fb : Rs → M D} {pos : Pos} {fin : List D → M D} (hf : NewOk X.K X.mg fin) (ha : RE X W a fa) (hb : RE X W b fb) : RE X W (.BinOp a .Add b pos) (op2 (addD fin) fa fb) :=
  re_op (op_add.or (op_add_str.or (op_catA.or op_cat)))
    (OpOk.or (g1 := addI) (int20_ok fun i j O H => .int _) (OpOk.or (g1 := catS) (g := fun a b => match a with | .str _ => catS a b | .tup _ => catT a b | _ => catL fin a b) catS_ok
      (OpOk.or (g1 := catT) (g2 := catL fin) (g := fun a b => match a with | .tup _ => catT a b | _ => catL fin a b) catT_ok (catL_ok hf) (fun a b s => by cases a <;> first | exact .inl rfl | exact .inr rfl))
        (fun a b s => by cases a <;> first | exact .inl rfl | exact .inr rfl))
      (fun a b s => by cases a <;> first | exact .inl rfl | exact .inr rfl)) ha hb
end Md

set_option Elab.async false
set_option linter.all false
set_option maxRecDepth 100000
/-! Md7: items, slices, len, in, orders, walks, the plain built-ins. -/
namespace Md
open PySem PySem.Spec PyProof.Rows L2

/-! ### items -/
section
variable {X : Cx} {W : WX} {e a b : Expr} {fa fb : Rs → M D} {pos : Pos}
def IxOk (K : PySem.W.Frag) (mg : Str → Option Value) (r : R2) (g : D → D → M D) : Prop := OpOk K mg r g
theorem re_ix {r : R2} {g : D → D → M D} (hr : IxR X r) (hg : OpOk X.K X.mg r g) (ha : RE X W a fa) (hb : RE X W b fb) (hs : PlainIx b := by intro _ _; rfl) : RE X W (.Subscript a b pos) (op2 g fa fb) := by
  refine pe_weak (pe_ix hr ha hb hs) fun sg H Q ⟨O, env, s, hE, hS, hP⟩ => ?_
  exact two hE hS hP fun O' H' s' d1 d2 v w _ q dv dw p => hg O' H' s' d1 d2 v w Q _ q dv dw p
end
def ixL : D → D → M D := fun a b s => match lstD s a, b with
  | some xs, .int i => opt (atI xs i) s
  | _, _ => .bad
def ixT : D → D → M D := fun a b => match a, b with
  | .tup xs, .int i => opt (atI xs i)
  | _, _ => bad
def ixS : D → D → M D := fun a b => match a, b with
  | .str z, .int i => if z.length ≤ sizeLine then opt ((atI z.cps.toList i).map fun c => .str ⟨#[c]⟩) else bad
  | _, _ => bad
section
variable {K : PySem.W.Frag} {mg : Str → Option Value}
theorem ixL_ok : OpOk K mg (rIxL K) ixL := by
  intro O H s d1 d2 v w Q X' r dv dw h
  unfold ixL at h
  cases e1 : lstD s d1 with
  | none => rw [e1] at h; exact h.elim
  | some xs =>
    obtain ⟨p, vs, rfl, ep, ha⟩ := lstD_ok r dv e1
    rw [e1] at h
    cases d2 with
    | int i =>
      cases dw
      dsimp only at h
      cases e2 : atI xs i with
      | none => rw [e2] at h; exact h.elim
      | some d =>
        rw [e2] at h
        obtain ⟨u, eu, du⟩ := ha.atI e2
        exact ⟨p, vs, i, u, rfl, rfl, ep, eu, Post.ret h r u du⟩
    | _ => exact h.elim
theorem ixT_ok : OpOk K mg (rIxT K) ixT := by
  intro O H s d1 d2 v w Q X' r dv dw h
  cases d1 with
  | tup xs =>
    cases d2 with
    | int i =>
      obtain ⟨p, vs, rfl, ep, ha⟩ := tupD_ok dv rfl
      cases dw
      have h : Post K mg O H (opt (atI xs i) s) _ X' := h
      cases e2 : atI xs i with
      | none => rw [e2] at h; exact h.elim
      | some d =>
        rw [e2] at h
        obtain ⟨u, eu, du⟩ := ha.atI e2
        exact ⟨p, vs, i, u, rfl, rfl, ep, eu, Post.ret h r u du⟩
    | _ => exact h.elim
  | _ => cases d2 <;> exact h.elim
theorem ixS_ok : OpOk K mg rIxS ixS := by
  intro O H s d1 d2 v w Q X' r dv dw h
  cases d1 with
  | str z =>
    cases d2 with
    | int i =>
      cases dv; cases dw
      have h : Post K mg O H ((if z.length ≤ sizeLine then opt ((atI z.cps.toList i).map fun c => .str ⟨#[c]⟩) else bad : M D) s) _ X' := h
      by_cases hl : z.length ≤ sizeLine
      · rw [if_pos hl] at h
        cases e2 : atI z.cps.toList i with
        | none => rw [e2] at h; exact h.elim
        | some c =>
          rw [e2] at h
          have h2 : Post K mg O H (ret (.str ⟨#[c]⟩) s) (fun d _ O' H' => ∀ u, DV K mg O' H' d u → Q u H') X' := h
          exact ⟨z, i, c, rfl, rfl, hl, e2, h2.ret r _ (.str _)⟩
      · rw [if_neg hl] at h; exact h.elim
    | _ => exact h.elim
  | _ => cases d2 <;> exact h.elim
/-- a[b] of a list, a tuple, a str -/
def ixD : D → D → M D := fun a b => match a with
  | .tup _ => ixT a b
  | .str _ => ixS a b
  | _ => ixL a b
theorem ixD_ok : OpOk K mg (rIx K) ixD :=
  OpOk.or (g1 := ixL) (g2 := fun a b => match a with | .tup _ => ixT a b | _ => ixS a b) ixL_ok (OpOk.or (g1 := ixT) (g2 := ixS) ixT_ok ixS_ok (fun a b s => by cases a <;> first | exact .inl rfl | exact .inr rfl)) (fun a b s => by cases a <;> first | exact .inl rfl | exact .inr rfl)
end
section
variable {X : Cx} {W : WX} {a b : Expr} {fa fb : Rs → M D} {pos : Pos}
theorem re_item (ha : RE X W a fa) (hb : RE X W b fb) (hs : PlainIx b := by intro _ _; rfl) : RE X W (.Subscript a b pos) (op2 ixD fa fb) := re_ix ix_seq ixD_ok ha hb hs

/-! ### slices -/
/-- a bound -/
def noP : Rs → M (Option Int) := fun _ => ret none
def ptP (f : Rs → M D) : Rs → M (Option Int) := fun env => bnd (f env) fun d => match d with
  | .int i => ret (some i)
  | _ => bad
def tMO (K : PySem.W.Frag) (mg : Str → Option Value) (W : WX) (f : Rs → M (Option Int)) : TO := fun sg H Q => ∃ O env s, RelE K mg O H env sg ∧ RelS K mg O H s ∧
  Post K mg O H (f env s) (fun o _ O' H' => Q o H') (XW K mg W sg)
abbrev RO (X : Cx) (W : WX) (e : Option Expr) (f : Rs → M (Option Int)) : Prop := PO X e (tMO X.K X.mg W f)
theorem ro_none : RO X W none noP := ⟨fun pins s sg H Q I ⟨O, env, st, hE, hS, hP⟩ => po_none.run pins s sg H Q I (Post.ret hP hS)⟩
theorem ro_some (h : RE X W a fa) : RO X W (some a) (ptP fa) := ⟨fun pins s sg H Q I ⟨O, env, st, hE, hS, hP⟩ => (po_some h).run pins s sg H Q I ⟨O, env, st, hE, hS, hP.split.imp (fun d s1 O1 H1 _ x q p u du => by
  cases d with
  | int i => cases du; exact ⟨i, rfl, Post.ret p q⟩
  | _ => exact p.elim) fun _ _ _ _ _ _ z => z⟩⟩
def SlOk (K : PySem.W.Frag) (mg : Str → Option Value) (r : V → Option Int → Option Int → Hp → VK → Prop) (g : D → Option Int → Option Int → M D) : Prop := ∀ (O : Ow) (H : Hp) (s : S) (d : D) (v : V) (lo hi : Option Int) (Q : VK) (X' : D → S → Ow → Hp → Prop), RelS K mg O H s → DV K mg O H d v →
  Post K mg O H (g d lo hi s) (fun d _ O' H' => ∀ u, DV K mg O' H' d u → Q u H') X' → r v lo hi H Q
theorem SlOk.or {K : PySem.W.Frag} {mg : Str → Option Value} {r1 r2 : V → Option Int → Option Int → Hp → VK → Prop} {g g1 g2 : D → Option Int → Option Int → M D} (h1 : SlOk K mg r1 g1) (h2 : SlOk K mg r2 g2) (hg : ∀ a l u s, g a l u s = g1 a l u s ∨ g a l u s = g2 a l u s) : SlOk K mg (fun x l u H Q => r1 x l u H Q ∨ r2 x l u H Q) g := by
  intro O H s d v lo hi Q X' r dv h
  rcases hg d lo hi s with e | e
  · rw [e] at h; exact .inl (h1 O H s d v lo hi Q X' r dv h)
  · rw [e] at h; exact .inr (h2 O H s d v lo hi Q X' r dv h)
def slM (g : D → Option Int → Option Int → M D) (fa : Rs → M D) (fl fu : Rs → M (Option Int)) : Rs → M D := fun env => bnd (fa env) fun d => bnd (fl env) fun l => bnd (fu env) fun u => g d l u
theorem re_slR {r : V → Option Int → Option Int → Hp → VK → Prop} {g : D → Option Int → Option Int → M D} {lo hi : Option Expr} {fl fu : Rs → M (Option Int)} {p2 : Pos} (hr : SlR X r) (hg : SlOk X.K X.mg r g) (ha : RE X W a fa) (hl : RO X W lo fl) (hu : RO X W hi fu) : RE X W (.Subscript a (.Slice lo hi none p2) pos) (slM g fa fl fu) := by
  refine pe_weak (pe_slice hr ha hl hu) fun sg H Q ⟨O, env, s, hE, hS, hP⟩ => ?_
  refine ⟨O, env, s, hE, hS, hP.split.imp (fun d s1 O1 H1 _ x1 q1 p1 v dv => ?_) fun _ _ _ _ _ _ z => z⟩
  refine ⟨O1, env, s1, hE.mono x1.toMono, q1, p1.split.imp (fun l s2 O2 H2 _ x2 q2 p2 => ?_) fun _ _ _ _ _ _ z => z⟩
  refine ⟨O2, env, s2, (hE.mono x1.toMono).mono x2.toMono, q2, p2.split.imp (fun u s3 O3 H3 _ x3 q3 p3 => ?_) fun _ _ _ _ _ _ z => z⟩
  exact hg O3 H3 s3 d v l u Q _ q3 ((dv.mono x2.toMono).mono x3.toMono) p3
def slL (fin : List D → M D) : D → Option Int → Option Int → M D := fun d l u s => match lstD s d with
  | some xs => fin (cutD xs l u) s
  | none => .bad
theorem slL_ok {K : PySem.W.Frag} {mg : Str → Option Value} {fin : List D → M D} (hf : NewOk K mg fin) : SlOk K mg (rSlL K) (slL fin) := by
  intro O H s d v lo hi Q X' r dv h
  unfold slL at h
  cases e : lstD s d with
  | none => rw [e] at h; exact h.elim
  | some xs =>
    rw [e] at h
    obtain ⟨p, vs, rfl, ep, ha⟩ := lstD_ok r dv e
    exact ⟨p, vs, rfl, ep, fun z hz => hf O H s z _ _ Q X' r hz (ha.cut lo hi) h⟩
def slT : D → Option Int → Option Int → M D := fun d l u => match d with
  | .tup xs => ret (.tup (cutD xs l u))
  | _ => bad
theorem slT_ok {K : PySem.W.Frag} {mg : Str → Option Value} : SlOk K mg (rSlA K) slT := by
  intro O H s d v lo hi Q X' r dv h
  cases d with
  | tup xs =>
    obtain ⟨p, vs, rfl, ep, ha⟩ := tupD_ok dv rfl
    refine ⟨p, vs, rfl, ep, fun z => ?_, fun _ z hz => newT r hz (ha.cut lo hi) h⟩
    have e : cutD xs lo hi = xs := by
      rw [← ha.length] at z
      unfold cutD
      rw [z.1, z.2, Nat.sub_zero, List.drop_zero, List.take_length]
    have h : Post K mg O H (ret (D.tup (cutD xs lo hi)) s) (fun d _ O' H' => ∀ u, DV K mg O' H' d u → Q u H') X' := h
    rw [e] at h
    exact Post.ret h r _ dv
  | _ => exact h.elim
/-- a[lo:hi] of a list, a tuple -/
def slD (fin : List D → M D) : D → Option Int → Option Int → M D := fun d l u => match d with
  | .tup _ => slT d l u
  | _ => slL fin d l u
theorem re_slice {fin : List D → M D} {lo hi : Option Expr} {fl fu : Rs → M (Option Int)} {p2 : Pos} (hf : NewOk X.K X.mg fin) (ha : RE X W a fa) (hl : RO X W lo fl) (hu : RO X W hi fu) : RE X W (.Subscript a (.Slice lo hi none p2) pos) (slM (slD fin) fa fl fu) :=
  re_slR (sl_tupA.or sl_list) (SlOk.or slT_ok (slL_ok hf) (fun d l u s => by cases d <;> first | exact .inl rfl | exact .inr rfl)) ha hl hu
end

/-! ### len, list(), tuple() -/
def lenL : List D → M D := fun ds s => match ds with
  | [d] => match d with
    | .tup xs => .ok (.int xs.length) s
    | d => match lstD s d with
      | some xs => .ok (.int xs.length) s
      | none => .bad
  | _ => .bad
theorem lenL_ok {K : PySem.W.Frag} {mg : Str → Option Value} : CallOk K mg (fun xs H Q => ∃ p ys, xs = [.ref p] ∧ (SqL K H p ys ∨ SqT K H p ys) ∧ Q (.int ys.length) H) lenL := by
  intro O H s ds vs Q X' r dv h
  match ds, vs, dv with
  | [d], [v], .cons dv .nil =>
    by_cases ht : ∃ xs, d = .tup xs
    · obtain ⟨xs, rfl⟩ := ht
      obtain ⟨p, vs, rfl, ep, ha⟩ := tupD_ok dv rfl
      refine ⟨p, vs, rfl, .inr ep, ?_⟩
      rw [← ha.length]
      exact Post.ret (show Post K mg O H (ret (.int xs.length) s) (fun d _ O' H' => ∀ u, DV K mg O' H' d u → Q u H') X' from h) r _ (.int _)
    · have h : Post K mg O H (match lstD s d with | some xs => (.ok (.int xs.length) s : Res D) | none => .bad) (fun d _ O' H' => ∀ u, DV K mg O' H' d u → Q u H') X' := by
        cases d with
        | tup xs => exact absurd ⟨xs, rfl⟩ ht
        | _ => exact h
      cases e : lstD s d with
      | none => rw [e] at h; exact h.elim
      | some xs =>
        rw [e] at h
        obtain ⟨p, vs, rfl, ep, ha⟩ := lstD_ok r dv e
        refine ⟨p, vs, rfl, .inl ep, ?_⟩
        rw [← ha.length]
        exact Post.ret (show Post K mg O H (ret (.int xs.length) s) (fun d _ O' H' => ∀ u, DV K mg O' H' d u → Q u H') X' from h) r _ (.int _)
  | [], _, _ => exact h.elim
  | _ :: _ :: _, _, _ => exact h.elim
def lenS : List D → M D := fun ds => match ds with
  | [.str x] => if x.length ≤ sizeLine then ret (.int x.length) else bad
  | _ => bad
theorem lenS_ok {K : PySem.W.Frag} {mg : Str → Option Value} : CallOk K mg (fun xs H Q => ∃ z, xs = [.str z] ∧ z.length ≤ sizeLine ∧ Q (.int z.length) H) lenS := by
  intro O H s ds vs Q X' r dv h
  match ds, vs, dv with
  | [.str x], [_], .cons dv .nil =>
    cases dv
    have h : Post K mg O H ((if x.length ≤ sizeLine then ret (.int x.length) else bad : M D) s) (fun d _ O' H' => ∀ u, DV K mg O' H' d u → Q u H') X' := h
    by_cases hl : x.length ≤ sizeLine
    · rw [if_pos hl] at h; exact ⟨x, rfl, hl, Post.ret h r _ (.int _)⟩
    · rw [if_neg hl] at h; exact h.elim
  | [], _, _ => exact h.elim
  | _ :: _ :: _, _, _ => simp only [lenS] at h; exact h.elim
  | [.non], _, _ => exact h.elim
  | [.bl _], _, _ => exact h.elim
  | [.int _], _, _ => exact h.elim
  | [.tup _], _, _ => exact h.elim
  | [.lst _], _, _ => exact h.elim
  | [.wls _], _, _ => exact h.elim
  | [.ref _], _, _ => exact h.elim
  | [.glo _], _, _ => exact h.elim
  | [.exc _ _ _], _, _ => exact h.elim
section
variable {K : PySem.W.Frag} {mg : Str → Option Value}
/-- len of a list, a tuple, a str -/
def lenD : List D → M D := fun ds => match ds with
  | [.str x] => lenS [.str x]
  | _ => lenL ds
theorem lenD_ok : CallOk K mg (fun x H Q => (∃ p ys, x = [.ref p] ∧ (SqL K H p ys ∨ SqT K H p ys) ∧ Q (.int ys.length) H) ∨ ∃ z, x = [.str z] ∧ z.length ≤ sizeLine ∧ Q (.int z.length) H) lenD :=
  CallOk.or (g1 := lenL) (g2 := lenS) lenL_ok lenS_ok fun ds s => by
    unfold lenD
    split
    · exact .inr rfl
    · exact .inl rfl
/-- one argument -/
def arg1 (g : D → M D) : List D → M D := fun ds => match ds with
  | [d] => g d
  | _ => bad
theorem call1 {r : List V → Hp → VK → Prop} {g : D → M D} (h : ∀ (O : Ow) (H : Hp) (s : S) (d : D) (v : V) (Q : VK) (X' : D → S → Ow → Hp → Prop), RelS K mg O H s → DV K mg O H d v →
    Post K mg O H (g d s) (fun d _ O' H' => ∀ u, DV K mg O' H' d u → Q u H') X' → r [v] H Q) : CallOk K mg r (arg1 g) := by
  intro O H s ds vs Q X' r' dv hP
  match ds, vs, dv with
  | [d], [v], .cons dv .nil => exact h O H s d v Q X' r' dv hP
  | [], _, _ => exact hP.elim
  | _ :: _ :: _, _, _ => exact hP.elim
/-- list(x) -/
def seqD (s : S) : D → Option (List D)
  | .tup xs => some xs
  | d => lstD s d
theorem seqD_ok {O : Ow} {H : Hp} {s : S} {d : D} {v : V} {ds : List D} (r : RelS K mg O H s) (dv : DV K mg O H d v) (h : seqD s d = some ds) : ∃ p vs, v = .ref p ∧ (SqL K H p vs ∨ SqT K H p vs) ∧ DVs K mg O H ds vs := by
  by_cases ht : ∃ xs, d = .tup xs
  · obtain ⟨xs, rfl⟩ := ht
    obtain ⟨p, vs, e, ep, ha⟩ := tupD_ok dv h
    exact ⟨p, vs, e, .inr ep, ha⟩
  · have h : lstD s d = some ds := by
      cases d with
      | tup xs => exact absurd ⟨xs, rfl⟩ ht
      | _ => exact h
    obtain ⟨p, vs, e, ep, ha⟩ := lstD_ok r dv h
    exact ⟨p, vs, e, .inl ep, ha⟩
def listF (fin : List D → M D) : D → M D := fun d s => match seqD s d with
  | some xs => fin xs s
  | none => .bad
theorem listF_ok {fin : List D → M D} (hf : NewOk K mg fin) : CallOk K mg (fun xs H Q => ∃ p ys, xs = [.ref p] ∧ (SqL K H p ys ∨ SqT K H p ys) ∧ ∀ l, H l = none → Q (.ref l) (upd H l (.lst ys))) (arg1 (listF fin)) := call1 fun O H s d v Q X' r dv h => by
  unfold listF at h
  cases e : seqD s d with
  | none => rw [e] at h; exact h.elim
  | some xs =>
    rw [e] at h
    obtain ⟨p, vs, rfl, ep, ha⟩ := seqD_ok r dv e
    exact ⟨p, vs, rfl, ep, fun l hl => hf O H s l _ _ Q X' r hl ha h⟩
/-- tuple(x) -/
def tupF : D → M D := fun d s => match seqD s d with
  | some xs => .ok (.tup xs) s
  | none => .bad
theorem tupF_ok : CallOk K mg (fun xs H Q => ∃ p ys, xs = [.ref p] ∧ ((SqL K H p ys ∧ ∀ l, H l = none → Q (.ref l) (upd H l (.tup ys))) ∨ (SqT K H p ys ∧ Q (.ref p) H))) (arg1 tupF) := call1 fun O H s d v Q X' r dv h => by
  unfold tupF at h
  by_cases ht : ∃ xs, d = .tup xs
  · obtain ⟨xs, rfl⟩ := ht
    obtain ⟨p, vs, rfl, ep, ha⟩ := tupD_ok dv rfl
    have h : Post K mg O H (ret (D.tup xs) s) (fun d _ O' H' => ∀ u, DV K mg O' H' d u → Q u H') X' := h
    exact ⟨p, vs, rfl, .inr ⟨ep, h.ret r _ dv⟩⟩
  · have e0 : seqD s d = lstD s d := by
      cases d with
      | tup xs => exact absurd ⟨xs, rfl⟩ ht
      | _ => rfl
    rw [e0] at h
    cases e : lstD s d with
    | none => rw [e] at h; exact h.elim
    | some xs =>
      rw [e] at h
      obtain ⟨p, vs, rfl, ep, ha⟩ := lstD_ok r dv e
      exact ⟨p, vs, rfl, .inl ⟨ep, fun l hl => newT r hl ha h⟩⟩
/-- int(x) of an int, a bool -/
def intF : D → M D := fun d => match d with
  | .int i => ret (.int i)
  | .bl k => ret (.int (if k then 1 else 0))
  | _ => bad
theorem intF_ok : CallOk K mg (fun xs H Q => (∃ i, xs = [.int i] ∧ Q (.int i) H) ∨ ∃ k, xs = [.bl k] ∧ Q (.int (if k then 1 else 0)) H) (arg1 intF) := call1 fun O H s d v Q X' r dv h => by
  cases d with
  | int i => cases dv; exact .inl ⟨i, rfl, Post.ret (show Post K mg O H (ret (.int i) s) (fun d _ O' H' => ∀ u, DV K mg O' H' d u → Q u H') X' from h) r _ (.int _)⟩
  | bl k => cases dv; exact .inr ⟨k, rfl, Post.ret (show Post K mg O H (ret (.int (if k then 1 else 0)) s) (fun d _ O' H' => ∀ u, DV K mg O' H' d u → Q u H') X' from h) r _ (.int _)⟩
  | _ => exact h.elim
def absF : D → M D := fun d => match d with
  | .int i => ret (.int (if i < 0 then -i else i))
  | _ => bad
theorem absF_ok : CallOk K mg (fun xs H Q => ∃ i, xs = [.int i] ∧ Q (.int (if i < 0 then -i else i)) H) (arg1 absF) := call1 fun O H s d v Q X' r dv h => by
  cases d with
  | int i => cases dv; exact ⟨i, rfl, Post.ret (show Post K mg O H (ret (.int (if i < 0 then -i else i)) s) (fun d _ O' H' => ∀ u, DV K mg O' H' d u → Q u H') X' from h) r _ (.int _)⟩
  | _ => exact h.elim
/-- max, min of two ints -/
def two2 (p : Int → Int → D) : List D → M D := fun ds => match ds with
  | [a, b] => int2 (fun i j => some (p i j)) a b
  | _ => bad
theorem two2_ok {g : Int → Int → V} {p : Int → Int → D} (hp : ∀ i j O H, DV K mg O H (p i j) (g i j)) : CallOk K mg (fun xs H Q => ∃ i j, xs = [.int i, .int j] ∧ Q (g i j) H) (two2 p) := by
  intro O H s ds vs Q X' r dv h
  match ds, vs, dv with
  | [a, b], [v, w], .cons dv (.cons dw .nil) =>
    obtain ⟨i, j, e1, e2, q⟩ := int20_ok hp O H s a b v w Q X' r dv dw h
    subst e1 e2
    exact ⟨i, j, rfl, q⟩
  | [], _, _ => exact h.elim
  | [_], _, _ => exact h.elim
  | _ :: _ :: _ :: _, _, _ => exact h.elim
def maxI : List D → M D := two2 fun i j => .int (if j > i then j else i)
def minI : List D → M D := two2 fun i j => .int (if j < i then j else i)
end
section
variable {X : Cx} {W : WX} {e : Expr} {es : List Expr} {fa : Rs → M (List D)} {p pos : Pos}
theorem re_len (hm : X.mg "len" = none) (ha : RA X W (e :: es) fa) (hg : Gl X "len" := by rfl) (he : starEach (e :: es) X.env = (false, eval e X.env) :: starEach es X.env := by rfl) (hpl : (backTo pos (starEach es X.env)).any (·.1) = false := by rfl) :
    RE X W (.Call (.Name "len" p) (e :: es) [] pos) (callM lenD [] fa) := re_cB (call_len_seq.or call_len_str) lenD_ok hm boot_len ha hg (by decide) (by decide) he hpl
theorem re_list {fin : List D → M D} (hf : NewOk X.K X.mg fin) (hm : X.mg "list" = none) (ha : RA X W (e :: es) fa) (hg : Gl X "list" := by rfl) (he : starEach (e :: es) X.env = (false, eval e X.env) :: starEach es X.env := by rfl) (hpl : (backTo pos (starEach es X.env)).any (·.1) = false := by rfl) :
    RE X W (.Call (.Name "list" p) (e :: es) [] pos) (callM (arg1 (listF fin)) [] fa) := re_cT call_list_of (listF_ok hf) hm (by with_unfolding_all rfl) ha hg (by decide) (by decide) he hpl
theorem re_tuple (hm : X.mg "tuple" = none) (ha : RA X W (e :: es) fa) (hg : Gl X "tuple" := by rfl) (he : starEach (e :: es) X.env = (false, eval e X.env) :: starEach es X.env := by rfl) (hpl : (backTo pos (starEach es X.env)).any (·.1) = false := by rfl) :
    RE X W (.Call (.Name "tuple" p) (e :: es) [] pos) (callM (arg1 tupF) [] fa) := re_cT call_tuple_of tupF_ok hm (by with_unfolding_all rfl) ha hg (by decide) (by decide) he hpl
theorem re_toint (hm : X.mg "int" = none) (ha : RA X W (e :: es) fa) (hg : Gl X "int" := by rfl) (he : starEach (e :: es) X.env = (false, eval e X.env) :: starEach es X.env := by rfl) (hpl : (backTo pos (starEach es X.env)).any (·.1) = false := by rfl) :
    RE X W (.Call (.Name "int" p) (e :: es) [] pos) (callM (arg1 intF) [] fa) := re_cT call_int1 intF_ok hm (by with_unfolding_all rfl) ha hg (by decide) (by decide) he hpl
theorem re_abs (hm : X.mg "abs" = none) (ha : RA X W (e :: es) fa) (hg : Gl X "abs" := by rfl) (he : starEach (e :: es) X.env = (false, eval e X.env) :: starEach es X.env := by rfl) (hpl : (backTo pos (starEach es X.env)).any (·.1) = false := by rfl) :
    RE X W (.Call (.Name "abs" p) (e :: es) [] pos) (callM (arg1 absF) [] fa) := re_cB call_abs absF_ok hm (by with_unfolding_all rfl) ha hg (by decide) (by decide) he hpl
theorem re_max2 (hc : X.calm = true) (hm : X.mg "max" = none) (ha : RA X W (e :: es) fa) (hg : Gl X "max" := by rfl) (he : starEach (e :: es) X.env = (false, eval e X.env) :: starEach es X.env := by rfl) (hpl : (backTo pos (starEach es X.env)).any (·.1) = false := by rfl) :
    RE X W (.Call (.Name "max" p) (e :: es) [] pos) (callM maxI [] fa) := re_cB (call_max2 hc) (two2_ok fun i j O H => .int _) hm (by with_unfolding_all rfl) ha hg (by decide) (by decide) he hpl
theorem re_min2 (hc : X.calm = true) (hm : X.mg "min" = none) (ha : RA X W (e :: es) fa) (hg : Gl X "min" := by rfl) (he : starEach (e :: es) X.env = (false, eval e X.env) :: starEach es X.env := by rfl) (hpl : (backTo pos (starEach es X.env)).any (·.1) = false := by rfl) :
    RE X W (.Call (.Name "min" p) (e :: es) [] pos) (callM minI [] fa) := re_cB (call_min2 hc) (two2_ok fun i j O H => .int _) hm (by with_unfolding_all rfl) ha hg (by decide) (by decide) he hpl
end

/-! ### in, not in -/
def rInP (K : PySem.W.Frag) (f : Bool → Bool) : R2 := fun x y H Q => ∃ px ys, RdV K H x px ∧ (RdV K H y (.list ys) ∨ RdV K H y (.tuple ys)) ∧ (px.canLay0 = true ∧ px.depth ≤ 60) ∧ PyData.canLayAll0 ys = true ∧ Q (.bl (f (ys.any fun z => PyData.eqv z px))) H
section
variable {X : Cx}
theorem op_inP (hu : X.A.units + 64 < cLine) : OpR X (compareOp .In) (rInP X.K id) := by
  intro pins s sg H x y v u Q I r1 r2 ⟨px, ys, h1, h2, c1, c2, q⟩
  obtain ⟨as, ra⟩ := reads_of I h1 r1
  rcases h2 with h2 | h2
  · obtain ⟨bs, rb⟩ := reads_of I h2 r2
    exact PySem.SeqAt.in_list_reads rb ra c2 c1.1 (by omega) ⟨.bl _, H, I, rfl, q⟩
  · obtain ⟨bs, rb⟩ := reads_of I h2 r2
    exact PySem.SeqAt.in_tuple_reads rb ra c2 c1.1 (by omega) ⟨.bl _, H, I, rfl, q⟩
theorem op_ninP (hu : X.A.units + 64 < cLine) : OpR X (compareOp .NotIn) (rInP X.K not) := by
  intro pins s sg H x y v u Q I r1 r2 ⟨px, ys, h1, h2, c1, c2, q⟩
  obtain ⟨as, ra⟩ := reads_of I h1 r1
  rcases h2 with h2 | h2
  · obtain ⟨bs, rb⟩ := reads_of I h2 r2
    exact PySem.SeqAt.notIn_list_reads rb ra c2 c1.1 (by omega) ⟨.bl _, H, I, rfl, q⟩
  · obtain ⟨bs, rb⟩ := reads_of I h2 r2
    exact PySem.SeqAt.notIn_tuple_reads rb ra c2 c1.1 (by omega) ⟨.bl _, H, I, rfl, q⟩
end
def inG (f : Bool → Bool) : D → D → M D := py2 fun x y => match y with
  | .list ys => some (.bl (f (ys.any fun z => PyData.eqv z x)))
  | .tuple ys => some (.bl (f (ys.any fun z => PyData.eqv z x)))
  | _ => none
theorem inG_ok {K : PySem.W.Frag} {mg : Str → Option Value} (f : Bool → Bool) : OpOk K mg (rInP K f) (inG f) := by
  intro O H s d1 d2 v w Q X' r dv dw h
  unfold inG py2 at h
  cases e1 : toPy s 20 d1 with
  | none => rw [e1] at h; exact h.elim
  | some x =>
    cases e2 : toPy s 20 d2 with
    | none => rw [e1, e2] at h; exact h.elim
    | some y =>
      rw [e1, e2] at h
      obtain ⟨a1, a2⟩ := toPy_shape s 20 d1 x e1
      obtain ⟨b1, b2⟩ := toPy_shape s 20 d2 y e2
      have r2 := rdv_of r 20 d2 w y dw e2
      cases y with
      | list ys => exact ⟨x, ys, rdv_of r 20 d1 v x dv e1, .inl r2, ⟨a1, by omega⟩, by simpa [PyData.canLay0] using b1, Post.ret (show Post K mg O H (ret (D.bl (f (ys.any fun z => PyData.eqv z x))) s) (fun d _ O' H' => ∀ u, DV K mg O' H' d u → Q u H') X' from h) r _ (.bl _)⟩
      | tuple ys => exact ⟨x, ys, rdv_of r 20 d1 v x dv e1, .inr r2, ⟨a1, by omega⟩, by simpa [PyData.canLay0] using b1, Post.ret (show Post K mg O H (ret (D.bl (f (ys.any fun z => PyData.eqv z x))) s) (fun d _ O' H' => ∀ u, DV K mg O' H' d u → Q u H') X' from h) r _ (.bl _)⟩
      | _ => exact h.elim
/-- one sign in a text -/
def inS (f : Bool → Bool) : D → D → M D := fun a b => match a, b with
  | .str i, .str j => ret (.bl (f (!(Builtin.Str.occurrences j i 0 j.length 1).isEmpty)))
  | _, _ => bad
theorem inS_ok {K : PySem.W.Frag} {mg : Str → Option Value} (f : Bool → Bool) : OpOk K mg (fun x y H Q => ∃ i j, x = .str i ∧ y = .str j ∧ Q (.bl (f (!(Builtin.Str.occurrences j i 0 j.length 1).isEmpty))) H) (inS f) := by
  intro O H s d1 d2 v w Q X' r dv dw h
  cases d1 with
  | str i =>
    cases d2 with
    | str j => cases dv; cases dw; exact ⟨i, j, rfl, rfl, Post.ret (show Post K mg O H (ret (D.bl (f (!(Builtin.Str.occurrences j i 0 j.length 1).isEmpty))) s) (fun d _ O' H' => ∀ u, DV K mg O' H' d u → Q u H') X' from h) r _ (.bl _)⟩
    | _ => exact h.elim
  | _ => cases d2 <;> exact h.elim
def inD (f : Bool → Bool) : D → D → M D := fun a b => match b with
  | .str _ => inS f a b
  | _ => inG f a b
theorem inD_alt (f : Bool → Bool) (a b : D) (s : S) : inD f a b s = inS f a b s ∨ inD f a b s = inG f a b s := by
  cases b <;> first | exact .inl rfl | exact .inr rfl
section
variable {X : Cx} {W : WX} {a b : Expr} {fa fb : Rs → M D} {pos : Pos}
theorem re_in (hu : X.A.units + 64 < cLine) (ha : RE X W a fa) (hb : RE X W b fb) (hm : behindInMarks .In b = false := by rfl) : RE X W (.Compare a [.In] [b] pos) (op2 (inD id) fa fb) := re_cmp (op_in_str.or (op_inP hu)) (OpOk.or (inS_ok id) (inG_ok id) (inD_alt id)) ha hb hm
theorem rt_in (hu : X.A.units + 64 < cLine) (ha : RE X W a fa) (hb : RE X W b fb) (hm : behindInMarks .In b = false := by rfl) : RT X W (.Compare a [.In] [b] pos) (toB (op2 (inD id) fa fb)) := rt_cmp (op_in_str.or (op_inP hu)) (OpOk.or (inS_ok id) (inG_ok id) (inD_alt id)) ha hb hm
theorem re_nin (hu : X.A.units + 64 < cLine) (ha : RE X W a fa) (hb : RE X W b fb) (hm : behindInMarks .NotIn b = false := by rfl) : RE X W (.Compare a [.NotIn] [b] pos) (op2 (inD not) fa fb) := re_cmp (op_notin_str.or (op_ninP hu)) (OpOk.or (inS_ok not) (inG_ok not) (inD_alt not)) ha hb hm
theorem rt_nin (hu : X.A.units + 64 < cLine) (ha : RE X W a fa) (hb : RE X W b fb) (hm : behindInMarks .NotIn b = false := by rfl) : RT X W (.Compare a [.NotIn] [b] pos) (toB (op2 (inD not) fa fb)) := rt_cmp (op_notin_str.or (op_ninP hu)) (OpOk.or (inS_ok not) (inG_ok not) (inD_alt not)) ha hb hm
/-! ### orders, == -/
theorem re_eq (hu : X.A.units + 64 < cLine) (ha : RE X W a fa) (hb : RE X W b fb) (hm : behindInMarks .Eq b = false := by rfl) : RE X W (.Compare a [.Eq] [b] pos) (op2 (eqG id) fa fb) := re_cmp (op_eqP hu) (eqG_ok id) ha hb hm
theorem rt_eq (hu : X.A.units + 64 < cLine) (ha : RE X W a fa) (hb : RE X W b fb) (hm : behindInMarks .Eq b = false := by rfl) : RT X W (.Compare a [.Eq] [b] pos) (toB (op2 (eqG id) fa fb)) := rt_cmp (op_eqP hu) (eqG_ok id) ha hb hm
theorem re_ne (hu : X.A.units + 64 < cLine) (ha : RE X W a fa) (hb : RE X W b fb) (hm : behindInMarks .NotEq b = false := by rfl) : RE X W (.Compare a [.NotEq] [b] pos) (op2 (eqG not) fa fb) := re_cmp (op_neP hu) (eqG_ok not) ha hb hm
theorem rt_ne (hu : X.A.units + 64 < cLine) (ha : RE X W a fa) (hb : RE X W b fb) (hm : behindInMarks .NotEq b = false := by rfl) : RT X W (.Compare a [.NotEq] [b] pos) (toB (op2 (eqG not) fa fb)) := rt_cmp (op_neP hu) (eqG_ok not) ha hb hm
def ltD : D → D → M D := fun a b => match a with
  | .int _ => ltI a b
  | _ => ltG a b
theorem ltD_alt (a b : D) (s : S) : ltD a b s = ltI a b s ∨ ltD a b s = ltG a b s := by
  cases a <;> first | exact .inl rfl | exact .inr rfl
theorem ltO (hu : X.A.units + 64 < cLine) : OpR X (compareOp .Lt) (fun x y H Q => rI0 (fun i j => .bl (decide (i < j))) x y H Q ∨ rLtP X.K x y H Q) := op_lt.or (op_ltP hu)
theorem ltD_ok : OpOk X.K X.mg (fun x y H Q => rI0 (fun i j => .bl (decide (i < j))) x y H Q ∨ rLtP X.K x y H Q) ltD := OpOk.or (g1 := ltI) (int20_ok fun i j O H => .bl _) ltG_ok ltD_alt
theorem re_lt (hu : X.A.units + 64 < cLine) (ha : RE X W a fa) (hb : RE X W b fb) (hm : behindInMarks .Lt b = false := by rfl) : RE X W (.Compare a [.Lt] [b] pos) (op2 ltD fa fb) := re_cmp (ltO hu) ltD_ok ha hb hm
theorem rt_lt (hu : X.A.units + 64 < cLine) (ha : RE X W a fa) (hb : RE X W b fb) (hm : behindInMarks .Lt b = false := by rfl) : RT X W (.Compare a [.Lt] [b] pos) (toB (op2 ltD fa fb)) := rt_cmp (ltO hu) ltD_ok ha hb hm
theorem leI_ok : OpOk X.K X.mg (rI0 fun i j => .bl (decide (i ≤ j))) leI := int20_ok fun i j O H => .bl _
theorem gtI_ok : OpOk X.K X.mg (rI0 fun i j => .bl (decide (j < i))) gtI := int20_ok fun i j O H => .bl _
theorem geI_ok : OpOk X.K X.mg (rI0 fun i j => .bl (decide (j ≤ i))) geI := int20_ok fun i j O H => .bl _
theorem re_le (ha : RE X W a fa) (hb : RE X W b fb) (hm : behindInMarks .LtE b = false := by rfl) : RE X W (.Compare a [.LtE] [b] pos) (op2 leI fa fb) := re_cmp op_le leI_ok ha hb hm
theorem rt_le (ha : RE X W a fa) (hb : RE X W b fb) (hm : behindInMarks .LtE b = false := by rfl) : RT X W (.Compare a [.LtE] [b] pos) (toB (op2 leI fa fb)) := rt_cmp op_le leI_ok ha hb hm
theorem re_gt (ha : RE X W a fa) (hb : RE X W b fb) (hm : behindInMarks .Gt b = false := by rfl) : RE X W (.Compare a [.Gt] [b] pos) (op2 gtI fa fb) := re_cmp op_gt gtI_ok ha hb hm
theorem rt_gt (ha : RE X W a fa) (hb : RE X W b fb) (hm : behindInMarks .Gt b = false := by rfl) : RT X W (.Compare a [.Gt] [b] pos) (toB (op2 gtI fa fb)) := rt_cmp op_gt gtI_ok ha hb hm
theorem re_ge (ha : RE X W a fa) (hb : RE X W b fb) (hm : behindInMarks .GtE b = false := by rfl) : RE X W (.Compare a [.GtE] [b] pos) (op2 geI fa fb) := re_cmp op_ge geI_ok ha hb hm
theorem rt_ge (ha : RE X W a fa) (hb : RE X W b fb) (hm : behindInMarks .GtE b = false := by rfl) : RT X W (.Compare a [.GtE] [b] pos) (toB (op2 geI fa fb)) := rt_cmp op_ge geI_ok ha hb hm
/-- x is None -/
def nonD : D → Bool
  | .non => true
  | _ => false
def isN (f : Bool → Bool) : D → D → M D := fun a b => match b with
  | .non => ret (.bl (f (nonD a)))
  | _ => bad
theorem DV.nonIff {K : PySem.W.Frag} {mg : Str → Option Value} {O : Ow} {H : Hp} {d : D} {v : V} (dv : DV K mg O H d v) : decide (v = V.non) = nonD d := by
  cases dv <;> first | rfl | exact decide_eq_false (fun z => by cases z)
theorem isN_ok {K : PySem.W.Frag} {mg : Str → Option Value} (f : Bool → Bool) : OpOk K mg (fun x y H Q => y = .non ∧ Q (.bl (f (decide (x = .non)))) H) (isN f) := by
  intro O H s d1 d2 v w Q X' r dv dw h
  cases d2 with
  | non =>
    cases dw
    refine ⟨rfl, ?_⟩
    rw [dv.nonIff]
    exact Post.ret (show Post K mg O H (ret (D.bl (f (nonD d1))) s) (fun d _ O' H' => ∀ u, DV K mg O' H' d u → Q u H') X' from h) r _ (.bl _)
  | _ => exact h.elim
theorem re_isN (ha : RE X W a fa) (hb : RE X W b fb) (hm : behindInMarks .Is b = false := by rfl) : RE X W (.Compare a [.Is] [b] pos) (op2 (isN id) fa fb) := re_cmp op_isN (isN_ok id) ha hb hm
theorem rt_isN (ha : RE X W a fa) (hb : RE X W b fb) (hm : behindInMarks .Is b = false := by rfl) : RT X W (.Compare a [.Is] [b] pos) (toB (op2 (isN id) fa fb)) := rt_cmp op_isN (isN_ok id) ha hb hm
theorem re_notN (ha : RE X W a fa) (hb : RE X W b fb) (hm : behindInMarks .IsNot b = false := by rfl) : RE X W (.Compare a [.IsNot] [b] pos) (op2 (isN not) fa fb) := re_cmp op_notN (isN_ok not) ha hb hm
theorem rt_notN (ha : RE X W a fa) (hb : RE X W b fb) (hm : behindInMarks .IsNot b = false := by rfl) : RT X W (.Compare a [.IsNot] [b] pos) (toB (op2 (isN not) fa fb)) := rt_cmp op_notN (isN_ok not) ha hb hm
/-- a <= b <= c, .. -/
theorem re_cLeLe {c : Expr} {fc : Rs → M D} (ha : RE X W a fa) (hb : RE X W b fb) (hc : RE X W c fc) (hm : lastMarks [.LtE, .LtE] [b, c] = false := by rfl) : RE X W (.Compare a [.LtE, .LtE] [b, c] pos) (chn leI leI fa fb fc) := re_chain op_le op_le leI_ok leI_ok ha hb hc hm
theorem re_cLeLt (hu : X.A.units + 64 < cLine) {c : Expr} {fc : Rs → M D} (ha : RE X W a fa) (hb : RE X W b fb) (hc : RE X W c fc) (hm : lastMarks [.LtE, .Lt] [b, c] = false := by rfl) : RE X W (.Compare a [.LtE, .Lt] [b, c] pos) (chn leI ltD fa fb fc) := re_chain op_le (ltO hu) leI_ok ltD_ok ha hb hc hm
end
end Md

set_option Elab.async false
set_option linter.all false
set_option maxRecDepth 100000
/-! Md8: walks, all and any, sorted, the lists' methods. -/
namespace Md
open PySem PySem.Spec PyProof.Rows L2

/-! ### walks -/
section
variable {K : PySem.W.Frag} {mg : Str → Option Value} {O : Ow} {H : Hp} {ds : List D}
theorem at_lt {α : Type} {xs : List α} {i : Nat} (h : i < xs.length) : ∃ x, xs[i]? = some x := ⟨xs[i], List.getElem?_eq_getElem h⟩
theorem wk_tup {a : Addr} {vs : List V} (ta : TupAt K H a vs) (t : DVs K mg O H ds vs) : Wk K mg O H (Itt K a) ds where
  go := fun i O1 H1 x h => by
    obtain ⟨v, e⟩ := at_lt (xs := vs) (by rw [← t.length]; exact h)
    exact ⟨vs, v, (ta.mono x.toMono).sq, e⟩
  yld := fun i O1 H1 s y H' lt x r h => by
    obtain ⟨rfl, h⟩ := h
    have e := h vs (ta.mono x.toMono).sq
    have hlt : i < ds.length := by rw [t.length]; exact (List.getElem?_eq_some_iff.mp e).1
    obtain ⟨d, ed⟩ := at_lt hlt
    obtain ⟨v, ev, dv⟩ := t.at_ ed
    rw [e] at ev
    cases ev
    exact ⟨d, O1, ed, .refl, r, dv.mono x.toMono⟩
  stop := fun O1 H1 x => ⟨vs, (ta.mono x.toMono).sq, by rw [t.length]; exact Nat.le_refl _⟩
theorem wk_lstW {a : Addr} {vs : List V} (ta : ∀ O1 H1, Mono O H O1 H1 → SqL K H1 a vs) (t : DVs K mg O H ds vs) : Wk K mg O H (Itl K a) ds where
  go := fun i O1 H1 x h => by
    obtain ⟨v, e⟩ := at_lt (xs := vs) (by rw [← t.length]; exact h)
    exact ⟨vs, v, ta _ _ x.toMono, e⟩
  yld := fun i O1 H1 s y H' lt x r h => by
    obtain ⟨rfl, h⟩ := h
    have e := h vs (ta _ _ x.toMono)
    have hlt : i < ds.length := by rw [t.length]; exact (List.getElem?_eq_some_iff.mp e).1
    obtain ⟨d, ed⟩ := at_lt hlt
    obtain ⟨v, ev, dv⟩ := t.at_ ed
    rw [e] at ev
    cases ev
    exact ⟨d, O1, ed, .refl, r, dv.mono x.toMono⟩
  stop := fun O1 H1 x => ⟨vs, ta _ _ x.toMono, by rw [t.length]; exact Nat.le_refl _⟩
/-- a list that nobody changes -/
def fixD : D → Option (List D)
  | .lst xs => some xs
  | .wls xs => some xs
  | _ => none
theorem wk_lst {d : D} {v : V} (dv : DV K mg O H d v) (e : fixD d = some ds) : ∃ a, v = .ref a ∧ (∃ vs, SqL K H a vs) ∧ Wk K mg O H (Itl K a) ds := by
  cases dv with
  | lst ta t => injection e with e; subst e; exact ⟨_, rfl, ⟨_, ta.sq⟩, wk_lstW (fun O1 H1 m => (ta.mono m).sq) t⟩
  | wls ta t => injection e with e; subst e; exact ⟨_, rfl, ⟨_, ta.sq⟩, wk_lstW (fun O1 H1 m => (ta.mono m).sq) t⟩
  | _ => cases e
def rngD (lo : Int) (n : Nat) : List D := (List.range n).map fun (i : Nat) => D.int (lo + (i : Int))
theorem rng_at {lo : Int} {n i : Nat} (h : i < n) : (rngD lo n)[i]? = some (.int (lo + (i : Int))) := by
  unfold rngD
  rw [List.getElem?_map, List.getElem?_range h]
  rfl
theorem wk_rng (lo : Int) (n : Nat) : Wk K mg O H (Itr lo n) (rngD lo n) where
  go := fun i O1 H1 x h => show i < n by simpa [rngD] using h
  yld := fun i O1 H1 s y H' lt x r h => by
    obtain ⟨rfl, rfl⟩ := h
    have hl : i < n := by simpa [rngD] using lt
    exact ⟨_, O1, rng_at hl, .refl, r, .int _⟩
  stop := fun O1 H1 x => by simp [rngD, Itr]
end
section
variable {K : PySem.W.Frag} {mg : Str → Option Value} {O : Ow} {H : Hp} {ds : List D}
/-- lo, lo + c, .. -/
def rgcD (lo c : Int) (n : Nat) : List D := (List.range n).map fun (i : Nat) => D.int (lo + (i : Int) * c)
theorem wk_rgc (lo c : Int) (n : Nat) : Wk K mg O H (Itc lo c n) (rgcD lo c n) where
  go := fun i O1 H1 x h => show i < n by simpa [rgcD] using h
  yld := fun i O1 H1 s y H' lt x r h => by
    obtain ⟨rfl, rfl⟩ := h
    have hl : i < n := by simpa [rgcD] using lt
    refine ⟨.int (lo + (i : Int) * c), O1, ?_, .refl, r, .int _⟩
    unfold rgcD
    rw [List.getElem?_map, List.getElem?_range hl]
    rfl
  stop := fun O1 H1 x => by simp [rgcD, Itc]
def sgD (x : Str) : List D := x.cps.toList.map fun c => .str ⟨#[c]⟩
theorem wk_str (z : Str) : Wk K mg O H (Its z) (sgD z) where
  go := fun i O1 H1 x h => show i < z.cps.size by simpa [sgD] using h
  yld := fun i O1 H1 s y H' lt x r h => by
    obtain ⟨rfl, c, ec, rfl⟩ := h
    refine ⟨.str ⟨#[c]⟩, O1, ?_, .refl, r, .str _⟩
    unfold sgD
    rw [List.getElem?_map, Array.getElem?_toList, ec]
    rfl
  stop := fun O1 H1 x => show z.cps.size ≤ _ by simp [sgD]
/-- i, x -/
def enD : Nat → List D → List D
  | _, [] => []
  | k, d :: ds => .tup [.int (k : Int), d] :: enD (k + 1) ds
theorem enD_length : ∀ (ds : List D) (k : Nat), (enD k ds).length = ds.length
  | [], _ => rfl
  | d :: ds, k => by simp [enD, enD_length ds (k + 1)]
theorem enD_at : ∀ {ds : List D} {k i : Nat} {d : D}, ds[i]? = some d → (enD k ds)[i]? = some (.tup [.int ((k + i : Nat) : Int), d])
  | [], _, _, _, e => by simp at e
  | d :: ds, k, 0, _, e => by
    have e' := Option.some.inj (show some d = some _ from e)
    subst e'
    rfl
  | d :: ds, k, i + 1, _, e => by
    have q := enD_at (ds := ds) (k := k + 1) (i := i) (by simpa using e)
    rw [show k + (i + 1) = k + 1 + i by omega]
    simpa [enD] using q
theorem wk_enum {a : Addr} {vs : List V} (ta : ∀ O1 H1, Mono O H O1 H1 → SqL K H1 a vs) (t : DVs K mg O H ds vs) : Wk K mg O H (Ite K a) (enD 0 ds) where
  go := fun i O1 H1 x h => by
    rw [enD_length] at h
    obtain ⟨v, e⟩ := at_lt (xs := vs) (by rw [← t.length]; exact h)
    exact ⟨vs, v, ta _ _ x.toMono, e⟩
  yld := fun i O1 H1 s y H' lt x r h => by
    obtain ⟨T, u, rfl, hT, rfl, h⟩ := h
    rw [enD_length] at lt
    obtain ⟨d, ed⟩ := at_lt lt
    obtain ⟨v, ev, dv⟩ := t.at_ ed
    have e := h vs (ta _ _ x.toMono)
    rw [ev] at e
    cases e
    obtain ⟨x2, r2, d2⟩ := new_tup (ds := [.int (i : Nat), d]) r hT (.cons (.int _) (.cons (dv.mono x.toMono) .nil))
    refine ⟨_, O1, enD_at ed, x2, r2, ?_⟩
    rw [Nat.zero_add]
    exact d2
  stop := fun O1 H1 x => ⟨vs, ta _ _ x.toMono, by rw [enD_length, t.length]; exact Nat.le_refl _⟩
/-- x, y -/
def zpD : List D → List D → List D
  | a :: as, b :: bs => .tup [a, b] :: zpD as bs
  | _, _ => []
theorem zpD_at : ∀ {as bs : List D} {i : Nat} {a b : D}, as[i]? = some a → bs[i]? = some b → (zpD as bs)[i]? = some (.tup [a, b])
  | [], _, _, _, _, e, _ => by simp at e
  | _ :: _, [], _, _, _, _, e => by simp at e
  | a :: as, b :: bs, 0, _, _, e, e2 => by
    have h1 := Option.some.inj (show some a = some _ from e)
    have h2 := Option.some.inj (show some b = some _ from e2)
    subst h1 h2
    rfl
  | a :: as, b :: bs, i + 1, _, _, e, e2 => by
    have q := zpD_at (as := as) (bs := bs) (i := i) (by simpa using e) (by simpa using e2)
    simpa [zpD] using q
theorem zpD_length : ∀ (as bs : List D), (zpD as bs).length = min as.length bs.length
  | [], bs => by simp [zpD]
  | _ :: _, [] => by simp [zpD]
  | a :: as, b :: bs => by simp [zpD, zpD_length as bs]
theorem wk_zipT {a b : Addr} {as bs : List D} {us vs : List V} (ta : TupAt K H a us) (tb : TupAt K H b vs) (t : DVs K mg O H as us) (t2 : DVs K mg O H bs vs) : Wk K mg O H (RZ.ItzT K a b) (zpD as bs) where
  go := fun i O1 H1 x h => by
    rw [zpD_length] at h
    obtain ⟨u, e⟩ := at_lt (xs := us) (i := i) (by rw [← t.length]; omega)
    obtain ⟨v, e2⟩ := at_lt (xs := vs) (i := i) (by rw [← t2.length]; omega)
    exact ⟨us, vs, u, v, (ta.mono x.toMono).sq, (tb.mono x.toMono).sq, e, e2⟩
  yld := fun i O1 H1 s y H' lt x r h => by
    obtain ⟨T, u, v, rfl, hT, rfl, h, h2⟩ := h
    rw [zpD_length] at lt
    obtain ⟨d, ed⟩ := at_lt (xs := as) (i := i) (by omega)
    obtain ⟨d2, ed2⟩ := at_lt (xs := bs) (i := i) (by omega)
    obtain ⟨w, ev, dv⟩ := t.at_ ed
    obtain ⟨w2, ev2, dv2⟩ := t2.at_ ed2
    have e := h us (ta.mono x.toMono).sq
    have e2 := h2 vs (tb.mono x.toMono).sq
    rw [ev] at e
    rw [ev2] at e2
    cases e
    cases e2
    obtain ⟨x2, r2, q2⟩ := new_tup (ds := [d, d2]) r hT (.cons (dv.mono x.toMono) (.cons (dv2.mono x.toMono) .nil))
    exact ⟨_, O1, zpD_at ed ed2, x2, r2, q2⟩
  stop := fun O1 H1 x => ⟨us, vs, (ta.mono x.toMono).sq, (tb.mono x.toMono).sq, by rw [zpD_length, t.length, t2.length]; omega⟩
theorem wk_zipL {a b : Addr} {as bs : List D} {us vs : List V} (ta : ∀ O1 H1, Mono O H O1 H1 → SqL K H1 a us) (tb : ∀ O1 H1, Mono O H O1 H1 → SqL K H1 b vs) (t : DVs K mg O H as us) (t2 : DVs K mg O H bs vs) : Wk K mg O H (Itz K a b) (zpD as bs) where
  go := fun i O1 H1 x h => by
    rw [zpD_length] at h
    obtain ⟨u, e⟩ := at_lt (xs := us) (i := i) (by rw [← t.length]; omega)
    obtain ⟨v, e2⟩ := at_lt (xs := vs) (i := i) (by rw [← t2.length]; omega)
    exact ⟨us, vs, u, v, ta _ _ x.toMono, tb _ _ x.toMono, e, e2⟩
  yld := fun i O1 H1 s y H' lt x r h => by
    obtain ⟨T, u, v, rfl, hT, rfl, h, h2⟩ := h
    rw [zpD_length] at lt
    obtain ⟨d, ed⟩ := at_lt (xs := as) (i := i) (by omega)
    obtain ⟨d2, ed2⟩ := at_lt (xs := bs) (i := i) (by omega)
    obtain ⟨w, ev, dv⟩ := t.at_ ed
    obtain ⟨w2, ev2, dv2⟩ := t2.at_ ed2
    have e := h us (ta _ _ x.toMono)
    have e2 := h2 vs (tb _ _ x.toMono)
    rw [ev] at e
    rw [ev2] at e2
    cases e
    cases e2
    obtain ⟨x2, r2, q2⟩ := new_tup (ds := [d, d2]) r hT (.cons (dv.mono x.toMono) (.cons (dv2.mono x.toMono) .nil))
    exact ⟨_, O1, zpD_at ed ed2, x2, r2, q2⟩
  stop := fun O1 H1 x => ⟨us, vs, ta _ _ x.toMono, tb _ _ x.toMono, by rw [zpD_length, t.length, t2.length]; omega⟩
end
section
variable {X : Cx} {W : WX} {tg e e2 : Expr} {fe : Rs → M D} {fa : Rs → M (List D)} {p pos : Pos}
def itTup (fe : Rs → M D) : Rs → M (List D) := fun env => bnd (fe env) fun d => match d with
  | .tup xs => ret xs
  | _ => bad
theorem ri_tup (h : RE X W e fe) : RI X W tg e (itTup fe) := by
  refine pi_weak (pi_tup h) fun sg H R ⟨O, env, s, hE, hS, hP⟩ => ?_
  refine ⟨O, env, s, hE, hS, hP.split.imp (fun d s1 O1 H1 _ x1 q1 p1 v dv => ?_) fun _ _ _ _ _ _ z => z⟩
  cases dv with
  | tup ta t => exact ⟨_, rfl, ⟨_, ta.sq⟩, Post.ret p1 q1 _ (wk_tup ta t)⟩
  | _ => exact p1.elim
def itLst (fe : Rs → M D) : Rs → M (List D) := fun env => bnd (fe env) fun d => opt (fixD d)
theorem ri_lst (h : RE X W e fe) : RI X W tg e (itLst fe) := by
  refine pi_weak (pi_list h) fun sg H R ⟨O, env, s, hE, hS, hP⟩ => ?_
  refine ⟨O, env, s, hE, hS, hP.split.imp (fun d s1 O1 H1 _ x1 q1 p1 v dv => ?_) fun _ _ _ _ _ _ z => z⟩
  cases e : fixD d with
  | none => rw [e] at p1; exact p1.elim
  | some xs =>
    rw [e] at p1
    obtain ⟨a, rfl, q, wk⟩ := wk_lst dv e
    exact ⟨a, rfl, q, Post.ret p1 q1 _ wk⟩
def itStr (fe : Rs → M D) : Rs → M (List D) := fun env => bnd (fe env) fun d => match d with
  | .str x => ret (sgD x)
  | _ => bad
theorem ri_str (h : RE X W e fe) : RI X W tg e (itStr fe) := by
  refine pi_weak (pi_str h) fun sg H R ⟨O, env, s, hE, hS, hP⟩ => ?_
  refine ⟨O, env, s, hE, hS, hP.split.imp (fun d s1 O1 H1 _ x1 q1 p1 v dv => ?_) fun _ _ _ _ _ _ z => z⟩
  cases dv with
  | str z => exact ⟨z, rfl, Post.ret p1 q1 _ (wk_str z)⟩
  | _ => exact p1.elim
/-- a tuple, a list, a text -/
def itSeq (fe : Rs → M D) : Rs → M (List D) := fun env => bnd (fe env) fun d => match d with
  | .tup xs => ret xs
  | .str x => ret (sgD x)
  | .lst xs => ret xs
  | .wls xs => ret xs
  | _ => bad
theorem ri_seq (h : RE X W e fe) : RI X W tg e (itSeq fe) := by
  refine ri_alt (f1 := itTup fe) (f2 := fun env => bnd (fe env) fun d => match d with
    | .str x => ret (sgD x)
    | .lst xs => ret xs
    | .wls xs => ret xs
    | _ => bad) (ri_tup h) (ri_alt (f1 := itStr fe) (f2 := itLst fe) (ri_str h) (ri_lst h) fun env s => ?_) fun env s => ?_
  · unfold itStr itLst bnd
    cases q : fe env s with
    | ok d s1 => cases d <;> first | exact .inl rfl | exact .inr rfl
    | _ => exact .inl rfl
  · unfold itSeq itTup bnd
    cases q : fe env s with
    | ok d s1 => cases d <;> first | exact .inl rfl | exact .inr rfl
    | _ => exact .inl rfl
def itRng1 (fa : Rs → M (List D)) : Rs → M (List D) := fun env => bnd (fa env) fun ds => match ds with
  | [.int j] => if -(2 ^ 62) ≤ j ∧ j < 2 ^ 62 then ret (rngD 0 j.toNat) else bad
  | _ => bad
def itRng2 (fa : Rs → M (List D)) : Rs → M (List D) := fun env => bnd (fa env) fun ds => match ds with
  | [.int i, .int j] => if -(2 ^ 62) ≤ i ∧ i < 2 ^ 62 ∧ -(2 ^ 62) ≤ j ∧ j < 2 ^ 62 then ret (rngD i (j - i).toNat) else bad
  | _ => bad
theorem ri_rng1 {a : Expr} (hm : X.mg "range" = none) (ha : RA X W [a] fa) (hg : Gl X "range" := by rfl) (hs : starEach [a] X.env = [(false, eval a X.env)] := by rfl) : RI X W tg (.Call (.Name "range" p) [a] [] pos) (itRng1 fa) := by
  refine pi_weak (pi_range1 hg hm ha hs) fun sg H R ⟨O, env, s, hE, hS, hP⟩ => ?_
  refine ⟨O, env, s, hE, hS, hP.split.imp (fun ds s1 O1 H1 e x1 q1 p1 vs dv => ?_) fun _ _ _ _ _ _ z => z⟩
  split at p1
  · rename_i j
    cases dv with
    | cons dv tv =>
      cases dv
      cases tv
      by_cases hb : -(2 ^ 62) ≤ j ∧ j < 2 ^ 62
      · rw [if_pos hb] at p1; exact ⟨j, rfl, hb.1, hb.2, Post.ret p1 q1 _ (wk_rng 0 _)⟩
      · rw [if_neg hb] at p1; exact p1.elim
  · exact p1.elim
theorem ri_rng2 {a b : Expr} (hm : X.mg "range" = none) (ha : RA X W [a, b] fa) (hg : Gl X "range" := by rfl) (hs : starEach [a, b] X.env = [(false, eval a X.env), (false, eval b X.env)] := by rfl) (hs2 : starEach [b] X.env = [(false, eval b X.env)] := by rfl) : RI X W tg (.Call (.Name "range" p) [a, b] [] pos) (itRng2 fa) := by
  refine pi_weak (pi_range2 hg hm ha hs hs2) fun sg H R ⟨O, env, s, hE, hS, hP⟩ => ?_
  refine ⟨O, env, s, hE, hS, hP.split.imp (fun ds s1 O1 H1 e x1 q1 p1 vs dv => ?_) fun _ _ _ _ _ _ z => z⟩
  split at p1
  · rename_i i j
    cases dv with
    | cons dv tv =>
      cases dv
      cases tv with
      | cons dv tv =>
        cases dv
        cases tv
        by_cases hb : -(2 ^ 62) ≤ i ∧ i < 2 ^ 62 ∧ -(2 ^ 62) ≤ j ∧ j < 2 ^ 62
        · rw [if_pos hb] at p1; exact ⟨i, j, rfl, hb, Post.ret p1 q1 _ (wk_rng i _)⟩
        · rw [if_neg hb] at p1; exact p1.elim
  · exact p1.elim
def itRng3 (fa : Rs → M (List D)) : Rs → M (List D) := fun env => bnd (fa env) fun ds => match ds with
  | [.int i, .int j, .int c] => if c ≠ 0 ∧ c.natAbs < 1073741824 ∧ Builtin.Range.small i j c = true then ret (rgcD i c (Builtin.Range.rangeSize i j c).toNat) else bad
  | _ => bad
/-- enumerate(a list) -/
def itEnum (fa : Rs → M (List D)) : Rs → M (List D) := fun env => bnd (fa env) fun ds => match ds with
  | [d] => opt ((fixD d).map (enD 0))
  | _ => bad
theorem ri_enum {elts : List Expr} {kk : Nat} {tpos : Pos} (hm : X.mg "enumerate" = none) (ha : RA X W [e] fa) (hg : Gl X "enumerate" := by rfl) (hs : starEach [e] X.env = [(false, eval e X.env)] := by rfl) : RI X W (.Tuple elts kk tpos) (.Call (.Name "enumerate" p) [e] [] pos) (itEnum fa) := by
  refine pi_weak (pi_enum hg hm ha hs) fun sg H R ⟨O, env, s, hE, hS, hP⟩ => ?_
  refine ⟨O, env, s, hE, hS, hP.split.imp (fun ds s1 O1 H1 e x1 q1 p1 vs dv => ?_) fun _ _ _ _ _ _ z => z⟩
  split at p1
  · rename_i d
    cases dv with
    | cons dv tv =>
      cases tv
      cases dv with
      | lst ta t => exact ⟨_, _, rfl, ta.sq, Post.ret (show Post X.K X.mg O1 H1 (ret (enD 0 _) s1) _ _ from p1) q1 _ (wk_enum (fun O2 H2 m => (ta.mono m).sq) t)⟩
      | wls ta t => exact ⟨_, _, rfl, ta.sq, Post.ret (show Post X.K X.mg O1 H1 (ret (enD 0 _) s1) _ _ from p1) q1 _ (wk_enum (fun O2 H2 m => (ta.mono m).sq) t)⟩
      | _ => exact p1.elim
  · exact p1.elim
/-- zip of two tuples, two lists -/
def itZip (fa : Rs → M (List D)) : Rs → M (List D) := fun env => bnd (fa env) fun ds => match ds with
  | [.tup xs, .tup ys] => ret (zpD xs ys)
  | [.lst xs, .lst ys] => ret (zpD xs ys)
  | _ => bad
theorem ri_zip {elts : List Expr} {kk : Nat} {tpos : Pos} (hm : X.mg "zip" = none) (ha : RA X W [e, e2] fa) (hg : Gl X "zip" := by rfl) (hs : starEach [e, e2] X.env = (false, eval e X.env) :: starEach [e2] X.env := by rfl) (hpl : (backTo pos (starEach [e2] X.env)).any (·.1) = false := by rfl) : RI X W (.Tuple elts kk tpos) (.Call (.Name "zip" p) [e, e2] [] pos) (itZip fa) := by
  refine pi_weak (RZ.pi_zipA hg hm ha hs hpl) fun sg H R ⟨O, env, s, hE, hS, hP⟩ => ?_
  refine ⟨O, env, s, hE, hS, hP.split.imp (fun ds s1 O1 H1 e x1 q1 p1 vs dv => ?_) fun _ _ _ _ _ _ z => z⟩
  split at p1
  · cases dv with
    | cons dv tv =>
      cases tv with
      | cons dw tv =>
        cases tv
        cases dv with
        | tup ta t =>
          cases dw with
          | tup tb t2 => exact ⟨_, _, _, _, rfl, .inr ⟨ta.sq, tb.sq, Post.ret p1 q1 _ (wk_zipT ta tb t t2)⟩⟩
  · cases dv with
    | cons dv tv =>
      cases tv with
      | cons dw tv =>
        cases tv
        cases dv with
        | lst ta t =>
          cases dw with
          | lst tb t2 => exact ⟨_, _, _, _, rfl, .inl ⟨ta.sq, tb.sq, Post.ret p1 q1 _ (wk_zipL (fun O2 H2 m => (ta.mono m).sq) (fun O2 H2 m => (tb.mono m).sq) t t2)⟩⟩
  · exact p1.elim
end
end Md

set_option Elab.async false
set_option linter.all false
set_option maxRecDepth 100000
/-! Md9: all, any, sorted, lists' methods and stores. -/
namespace Md
open PySem PySem.Spec PyProof.Rows L2

/-! ### all, any -/
theorem vals_bl : ∀ {bs : List Bool} {us : List Value}, Vals (bs.map V.bl) us → us = bs.map Value.bool
  | [], _, .nil => rfl
  | b :: bs, _, .cons r t => by
    have e : _ = Value.bool b := r
    rw [e, vals_bl t]
    rfl
theorem reads_bl (h : Heap) : ∀ bs : List Bool, ReadsAll h (bs.map Value.bool) (bs.map PyData.bool) []
  | [] => .nil
  | b :: bs => by
    have q := ReadsAll.cons (Reads.bool (h := h) b) (reads_bl h bs)
    simpa using q
theorem plain_bl : ∀ bs : List Bool, PyData.plainAll (bs.map PyData.bool) = true
  | [] => by simp [PyData.plainAll]
  | b :: bs => by simp [PyData.plainAll, PyData.plain, plain_bl bs]
section
variable {X : Cx}
def rBls (K : PySem.W.Frag) (f : List Bool → Bool) : List V → Hp → VK → Prop := fun xs H Q => ∃ p bs, xs = [.ref p] ∧ SqL K H p (bs.map V.bl) ∧ Q (.bl (f bs)) H
theorem truthy_bl (bs : List Bool) : (bs.map PyData.bool).all PyData.truthy = bs.all id ∧ (bs.map PyData.bool).any PyData.truthy = bs.any id := by
  constructor
  · rw [List.all_map]; congr 1
  · rw [List.any_map]; congr 1
theorem call_allB (hc : X.calm = true) : CallR X (.builtin "all") (rBls X.K fun bs => bs.all id) := by
  intro pins s sg H xs us Q I r h
  obtain ⟨p, bs, rfl, hq, q⟩ := h
  obtain ⟨u, rfl, ru⟩ := r.one
  obtain rfl : u = .ref p := ru
  obtain ⟨its, rv, pl, hz⟩ := I.list hq
  have e := vals_bl rv
  subst e
  refine PySem.W.all_list_data (xs := bs.map PyData.bool) (I.ok.hd hc) pl.isList (reads_bl _ bs) (plain_bl bs) (fun x hx => ?_) fun h' tk k => ?_
  · obtain ⟨b, _, rfl⟩ := List.mem_map.mp hx
    trivial
  · rw [(truthy_bl bs).1]
    exact ⟨.bl _, H, I.kept k, rfl, q⟩
theorem call_anyB (hc : X.calm = true) : CallR X (.builtin "any") (rBls X.K fun bs => bs.any id) := by
  intro pins s sg H xs us Q I r h
  obtain ⟨p, bs, rfl, hq, q⟩ := h
  obtain ⟨u, rfl, ru⟩ := r.one
  obtain rfl : u = .ref p := ru
  obtain ⟨its, rv, pl, hz⟩ := I.list hq
  have e := vals_bl rv
  subst e
  refine PySem.W.any_list_data (xs := bs.map PyData.bool) (I.ok.hd hc) pl.isList (reads_bl _ bs) (plain_bl bs) (fun x hx => ?_) fun h' tk k => ?_
  · obtain ⟨b, _, rfl⟩ := List.mem_map.mp hx
    trivial
  · rw [(truthy_bl bs).2]
    exact ⟨.bl _, H, I.kept k, rfl, q⟩
end
def blsD : List D → Option (List Bool)
  | [] => some []
  | .bl b :: ds => (blsD ds).map (b :: ·)
  | _ => none
def blsF (f : List Bool → Bool) : D → M D := fun d s => match (lstD s d).bind blsD with
  | some bs => .ok (.bl (f bs)) s
  | none => .bad
section
variable {K : PySem.W.Frag} {mg : Str → Option Value}
theorem blsD_ok {O : Ow} {H : Hp} : ∀ {ds : List D} {vs : List V} {bs : List Bool}, DVs K mg O H ds vs → blsD ds = some bs → vs = bs.map V.bl
  | _, _, _, .nil, h => by injection h with h; subst h; rfl
  | d :: ds, _, bs, .cons a t, h => by
    cases a with
    | bl b =>
      have h : (blsD ds).map (b :: ·) = some bs := h
      cases e : blsD ds with
      | none => rw [e] at h; cases h
      | some cs =>
        rw [e] at h
        injection h with h
        subst h
        rw [blsD_ok t e]
        rfl
    | _ => cases h
theorem blsF_ok (f : List Bool → Bool) : CallOk K mg (rBls K f) (arg1 (blsF f)) := call1 fun O H s d v Q X' r dv h => by
  unfold blsF at h
  cases e : lstD s d with
  | none => rw [e] at h; exact h.elim
  | some xs =>
    cases e2 : blsD xs with
    | none =>
      have e3 : (some xs : Option (List D)).bind blsD = none := e2
      rw [e, e3] at h; exact h.elim
    | some bs =>
      have e3 : (some xs : Option (List D)).bind blsD = some bs := e2
      rw [e, e3] at h
      obtain ⟨p, vs, rfl, ep, ha⟩ := lstD_ok r dv e
      rw [blsD_ok ha e2] at ep
      exact ⟨p, bs, rfl, ep, Post.ret (show Post K mg O H (ret (D.bl (f bs)) s) (fun d _ O' H' => ∀ u, DV K mg O' H' d u → Q u H') X' from h) r _ (.bl _)⟩
end

/-! ### sorted -/
/-- an item, what it is, how it reads -/
abbrev Tri := D × V × PyData
def rSrt (K : PySem.W.Frag) : List V → Hp → VK → Prop := fun xs H Q => ∃ (p : Addr) (ts : List (V × PyData)), xs = [.ref p] ∧ SqL K H p (ts.map (·.1)) ∧ (∀ t ∈ ts, RdV K H t.1 t.2 ∧ t.2.depth ≤ 60) ∧ PySem.W.AllAlike (ts.map (·.2)) ∧ PySem.W.Sortable (ts.map (·.2)) ∧
  ∀ l, H l = none → Q (.ref l) (upd H l (.lst ((ts.mergeSort (PySem.W.dataLe false (·.2))).map (·.1))))
theorem vals_each {α : Type} (f : α → V) : ∀ {ts : List α} {us : List Value}, Vals (ts.map f) us → PySem.W.EachIs (fun u t => RelV (f t) u) us ts
  | [], _, .nil => .nil
  | _ :: _, _, .cons r t => .cons r (vals_each f t)
theorem each_vals {α : Type} (f : α → V) : ∀ {ts : List α} {us : List Value}, PySem.W.EachIs (fun u t => RelV (f t) u) us ts → Vals (ts.map f) us
  | [], _, .nil => .nil
  | _ :: _, _, .cons r t => .cons r (each_vals f t)
theorem call_sortedP {X : Cx} (hu : X.A.units + 64 < cLine) : CallR X (.builtin "sorted") (rSrt X.K) := by
  intro pins s sg H xs us Q I r h
  obtain ⟨p, ts, rfl, hq, hr, ha, hs, q⟩ := h
  obtain ⟨u, rfl, ru⟩ := r.one
  obtain rfl : u = .ref p := ru
  obtain ⟨its, rv, pl, hz⟩ := I.list hq
  have e1 := vals_each (fun t : V × PyData => t.1) rv
  have e2 : PySem.W.EachIs (fun v t => ∃ as, Reads s.heap v t.2 as) its ts := by
    refine (PySem.W.each_mem e1).mono fun v t ⟨rt, mt⟩ => ?_
    exact reads_of I (hr t mt).1 rt
  have hl : ts.length ≤ sizeLine := by simpa using hz
  refine PySem.W.sorted_data (enc := fun t => t.2) pl.isList e1 e2 ha hs hl (fun t mt => ?_) fun out ho eo => ?_
  · have := (hr t mt).2
    omega
  · obtain ⟨c, hc⟩ := PyProof.Rows.sortedAll_at s.heap its out.toArray
    refine ⟨.ref _, upd H (s.heap.objs.size + 1) (.lst ((ts.mergeSort (PySem.W.dataLe false (·.2))).map (·.1))), I.laid (t' := s.toks) (fun _ _ => PyProof.Rows.sortedAll_old) (Nat.le_succ _) ⟨?_, out, c, each_vals (fun t : V × PyData => t.1) eo, hc⟩, rfl, q _ (I.hok.fresh (Nat.le_succ _))⟩
    rw [List.length_map, List.length_mergeSort]
    exact hl
def pysD (s : S) : List D → Option (List (D × PyData))
  | [] => some []
  | d :: ds => match toPy s 20 d, pysD s ds with
    | some x, some xs => some ((d, x) :: xs)
    | _, _ => none
def alikesB (xs : List PyData) : Bool := xs.all fun x => xs.all fun y => PySem.W.alike x y
def sortB (xs : List PyData) : Bool := (xs.all fun x => match x with | .tuple (_ :: _) => true | _ => false) || (xs.all fun x => match x with | .none => false | .tuple _ => false | _ => true)
/-- a sort that the kernel can run -/
def insB {α : Type} (le : α → α → Bool) (a : α) : List α → List α
  | [] => [a]
  | b :: r => if le a b = true then a :: b :: r else b :: insB le a r
def isortB {α : Type} (le : α → α → Bool) : List α → List α
  | [] => []
  | a :: r => insB le a (isortB le r)
theorem insB_at {α : Type} {le : α → α → Bool} {a : α} : ∀ {u v : List α}, (∀ b, b ∈ u → le a b = false) → (∀ b, b ∈ v → le a b = true) → insB le a (u ++ v) = u ++ a :: v
  | [], [], _, _ => rfl
  | [], b :: r, _, h => by
    show (if le a b = true then a :: b :: r else b :: insB le a r) = a :: b :: r
    rw [if_pos (h b (by simp))]
  | b :: u, v, h1, h2 => by
    show (if le a b = true then a :: b :: (u ++ v) else b :: insB le a (u ++ v)) = b :: (u ++ a :: v)
    rw [h1 b (by simp), if_neg (by decide), insB_at (fun c hc => h1 c (by simp [hc])) h2]
theorem isortB_eq {α : Type} {le : α → α → Bool} (t : PySem.W.TotalLe le) : ∀ xs : List α, xs.mergeSort le = isortB le xs
  | [] => by simp [isortB]
  | a :: r => by
    have to : ∀ a b, (le a b || le b a) = true := fun a b => by
      rcases t.total a b with h | h <;> simp [h]
    obtain ⟨u, v, e1, e2, h⟩ := List.mergeSort_cons t.trans to a r
    have pw := List.pairwise_mergeSort t.trans to (a :: r)
    rw [e1] at pw
    have hv := (List.pairwise_cons.mp (List.pairwise_append.mp pw).2.1).1
    show (a :: r).mergeSort le = insB le a (isortB le r)
    rw [← isortB_eq t r, e1, e2, insB_at (fun b hb => by simpa using h b hb) hv]
def sortP (xs : List (D × PyData)) : List D := (isortB (PySem.W.dataLe false (·.2)) xs).map (·.1)
theorem sortP_eq (xs : List (D × PyData)) : sortP xs = (xs.mergeSort (PySem.W.dataLe false (·.2))).map (·.1) := by
  have e := isortB_eq (le := PySem.W.dataLe false (fun x : D × PyData => x.2)) (PySem.W.sortLe_total _ _ _) xs
  unfold sortP
  rw [e]
def sortF (fin : List D → M D) : D → M D := fun d s => match (lstD s d).bind (pysD s) with
  | some xs => if alikesB (xs.map (·.2)) = true ∧ sortB (xs.map (·.2)) = true then fin (sortP xs) s else .bad
  | none => .bad
theorem alikesB_ok {xs : List PyData} (h : alikesB xs = true) : PySem.W.AllAlike xs := fun d hd e he => by
  unfold alikesB at h
  exact List.all_eq_true.mp (List.all_eq_true.mp h d hd) e he
theorem sortB_ok {xs : List PyData} (h : sortB xs = true) : PySem.W.Sortable xs := by
  unfold sortB at h
  rcases Bool.or_eq_true _ _ |>.mp h with h | h
  · refine .inl fun d hd => ?_
    have q := List.all_eq_true.mp h d hd
    split at q
    · exact ⟨_, _, rfl⟩
    · cases q
  · refine .inr fun d hd => ?_
    have q := List.all_eq_true.mp h d hd
    split at q
    · cases q
    · cases q
    · exact ⟨by assumption, by assumption⟩
/-- .. with their values -/
theorem tris_of {K : PySem.W.Frag} {mg : Str → Option Value} {O : Ow} {H : Hp} {s : S} (r : RelS K mg O H s) : ∀ {ds : List D} {vs : List V} {xs : List (D × PyData)}, DVs K mg O H ds vs → pysD s ds = some xs →
    ∃ ts : List Tri, xs = ts.map (fun t => (t.1, t.2.2)) ∧ vs = ts.map (fun t => t.2.1) ∧ ∀ t ∈ ts, DV K mg O H t.1 t.2.1 ∧ RdV K H t.2.1 t.2.2 ∧ t.2.2.depth ≤ 60
  | _, _, _, .nil, h => by
    injection h with h
    subst h
    exact ⟨[], rfl, rfl, fun t ht => by cases ht⟩
  | d :: ds, _, xs, .cons (v := v) a q, h => by
    unfold pysD at h
    cases e1 : toPy s 20 d with
    | none => rw [e1] at h; cases h
    | some x =>
      cases e2 : pysD s ds with
      | none => rw [e1, e2] at h; cases h
      | some ys =>
        rw [e1, e2] at h
        injection h with h
        subst h
        obtain ⟨ts, rfl, rfl, ht⟩ := tris_of r q e2
        refine ⟨(d, v, x) :: ts, rfl, rfl, fun t mt => ?_⟩
        rcases List.mem_cons.mp mt with rfl | mt
        · exact ⟨a, rdv_of r 20 d v x a e1, by have := (toPy_shape s 20 d x e1).2; show x.depth ≤ 60; omega⟩
        · exact ht t mt
theorem dvs_tris {K : PySem.W.Frag} {mg : Str → Option Value} {O : Ow} {H : Hp} : ∀ {ts : List Tri}, (∀ t ∈ ts, DV K mg O H t.1 t.2.1) → DVs K mg O H (ts.map (fun t => t.1)) (ts.map (fun t => t.2.1))
  | [], _ => .nil
  | t :: ts, h => .cons (h t (by simp)) (dvs_tris fun u hu => h u (by simp [hu]))
theorem sortF_ok {K : PySem.W.Frag} {mg : Str → Option Value} {fin : List D → M D} (hf : NewOk K mg fin) : CallOk K mg (rSrt K) (arg1 (sortF fin)) := call1 fun O H s d v Q X' r dv h => by
  unfold sortF at h
  cases e : lstD s d with
  | none => rw [e] at h; exact h.elim
  | some ds =>
    cases e2 : pysD s ds with
    | none =>
      have e3 : (some ds : Option (List D)).bind (pysD s) = none := e2
      rw [e, e3] at h; exact h.elim
    | some xs =>
      have e3 : (some ds : Option (List D)).bind (pysD s) = some xs := e2
      rw [e, e3] at h
      dsimp only at h
      obtain ⟨p, vs, rfl, ep, ha⟩ := lstD_ok r dv e
      obtain ⟨ts, rfl, rfl, ht⟩ := tris_of r ha e2
      by_cases hc : alikesB ((ts.map fun t => (t.1, t.2.2)).map (·.2)) = true ∧ sortB ((ts.map fun t => (t.1, t.2.2)).map (·.2)) = true
      · rw [if_pos hc] at h
        have e4 : (ts.map fun t => (t.1, t.2.2)).map (·.2) = (ts.map fun t => (t.2.1, t.2.2)).map (·.2) := by simp [List.map_map, Function.comp_def]
        rw [e4] at hc
        have k1 : sortP (ts.map fun t => (t.1, t.2.2)) = (ts.mergeSort (PySem.W.dataLe false fun t => t.2.2)).map fun t => t.1 := by
          rw [sortP_eq]
          rw [← List.map_mergeSort (f := fun t : Tri => (t.1, t.2.2)) (r := PySem.W.dataLe false fun t : Tri => t.2.2) (fun a _ b _ => rfl), List.map_map]
          rfl
        have k2 : ((ts.map fun t => (t.2.1, t.2.2)).mergeSort (PySem.W.dataLe false (·.2))).map (·.1) = (ts.mergeSort (PySem.W.dataLe false fun t => t.2.2)).map fun t => t.2.1 := by
          rw [← List.map_mergeSort (f := fun t : Tri => (t.2.1, t.2.2)) (r := PySem.W.dataLe false fun t : Tri => t.2.2) (fun a _ b _ => rfl), List.map_map]
          rfl
        refine ⟨p, ts.map fun t => (t.2.1, t.2.2), rfl, by rw [List.map_map]; exact ep, fun t mt => ?_, alikesB_ok hc.1, sortB_ok hc.2, fun l hl => ?_⟩
        · obtain ⟨t', mt', rfl⟩ := List.mem_map.mp mt
          exact (ht t' mt').2
        · rw [k2]
          refine hf O H s l _ _ Q X' r hl ?_ h
          rw [k1]
          exact dvs_tris fun t mt => (ht t (List.mem_mergeSort.mp mt)).1
      · rw [if_neg hc] at h; exact h.elim
section
variable {X : Cx} {W : WX} {e : Expr} {es : List Expr} {fa : Rs → M (List D)} {p pos : Pos}
theorem re_all (hc : X.calm = true) (hm : X.mg "all" = none) (ha : RA X W (e :: es) fa) (hg : Gl X "all" := by rfl) (he : starEach (e :: es) X.env = (false, eval e X.env) :: starEach es X.env := by rfl) (hpl : (backTo pos (starEach es X.env)).any (·.1) = false := by rfl) :
    RE X W (.Call (.Name "all" p) (e :: es) [] pos) (callM (arg1 (blsF fun bs => bs.all id)) [] fa) := re_cB (call_allB hc) (blsF_ok _) hm (by with_unfolding_all rfl) ha hg (by decide) (by decide) he hpl
theorem re_any (hc : X.calm = true) (hm : X.mg "any" = none) (ha : RA X W (e :: es) fa) (hg : Gl X "any" := by rfl) (he : starEach (e :: es) X.env = (false, eval e X.env) :: starEach es X.env := by rfl) (hpl : (backTo pos (starEach es X.env)).any (·.1) = false := by rfl) :
    RE X W (.Call (.Name "any" p) (e :: es) [] pos) (callM (arg1 (blsF fun bs => bs.any id)) [] fa) := re_cB (call_anyB hc) (blsF_ok _) hm (by with_unfolding_all rfl) ha hg (by decide) (by decide) he hpl
theorem re_sorted {fin : List D → M D} (hf : NewOk X.K X.mg fin) (hu : X.A.units + 64 < cLine) (hm : X.mg "sorted" = none) (ha : RA X W (e :: es) fa) (hg : Gl X "sorted" := by rfl) (he : starEach (e :: es) X.env = (false, eval e X.env) :: starEach es X.env := by rfl) (hpl : (backTo pos (starEach es X.env)).any (·.1) = false := by rfl) :
    RE X W (.Call (.Name "sorted" p) (e :: es) [] pos) (callM (arg1 (sortF fin)) [] fa) := re_cB (call_sortedP hu) (sortF_ok hf) hm (by with_unfolding_all rfl) ha hg (by decide) (by decide) he hpl
end
end Md

set_option Elab.async false
set_option linter.all false
set_option maxRecDepth 100000
/-! Md10: dicts: look, put, drop, displays, comprehensions; methods of the built-in kinds. -/
namespace Md
open PySem PySem.Spec PyProof.Rows L2

/-! ### pairs by key -/
def lookD : List (D × D) → Key → Option D
  | [], _ => none
  | kv :: r, q => if keyD kv.1 = some q then some kv.2 else lookD r q
def replD (q : Key) (d : D) : List (D × D) → List (D × D)
  | [] => []
  | kv :: r => (if keyD kv.1 = some q then (kv.1, d) else kv) :: replD q d r
def putD (kvs : List (D × D)) (k : D) (q : Key) (d : D) : List (D × D) := if (lookD kvs q).isSome = true then replD q d kvs else kvs ++ [(k, d)]
def dropD (q : Key) : List (D × D) → List (D × D)
  | [] => []
  | kv :: r => if keyD kv.1 = some q then dropD q r else kv :: dropD q r
def mergeD : List (D × D) → List (D × D) → Option (List (D × D))
  | acc, [] => some acc
  | acc, kv :: r => match keyD kv.1 with
    | some q => mergeD (putD acc kv.1 q kv.2) r
    | none => none
section
variable {K : PySem.W.Frag} {mg : Str → Option Value} {O : Ow} {H : Hp} {s : S}
theorem keyV {k : D} {v : V} {q : Key} (dv : DV K mg O H k v) (e : keyD k = some q) : v = kV q := by
  cases dv with
  | int i => injection e with e; subst e; rfl
  | str x => injection e with e; subst e; rfl
  | _ => cases e
theorem keyDV {k : D} {q : Key} (e : keyD k = some q) : DV K mg O H k (kV q) := by
  cases k with
  | int i => injection e with e; subst e; exact .int i
  | str x => injection e with e; subst e; exact .str x
  | _ => cases e
theorem PrK.look {q : Key} : ∀ {kvs : List (D × D)} {vs : List (Key × V)}, PrK K mg O H kvs vs → (lookD kvs q = none ∧ valV vs q = none) ∨ ∃ d v, lookD kvs q = some d ∧ valV vs q = some v ∧ DV K mg O H d v
  | _, _, .nil => .inl ⟨rfl, rfl⟩
  | _, _, .cons (k := k) (q := q') (d := d) (v := v) (fs := fs) (vs := ws) e h t => by
    unfold lookD
    by_cases c : q' = q
    · subst c
      rw [if_pos e, valV_pos (p := (q', v)) rfl]
      exact .inr ⟨d, v, rfl, rfl, h⟩
    · rw [if_neg (by rw [e]; exact fun z => c (Option.some.inj z)), valV_neg (p := (q', v)) c]
      exact PrK.look t
theorem PrK.length : ∀ {kvs : List (D × D)} {vs : List (Key × V)}, PrK K mg O H kvs vs → kvs.length = vs.length
  | _, _, .nil => rfl
  | _, _, .cons _ _ t => by simp [PrK.length t]
theorem PrK.snoc {k : D} {q : Key} {d : D} {v : V} (e : keyD k = some q) (h : DV K mg O H d v) : ∀ {kvs : List (D × D)} {vs : List (Key × V)}, PrK K mg O H kvs vs → PrK K mg O H (kvs ++ [(k, d)]) (vs ++ [(q, v)])
  | _, _, .nil => .cons e h .nil
  | _, _, .cons e' h' t => .cons e' h' (PrK.snoc e h t)
theorem PrK.repl {q : Key} {d : D} {v : V} (h : DV K mg O H d v) : ∀ {kvs : List (D × D)} {vs : List (Key × V)}, PrK K mg O H kvs vs → PrK K mg O H (replD q d kvs) (vs.map fun kv => if kv.1 = q then (kv.1, v) else kv)
  | _, _, .nil => .nil
  | _, _, .cons (k := k) (q := q') e h' t => by
    unfold replD
    rw [List.map_cons]
    by_cases c : q' = q
    · subst c
      rw [if_pos e, if_pos rfl]
      exact .cons e h (PrK.repl h t)
    · rw [if_neg (by rw [e]; exact fun z => c (Option.some.inj z)), if_neg c]
      exact .cons e h' (PrK.repl h t)
theorem PrK.put {k : D} {q : Key} {d : D} {v : V} (e : keyD k = some q) (h : DV K mg O H d v) {kvs : List (D × D)} {vs : List (Key × V)} (t : PrK K mg O H kvs vs) : PrK K mg O H (putD kvs k q d) (putK vs q v) := by
  unfold putD putK
  rw [valV_any]
  rcases t.look (q := q) with ⟨e1, e2⟩ | ⟨d', v', e1, e2, _⟩
  · rw [e1, e2]
    exact t.snoc e h
  · rw [e1, e2]
    exact t.repl h
theorem PrK.drop {q : Key} : ∀ {kvs : List (D × D)} {vs : List (Key × V)}, PrK K mg O H kvs vs → PrK K mg O H (dropD q kvs) (dropK vs q)
  | _, _, .nil => .nil
  | _, _, .cons (k := k) (q := q') (v := v) (vs := ws) e h t => by
    unfold dropD
    have e2 : dropK ((q', v) :: ws) q = if q' = q then dropK ws q else (q', v) :: dropK ws q := by
      unfold dropK
      rw [List.filter_cons]
      by_cases c : q' = q
      · rw [if_pos c, if_neg (by simp [c])]
      · rw [if_neg c, if_pos (by simp [c])]
    rw [e2]
    by_cases c : q' = q
    · subst c
      rw [if_pos e, if_pos rfl]
      exact PrK.drop t
    · rw [if_neg (by rw [e]; exact fun z => c (Option.some.inj z)), if_neg c]
      exact .cons e h (PrK.drop t)
/-- raw pairs -/
inductive DVp (K : PySem.W.Frag) (mg : Str → Option Value) (O : Ow) (H : Hp) : List (D × D) → List (V × V) → Prop
  | nil : DVp K mg O H [] []
  | cons {k d : D} {u v : V} {r : List (D × D)} {ws : List (V × V)} : DV K mg O H k u → DV K mg O H d v → DVp K mg O H r ws → DVp K mg O H ((k, d) :: r) ((u, v) :: ws)
theorem DVp.mono {O' : Ow} {H' : Hp} (m : Mono O H O' H') : ∀ {r : List (D × D)} {ws : List (V × V)}, DVp K mg O H r ws → DVp K mg O' H' r ws
  | _, _, .nil => .nil
  | _, _, .cons a b t => .cons (a.mono m) (b.mono m) (DVp.mono m t)
theorem PrK.raw : ∀ {kvs : List (D × D)} {vs : List (Key × V)}, PrK K mg O H kvs vs → DVp K mg O H kvs (vs.map fun kv => (kV kv.1, kv.2))
  | _, _, .nil => .nil
  | _, _, .cons e h t => .cons (keyDV e) h (PrK.raw t)
theorem PrK.merge : ∀ {ps : List (D × D)} {ws : List (V × V)} {acc r : List (D × D)} {vs : List (Key × V)}, DVp K mg O H ps ws → PrK K mg O H acc vs → mergeD acc ps = some r →
    ∃ kvs : List (Key × V), ws = kvs.map (fun kv => (kV kv.1, kv.2)) ∧ PrK K mg O H r (mergeK vs kvs)
  | _, _, acc, r, vs, .nil, t, h => by
    injection h with h
    subst h
    exact ⟨[], rfl, t⟩
  | _, _, acc, r, vs, .cons (k := k) (d := d) (u := u) (v := v) (r := ps) a b tt, t, h => by
    unfold mergeD at h
    cases e : keyD k with
    | none => simp only [e] at h; cases h
    | some q =>
      simp only [e] at h
      obtain ⟨kvs, e1, e2⟩ := PrK.merge tt (t.put e b) h
      refine ⟨(q, v) :: kvs, ?_, e2⟩
      rw [e1, keyV a e]
      rfl

/-! ### a dict of the store -/
def dctD (s : S) : D → Option (Nat × Bool × List (D × D))
  | .ref n => match s[n]? with
    | some (.dct lk kvs) => some (n, lk, kvs)
    | _ => none
  | _ => none
theorem Lk.rd {lk : Bool} {a : Addr} {u : HO} (h : Lk lk H a u) : Rd H a u := by
  cases lk with
  | true => exact .inr h
  | false => exact .inl h
theorem dctD_ok (r : RelS K mg O H s) {d : D} {v : V} {n : Nat} {lk : Bool} {kvs : List (D × D)} (dv : DV K mg O H d v) (h : dctD s d = some (n, lk, kvs)) :
    ∃ a vs, d = .ref n ∧ v = .ref a ∧ O.mu[n]? = some a ∧ s[n]? = some (.dct lk kvs) ∧ Lk lk H a (.dK vs) ∧ PrK K mg O H kvs vs := by
  cases dv with
  | @ref m a ha =>
    have h : (match s[m]? with
      | some (.dct lk kvs) => some (m, lk, kvs)
      | _ => none) = some (n, lk, kvs) := h
    cases e : s[m]? with
    | none => rw [e] at h; cases h
    | some ob =>
      rw [e] at h
      cases ob with
      | dct l ks =>
        injection h with h
        injection h with h1 h
        injection h with h2 h3
        subst h1 h2 h3
        obtain ⟨vs, e1, e2⟩ := r.obs m a _ ha e
        exact ⟨a, vs, rfl, rfl, ha, e, e1, e2⟩
      | _ => cases h
  | _ => cases h
theorem dct_get (r : RelS K mg O H s) {d k : D} {v w : V} {n : Nat} {lk : Bool} {kvs : List (D × D)} {q : Key} (dv : DV K mg O H d v) (dk : DV K mg O H k w) (h : dctD s d = some (n, lk, kvs)) (e : keyD k = some q) :
    ∃ a o, v = .ref a ∧ DGet H a w o ∧ ((lookD kvs q = none ∧ o = none) ∨ ∃ x y, lookD kvs q = some x ∧ o = some y ∧ DV K mg O H x y) := by
  obtain ⟨a, vs, rfl, rfl, ha, es, l, p⟩ := dctD_ok r dv h
  have ek := keyV dk e
  subst ek
  refine ⟨a, valV vs q, rfl, .inl ⟨vs, q, l.rd, rfl, rfl⟩, ?_⟩
  rcases p.look (q := q) with ⟨e1, e2⟩ | ⟨x, y, e1, e2, xy⟩
  · exact .inl ⟨e1, e2⟩
  · exact .inr ⟨x, y, e1, e2, xy⟩
end

/-! ### d[k], k in d -/
def rIxK : R2 := fun x y H Q => ∃ a v, x = .ref a ∧ DGet H a y (some v) ∧ Q v H
theorem ix_dict {X : Cx} (hu : X.A.units + 64 < cLine) : IxR X rIxK := by
  intro value slice pins s sg H x y v u Q I rx ry h hs
  obtain ⟨a, w, ex, g, q⟩ := h
  subst ex
  obtain rfl : v = Value.ref a := rx
  exact tail_any (dict_typeIs I g) PySem.F.slot_dict_getitem.lookup (d_getItem (by omega) I g ry fun w' s' I' rw' => ⟨w, H, I', rw', q⟩) hs
def ixK : D → D → M D := fun a b s => match dctD s a, keyD b with
  | some (_, _, kvs), some q => opt (lookD kvs q) s
  | _, _ => .bad
theorem ixK_ok {K : PySem.W.Frag} {mg : Str → Option Value} : OpOk K mg rIxK ixK := by
  intro O H s d1 d2 v w Q X' r dv dw h
  unfold ixK at h
  cases e1 : dctD s d1 with
  | none => rw [e1] at h; exact h.elim
  | some x =>
    obtain ⟨n, lk, kvs⟩ := x
    cases e2 : keyD d2 with
    | none => rw [e1, e2] at h; exact h.elim
    | some q =>
      rw [e1, e2] at h
      dsimp only at h
      obtain ⟨a, o, rfl, g, c⟩ := dct_get r dv dw e1 e2
      rcases c with ⟨c1, c2⟩ | ⟨x, y, c1, c2, xy⟩
      · rw [c1] at h; exact h.elim
      · rw [c1] at h
        subst c2
        exact ⟨a, y, rfl, g, Post.ret h r y xy⟩
/-- a[b]: a dict, a list, a tuple, a str -/
def ixA : D → D → M D := fun a b s => match dctD s a with
  | some _ => ixK a b s
  | none => ixD a b s
theorem ixA_ok {K : PySem.W.Frag} {mg : Str → Option Value} : OpOk K mg (fun x y H Q => rIxK x y H Q ∨ rIx K x y H Q) ixA :=
  OpOk.or ixK_ok ixD_ok fun a b s => by
    unfold ixA
    split
    · exact .inl rfl
    · exact .inr rfl
section
variable {X : Cx} {W : WX} {a b : Expr} {fa fb : Rs → M D} {pos : Pos}
theorem re_itemA (hu : X.A.units + 64 < cLine) (ha : RE X W a fa) (hb : RE X W b fb) (hs : PlainIx b := by intro _ _; rfl) : RE X W (.Subscript a b pos) (op2 ixA fa fb) := re_ix ((ix_dict hu).or ix_seq) ixA_ok ha hb hs
end
def rInK (f : Bool → Bool) : R2 := fun y x H Q => ∃ a o, x = .ref a ∧ DGet H a y o ∧ Q (.bl (f o.isSome)) H
theorem op_inK {X : Cx} (hu : X.A.units + 64 < cLine) : OpR X (compareOp .In) (rInK id) := by
  intro pins s sg H x y v u Q I rx ry h
  obtain ⟨a, o, ey, g, q⟩ := h
  subst ey
  obtain rfl : u = Value.ref a := ry
  exact d_in (by omega) I g rx fun s' I' => ⟨.bl o.isSome, H, I', rfl, q⟩
theorem op_ninK {X : Cx} (hu : X.A.units + 64 < cLine) : OpR X (compareOp .NotIn) (rInK not) := by
  intro pins s sg H x y v u Q I rx ry h
  obtain ⟨a, o, ey, g, q⟩ := h
  subst ey
  obtain rfl : u = Value.ref a := ry
  exact d_notIn (by omega) I g rx fun s' I' => ⟨.bl (!o.isSome), H, I', rfl, q⟩
def inK (f : Bool → Bool) : D → D → M D := fun b a s => match dctD s a, keyD b with
  | some (_, _, kvs), some q => .ok (.bl (f (lookD kvs q).isSome)) s
  | _, _ => .bad
theorem inK_ok {K : PySem.W.Frag} {mg : Str → Option Value} (f : Bool → Bool) : OpOk K mg (rInK f) (inK f) := by
  intro O H s d1 d2 v w Q X' r dv dw h
  unfold inK at h
  cases e1 : dctD s d2 with
  | none => rw [e1] at h; exact h.elim
  | some x =>
    obtain ⟨n, lk, kvs⟩ := x
    cases e2 : keyD d1 with
    | none => rw [e1, e2] at h; exact h.elim
    | some q =>
      rw [e1, e2] at h
      dsimp only at h
      obtain ⟨a, o, rfl, g, c⟩ := dct_get r dw dv e1 e2
      have h2 : Post K mg O H (ret (D.bl (f (lookD kvs q).isSome)) s) (fun d _ O' H' => ∀ u, DV K mg O' H' d u → Q u H') X' := h
      have e3 : (lookD kvs q).isSome = o.isSome := by
        rcases c with ⟨c1, c2⟩ | ⟨x, y, c1, c2, xy⟩
        · rw [c1, c2]; rfl
        · rw [c1, c2]; rfl
      rw [e3] at h2
      exact ⟨a, o, rfl, g, h2.ret r _ (.bl _)⟩
/-- in a dict, a list, a tuple, a str -/
def inA (f : Bool → Bool) : D → D → M D := fun a b s => match dctD s b with
  | some _ => inK f a b s
  | none => inD f a b s
theorem inA_alt (f : Bool → Bool) (a b : D) (s : S) : inA f a b s = inK f a b s ∨ inA f a b s = inD f a b s := by
  unfold inA
  split
  · exact .inl rfl
  · exact .inr rfl
section
variable {X : Cx} {W : WX} {a b : Expr} {fa fb : Rs → M D} {pos : Pos}
theorem inA_ok {K : PySem.W.Frag} {mg : Str → Option Value} (f : Bool → Bool) : OpOk K mg (fun x y H Q => rInK f x y H Q ∨ ((∃ i j, x = .str i ∧ y = .str j ∧ Q (.bl (f (!(Builtin.Str.occurrences j i 0 j.length 1).isEmpty))) H) ∨ rInP K f x y H Q)) (inA f) :=
  OpOk.or (inK_ok f) (OpOk.or (inS_ok f) (inG_ok f) (inD_alt f)) (inA_alt f)
theorem re_inA (hu : X.A.units + 64 < cLine) (ha : RE X W a fa) (hb : RE X W b fb) (hm : behindInMarks .In b = false := by rfl) : RE X W (.Compare a [.In] [b] pos) (op2 (inA id) fa fb) := re_cmp ((op_inK hu).or (op_in_str.or (op_inP hu))) (inA_ok id) ha hb hm
theorem rt_inA (hu : X.A.units + 64 < cLine) (ha : RE X W a fa) (hb : RE X W b fb) (hm : behindInMarks .In b = false := by rfl) : RT X W (.Compare a [.In] [b] pos) (toB (op2 (inA id) fa fb)) := rt_cmp ((op_inK hu).or (op_in_str.or (op_inP hu))) (inA_ok id) ha hb hm
theorem re_ninA (hu : X.A.units + 64 < cLine) (ha : RE X W a fa) (hb : RE X W b fb) (hm : behindInMarks .NotIn b = false := by rfl) : RE X W (.Compare a [.NotIn] [b] pos) (op2 (inA not) fa fb) := re_cmp ((op_ninK hu).or (op_notin_str.or (op_ninP hu))) (inA_ok not) ha hb hm
theorem rt_ninA (hu : X.A.units + 64 < cLine) (ha : RE X W a fa) (hb : RE X W b fb) (hm : behindInMarks .NotIn b = false := by rfl) : RT X W (.Compare a [.NotIn] [b] pos) (toB (op2 (inA not) fa fb)) := rt_cmp ((op_ninK hu).or (op_notin_str.or (op_ninP hu))) (inA_ok not) ha hb hm
end

/-! ### stores: o[i] = v of a list, a dict -/
theorem DVs.setAt {K : PySem.W.Frag} {mg : Str → Option Value} {O : Ow} {H : Hp} {d : D} {v : V} (h : DV K mg O H d v) : ∀ {ds : List D} {vs : List V} (j : Nat), DVs K mg O H ds vs → DVs K mg O H (ds.set j d) (vs.set j v)
  | _, _, _, .nil => .nil
  | _, _, 0, .cons _ t => .cons h t
  | _, _, j + 1, .cons a t => .cons a (DVs.setAt h j t)
/-- the store behind o[i] = v -/
def setA (o i v : D) : M Unit := fun s => match o with
  | .ref n => match s[n]? with
    | some (.lst xs) => match i with
      | .int k => match ixN xs.length k with
        | some j => .ok () (s.set n (.lst (xs.set j v)))
        | none => .bad
      | _ => .bad
    | some (.dct false kvs) => match keyD i with
      | some q => if kvs.length < sizeLine then .ok () (s.set n (.dct false (putD kvs i q v))) else .bad
      | none => .bad
    | _ => .bad
  | _ => .bad
def rSetA : TSet := fun o i v H Q => rSetL o i v H Q ∨ rSetD o i v H Q
theorem set_any {X : Cx} (hu : X.A.units + 64 < cLine) : PSet X rSetA := by
  intro pins s sg H o i v ov iv u Q I ro ri rv h
  rcases h with h | h
  · exact set_list pins s sg H o i v ov iv u Q I ro ri rv h
  · exact set_dict (by omega) pins s sg H o i v ov iv u Q I ro ri rv h
theorem setA_ok {K : PySem.W.Frag} {mg : Str → Option Value} {O : Ow} {H : Hp} {s : S} {o i d : D} {x y v : V} {Q : Hp → Prop} {X' : D → S → Ow → Hp → Prop} (r : RelS K mg O H s) (d1 : DV K mg O H o x) (d2 : DV K mg O H i y) (d3 : DV K mg O H d v)
    (h : Post K mg O H (setA o i d s) (fun _ s' O' H' => Q H') X') : rSetA x y v H Q := by
  cases d1 with
  | @ref n a ha =>
    have h : Post K mg O H (match s[n]? with
      | some (.lst xs) => match i with
        | .int k => match ixN xs.length k with
          | some j => .ok () (s.set n (.lst (xs.set j d)))
          | none => .bad
        | _ => .bad
      | some (.dct false kvs) => match keyD i with
        | some q => if kvs.length < sizeLine then .ok () (s.set n (.dct false (putD kvs i q d))) else .bad
        | none => .bad
      | _ => .bad) (fun _ s' O' H' => Q H') X' := h
    split at h
    · rename_i xs e
      obtain ⟨vs, eH, t⟩ := r.obs n a _ ha e
      cases i with
      | int k =>
        dsimp only at h
        cases d2
        cases e2 : ixN xs.length k with
        | none => rw [e2] at h; exact h.elim
        | some j =>
          rw [e2] at h
          obtain ⟨x1, q1⟩ := set_ob (o := .lst (vs.set j v)) (b := .lst (xs.set j d)) r ha (fun x y z => by rw [eH] at z; cases z) fun m => ⟨_, upd_same, (DVs.setAt d3 j t).mono m⟩
          exact .inl ⟨a, vs, k, j, rfl, rfl, eH, by rw [← t.length]; exact e2, h O _ x1 q1⟩
      | _ => exact h.elim
    · rename_i kvs e
      obtain ⟨vs, eH, t⟩ := r.obs n a _ ha e
      cases e2 : keyD i with
      | none => rw [e2] at h; exact h.elim
      | some q =>
        rw [e2] at h
        dsimp only at h
        by_cases hl : kvs.length < sizeLine
        · rw [if_pos hl] at h
          have ek := keyV d2 e2
          subst ek
          obtain ⟨x1, q1⟩ := set_ob (o := .dK (putK vs q v)) (b := .dct false (putD kvs i q d)) r ha (fun x y z => by rw [show H a = some (.dK vs) from eH] at z; cases z) fun m => ⟨putK vs q v, upd_same, (t.put e2 d3).mono m⟩
          exact .inr ⟨a, _, rfl, .k eH (by rw [← t.length]; exact hl), h O _ x1 q1⟩
        · rw [if_neg hl] at h; exact h.elim
    · exact h.elim
  | _ => exact h.elim
def toSub (fo fi : Rs → M D) : TgM := fun d env => bnd (fo env) fun o => bnd (fi env) fun i => bnd (setA o i d) fun _ => ret env
theorem PostG.split {K : PySem.W.Frag} {mg : Str → Option Value} {O : Ow} {H : Hp} {α : Type} {ws : List Nat} {sg : L2.St} {m : M α} {f : α → M Rs} {s : S} {Q : L2.St → Hp → Prop} {X' : D → S → Ow → Hp → Prop} (h : PostG K mg ws sg O H (bnd m f s) Q) :
    Post K mg O H (m s) (fun a s1 O1 H1 => PostG K mg ws sg O1 H1 (f a s1) Q) X' := by
  unfold bnd at h
  cases e : m s with
  | ok a s1 =>
    rw [e] at h
    intro O1 H1 x1 q1
    exact PostG.ext h x1 q1
  | exc b s1 => rw [e] at h; exact h.elim
  | bad => rw [e] at h; exact h.elim
section
variable {X : Cx} {W : WX} {o i : Expr} {fo fi : Rs → M D} {pos : Pos}
theorem rg_sub {ws : List Nat} (hu : X.A.units + 64 < cLine) (ho : RE X W0 o fo) (hi : RE X W0 i fi)
    (ha : ∀ v, assign (.Subscript o i pos) X.env v = (do
      let ov ← holding [v] (eval o X.env)
      let iv ← holding [v, ov] (eval i X.env)
      standAt pos
      holding [v, ov, iv] (setItem ov iv v)
      release [v, ov, iv] []) := by intro _; rfl) : RG X ws (.Subscript o i pos) (toSub fo fi) := by
  refine pg_weak (pg_sub ho hi (set_any hu) ha) fun v sg H Q ⟨O, env, s, d, hE, hS, dv, hP⟩ => ?_
  refine ⟨O, env, s, hE, hS, (PostG.split (X' := XW X.K X.mg W0 sg) hP).imp (fun x s1 O1 H1 _ x1 q1 p1 y dy => ?_) fun _ _ _ _ _ _ z => z⟩
  refine ⟨O1, env, s1, hE.mono x1.toMono, q1, (PostG.split (X' := XW X.K X.mg W0 sg) p1).imp (fun x2 s2 O2 H2 _ x2' q2 p2 y2 dy2 => ?_) fun _ _ _ _ _ _ z => z⟩
  refine setA_ok (X' := XW X.K X.mg W0 sg) q2 (dy.mono x2'.toMono) dy2 ((dv.mono x1.toMono).mono x2'.toMono) ((PostG.split (X' := XW X.K X.mg W0 sg) p2).imp (fun _ s3 O3 H3 _ x3 q3 p3 => ?_) fun _ _ _ _ _ _ z => z)
  exact p3 O3 H3 sg .refl q3 (((hE.mono x1.toMono).mono x2'.toMono).mono x3.toMono) rfl
end
end Md

set_option Elab.async false
set_option linter.all false
set_option maxRecDepth 100000
/-! Md11: dict displays, dict comprehensions, dict(..), len of a dict. -/
namespace Md
open PySem PySem.Spec PyProof.Rows L2

/-! ### displays -/
abbrev DP := (Rs → M D) × (Rs → M D)
def dpM : List DP → Rs → M (List (D × D))
  | [], _ => ret []
  | p :: r, env => bnd (p.1 env) fun k => bnd (p.2 env) fun v => bnd (dpM r env) fun ps => ret ((k, v) :: ps)
def trD (K : PySem.W.Frag) (mg : Str → Option Value) (W : WX) (prs : List DP) : List (TE × TE) := prs.map fun p => (tM K mg W p.1, tM K mg W p.2)
abbrev RPs (X : Cx) (W : WX) (pos : Pos) (ks : List (Option Expr)) (vs : List Expr) (prs : List DP) : Prop := PPs X pos ks vs (trD X.K X.mg W prs)
section
variable {X : Cx} {W : WX} {pos : Pos}
theorem rps_nil : RPs X W pos [] [] [] := pps_nil
theorem rps_cons {k v : Expr} {ks : List (Option Expr)} {vs : List Expr} {fk fv : Rs → M D} {prs : List DP} (hk : RE X W k fk) (hv : RE X W v fv) (hr : RPs X W pos ks vs prs) : RPs X W pos (some k :: ks) (v :: vs) ((fk, fv) :: prs) := pps_cons hk hv hr
end
theorem pairs_ok {K : PySem.W.Frag} {mg : Str → Option Value} {W : WX} {sg : L2.St} {env : Rs} : ∀ {prs : List DP} {ds : List (D × D)} {O : Ow} {H : Hp} {s s' : S} {P : List (V × V) → Hp → Prop}, RelE K mg O H env sg → RelS K mg O H s →
    dpM prs env s = .ok ds s' → (∀ ws O' H', Ext O H O' H' → RelS K mg O' H' s' → DVp K mg O' H' ds ws → P ws H') → tPairs (trD K mg W prs) sg H P
  | [], ds, O, H, s, s', P, hE, hS, e, h => by
    have e : (Res.ok [] s : Res (List (D × D))) = .ok ds s' := e
    injection e with e1 e2
    subst e1 e2
    exact h _ _ _ .refl hS .nil
  | (fk, fv) :: prs, ds, O, H, s, s', P, hE, hS, e, h => by
    obtain ⟨k, s1, e1, e⟩ := bnd_ok e
    obtain ⟨v, s2, e2, e⟩ := bnd_ok e
    obtain ⟨ps, s3, e3, e⟩ := bnd_ok e
    have e : (Res.ok ((k, v) :: ps) s3 : Res (List (D × D))) = .ok ds s' := e
    injection e with e4 e5
    subst e4 e5
    refine ⟨O, env, s, hE, hS, ?_⟩
    rw [e1]
    intro O1 H1 x1 q1 u du
    have hE1 := hE.mono x1.toMono
    refine ⟨O1, env, s1, hE1, q1, ?_⟩
    rw [e2]
    intro O2 H2 x2 q2 w dw
    refine pairs_ok (hE1.mono x2.toMono) q2 e3 fun ws O3 H3 x3 q3 dv => ?_
    exact h _ _ _ ((x1.trans q1 x2).trans q2 x3) q3 (.cons ((du.mono x2.toMono).mono x3.toMono) (dw.mono x3.toMono) dv)
theorem nox_ok {α β : Type} {m : M α} {f : α → M β} {s : S} {K : PySem.W.Frag} {mg : Str → Option Value} {O : Ow} {H : Hp} {R : β → S → Ow → Hp → Prop} {X : D → S → Ow → Hp → Prop} (h : Post K mg O H (bnd (nox m) f s) R X) : ∃ a s', m s = .ok a s' ∧ Post K mg O H (f a s') R X := by
  unfold bnd nox at h
  cases e : m s with
  | ok a s' => rw [e] at h; exact ⟨a, s', rfl, h⟩
  | exc d s' => rw [e] at h; exact h.elim
  | bad => rw [e] at h; exact h.elim
def newD (kvs : List (D × D)) : M D := new (.dct false kvs)
def dispF (ps : List (D × D)) : M D := if ps.length ≤ 15 then (match mergeD [] ps with
  | some kvs => newD kvs
  | none => bad) else bad
def dispM (prs : List DP) : Rs → M D := fun env => bnd (nox (dpM prs env)) dispF
theorem DVp.length {K : PySem.W.Frag} {mg : Str → Option Value} {O : Ow} {H : Hp} : ∀ {r : List (D × D)} {ws : List (V × V)}, DVp K mg O H r ws → r.length = ws.length
  | _, _, .nil => rfl
  | _, _, .cons _ _ t => by simp [DVp.length t]
section
variable {X : Cx} {W : WX} {pos : Pos}
theorem re_disp {ks : List (Option Expr)} {vs : List Expr} {prs : List DP} (h : RPs X W pos ks vs prs) (hall : ks.all (·.isSome) = true := by rfl) (hl : ks.length = vs.length := by rfl) (h0 : ks ≠ [] := by exact List.cons_ne_nil _ _) (h15 : ks.length ≤ 15 := by decide) :
    RE X W (.Dict ks vs pos) (dispM prs) := by
  refine pe_weak (pe_disp h hall hl h0 h15) fun sg H Q ⟨O, env, s, hE, hS, hP⟩ => ?_
  intro p hp
  obtain ⟨ds, s', e, p2⟩ := nox_ok hP
  have b0 := beside (o := .dK []) hS (.refl : Ext O H O H) hp (notMu hS hp) (notFz hS hp) (fun xs e => by rw [hp] at e; cases e) (fun x y e => by rw [hp] at e; cases e)
  refine pairs_ok (hE.mono b0.1) b0.2.2 e fun ws O2 H2 x2 q2 dv => ?_
  obtain ⟨nm, nf, e2⟩ := x2.beside (notMu hS hp) (notFz hS hp) (by exact upd_same : upd H p (.dK []) p = some (.dK []))
  refine ⟨e2, ?_⟩
  unfold dispF at p2
  by_cases hn : ds.length ≤ 15
  · rw [if_pos hn] at p2
    cases em : mergeD [] ds with
    | none => rw [em] at p2; exact p2.elim
    | some kvs =>
      rw [em] at p2
      obtain ⟨kk, e3, pk⟩ := PrK.merge dv .nil em
      refine ⟨kk, e3, by rw [dv.length, e3, List.length_map] at hn; exact hn, ?_⟩
      have b3 := beside (o := .dK (mergeK [] kk)) q2 (b0.2.1.trans b0.2.2 x2) hp nm nf (fun xs e => by rw [e2] at e; cases e) (fun x y e => by rw [e2] at e; cases e)
      obtain ⟨x4, r4, e4⟩ := adopt_mut (b := .dct false kvs) b3.2.2 b3.2.1 hp nm nf fun m => ⟨mergeK [] kk, upd_same, (pk.mono b3.1).mono m⟩
      exact p2 _ _ x4 r4 _ (.ref e4)
  · rw [if_neg hn] at p2; exact p2.elim
/-- {} -/
def dnewM : Rs → M D := fun _ => newD []
theorem re_dnew : RE X W (.Dict [] [] pos) dnewM := by
  refine pe_weak pe_dnewK fun sg H Q ⟨O, env, s, hE, hS, hP⟩ => ?_
  intro p hp
  obtain ⟨x, q, d⟩ := new_ob (o := .dK []) (b := .dct false []) hS hp fun m => ⟨[], upd_same, .nil⟩
  exact hP _ _ x q _ d
end

/-! ### dict comprehensions -/
def dcR (t : TgM) (tt : Rs → M Bool) (tk tv : Rs → M D) (env : Rs) : List D → List (D × D) → M (List (D × D))
  | [], acc => ret acc
  | d :: ds, acc => bnd (t d env) fun e => bnd (tt e) fun k => if k = true then bnd (tk e) fun y => bnd (tv e) fun z => match keyD y with
    | some q => if acc.length < sizeLine then dcR t tt tk tv env ds (putD acc y q z) else bad
    | none => bad
    else dcR t tt tk tv env ds acc
def dcM (own : List Nat) (it : Rs → M (List D)) (t : TgM) (tt : Rs → M Bool) (tk tv : Rs → M D) : Rs → M D := fun env =>
  bnd (it env) fun items => bnd (nox (dcR t tt tk tv (wipeR env own) items [])) newD
theorem dc_ok {K : PySem.W.Frag} {mg : Str → Option Value} {W : WX} {own : List Nat} {it : Rs → M (List D)} {t : TgM} {tt : Rs → M Bool} {tk tv : Rs → M D} {sg : L2.St} {H : Hp} {Q : VK}
    (h : tM K mg W (dcM own it t tt tk tv) sg H Q) : tDc (tMI K mg W it) (tMG K mg own t) (tMT K mg W0 tt) (tM K mg W0 tk) (tM K mg W0 tv) own sg H Q := by
  obtain ⟨O, env, s, hE, hS, hP⟩ := h
  refine ⟨O, env, s, hE, hS, hP.split.imp (fun items s1 O1 H1 _ x1 q1 p1 J wk => ?_) fun _ _ _ _ _ _ z => z⟩
  intro D hD
  obtain ⟨zs, sz, ez, pz⟩ := nox_ok p1
  have b0 := beside (o := .dK []) q1 (.refl : Ext O1 H1 O1 H1) hD (notMu q1 hD) (notFz q1 hD) (fun xs e => by rw [hD] at e; cases e) (fun x y e => by rw [hD] at e; cases e)
  have hE1 : RelE K mg O1 H1 (wipeR env own) (wipe sg own) := (hE.mono x1.toMono).wipe own
  refine ⟨fun i m H => m = items.length - i ∧ i ≤ items.length ∧ ∃ O s acc accV, Ext O1 H1 O H ∧ D ∉ O.mu ∧ ¬ O.fz D ∧ H D = some (.dK accV) ∧ PrK K mg O H acc accV ∧ RelE K mg O H (wipeR env own) (wipe sg own) ∧ RelS K mg O H s ∧
      dcR t tt tk tv (wipeR env own) (items.drop i) acc s = .ok zs sz,
    ⟨items.length, by simp, Nat.zero_le _, O1, s1, [], [], b0.2.1, notMu q1 hD, notFz q1 hD, upd_same, .nil, hE1.mono b0.1, b0.2.2, ez⟩, ?_⟩
  rintro i m H2 ⟨rfl, hi, O2, s2, acc, accV, x2, nm, nf, eD, dacc, hE2, hS2, er⟩
  by_cases hlt : i < items.length
  · refine .inr ⟨wk.go i O2 H2 x2 hlt, fun H => i + 1 ≤ items.length ∧ ∃ O s acc accV, Ext O1 H1 O H ∧ D ∉ O.mu ∧ ¬ O.fz D ∧ H D = some (.dK accV) ∧ PrK K mg O H acc accV ∧ RelE K mg O H (wipeR env own) (wipe sg own) ∧ RelS K mg O H s ∧
      dcR t tt tk tv (wipeR env own) (items.drop (i + 1)) acc s = .ok zs sz, fun H' ⟨a, b⟩ => ⟨items.length - (i + 1), by omega, rfl, a, b⟩, fun y H3 hy => ?_⟩
    obtain ⟨d, O3, ed, x3, q3, dv⟩ := wk.yld i O2 H2 s2 y H3 hlt x2 hS2 hy
    have edr : items.drop i = d :: items.drop (i + 1) := by
      rw [List.drop_eq_getElem_cons hlt]
      rw [List.getElem?_eq_getElem hlt] at ed
      rw [Option.some.inj ed]
    rw [edr] at er
    obtain ⟨e4, s4, h4, er⟩ := bnd_ok er
    obtain ⟨k, s5, h5, er⟩ := bnd_ok er
    obtain ⟨nm3, nf3, eD3⟩ := x3.beside nm nf eD
    have x13 := x2.trans hS2 x3
    refine ⟨O3, wipeR env own, s2, d, hE2.mono x3.toMono, q3, dv, ?_⟩
    rw [h4]
    intro O4 H4 sg4 x4 q4 r4 w4
    refine ⟨w4.trans (wipe_twice own sg), O4, e4, s4, r4, q4, ?_⟩
    rw [h5]
    intro O5 H5 x5 q5
    have x14 := x13.trans q3 x4
    have x15 := x14.trans q4 x5
    obtain ⟨nm4, nf4, eD4⟩ := x4.beside nm3 nf3 eD3
    obtain ⟨nm5, nf5, eD5⟩ := x5.beside nm4 nf4 eD4
    have m35 := (x3.toMono.trans x4.toMono).trans x5.toMono
    cases k with
    | false =>
      rw [if_neg Bool.false_ne_true] at er
      exact iteFF ⟨hlt, O5, s5, acc, accV, x15, nm5, nf5, eD5, dacc.mono m35, hE2.mono m35, q5, er⟩
    | true =>
      rw [if_pos rfl] at er
      refine iteTT ?_
      obtain ⟨z6, s6, h6, er⟩ := bnd_ok er
      obtain ⟨z7, s7, h7, er⟩ := bnd_ok er
      refine ⟨O5, e4, s5, r4.mono x5.toMono, q5, ?_⟩
      rw [h6]
      intro O6 H6 x6 q6 v6 dv6
      obtain ⟨nm6, nf6, eD6⟩ := x6.beside nm5 nf5 eD5
      refine ⟨O6, e4, s6, (r4.mono x5.toMono).mono x6.toMono, q6, ?_⟩
      rw [h7]
      intro O7 H7 x7 q7 v7 dv7
      obtain ⟨nm7, nf7, eD7⟩ := x7.beside nm6 nf6 eD6
      have x17 := (x15.trans q5 x6).trans q6 x7
      have m37 := (m35.trans x6.toMono).trans x7.toMono
      cases ek : keyD z6 with
      | none => rw [ek] at er; cases er
      | some q =>
        rw [ek] at er
        dsimp only at er
        by_cases hl : acc.length < sizeLine
        · rw [if_pos hl] at er
          have dacc7 := dacc.mono m37
          have b7 := beside (o := .dK (putK accV q v7)) q7 x17 hD nm7 nf7 (fun xs e => by rw [eD7] at e; cases e) (fun x y e => by rw [eD7] at e; cases e)
          refine ⟨accV, q, keyV dv6 ek, eD7, by rw [← dacc7.length]; exact hl, hlt, O7, s7, _, _, b7.2.1, nm7, nf7, upd_same, (dacc7.put ek dv7).mono b7.1, (hE2.mono m37).mono b7.1, b7.2.2, er⟩
        · rw [if_neg hl] at er; cases er
  · have e : i = items.length := by omega
    subst e
    rw [List.drop_length] at er
    have erq : (Res.ok acc s2 : Res (List (Md.D × Md.D))) = .ok zs sz := er
    injection erq with e8 e9
    subst e8
    subst e9
    obtain ⟨x4, r4, e4⟩ := adopt_mut (b := .dct false acc) hS2 x2 hD nm nf fun m => ⟨accV, eD, dacc.mono m⟩
    exact .inl ⟨wk.stop O2 H2 x2, pz _ _ x4 r4 _ (.ref e4)⟩
section
variable {X : Cx} {W : WX}
theorem re_dc {kx vx tg iter : Expr} {ifs : List Expr} {scope : Scope} (own : List (Str × Nat)) {pos : Pos} {it : Rs → M (List D)} {t : TgM} {tt : Rs → M Bool} {tk tv : Rs → M D} (hc : X.calm = true) (hN : X.N.Nodup) (ok : blkC X.N X.env.scope scope own = true) (hi : RI X W tg iter it)
    (hg : ∀ (s : Shared) (H : Hp) (C : Addr) (cl : List (Str × Addr)) (fp : List Addr), RG (X.blk s H scope (compEnvC scope cl C X.env) fp) (own.map (·.2)) tg t)
    (ht : ∀ (s : Shared) (H : Hp) (C : Addr) (cl : List (Str × Addr)) (fp : List Addr), RTs (X.blk s H scope (compEnvC scope cl C X.env) fp) W0 ifs tt)
    (hk : ∀ (s : Shared) (H : Hp) (C : Addr) (cl : List (Str × Addr)) (fp : List Addr), RE (X.blk s H scope (compEnvC scope cl C X.env) fp) W0 kx tk)
    (hv : ∀ (s : Shared) (H : Hp) (C : Addr) (cl : List (Str × Addr)) (fp : List Addr), RE (X.blk s H scope (compEnvC scope cl C X.env) fp) W0 vx tv) (hs : ∀ x, foldedSetIterable iter X.env x = pure x := by intro _; rfl) :
    RE X W (.DictComp kx vx [⟨tg, iter, ifs, 0⟩] scope pos) (dcM (own.map (·.2)) it t tt tk tv) :=
  pe_weak (pe_dc hc hN hi (blkOk_by ok) hg ht hk hv hs) fun _ _ _ h => dc_ok h
end

/-! ### dict(..), len -/
/-- (k, v), .. -/
def prOf : D → Option (D × D)
  | .tup xs => match xs with
    | [k, v] => some (k, v)
    | _ => none
  | _ => none
def prsD : List D → Option (List (D × D))
  | [] => some []
  | d :: ds => match prOf d, prsD ds with
    | some p, some ps => some (p :: ps)
    | _, _ => none
def rDictA (K : PySem.W.Frag) : List V → Hp → VK → Prop := fun xs H Q => (∃ a kvs, xs = [.ref a] ∧ Rd H a (.dK kvs) ∧ ∀ p, H p = none → Q (.ref p) (upd H p (.dK kvs))) ∨
  ∃ (a : Addr) (ps : List Addr) (kvs : List (Key × V)), xs = [.ref a] ∧ SqL K H a (ps.map V.ref) ∧ Paired (fun p kv => SqT K H p [kV kv.1, kv.2]) ps kvs ∧ ∀ p, H p = none → Q (.ref p) (upd H p (.dK (mergeK [] kvs)))
theorem call_dictA {X : Cx} (hc : X.calm = true) : CallR X (.type "dict") (rDictA X.K) := by
  intro pins s sg H xs us Q I r q
  rcases q with ⟨a, kvs, rfl, e, q⟩ | q
  · obtain ⟨u, rfl, ru⟩ := r.one
    obtain rfl : u = .ref a := ru
    exact d_copyOf I e fun p s' hp I' => ⟨.ref p, _, I', rfl, q p hp⟩
  · exact call_dictP hc pins s sg H xs us Q I r q
def dictF : D → M D := fun d s => match dctD s d with
  | some (_, _, kvs) => newD kvs s
  | none => match (lstD s d).bind prsD with
    | some ps => match mergeD [] ps with
      | some kvs => newD kvs s
      | none => .bad
    | none => .bad
section
variable {K : PySem.W.Frag} {mg : Str → Option Value}
theorem prOf_ok {O : Ow} {H : Hp} {d : D} {v : V} {q : D × D} (dv : DV K mg O H d v) (h : prOf d = some q) : ∃ p u w, v = .ref p ∧ SqT K H p [u, w] ∧ DV K mg O H q.1 u ∧ DV K mg O H q.2 w := by
  unfold prOf at h
  split at h
  · obtain ⟨p, vs, e, sq, t⟩ := tupD_ok dv rfl
    split at h
    · injection h with h
      subst h
      cases t with
      | cons a t =>
        cases t with
        | cons b t =>
          cases t
          exact ⟨p, _, _, e, sq, a, b⟩
    · cases h
  · cases h
theorem prsD_ok {O : Ow} {H : Hp} : ∀ {ds : List D} {vs : List V} {ps : List (D × D)}, DVs K mg O H ds vs → prsD ds = some ps → ∃ (as : List Addr) (ws : List (V × V)), vs = as.map V.ref ∧ DVp K mg O H ps ws ∧ Paired (fun p w => SqT K H p [w.1, w.2]) as ws
  | _, _, ps, .nil, h => by injection h with h; subst h; exact ⟨[], [], rfl, .nil, .nil⟩
  | d :: ds, _, ps, .cons a t, h => by
    unfold prsD at h
    cases e1 : prOf d with
    | none => rw [e1] at h; cases h
    | some q =>
      cases e : prsD ds with
      | none => rw [e1, e] at h; cases h
      | some qs =>
        rw [e1, e] at h
        injection h with h
        subst h
        obtain ⟨as, ws, e1', e2, e3⟩ := prsD_ok t e
        obtain ⟨p, u, w, rfl, sq, d1, d2⟩ := prOf_ok a e1
        exact ⟨p :: as, (u, w) :: ws, by rw [e1']; rfl, .cons d1 d2 e2, .cons sq e3⟩
theorem newD_ok {O : Ow} {H : Hp} {s : S} {p : Addr} {kvs : List (D × D)} {vs : List (Key × V)} {Q : VK} {X' : D → S → Ow → Hp → Prop} (r : RelS K mg O H s) (hp : H p = none) (pk : PrK K mg O H kvs vs)
    (h : Post K mg O H (newD kvs s) (fun d _ O' H' => ∀ u, DV K mg O' H' d u → Q u H') X') : Q (.ref p) (upd H p (.dK vs)) := by
  obtain ⟨x, q, d⟩ := new_ob (o := .dK vs) (b := .dct false kvs) r hp fun m => ⟨vs, upd_same, pk.mono m⟩
  exact h _ _ x q _ d
theorem paired_map {P : Addr → V × V → Prop} : ∀ {as : List Addr} {kvs : List (Key × V)}, Paired P as (kvs.map fun kv => (kV kv.1, kv.2)) → Paired (fun p kv => P p (kV kv.1, kv.2)) as kvs
  | [], [], _ => .nil
  | _ :: _, _ :: _, .cons a t => .cons a (paired_map t)
theorem dictF_ok : CallOk K mg (rDictA K) (arg1 dictF) := call1 fun O H s d v Q X' r dv h => by
  unfold dictF at h
  cases e1 : dctD s d with
  | some x =>
    obtain ⟨n, lk, kvs⟩ := x
    rw [e1] at h
    obtain ⟨a, vs, rfl, rfl, ha, es, l, pk⟩ := dctD_ok r dv e1
    exact .inl ⟨a, vs, rfl, l.rd, fun p hp => newD_ok r hp pk h⟩
  | none =>
    rw [e1] at h
    dsimp only at h
    cases e2 : lstD s d with
    | none => rw [e2] at h; exact h.elim
    | some xs =>
      cases e3 : prsD xs with
      | none => rw [e2] at h; simp only [Option.bind_some, e3] at h; exact h.elim
      | some ps =>
        rw [e2] at h
        simp only [Option.bind_some, e3] at h
        cases e4 : mergeD [] ps with
        | none => rw [e4] at h; exact h.elim
        | some kvs =>
          rw [e4] at h
          obtain ⟨a, vs, rfl, ep, ha⟩ := lstD_ok r dv e2
          obtain ⟨as, ws, rfl, dp, pr⟩ := prsD_ok ha e3
          obtain ⟨kk, rfl, pk⟩ := PrK.merge dp .nil e4
          exact .inr ⟨a, as, kk, rfl, ep, paired_map pr, fun p hp => newD_ok r hp pk h⟩
def rLenK : List V → Hp → VK → Prop := fun xs H Q => ∃ a kvs, xs = [.ref a] ∧ Rd H a (.dK kvs) ∧ Q (.int kvs.length) H
theorem call_lenK {X : Cx} : CallR X (.builtin "len") rLenK := by
  intro pins s sg H xs us Q I r ⟨a, kvs, ex, e, q⟩
  subst ex
  obtain ⟨u, rfl, ru⟩ := r.one
  obtain rfl : u = .ref a := ru
  exact d_len I e fun t s' I' => ⟨.int kvs.length, H, I', ⟨t, rfl⟩, q⟩
def lenKF : List D → M D := fun ds s => match ds with
  | [d] => match dctD s d with
    | some (_, _, kvs) => .ok (.int kvs.length) s
    | none => .bad
  | _ => .bad
theorem lenKF_ok : CallOk K mg rLenK lenKF := by
  intro O H s ds vs Q X' r dv h
  match ds, vs, dv with
  | [d], [v], .cons dv .nil =>
    have h3 : Post K mg O H (match dctD s d with | some (_, _, kvs) => (.ok (.int kvs.length) s : Res D) | none => .bad) (fun d _ O' H' => ∀ u, DV K mg O' H' d u → Q u H') X' := h
    cases e1 : dctD s d with
    | none => rw [e1] at h3; exact h3.elim
    | some x =>
      obtain ⟨n, lk, kvs⟩ := x
      rw [e1] at h3
      have h2 : Post K mg O H (ret (D.int kvs.length) s) (fun d _ O' H' => ∀ u, DV K mg O' H' d u → Q u H') X' := h3
      obtain ⟨a, vs, rfl, rfl, ha, es, l, pk⟩ := dctD_ok r dv e1
      refine ⟨a, vs, rfl, l.rd, ?_⟩
      rw [← pk.length]
      exact h2.ret r _ (.int _)
  | [], _, _ => exact h.elim
  | _ :: _ :: _, _, _ => exact h.elim
/-- len of a dict, a list, a tuple, a str -/
def lenA : List D → M D := fun ds s => match ds with
  | [d] => match dctD s d with
    | some _ => lenKF ds s
    | none => lenD ds s
  | _ => .bad
theorem lenA_ok : CallOk K mg (fun x H Q => rLenK x H Q ∨ ((∃ p ys, x = [.ref p] ∧ (SqL K H p ys ∨ SqT K H p ys) ∧ Q (.int ys.length) H) ∨ ∃ z, x = [.str z] ∧ z.length ≤ sizeLine ∧ Q (.int z.length) H)) lenA :=
  CallOk.or (g1 := lenKF) (g2 := fun ds s => match ds with | [_] => lenD ds s | _ => .bad) lenKF_ok
    (by
      intro O H s ds vs Q X' r dv h
      match ds with
      | [d] => exact lenD_ok O H s [d] vs Q X' r dv h
      | [] => exact h.elim
      | _ :: _ :: _ => exact h.elim)
    fun ds s => by
      unfold lenA
      split
      · split
        · exact .inl rfl
        · exact .inr rfl
      · rename_i h
        match ds, h with
        | [], _ => exact .inl rfl
        | [d], h => exact absurd rfl (h d)
        | _ :: _ :: _, _ => exact .inl rfl
end
section
variable {X : Cx} {W : WX} {e : Expr} {es : List Expr} {fa : Rs → M (List D)} {p pos : Pos}
theorem re_dict (hc : X.calm = true) (hm : X.mg "dict" = none) (ha : RA X W (e :: es) fa) (hg : Gl X "dict" := by rfl) (he : starEach (e :: es) X.env = (false, eval e X.env) :: starEach es X.env := by rfl) (hpl : (backTo pos (starEach es X.env)).any (·.1) = false := by rfl) :
    RE X W (.Call (.Name "dict" p) (e :: es) [] pos) (callM (arg1 dictF) [] fa) := re_cT (call_dictA hc) dictF_ok hm (by with_unfolding_all rfl) ha hg (by decide) (by decide) he hpl
theorem re_lenA (hm : X.mg "len" = none) (ha : RA X W (e :: es) fa) (hg : Gl X "len" := by rfl) (he : starEach (e :: es) X.env = (false, eval e X.env) :: starEach es X.env := by rfl) (hpl : (backTo pos (starEach es X.env)).any (·.1) = false := by rfl) :
    RE X W (.Call (.Name "len" p) (e :: es) [] pos) (callM lenA [] fa) := re_cB (call_lenK.or (call_len_seq.or call_len_str)) lenA_ok hm boot_len ha hg (by decide) (by decide) he hpl
end
end Md

set_option Elab.async false
set_option linter.all false
set_option maxRecDepth 100000
/-! Md12: locks; walks over dicts and lists of the store; methods of the built-in kinds. -/
namespace Md
open PySem PySem.Spec PyProof.Rows L2

/-! ### a thing of the store is locked while a statement runs -/
def lkOb : Ob → Option Ob
  | .lst xs => some (.lok xs)
  | .dct false kvs => some (.dct true kvs)
  | _ => none
def ulOb : Ob → Ob
  | .lok xs => .lst xs
  | .dct _ kvs => .dct false kvs
  | o => o
def unl (n : Nat) (s : S) : S := match s[n]? with
  | some o => s.set n (ulOb o)
  | none => s
section
variable {K : PySem.W.Frag} {mg : Str → Option Value} {O O' : Ow} {H H' : Hp} {s s' : S} {n : Nat} {a : Addr} {u : HO} {od : Obj}
theorem lock_in {ob ob' : Ob} (r : RelS K mg O H s) (ha : O.mu[n]? = some a) (es : s[n]? = some ob) (el : lkOb ob = some ob') :
    ∃ u, H a = some u ∧ Mut (some u) ∧ (∀ x y, u ≠ .frz x y) ∧ (∀ xs, u ≠ .tup xs) ∧ ∀ od, Ext O H O (upd H a (.frz od u)) ∧ RelS K mg O (upd H a (.frz od u)) (s.set n ob') := by
  have ov := r.obs n a ob ha es
  cases ob with
  | lst xs =>
    obtain ⟨vs, e, t⟩ := ov
    injection el with el
    subst el
    exact ⟨_, e, True.intro, (fun _ _ z => nomatch z), (fun _ z => nomatch z), fun od => set_ob (o := .frz od (.lst vs)) (b := .lok xs) r ha (fun x y z => by rw [e] at z; cases z) fun m => ⟨od, vs, upd_same, t.mono m⟩⟩
  | dct lk kvs =>
    cases lk with
    | true => cases el
    | false =>
      obtain ⟨vs, e, t⟩ := ov
      have e : H a = some (.dK vs) := e
      injection el with el
      subst el
      exact ⟨_, e, True.intro, (fun _ _ z => nomatch z), (fun _ z => nomatch z), fun od => set_ob (o := .frz od (.dK vs)) (b := .dct true kvs) r ha (fun x y z => by rw [e] at z; cases z) fun m => ⟨vs, ⟨od, upd_same⟩, t.mono m⟩⟩
  | lok xs => cases el
  | ins c fs => cases el
theorem unl_ok {ob : Ob} (m0 : Mono0 O' H' O' (upd H' a u)) (e1 : H' a = some (.frz od u)) (ov : OV K mg O' H' a ob) : OV K mg O' (upd H' a u) a (ulOb ob) := by
  cases ob with
  | lst xs => obtain ⟨vs, e, t⟩ := ov; rw [e1] at e; cases e
  | lok xs => obtain ⟨o, vs, e, t⟩ := ov; rw [e1] at e; cases e; exact ⟨vs, upd_same, t.mono0 m0⟩
  | ins c fs => obtain ⟨C, dx, vs, _, e, t⟩ := ov; rw [e1] at e; cases e
  | dct lk kvs =>
    obtain ⟨vs, e, t⟩ := ov
    cases lk with
    | false => have e : H' a = some (.dK vs) := e; rw [e1] at e; cases e
    | true =>
      obtain ⟨o, e⟩ := e
      rw [e1] at e
      cases e
      exact ⟨vs, upd_same, t.mono0 m0⟩
theorem lock_out (r : RelS K mg O H s) (ha : O.mu[n]? = some a) (hu : H a = some u) (nf : ∀ x y, u ≠ .frz x y) (nt : ∀ xs, u ≠ .tup xs) (x : Ext O (upd H a (.frz od u)) O' H') (r' : RelS K mg O' H' s') :
    H' a = some (.frz od u) ∧ Mono0 O' H' O' (upd H' a u) ∧ Ext O H O' (upd H' a u) ∧ RelS K mg O' (upd H' a u) (unl n s') := by
  have e1 : H' a = some (.frz od u) := x.zk a od u upd_same
  have ha' := x.toMono.get ha
  have hm' : a ∈ O'.mu := List.mem_of_getElem? ha'
  have hm : a ∈ O.mu := List.mem_of_getElem? ha
  have nf' : ¬ O'.fz a := r'.sep a hm'
  have m0 : Mono0 O' H' O' (upd H' a u) := ⟨⟨[], by simp⟩, fun _ h => h, fun b o f e => by rw [upd_ne (by rintro rfl; exact nf' f)]; exact e, fun b xs e => by rw [upd_ne (by rintro rfl; rw [e1] at e; cases e)]; exact e⟩
  refine ⟨e1, m0, ⟨⟨x.mu, x.fz, fun b o f e => ?_, fun b xs e => ?_, fun b o w e => ?_⟩, fun b o e nm => ?_, fun b h => ?_⟩, ?_⟩
  · have hb : b ≠ a := by rintro rfl; exact r.sep b hm f
    rw [upd_ne hb]
    exact x.fk b o f (by rw [upd_ne hb]; exact e)
  · have hb : b ≠ a := by rintro rfl; rw [hu] at e; cases e; exact nt xs rfl
    rw [upd_ne hb]
    exact x.tp b xs (by rw [upd_ne hb]; exact e)
  · have hb : b ≠ a := by rintro rfl; rw [hu] at e; cases e; exact nf o w rfl
    rw [upd_ne hb]
    exact x.zk b o w (by rw [upd_ne hb]; exact e)
  · have hb : b ≠ a := by rintro rfl; exact nm hm
    rw [upd_ne hb]
    exact x.fr b o (by rw [upd_ne hb]; exact e) nm
  · rcases x.nw b h with z | z
    · exact .inl z
    · by_cases hb : b = a
      · rw [hb, upd_same] at z; cases z
      · rw [upd_ne hb] at z; exact .inr z
  · have hn : n < s'.length := by rw [← r'.len]; exact (List.getElem?_eq_some_iff.mp ha').1
    have es : s'[n]? = some s'[n] := List.getElem?_eq_getElem hn
    unfold unl
    rw [es]
    refine ⟨by simp [r'.len], r'.nd, r'.sep, fun k c o' f1 f2 => ?_, fun c h => ?_⟩
    · by_cases hk : k = n
      · subst hk
        rw [ha'] at f1
        cases f1
        rw [List.getElem?_set_self hn] at f2
        cases f2
        exact unl_ok m0 e1 (r'.obs _ _ _ ha' es)
      · rw [List.getElem?_set_ne (Ne.symm hk)] at f2
        refine (r'.obs k c o' f1 f2).mono0 m0 (upd_ne ?_)
        rintro rfl
        obtain ⟨hk1, ek⟩ := List.getElem?_eq_some_iff.mp f1
        obtain ⟨hn1, en⟩ := List.getElem?_eq_some_iff.mp ha'
        exact hk ((List.getElem_inj r'.nd).mp (ek.trans en.symm))
    · obtain ⟨w, e⟩ := r'.fzs c h
      by_cases hc : c = a
      · exact ⟨u, by rw [hc]; exact upd_same⟩
      · exact ⟨w, by rw [upd_ne hc]; exact e⟩
end
abbrev Pk := Rs → S → Option Nat
def pkN : Pk := fun _ _ => none
def pkV (i : Nat) : Pk := fun env _ => match env[i]? with
  | some (some (.ref n)) => some n
  | _ => none
def pkF (f : Str) (p : Pk) : Pk := fun env s => match p env s with
  | some n => match s[n]? with
    | some (.ins _ fs) => match fs.lookup f with
      | some (.ref m) => some m
      | _ => none
    | _ => none
  | none => none
def unlS (n : Nat) : SR → SR
  | .nx e s => .nx e (unl n s)
  | .rt d s => .rt d (unl n s)
  | .bk e s => .bk e (unl n s)
  | .ct e s => .ct e (unl n s)
  | r => r
/-- while g runs, what pk tells is locked -/
def lockS (pk : Pk) (g : SM) : SM := fun env s => match pk env s with
  | none => g env s
  | some n => match s[n]? with
    | some o => match lkOb o with
      | some o' => unlS n (g env (s.set n o'))
      | none => g env s
    | none => .bad
def unlE (n : Nat) : Res D → Res D
  | .ok d s => .ok d (unl n s)
  | r => r
def lockE (pk : Pk) (f : Rs → M D) : Rs → M D := fun env s => match pk env s with
  | none => f env s
  | some n => match s[n]? with
    | some o => match lkOb o with
      | some o' => unlE n (f env (s.set n o'))
      | none => f env s
    | none => .bad
section
variable {X : Cx} {W : WX} {st : Stmt} {g : SM} {e : Expr} {f : Rs → M D}
theorem rs_lock (pk : Pk) (h : RS X W st g) : RS X W st (lockS pk g) := by
  refine ⟨fun pins sh sg H E I ⟨O, env, s, hE, hS, hP⟩ => ?_⟩
  unfold lockS at hP
  cases e1 : pk env s with
  | none => rw [e1] at hP; exact h.run pins sh sg H E I ⟨O, env, s, hE, hS, hP⟩
  | some n =>
    rw [e1] at hP
    dsimp only at hP
    cases e2 : s[n]? with
    | none => rw [e2] at hP; exact hP.elim
    | some o =>
      rw [e2] at hP
      dsimp only at hP
      cases e3 : lkOb o with
      | none => rw [e3] at hP; exact h.run pins sh sg H E I ⟨O, env, s, hE, hS, hP⟩
      | some o' =>
        rw [e3] at hP
        dsimp only at hP
        have hn : n < O.mu.length := by rw [hS.len]; exact (List.getElem?_eq_some_iff.mp e2).1
        have ha : O.mu[n]? = some O.mu[n] := List.getElem?_eq_getElem hn
        obtain ⟨u, hu, mu, nf, nt, hl⟩ := lock_in hS ha e2 e3
        refine (ps_lock h).run pins sh sg H E I ⟨O.mu[n], u, hu, mu, fun od => ?_⟩
        obtain ⟨x1, r1⟩ := hl od
        refine ⟨O, env, s.set n o', hE.mono x1.toMono, r1, ?_⟩
        cases eg : g env (s.set n o') with
        | nx e s' =>
          rw [eg] at hP
          intro O' H' sg' x r' re
          obtain ⟨a1, m0, xx, rr⟩ := lock_out hS ha hu nf nt x r'
          exact ⟨a1, hP _ _ _ xx rr (re.mono0 m0)⟩
        | bk e s' =>
          rw [eg] at hP
          intro O' H' sg' x r' re
          obtain ⟨a1, m0, xx, rr⟩ := lock_out hS ha hu nf nt x r'
          exact ⟨a1, hP _ _ _ xx rr (re.mono0 m0)⟩
        | ct e s' =>
          rw [eg] at hP
          intro O' H' sg' x r' re
          obtain ⟨a1, m0, xx, rr⟩ := lock_out hS ha hu nf nt x r'
          exact ⟨a1, hP _ _ _ xx rr (re.mono0 m0)⟩
        | rt d s' =>
          rw [eg] at hP
          intro O' H' v x r' dv
          obtain ⟨a1, m0, xx, rr⟩ := lock_out hS ha hu nf nt x r'
          exact ⟨a1, hP _ _ _ xx rr (dv.mono0 m0)⟩
        | exc d e s' =>
          rw [eg] at hP
          intro O' H' sg' c dd x r' re ev
          exact hP _ _ _ c dd (x1.trans r1 x) r' re ev
        | bad => rw [eg] at hP; exact hP.elim
theorem re_lock (pk : Pk) (h : RE X W e f) : RE X W e (lockE pk f) := by
  refine ⟨fun pins sh sg H Q I ⟨O, env, s, hE, hS, hP⟩ => ?_⟩
  unfold lockE at hP
  cases e1 : pk env s with
  | none => rw [e1] at hP; exact h.run pins sh sg H Q I ⟨O, env, s, hE, hS, hP⟩
  | some n =>
    rw [e1] at hP
    dsimp only at hP
    cases e2 : s[n]? with
    | none => rw [e2] at hP; exact hP.elim
    | some o =>
      rw [e2] at hP
      dsimp only at hP
      cases e3 : lkOb o with
      | none => rw [e3] at hP; exact h.run pins sh sg H Q I ⟨O, env, s, hE, hS, hP⟩
      | some o' =>
        rw [e3] at hP
        dsimp only at hP
        have hn : n < O.mu.length := by rw [hS.len]; exact (List.getElem?_eq_some_iff.mp e2).1
        have ha : O.mu[n]? = some O.mu[n] := List.getElem?_eq_getElem hn
        obtain ⟨u, hu, mu, nf, nt, hl⟩ := lock_in hS ha e2 e3
        refine (pe_lock h).run pins sh sg H Q I ⟨O.mu[n], u, hu, mu, fun od => ?_⟩
        obtain ⟨x1, r1⟩ := hl od
        refine ⟨O, env, s.set n o', hE.mono x1.toMono, r1, ?_⟩
        cases eg : f env (s.set n o') with
        | ok d s' =>
          rw [eg] at hP
          intro O' H' x r' v dv
          obtain ⟨a1, m0, xx, rr⟩ := lock_out hS ha hu nf nt x r'
          exact ⟨a1, hP _ _ xx rr v (dv.mono0 m0)⟩
        | exc d s' =>
          rw [eg] at hP
          intro O' H' x r'
          exact hP _ _ (x1.trans r1 x) r'
        | bad => rw [eg] at hP; exact hP.elim
end

/-! ### walks over what is locked -/
section
variable {K : PySem.W.Frag} {mg : Str → Option Value} {O : Ow} {H : Hp} {s : S}
theorem PrK.at_ : ∀ {kvs : List (D × D)} {vs : List (Key × V)}, PrK K mg O H kvs vs → ∀ {i : Nat} {q : Key} {v : V}, vs[i]? = some (q, v) → ∃ k d, kvs[i]? = some (k, d) ∧ keyD k = some q ∧ DV K mg O H d v
  | _, _, .nil, i, q, v, e => by simp at e
  | _, _, .cons e' h t, 0, q, v, e => by
    have e2 := Option.some.inj (show some _ = some (q, v) from e)
    cases e2
    exact ⟨_, _, rfl, e', h⟩
  | _, _, .cons _ _ t, i + 1, q, v, e => by simpa using PrK.at_ t (i := i) (q := q) (v := v) (by simpa using e)
theorem wk_keys {a : Addr} {o : Obj} {kvs : List (D × D)} {vs : List (Key × V)} (e : H a = some (.frz o (.dK vs))) (t : PrK K mg O H kvs vs) : Wk K mg O H (Itk a o vs) (kvs.map (·.1)) where
  go := fun i O1 H1 x h => ⟨x.zk a o _ e, by rw [← t.length]; simpa using h⟩
  yld := fun i O1 H1 s y H' lt x r h => by
    obtain ⟨rfl, k, v, e1, rfl⟩ := h
    obtain ⟨d, d2, e2, e3, dv⟩ := t.at_ e1
    exact ⟨d, O1, by rw [List.getElem?_map, e2]; rfl, .refl, r, keyDV e3⟩
  stop := fun O1 H1 x => ⟨x.zk a o _ e, by rw [List.length_map, t.length]; exact Nat.le_refl _⟩
theorem wk_vals {a : Addr} {o : Obj} {kvs : List (D × D)} {vs : List (Key × V)} (e : H a = some (.frz o (.dK vs))) (t : PrK K mg O H kvs vs) : Wk K mg O H (Itd a o vs) (kvs.map (·.2)) where
  go := fun i O1 H1 x h => ⟨x.zk a o _ e, by rw [← t.length]; simpa using h⟩
  yld := fun i O1 H1 s y H' lt x r h => by
    obtain ⟨rfl, k, e1⟩ := h
    obtain ⟨d, d2, e2, e3, dv⟩ := t.at_ e1
    exact ⟨d2, O1, by rw [List.getElem?_map, e2]; rfl, .refl, r, dv.mono x.toMono⟩
  stop := fun O1 H1 x => ⟨x.zk a o _ e, by rw [List.length_map, t.length]; exact Nat.le_refl _⟩
def pairD (kv : D × D) : D := .tup [kv.1, kv.2]
theorem wk_items {a : Addr} {o : Obj} {kvs : List (D × D)} {vs : List (Key × V)} (e : H a = some (.frz o (.dK vs))) (t : PrK K mg O H kvs vs) : Wk K mg O H (Iti a o vs) (kvs.map pairD) where
  go := fun i O1 H1 x h => ⟨x.zk a o _ e, by rw [← t.length]; simpa using h⟩
  yld := fun i O1 H1 s y H' lt x r h => by
    obtain ⟨T, k, v, e1, rfl, hT, rfl⟩ := h
    obtain ⟨d, d2, e2, e3, dv⟩ := t.at_ e1
    obtain ⟨x2, r2, q2⟩ := new_tup (ds := [d, d2]) r hT (.cons (keyDV e3) (.cons (dv.mono x.toMono) .nil))
    exact ⟨_, O1, by rw [List.getElem?_map, e2]; rfl, x2, r2, q2⟩
  stop := fun O1 H1 x => ⟨x.zk a o _ e, by rw [List.length_map, t.length]; exact Nat.le_refl _⟩
/-- a list that stays while the walk goes on -/
def stayD (s : S) : D → Option (List D)
  | .lst xs => some xs
  | .wls xs => some xs
  | .ref n => match s[n]? with
    | some (.lok xs) => some xs
    | _ => none
  | _ => none
theorem stayD_ok (r : RelS K mg O H s) {d : D} {v : V} {ds : List D} (dv : DV K mg O H d v) (h : stayD s d = some ds) : ∃ a vs, v = .ref a ∧ DVs K mg O H ds vs ∧ ∀ O1 H1, Mono O H O1 H1 → SqL K H1 a vs := by
  cases dv with
  | lst ta t => injection h with h; subst h; exact ⟨_, _, rfl, t, fun O1 H1 m => (ta.mono m).sq⟩
  | wls ta t => injection h with h; subst h; exact ⟨_, _, rfl, t, fun O1 H1 m => (ta.mono m).sq⟩
  | @ref n a ha =>
    have h : (match s[n]? with
      | some (.lok xs) => some xs
      | _ => none) = some ds := h
    cases e : s[n]? with
    | none => rw [e] at h; cases h
    | some ob =>
      rw [e] at h
      cases ob with
      | lok xs =>
        injection h with h
        subst h
        obtain ⟨o, vs, eH, t⟩ := r.obs n a _ ha e
        exact ⟨_, _, rfl, t, fun O1 H1 m => .inl (.inr ⟨o, m.zk a o _ eH⟩)⟩
      | _ => cases h
  | _ => cases h
end
section
variable {X : Cx} {W : WX} {tg e : Expr} {fe : Rs → M D} {fa : Rs → M (List D)} {p apos cpos pos : Pos}
def itDk (f : D × D → D) (fe : Rs → M D) : Rs → M (List D) := fun env => bnd (fe env) fun d s => match dctD s d with
  | some (_, true, kvs) => .ok (kvs.map f) s
  | _ => .bad
theorem dk_lk {K : PySem.W.Frag} {mg : Str → Option Value} {O : Ow} {H : Hp} {s : S} {d : D} {v : V} {f : D × D → D} {R : List D → S → Ow → Hp → Prop} {X' : D → S → Ow → Hp → Prop} (r : RelS K mg O H s) (dv : DV K mg O H d v)
    (h : Post K mg O H (match dctD s d with | some (_, true, kvs) => (.ok (kvs.map f) s : Res (List D)) | _ => .bad) R X') : ∃ a o kvs vs, v = .ref a ∧ H a = some (.frz o (.dK vs)) ∧ PrK K mg O H kvs vs ∧ R (kvs.map f) s O H := by
  cases e : dctD s d with
  | none => rw [e] at h; exact h.elim
  | some x =>
    obtain ⟨n, lk, kvs⟩ := x
    rw [e] at h
    cases lk with
    | false => exact h.elim
    | true =>
      obtain ⟨a, vs, rfl, rfl, ha, es, l, pk⟩ := dctD_ok r dv e
      obtain ⟨o, l⟩ := l
      exact ⟨a, o, kvs, vs, rfl, l, pk, Post.ret (show Post K mg O H (ret (kvs.map f) s) R X' from h) r⟩
theorem ri_keys (h : RE X W e fe) : RI X W tg e (itDk (·.1) fe) := by
  refine pi_weak (pi_keys h) fun sg H R ⟨O, env, s, hE, hS, hP⟩ => ?_
  refine ⟨O, env, s, hE, hS, hP.split.imp (fun d s1 O1 H1 _ x1 q1 p1 v dv => ?_) fun _ _ _ _ _ _ z => z⟩
  obtain ⟨a, o, kvs, vs, rfl, l, pk, q⟩ := dk_lk q1 dv p1
  exact ⟨a, o, rfl, .inl ⟨vs, l, q _ (wk_keys l pk)⟩⟩
theorem ri_vals (h : RE X W e fe) (hbase : attributeBase e "values" X.env (eval e X.env) = eval e X.env := by rfl) (hline : (apos.endLine == cpos.line) = true := by rfl) : RI X W tg (.Call (.Attribute e "values" apos) [] [] cpos) (itDk (·.2) fe) := by
  refine pi_weak (pi_values h hbase hline) fun sg H R ⟨O, env, s, hE, hS, hP⟩ => ?_
  refine ⟨O, env, s, hE, hS, hP.split.imp (fun d s1 O1 H1 _ x1 q1 p1 v dv => ?_) fun _ _ _ _ _ _ z => z⟩
  obtain ⟨a, o, kvs, vs, rfl, l, pk, q⟩ := dk_lk q1 dv p1
  exact ⟨a, o, vs, rfl, l, q _ (wk_vals l pk)⟩
theorem ri_items {elts : List Expr} {kk : Nat} {tpos : Pos} (h : RE X W e fe) (hbase : attributeBase e "items" X.env (eval e X.env) = eval e X.env := by rfl) (hline : (apos.endLine == cpos.line) = true := by rfl) : RI X W (.Tuple elts kk tpos) (.Call (.Attribute e "items" apos) [] [] cpos) (itDk pairD fe) := by
  refine pi_weak (pi_items h hbase hline) fun sg H R ⟨O, env, s, hE, hS, hP⟩ => ?_
  refine ⟨O, env, s, hE, hS, hP.split.imp (fun d s1 O1 H1 _ x1 q1 p1 v dv => ?_) fun _ _ _ _ _ _ z => z⟩
  obtain ⟨a, o, kvs, vs, rfl, l, pk, q⟩ := dk_lk q1 dv p1
  exact ⟨a, o, vs, rfl, l, q _ (wk_items l pk)⟩
def itStay (fe : Rs → M D) : Rs → M (List D) := fun env => bnd (fe env) fun d s => match stayD s d with
  | some xs => .ok xs s
  | none => .bad
theorem ri_stay (h : RE X W e fe) : RI X W tg e (itStay fe) := by
  refine pi_weak (pi_list h) fun sg H R ⟨O, env, s, hE, hS, hP⟩ => ?_
  refine ⟨O, env, s, hE, hS, hP.split.imp (fun d s1 O1 H1 _ x1 q1 p1 v dv => ?_) fun _ _ _ _ _ _ z => z⟩
  cases e : stayD s1 d with
  | none => rw [e] at p1; exact p1.elim
  | some xs =>
    rw [e] at p1
    obtain ⟨a, vs, rfl, t, q⟩ := stayD_ok q1 dv e
    exact ⟨a, rfl, ⟨vs, q _ _ .refl⟩, Post.ret (show Post X.K X.mg O1 H1 (ret xs s1) _ _ from p1) q1 _ (wk_lstW q t)⟩
/-- a dict's keys, a list, a tuple, a text -/
def itAny (fe : Rs → M D) : Rs → M (List D) := fun env => bnd (fe env) fun d s => match dctD s d with
  | some (_, true, kvs) => .ok (kvs.map (·.1)) s
  | some _ => .bad
  | none => match d with
    | .tup xs => .ok xs s
    | .str x => .ok (sgD x) s
    | _ => match stayD s d with
      | some xs => .ok xs s
      | none => .bad
theorem ri_any (h : RE X W e fe) : RI X W tg e (itAny fe) := by
  refine ri_alt (f1 := itDk (·.1) fe) (f2 := fun env => bnd (fe env) fun d s => match d with
    | .tup xs => .ok xs s
    | .str x => .ok (sgD x) s
    | _ => match stayD s d with
      | some xs => .ok xs s
      | none => .bad) (ri_keys h) (ri_alt (f1 := itTup fe) (f2 := fun env => bnd (fe env) fun d s => match d with
    | .str x => .ok (sgD x) s
    | _ => match stayD s d with
      | some xs => .ok xs s
      | none => .bad) (ri_tup h) (ri_alt (f1 := itStr fe) (f2 := itStay fe) (ri_str h) (ri_stay h) fun env s => ?_) fun env s => ?_) fun env s => ?_
  · unfold itStr itStay bnd
    cases q : fe env s with
    | ok d s1 => cases d <;> first | exact .inl rfl | exact .inr rfl
    | _ => exact .inl rfl
  · unfold itTup bnd
    cases q : fe env s with
    | ok d s1 => cases d <;> first | exact .inl rfl | exact .inr rfl
    | _ => exact .inl rfl
  · unfold itAny itDk bnd
    cases q : fe env s with
    | ok d s1 =>
      dsimp only
      cases e : dctD s1 d with
      | none => exact .inr rfl
      | some x => obtain ⟨n, lk, kvs⟩ := x; cases lk <;> exact .inl rfl
    | _ => exact .inl rfl
end
end Md

set_option Elab.async false
set_option linter.all false
set_option maxRecDepth 100000
/-! Md13: methods of the built-in kinds. -/
namespace Md
open PySem PySem.Spec PyProof.Rows L2

inductive Kd where
  | str | lst | dct
abbrev Kd.ty : Kd → String
  | .str => "str"
  | .lst => "list"
  | .dct => "dict"
def kdD (s : S) : D → Option Kd
  | .str _ => some .str
  | .lst _ => some .lst
  | .wls _ => some .lst
  | .ref n => match s[n]? with
    | some (.lst _) => some .lst
    | some (.lok _) => some .lst
    | some (.dct _ _) => some .dct
    | _ => none
  | _ => none
theorem kd_lst {X : Cx} {pins : List (Addr × Obj)} {sg : L2.St} {H : Hp} {sh : Shared} {p : Addr} {vs : List V} (I : L2.Inv X pins sg H sh) (h : SqL X.K H p vs) : sh.TypeIs (.ref p) "list" ∧ ∀ a, Value.ref p = .ref a → ∃ ob, sh.heap.get? a = some ob ∧ ob.dict = none := by
  obtain ⟨its, _, pl, _⟩ := I.list h
  refine ⟨pl.isList.typeIs, fun a e => ?_⟩
  cases e
  obtain ⟨o, n, e, c, hd, _⟩ := pl
  exact ⟨o, e, hd⟩
theorem kdD_is {X : Cx} {pins : List (Addr × Obj)} {sg : L2.St} {H : Hp} {sh : Shared} {O : Ow} {s : S} {d : D} {v : V} {u : Value} {k : Kd} (I : L2.Inv X pins sg H sh) (r : RelS X.K X.mg O H s) (dv : DV X.K X.mg O H d v) (rv : RelV v u) (h : kdD s d = some k) :
    sh.TypeIs u k.ty ∧ ∀ a, u = .ref a → ∃ ob, sh.heap.get? a = some ob ∧ ob.dict = none := by
  cases dv with
  | str x =>
    injection h with h
    subst h
    obtain ⟨t, rfl⟩ := rv
    exact ⟨typeIs_str sh x t, fun _ e => nomatch e⟩
  | lst ta t => injection h with h; subst h; cases rv; exact kd_lst I ta.sq
  | wls ta t => injection h with h; subst h; cases rv; exact kd_lst I ta.sq
  | @ref n a ha =>
    cases rv
    have h : (match s[n]? with
      | some (.lst _) => some Kd.lst
      | some (.lok _) => some Kd.lst
      | some (.dct _ _) => some Kd.dct
      | _ => none) = some k := h
    cases e : s[n]? with
    | none => rw [e] at h; cases h
    | some ob =>
      rw [e] at h
      have q := r.obs n a ob ha e
      cases ob with
      | lst xs => injection h with h; subst h; obtain ⟨vs, eH, _⟩ := q; exact kd_lst I (.of eH)
      | lok xs => injection h with h; subst h; obtain ⟨o, vs, eH, _⟩ := q; exact kd_lst I (.inl (.inr ⟨o, eH⟩))
      | ins c fs => cases h
      | dct lk kvs =>
        injection h with h
        subst h
        obtain ⟨vs, l, _⟩ := q
        obtain ⟨t1, t2, _⟩ := isD_at I (.inl ⟨vs, l.rd⟩)
        exact ⟨t1, t2⟩
  | _ => cases h
/-- a method's plain form -/
def MtOk (K : PySem.W.Frag) (mg : Str → Option Value) (r : V → List V → Hp → VK → Prop) (g : D → List D → M D) : Prop := ∀ (O : Ow) (H : Hp) (s : S) (d : D) (v : V) (ds : List D) (vs : List V) (Q : VK) (X' : D → S → Ow → Hp → Prop),
  RelS K mg O H s → DV K mg O H d v → DVs K mg O H ds vs → Post K mg O H (g d ds s) (fun d _ O' H' => ∀ u, DV K mg O' H' d u → Q u H') X' → r v vs H Q
structure MthAt (X : Cx) (name : Str) (k : Kd) (g : D → List D → M D) : Prop where
  ex : ∃ id r, PlainAttrs k.ty ∧ Slot k.ty name id ∧ typeOf (.builtin id) = pure (.type "method_descriptor") ∧ MtR X id r ∧ MtOk X.K X.mg r g
abbrev MTb := Kd → Option (D → List D → M D)
def mthM (tb : MTb) (fo : Rs → M D) (fa : Rs → M (List D)) : Rs → M D := fun env => bnd (fo env) fun d s => match (kdD s d).bind tb with
  | some g => bnd (fa env) (fun ds => g d ds) s
  | none => .bad
section
variable {X : Cx} {W : WX} {o e : Expr} {es : List Expr} {fo : Rs → M D} {fa : Rs → M (List D)} {name : Str} {apos cpos : Pos} {tb : MTb}
theorem re_mth (F : ∀ k g, tb k = some g → MthAt X name k g) (ho : RE X W o fo) (ha : RA X W (e :: es) fa)
    (hbase : attributeBase o name X.env (eval o X.env) = eval o X.env := by rfl)
    (hfew : ((backTo cpos (starEach (e :: es) X.env)).all (fun x => !x.1) && (backToKw cpos (keywordEach [] X.env)).all (fun x => x.1.isSome)
      && decide ((e :: es).length + ([] : List Keyword).length + (if ([] : List Keyword).isEmpty then 0 else 1) < 30)) = true := by rfl)
    (hline : (apos.endLine == cpos.line) = true := by rfl) (hs : starEach (e :: es) X.env = (false, eval e X.env) :: starEach es X.env := by rfl) (hplain : (backTo cpos (starEach es X.env)).any (·.1) = false := by rfl) :
    RE X W (.Call (.Attribute o name apos) (e :: es) [] cpos) (mthM tb fo fa) := by
  refine ⟨fun pins s sg H Q I ⟨O, env, st, hE, hS, hP⟩ => ?_⟩
  refine wpAny_Call_method_late hbase hfew hline rfl (L2.thn (ho.run pins s sg H (fun x H1 => ∃ O1 s1 d, RelE X.K X.mg O1 H1 env sg ∧ RelS X.K X.mg O1 H1 s1 ∧ DV X.K X.mg O1 H1 d x ∧
    Post X.K X.mg O1 H1 ((match (kdD s1 d).bind tb with | some g => bnd (fa env) (fun ds => g d ds) s1 | none => .bad : Res D)) (fun d _ O' H' => ∀ v, DV X.K X.mg O' H' d v → Q v H') (XW X.K X.mg W sg)) I
    ⟨O, env, st, hE, hS, hP.split.imp (fun d s1 O1 H1 _ x1 q1 p1 v dv => ⟨O1, s1, d, hE.mono x1.toMono, q1, dv, p1⟩) fun _ _ _ _ _ _ z => z⟩) fun v s1 ⟨x, H1, I1, r1, O1, s2, d, hE1, q1, dv, p1⟩ => ?_)
  cases ek : kdD s2 d with
  | none => rw [ek] at p1; exact p1.elim
  | some k =>
    cases eg : tb k with
    | none => rw [ek] at p1; simp only [Option.bind_some, eg] at p1; exact p1.elim
    | some g =>
      rw [ek] at p1
      simp only [Option.bind_some, eg] at p1
      obtain ⟨id, r, pa, slot, hty, hm, ok⟩ := (F k g eg).ex
      obtain ⟨h1, h2⟩ := kdD_is I1 q1 dv r1 ek
      refine ⟨k.ty, id, pa, slot, hty, h1, h2, ?_⟩
      have hA := ha.run cpos pins s1 sg H1 (fun vs H2 => r x vs H2 Q) I1 ⟨O1, env, s2, hE1, q1, p1.split.imp (fun ds s3 O3 H3 _ x3 q3 p3 vs dvs => ok O3 H3 s3 d x ds vs Q _ q3 (dv.mono x3.toMono) dvs p3) fun _ _ _ _ _ _ z => z⟩
      rw [hs] at hA ⊢
      refine Calls.callWith_builtin (by show (false || (backTo cpos (starEach es X.env)).any (·.1)) = false; rw [hplain] <;> rfl) (Calls.evalArgs_plain ?_)
      exact L2.thn hA fun us s2 ⟨vs, H2, I2, r2, q2⟩ => hm pins s2 sg H2 x vs v us Q I2 r1 r2 q2
theorem re_mth0 (F : ∀ k g, tb k = some g → MthAt X name k g) (ho : RE X W o fo)
    (hbase : attributeBase o name X.env (eval o X.env) = eval o X.env := by rfl) (hline : (apos.endLine == cpos.line) = true := by rfl) : RE X W (.Call (.Attribute o name apos) [] [] cpos) (mthM tb fo aNil) := by
  refine ⟨fun pins s sg H Q I ⟨O, env, st, hE, hS, hP⟩ => ?_⟩
  refine wpAny_Call_method0_late hbase hline (L2.thn (ho.run pins s sg H (fun x H1 => ∃ O1 s1 d, RelE X.K X.mg O1 H1 env sg ∧ RelS X.K X.mg O1 H1 s1 ∧ DV X.K X.mg O1 H1 d x ∧
    Post X.K X.mg O1 H1 ((match (kdD s1 d).bind tb with | some g => g d [] s1 | none => .bad : Res D)) (fun d _ O' H' => ∀ v, DV X.K X.mg O' H' d v → Q v H') (XW X.K X.mg W sg)) I
    ⟨O, env, st, hE, hS, hP.split.imp (fun d s1 O1 H1 _ x1 q1 p1 v dv => ⟨O1, s1, d, hE.mono x1.toMono, q1, dv, p1⟩) fun _ _ _ _ _ _ z => z⟩) fun v s1 ⟨x, H1, I1, r1, O1, s2, d, hE1, q1, dv, p1⟩ => ?_)
  cases ek : kdD s2 d with
  | none => rw [ek] at p1; exact p1.elim
  | some k =>
    cases eg : tb k with
    | none => rw [ek] at p1; simp only [Option.bind_some, eg] at p1; exact p1.elim
    | some g =>
      rw [ek] at p1
      simp only [Option.bind_some, eg] at p1
      obtain ⟨id, r, pa, slot, hty, hm, ok⟩ := (F k g eg).ex
      obtain ⟨h1, h2⟩ := kdD_is I1 q1 dv r1 ek
      exact ⟨k.ty, id, pa, slot, hty, h1, h2, Calls.callWith_builtin rfl (PySem.evalArgs_none (hm pins s1 sg H1 x [] v [] Q I1 r1 .nil (ok O1 H1 s2 d x [] [] Q _ q1 dv .nil p1)))⟩
end

/-! ### a list, a dict of the store turns -/
def upL (f : List D → Option (D × List D)) : D → M D := fun d s => match d with
  | .ref n => match s[n]? with
    | some (.lst xs) => match f xs with
      | some (r, ys) => .ok r (s.set n (.lst ys))
      | none => .bad
    | _ => .bad
  | _ => .bad
def upK (f : List (D × D) → Option (D × List (D × D))) : D → M D := fun d s => match d with
  | .ref n => match s[n]? with
    | some (.dct false kvs) => match f kvs with
      | some (r, ys) => .ok r (s.set n (.dct false ys))
      | none => .bad
    | _ => .bad
  | _ => .bad
section
variable {K : PySem.W.Frag} {mg : Str → Option Value} {O : Ow} {H : Hp} {s : S} {d : D} {v : V} {Q : VK} {X' : D → S → Ow → Hp → Prop}
theorem upL_ok {f : List D → Option (D × List D)} (r : RelS K mg O H s) (dv : DV K mg O H d v) (h : Post K mg O H (upL f d s) (fun d _ O' H' => ∀ u, DV K mg O' H' d u → Q u H') X') :
    ∃ l xs vs e ys, v = .ref l ∧ H l = some (.lst vs) ∧ DVs K mg O H xs vs ∧ f xs = some (e, ys) ∧ ∀ w us, DV K mg O H e w → DVs K mg O H ys us → Q w (upd H l (.lst us)) := by
  cases dv with
  | @ref n a ha =>
    have h : Post K mg O H (match s[n]? with
      | some (.lst xs) => match f xs with
        | some (r, ys) => .ok r (s.set n (.lst ys))
        | none => .bad
      | _ => .bad) (fun d _ O' H' => ∀ u, DV K mg O' H' d u → Q u H') X' := h
    cases e : s[n]? with
    | none => rw [e] at h; exact h.elim
    | some ob =>
      rw [e] at h
      cases ob with
      | lst xs =>
        dsimp only at h
        obtain ⟨vs, eH, t⟩ := r.obs n a _ ha e
        cases ef : f xs with
        | none => rw [ef] at h; exact h.elim
        | some p =>
          obtain ⟨e1, ys⟩ := p
          rw [ef] at h
          refine ⟨a, xs, vs, e1, ys, rfl, eH, t, ef, fun w us dw du => ?_⟩
          obtain ⟨x1, q1⟩ := set_ob (o := .lst us) (b := .lst ys) r ha (fun x y z => by rw [eH] at z; cases z) fun m => ⟨us, upd_same, du.mono m⟩
          exact h _ _ x1 q1 w (dw.mono x1.toMono)
      | _ => exact h.elim
  | _ => exact h.elim
theorem upK_ok {f : List (D × D) → Option (D × List (D × D))} (r : RelS K mg O H s) (dv : DV K mg O H d v) (h : Post K mg O H (upK f d s) (fun d _ O' H' => ∀ u, DV K mg O' H' d u → Q u H') X') :
    ∃ l xs vs e ys, v = .ref l ∧ H l = some (.dK vs) ∧ PrK K mg O H xs vs ∧ f xs = some (e, ys) ∧ ∀ w us, DV K mg O H e w → PrK K mg O H ys us → Q w (upd H l (.dK us)) := by
  cases dv with
  | @ref n a ha =>
    have h : Post K mg O H (match s[n]? with
      | some (.dct false kvs) => match f kvs with
        | some (r, ys) => .ok r (s.set n (.dct false ys))
        | none => .bad
      | _ => .bad) (fun d _ O' H' => ∀ u, DV K mg O' H' d u → Q u H') X' := h
    cases e : s[n]? with
    | none => rw [e] at h; exact h.elim
    | some ob =>
      rw [e] at h
      cases ob with
      | dct lk xs =>
        cases lk with
        | true => exact h.elim
        | false =>
          dsimp only at h
          obtain ⟨vs, eH, t⟩ := r.obs n a _ ha e
          have eH : H a = some (.dK vs) := eH
          cases ef : f xs with
          | none => rw [ef] at h; exact h.elim
          | some p =>
            obtain ⟨e1, ys⟩ := p
            rw [ef] at h
            refine ⟨a, xs, vs, e1, ys, rfl, eH, t, ef, fun w us dw du => ?_⟩
            obtain ⟨x1, q1⟩ := set_ob (o := .dK us) (b := .dct false ys) r ha (fun x y z => by rw [eH] at z; cases z) fun m => ⟨us, upd_same, du.mono m⟩
            exact h _ _ x1 q1 w (dw.mono x1.toMono)
      | _ => exact h.elim
  | _ => exact h.elim
/-- one argument, two -/
theorem DVs.one {x : D} {vs : List V} (h : DVs K mg O H [x] vs) : ∃ v, vs = [v] ∧ DV K mg O H x v := by
  cases h with
  | cons a t => cases t; exact ⟨_, rfl, a⟩
theorem DVs.two {x y : D} {vs : List V} (h : DVs K mg O H [x, y] vs) : ∃ v w, vs = [v, w] ∧ DV K mg O H x v ∧ DV K mg O H y w := by
  cases h with
  | cons a t =>
    obtain ⟨w, rfl, b⟩ := DVs.one t
    exact ⟨_, w, rfl, a, b⟩
theorem DVs.none_ {vs : List V} (h : DVs K mg O H [] vs) : vs = [] := by cases h; rfl
theorem DVs.last : ∀ {ds : List D} {vs : List V}, DVs K mg O H ds vs → DVs K mg O H ds.dropLast vs.dropLast
  | _, _, .nil => .nil
  | _, _, .cons a .nil => .nil
  | _, _, .cons a (.cons b t) => .cons a (DVs.last (.cons b t))
theorem DVs.erase : ∀ {ds : List D} {vs : List V} (i : Nat), DVs K mg O H ds vs → DVs K mg O H (ds.eraseIdx i) (vs.eraseIdx i)
  | _, _, _, .nil => .nil
  | _, _, 0, .cons _ t => t
  | _, _, i + 1, .cons a t => .cons a (DVs.erase i t)
end

theorem upd_id {H : Hp} {a : Addr} {o : HO} (e : H a = some o) : upd H a o = H := by
  funext b
  by_cases h : b = a
  · rw [h, upd_same, e]
  · rw [upd_ne h]

/-! ### the lists' methods -/
def appF (x : D) (xs : List D) : Option (D × List D) := if xs.length < sizeLine then some (.non, xs ++ [x]) else none
def appG : D → List D → M D := fun d ds => match ds with
  | [x] => upL (appF x) d
  | _ => bad
def extG : D → List D → M D := fun d ds s => match ds with
  | [x] => match plnD s x with
    | some zs => upL (fun xs => if xs.length + zs.length ≤ sizeLine then some (.non, xs ++ zs) else none) d s
    | none => .bad
  | _ => .bad
def popF (xs : List D) : Option (D × List D) := (xs[xs.length - 1]?).map fun y => (y, xs.dropLast)
def popAtF (i : Int) (xs : List D) : Option (D × List D) := if -(2 ^ 62) ≤ i ∧ i < 2 ^ 62 then (match ixN xs.length i with
  | some k => (xs[k]?).map fun y => (y, xs.eraseIdx k)
  | none => none) else none
def popG : D → List D → M D := fun d ds => match ds with
  | [] => upL popF d
  | [.int i] => upL (popAtF i) d
  | _ => bad
def clrG : D → List D → M D := fun d ds => match ds with
  | [] => upL (fun _ => some (.non, [])) d
  | _ => bad
def revG : D → List D → M D := fun d ds => match ds with
  | [] => upL (fun xs => some (.non, xs.reverse)) d
  | _ => bad
def insF (i : Int) (x : D) (xs : List D) : Option (D × List D) := if 0 ≤ i ∧ i < 2 ^ 62 ∧ xs.length < sizeLine then some (.non, xs.take i.toNat ++ [x] ++ xs.drop i.toNat) else none
def insG : D → List D → M D := fun d ds => match ds with
  | [.int i, x] => upL (insF i x) d
  | _ => bad
section
variable {K : PySem.W.Frag} {mg : Str → Option Value}
theorem appG_ok : MtOk K mg rAppend appG := by
  intro O H s d v ds vs Q X' r dv dvs h
  unfold appG at h
  split at h
  · obtain ⟨w, rfl, dw⟩ := dvs.one
    obtain ⟨l, xs, us, e, ys, rfl, eH, t, ef, k⟩ := upL_ok r dv h
    unfold appF at ef
    by_cases hl : xs.length < sizeLine
    · rw [if_pos hl] at ef
      cases ef
      exact ⟨l, us, w, rfl, rfl, eH, by rw [← t.length]; exact hl, k _ _ .non (t.snoc dw)⟩
    · rw [if_neg hl] at ef; cases ef
  · exact h.elim
theorem extG_ok : MtOk K mg rExtend extG := by
  intro O H s d v ds vs Q X' r dv dvs h
  unfold extG at h
  split at h
  · rename_i x
    obtain ⟨w, rfl, dw⟩ := dvs.one
    cases e0 : plnD s x with
    | none => rw [e0] at h; exact h.elim
    | some zs =>
      rw [e0] at h
      obtain ⟨b, ws, rfl, eB, t2⟩ := plnD_ok r dw e0
      obtain ⟨l, xs, us, e, ys, rfl, eH, t, ef, k⟩ := upL_ok r dv h
      by_cases hl : xs.length + zs.length ≤ sizeLine
      · rw [if_pos hl] at ef
        cases ef
        exact ⟨l, b, us, ws, rfl, rfl, eH, eB, by rw [← t.length, ← t2.length]; exact hl, k _ _ .non (t.app t2)⟩
      · rw [if_neg hl] at ef; cases ef
  · exact h.elim
theorem popG_ok : MtOk K mg (fun x xs H Q => rPop x xs H Q ∨ rPopAt x xs H Q) popG := by
  intro O H s d v ds vs Q X' r dv dvs h
  unfold popG at h
  split at h
  · have e0 := dvs.none_
    subst e0
    obtain ⟨l, xs, us, e, ys, rfl, eH, t, ef, k⟩ := upL_ok r dv h
    unfold popF at ef
    cases e1 : xs[xs.length - 1]? with
    | none => rw [e1] at ef; cases ef
    | some y =>
      rw [e1] at ef
      cases ef
      obtain ⟨u, eu, du⟩ := t.at_ e1
      exact .inl ⟨l, us, u, rfl, rfl, eH, by rw [← t.length]; exact eu, k _ _ du t.last⟩
  · rename_i i
    obtain ⟨w, rfl, dw⟩ := dvs.one
    cases dw
    obtain ⟨l, xs, us, e, ys, rfl, eH, t, ef, k⟩ := upL_ok r dv h
    unfold popAtF at ef
    by_cases hb : -(2 ^ 62) ≤ i ∧ i < 2 ^ 62
    · rw [if_pos hb] at ef
      cases e1 : ixN xs.length i with
      | none => rw [e1] at ef; cases ef
      | some j =>
        rw [e1] at ef
        dsimp only at ef
        cases e2 : xs[j]? with
        | none => rw [e2] at ef; cases ef
        | some y =>
          rw [e2] at ef
          cases ef
          obtain ⟨u, eu, du⟩ := t.at_ e2
          obtain ⟨h1, h2, h3, h4⟩ := ixN_seq e1
          exact .inr ⟨l, us, i, j, u, rfl, rfl, eH, by omega, by omega, by rw [← t.length]; exact h1, eu, k _ _ du (t.erase j)⟩
    · rw [if_neg hb] at ef; cases ef
  · exact h.elim
theorem clrG_ok : MtOk K mg rClear clrG := by
  intro O H s d v ds vs Q X' r dv dvs h
  unfold clrG at h
  split at h
  · have e0 := dvs.none_
    subst e0
    obtain ⟨l, xs, us, e, ys, rfl, eH, t, ef, k⟩ := upL_ok r dv h
    cases ef
    exact ⟨l, us, rfl, rfl, eH, k _ _ .non .nil⟩
  · exact h.elim
theorem revG_ok : MtOk K mg rReverse revG := by
  intro O H s d v ds vs Q X' r dv dvs h
  unfold revG at h
  split at h
  · have e0 := dvs.none_
    subst e0
    obtain ⟨l, xs, us, e, ys, rfl, eH, t, ef, k⟩ := upL_ok r dv h
    cases ef
    exact ⟨l, us, rfl, rfl, eH, k _ _ .non t.rev⟩
  · exact h.elim
theorem insG_ok : MtOk K mg (fun x vs H Q => ∃ (l : Addr) (xs : List V) (i : Int) (y : V), x = .ref l ∧ vs = [.int i, y] ∧ H l = some (.lst xs) ∧ xs.length < sizeLine ∧ 0 ≤ i ∧ i < 2 ^ 63 ∧
    Q .non (upd H l (.lst (xs.take i.toNat ++ [y] ++ xs.drop i.toNat)))) insG := by
  intro O H s d v ds vs Q X' r dv dvs h
  unfold insG at h
  split at h
  · rename_i i x
    obtain ⟨w0, w, rfl, di, dw⟩ := dvs.two
    cases di
    obtain ⟨l, xs, us, e, ys, rfl, eH, t, ef, k⟩ := upL_ok r dv h
    unfold insF at ef
    by_cases hb : 0 ≤ i ∧ i < 2 ^ 62 ∧ xs.length < sizeLine
    · rw [if_pos hb] at ef
      cases ef
      exact ⟨l, us, i, w, rfl, rfl, eH, by rw [← t.length]; exact hb.2.2, hb.1, by omega, k _ _ .non (((t.take _).app (.cons dw .nil)).app (t.drop _))⟩
    · rw [if_neg hb] at ef; cases ef
  · exact h.elim
end

/-! ### the dicts' methods -/
def getG : D → List D → M D := fun d ds s => match dctD s d, ds with
  | some (_, _, kvs), [k] => match keyD k with
    | some q => .ok ((lookD kvs q).getD .non) s
    | none => .bad
  | some (_, _, kvs), [k, z] => match keyD k with
    | some q => .ok ((lookD kvs q).getD z) s
    | none => .bad
  | _, _ => .bad
def rDGetM : V → List V → Hp → VK → Prop := fun x xs H Q => ∃ a y o, x = .ref a ∧ DGet H a y o ∧ ((xs = [y] ∧ Q (o.getD .non) H) ∨ ∃ z, xs = [y, z] ∧ Q (o.getD z) H)
theorem mt_dget {X : Cx} (hu : X.A.units + 64 < cLine) : MtR X "dict.get" rDGetM := by
  intro pins s sg H x xs v us Q I rx rs ⟨a, y, o, ex, g, q⟩
  subst ex
  obtain rfl : v = .ref a := rx
  rcases q with ⟨rfl, q⟩ | ⟨z, rfl, q⟩
  · obtain ⟨u, rfl, ru⟩ := rs.one
    exact d_get1 (by omega) I g ru fun w' s' I' rw' => ⟨_, H, I', rw', q⟩
  · obtain ⟨u, u2, rfl, ru, r2⟩ := rs.two
    exact d_get2 (by omega) I g ru r2 fun w' s' I' rw' => ⟨_, H, I', rw', q⟩
def dpopG : D → List D → M D := fun d ds => match ds with
  | [k] => match keyD k with
    | some q => upK (fun kvs => (lookD kvs q).map fun v => (v, dropD q kvs)) d
    | none => bad
  | [k, z] => match keyD k with
    | some q => upK (fun kvs => match lookD kvs q with
      | some v => some (v, dropD q kvs)
      | none => some (z, kvs)) d
    | none => bad
  | _ => bad
def rDPopM : V → List V → Hp → VK → Prop := fun x xs H Q => ∃ a kvs k, x = .ref a ∧ H a = some (.dK kvs) ∧ ((xs = [kV k] ∧ ∃ v, valV kvs k = some v ∧ Q v (upd H a (.dK (dropK kvs k)))) ∨
  ∃ z, xs = [kV k, z] ∧ (∀ v, valV kvs k = some v → Q v (upd H a (.dK (dropK kvs k)))) ∧ (valV kvs k = none → Q z H))
theorem mt_dpop {X : Cx} : MtR X "dict.pop" rDPopM := by
  intro pins s sg H x xs v us Q I rx rs ⟨a, kvs, k, ex, eH, q⟩
  subst ex
  obtain rfl : v = .ref a := rx
  rcases q with ⟨rfl, v, l, q⟩ | ⟨z, rfl, q1, q2⟩
  · obtain ⟨u, rfl, ru⟩ := rs.one
    exact d_pop I eH ru l (.inl rfl) fun w' s' I' rw' => ⟨v, _, I', rw', q⟩
  · obtain ⟨u, u2, rfl, ru, r2⟩ := rs.two
    cases l : valV kvs k with
    | some v => exact d_pop I eH ru l (.inr ⟨u2, rfl⟩) fun w' s' I' rw' => ⟨v, _, I', rw', q1 v l⟩
    | none => exact d_popD I eH ru l fun s' I' => ⟨z, H, I', r2, q2 l⟩
def setdG : D → List D → M D := fun d ds => match ds with
  | [k, z] => match keyD k with
    | some q => upK (fun kvs => if kvs.length < sizeLine then (match lookD kvs q with
      | some v => some (v, kvs)
      | none => some (z, putD kvs k q z)) else none) d
    | none => bad
  | _ => bad
def rDSetdM : V → List V → Hp → VK → Prop := fun x xs H Q => ∃ a kvs k z, x = .ref a ∧ H a = some (.dK kvs) ∧ xs = [kV k, z] ∧ kvs.length < sizeLine ∧ (∀ v, valV kvs k = some v → Q v H) ∧ (valV kvs k = none → Q z (upd H a (.dK (putK kvs k z))))
theorem mt_dsetd {X : Cx} : MtR X "dict.setdefault" rDSetdM := by
  intro pins s sg H x xs v us Q I rx rs ⟨a, kvs, k, z, ex, eH, exs, hl, q1, q2⟩
  subst ex exs
  obtain rfl : v = .ref a := rx
  obtain ⟨u, u2, rfl, ru, r2⟩ := rs.two
  exact d_setd I eH ru r2 hl (fun v l w' s' I' rw' => ⟨v, H, I', rw', q1 v l⟩) fun l w' s' I' rw' => ⟨z, _, I', rw', q2 l⟩
def dclrG : D → List D → M D := fun d ds => match ds with
  | [] => upK (fun _ => some (.non, [])) d
  | _ => bad
def rDClrM : V → List V → Hp → VK → Prop := fun x xs H Q => ∃ a kvs, x = .ref a ∧ H a = some (.dK kvs) ∧ xs = [] ∧ Q .non (upd H a (.dK []))
theorem mt_dclr {X : Cx} : MtR X "dict.clear" rDClrM := by
  intro pins s sg H x xs v us Q I rx rs ⟨a, kvs, ex, eH, exs, q⟩
  subst ex exs
  obtain rfl : v = .ref a := rx
  have e0 := rs.zero
  subst e0
  exact d_clear I eH fun s' I' => ⟨.non, _, I', rfl, q⟩
def refN : D → Option Nat
  | .ref n => some n
  | _ => none
def updG : D → List D → M D := fun d ds s => match ds with
  | [e] => match dctD s e with
    | some (m, _, more) => match d with
      | .ref n => if n ≠ m then upK (fun kvs => if kvs.length + more.length ≤ sizeLine then (mergeD kvs more).map fun r => (D.non, r) else none) d s else .bad
      | _ => .bad
    | none => .bad
  | _ => .bad
def rDUpdM : V → List V → Hp → VK → Prop := fun x xs H Q => ∃ a b kvs more, x = .ref a ∧ xs = [.ref b] ∧ a ≠ b ∧ H a = some (.dK kvs) ∧ Rd H b (.dK more) ∧ kvs.length + more.length ≤ sizeLine ∧ Q .non (upd H a (.dK (mergeK kvs more)))
theorem mt_dupd {X : Cx} : MtR X "dict.update" rDUpdM := by
  intro pins s sg H x xs v us Q I rx rs ⟨a, b, kvs, more, ex, exs, ne, eH, eB, hl, q⟩
  subst ex exs
  obtain rfl : v = .ref a := rx
  obtain ⟨u, rfl, ru⟩ := rs.one
  obtain rfl : u = .ref b := ru
  obtain ⟨z1, hd1, vs1, rel1, dd1⟩ := dk_of I.hok eH
  obtain ⟨z2, hd2, vs2, rel2, dd2⟩ := dk_rd I.hok eB
  refine call_meetsIn PySem.F.slot_dict_update dd1.typeIs PySem.F.entry_dict_update (PySem.F.args_dict_update_2 _ _) (meets_dict_update (mixKind X.prog X.w) a b ne hd2) ⟨vs1, vs2, dd1, dd2, by rw [← rel1.length, ← rel2.length]; exact hl, fun h' d1 d2 hs => ?_⟩
  have hl2 : (mergeK kvs more).length ≤ sizeLine := Nat.le_trans (length_mergeK more kvs) hl
  have he : ∃ q, h'.get? a = some q := let ⟨q, _, _, hq, _⟩ := d1; ⟨q, hq⟩
  exact ⟨.non, _, d_write (t' := _) I (by rw [eH]; exact True.intro) hs he (dk_new hl2 hd1 (rel2.merge rel1) d1), rfl, q⟩
section
variable {K : PySem.W.Frag} {mg : Str → Option Value}
theorem getG_ok : MtOk K mg rDGetM getG := by
  intro O H s d v ds vs Q X' r dv dvs h
  unfold getG at h
  split at h
  · rename_i n lk kvs k e1
    obtain ⟨w, rfl, dw⟩ := dvs.one
    cases e2 : keyD k with
    | none => rw [e2] at h; exact h.elim
    | some q =>
      rw [e2] at h
      obtain ⟨a, o, rfl, g, c⟩ := dct_get r dv dw e1 e2
      have h2 : Post K mg O H (ret ((lookD kvs q).getD .non) s) (fun d _ O' H' => ∀ u, DV K mg O' H' d u → Q u H') X' := h
      refine ⟨a, w, o, rfl, g, .inl ⟨rfl, ?_⟩⟩
      rcases c with ⟨c1, c2⟩ | ⟨x, y, c1, c2, xy⟩
      · rw [c1] at h2; rw [c2]; exact h2.ret r _ .non
      · rw [c1] at h2; rw [c2]; exact h2.ret r _ xy
  · rename_i n lk kvs k z e1
    obtain ⟨w, w2, rfl, dw, dz⟩ := dvs.two
    cases e2 : keyD k with
    | none => rw [e2] at h; exact h.elim
    | some q =>
      rw [e2] at h
      obtain ⟨a, o, rfl, g, c⟩ := dct_get r dv dw e1 e2
      have h2 : Post K mg O H (ret ((lookD kvs q).getD z) s) (fun d _ O' H' => ∀ u, DV K mg O' H' d u → Q u H') X' := h
      refine ⟨a, w, o, rfl, g, .inr ⟨w2, rfl, ?_⟩⟩
      rcases c with ⟨c1, c2⟩ | ⟨x, y, c1, c2, xy⟩
      · rw [c1] at h2; rw [c2]; exact h2.ret r _ dz
      · rw [c1] at h2; rw [c2]; exact h2.ret r _ xy
  · exact h.elim
theorem dpopG_ok : MtOk K mg rDPopM dpopG := by
  intro O H s d v ds vs Q X' r dv dvs h
  unfold dpopG at h
  split at h
  · rename_i k
    obtain ⟨w, rfl, dw⟩ := dvs.one
    cases e2 : keyD k with
    | none => rw [e2] at h; exact h.elim
    | some q =>
      rw [e2] at h
      have ek := keyV dw e2
      subst ek
      obtain ⟨l, xs, us, e, ys, rfl, eH, t, ef, kk⟩ := upK_ok r dv h
      refine ⟨l, us, q, rfl, eH, .inl ⟨rfl, ?_⟩⟩
      rcases t.look (q := q) with ⟨c1, c2⟩ | ⟨x, y, c1, c2, xy⟩
      · rw [c1] at ef; cases ef
      · rw [c1] at ef
        cases ef
        exact ⟨y, c2, kk _ _ xy t.drop⟩
  · rename_i k z
    obtain ⟨w, w2, rfl, dw, dz⟩ := dvs.two
    cases e2 : keyD k with
    | none => rw [e2] at h; exact h.elim
    | some q =>
      rw [e2] at h
      have ek := keyV dw e2
      subst ek
      obtain ⟨l, xs, us, e, ys, rfl, eH, t, ef, kk⟩ := upK_ok r dv h
      refine ⟨l, us, q, rfl, eH, .inr ⟨w2, rfl, ?_⟩⟩
      rcases t.look (q := q) with ⟨c1, c2⟩ | ⟨x, y, c1, c2, xy⟩
      · rw [c1] at ef
        cases ef
        refine ⟨fun v z => (by rw [c2] at z; cases z), fun _ => ?_⟩
        have k2 := kk _ us dz t
        rw [upd_id eH] at k2
        exact k2
      · rw [c1] at ef
        cases ef
        exact ⟨fun v z => (by rw [c2] at z; cases z; exact kk _ _ xy t.drop), fun z => (by rw [c2] at z; cases z)⟩
  · exact h.elim
theorem setdG_ok : MtOk K mg rDSetdM setdG := by
  intro O H s d v ds vs Q X' r dv dvs h
  unfold setdG at h
  split at h
  · rename_i k z
    obtain ⟨w, w2, rfl, dw, dz⟩ := dvs.two
    cases e2 : keyD k with
    | none => rw [e2] at h; exact h.elim
    | some q =>
      rw [e2] at h
      have ek := keyV dw e2
      subst ek
      obtain ⟨l, xs, us, e, ys, rfl, eH, t, ef, kk⟩ := upK_ok r dv h
      by_cases hl : xs.length < sizeLine
      · rw [if_pos hl] at ef
        refine ⟨l, us, q, w2, rfl, eH, rfl, by rw [← t.length]; exact hl, ?_⟩
        rcases t.look (q := q) with ⟨c1, c2⟩ | ⟨x, y, c1, c2, xy⟩
        · rw [c1] at ef
          cases ef
          exact ⟨fun v z => (by rw [c2] at z; cases z), fun _ => kk _ _ dz (t.put e2 dz)⟩
        · rw [c1] at ef
          cases ef
          refine ⟨fun v z => ?_, fun z => by rw [c2] at z; cases z⟩
          rw [c2] at z
          cases z
          have k2 := kk _ us xy t
          rw [upd_id eH] at k2
          exact k2
      · rw [if_neg hl] at ef; cases ef
  · exact h.elim
theorem dclrG_ok : MtOk K mg rDClrM dclrG := by
  intro O H s d v ds vs Q X' r dv dvs h
  unfold dclrG at h
  split at h
  · have e0 := dvs.none_
    subst e0
    obtain ⟨l, xs, us, e, ys, rfl, eH, t, ef, k⟩ := upK_ok r dv h
    cases ef
    exact ⟨l, us, rfl, eH, rfl, k _ _ .non .nil⟩
  · exact h.elim
theorem updG_ok : MtOk K mg rDUpdM updG := by
  intro O H s d v ds vs Q X' r dv dvs h
  unfold updG at h
  split at h
  · rename_i e
    obtain ⟨w, rfl, dw⟩ := dvs.one
    cases e1 : dctD s e with
    | none => rw [e1] at h; exact h.elim
    | some p =>
      obtain ⟨m, lk, more⟩ := p
      rw [e1] at h
      obtain ⟨b, ws, rfl, rfl, hb, es, l, pk⟩ := dctD_ok r dw e1
      cases d with
      | ref n =>
        have h2 : Post K mg O H (if n ≠ m then upK (fun kvs => if kvs.length + more.length ≤ sizeLine then (mergeD kvs more).map fun r => (D.non, r) else none) (.ref n) s else .bad) (fun d _ O' H' => ∀ u, DV K mg O' H' d u → Q u H') X' := h
        by_cases hn : n ≠ m
        · rw [if_pos hn] at h2
          cases dv with
          | @ref _ a ha =>
            obtain ⟨a', xs, us, e, ys, ea, eH, t, ef, kk⟩ := upK_ok r (.ref ha) h2
            cases ea
            by_cases hl : xs.length + more.length ≤ sizeLine
            · rw [if_pos hl] at ef
              cases em : mergeD xs more with
              | none => rw [em] at ef; cases ef
              | some rr =>
                rw [em] at ef
                cases ef
                obtain ⟨kvs, ew, pm⟩ := PrK.merge pk.raw t em
                have ew2 : ws = kvs := by
                  clear pm kk em
                  have key : ∀ (xs ys : List (Key × V)), (xs.map fun kv => (kV kv.1, kv.2)) = (ys.map fun kv => (kV kv.1, kv.2)) → xs = ys := by
                    intro xs
                    induction xs with
                    | nil => intro ys e; cases ys with
                      | nil => rfl
                      | cons y ys => cases e
                    | cons x xs ih => intro ys e; cases ys with
                      | nil => cases e
                      | cons y ys =>
                        rw [List.map_cons, List.map_cons] at e
                        injection e with e1 e2
                        injection e1 with e3 e4
                        have e5 := kV_inj e3
                        obtain ⟨x1, x2⟩ := x
                        obtain ⟨y1, y2⟩ := y
                        cases e4
                        cases e5
                        rw [ih ys e2]
                  exact key ws kvs ew
                subst ew2
                refine ⟨a, b, us, ws, rfl, rfl, ?_, eH, l.rd, by rw [← t.length, ← pk.length]; exact hl, kk _ _ .non pm⟩
                rintro rfl
                obtain ⟨h1, h2'⟩ := List.getElem?_eq_some_iff.mp ha
                obtain ⟨h3, h4⟩ := List.getElem?_eq_some_iff.mp hb
                exact hn ((List.getElem_inj r.nd).mp (h2'.trans h4.symm))
            · rw [if_neg hl] at ef; cases ef
        · rw [if_neg hn] at h2; exact h2.elim
      | _ => exact h.elim
  · exact h.elim
end

/-! ### by name -/
section
variable {X : Cx} {k : Kd} {g : D → List D → M D}
def tbAppend : MTb
  | .lst => some appG
  | _ => none
theorem at_append (e : tbAppend k = some g) : MthAt X "append" k g := by
  cases k with
  | lst => cases e; exact ⟨_, _, F.plainAttrs_list, F.slot_list_append, F.type_list_append, mt_append, appG_ok⟩
  | _ => cases e
def tbExtend : MTb
  | .lst => some extG
  | _ => none
theorem at_extend (e : tbExtend k = some g) : MthAt X "extend" k g := by
  cases k with
  | lst => cases e; exact ⟨_, _, F.plainAttrs_list, F.slot_list_extend, F.type_list_extend, mt_extend, extG_ok⟩
  | _ => cases e
def tbPop : MTb
  | .lst => some popG
  | .dct => some dpopG
  | _ => none
theorem at_pop (e : tbPop k = some g) : MthAt X "pop" k g := by
  cases k with
  | lst => cases e; exact ⟨_, _, F.plainAttrs_list, F.slot_list_pop, F.type_list_pop, MtR.or mt_pop mt_popAt, popG_ok⟩
  | dct => cases e; exact ⟨_, _, F.plainAttrs_dict, F.slot_dict_pop, F.type_dict_pop, mt_dpop, dpopG_ok⟩
  | _ => cases e
def tbClear : MTb
  | .lst => some clrG
  | .dct => some dclrG
  | _ => none
theorem at_clear (e : tbClear k = some g) : MthAt X "clear" k g := by
  cases k with
  | lst => cases e; exact ⟨_, _, F.plainAttrs_list, F.slot_list_clear, F.type_list_clear, mt_clear, clrG_ok⟩
  | dct => cases e; exact ⟨_, _, F.plainAttrs_dict, F.slot_dict_clear, F.type_dict_clear, mt_dclr, dclrG_ok⟩
  | _ => cases e
def tbReverse : MTb
  | .lst => some revG
  | _ => none
theorem at_reverse (e : tbReverse k = some g) : MthAt X "reverse" k g := by
  cases k with
  | lst => cases e; exact ⟨_, _, F.plainAttrs_list, F.slot_list_reverse, F.type_list_reverse, mt_reverse, revG_ok⟩
  | _ => cases e
def tbInsert : MTb
  | .lst => some insG
  | _ => none
theorem at_insert (e : tbInsert k = some g) : MthAt X "insert" k g := by
  cases k with
  | lst => cases e; exact ⟨_, _, F.plainAttrs_list, F.slot_list_insert, F.type_list_insert, mt_insert, insG_ok⟩
  | _ => cases e
def tbGet : MTb
  | .dct => some getG
  | _ => none
theorem at_get (hu : X.A.units + 64 < cLine) (e : tbGet k = some g) : MthAt X "get" k g := by
  cases k with
  | dct => cases e; exact ⟨_, _, F.plainAttrs_dict, F.slot_dict_get, F.type_dict_get, mt_dget hu, getG_ok⟩
  | _ => cases e
def tbSetd : MTb
  | .dct => some setdG
  | _ => none
theorem at_setd (e : tbSetd k = some g) : MthAt X "setdefault" k g := by
  cases k with
  | dct => cases e; exact ⟨_, _, F.plainAttrs_dict, F.slot_dict_setdefault, F.type_dict_setdefault, mt_dsetd, setdG_ok⟩
  | _ => cases e
def tbUpdate : MTb
  | .dct => some updG
  | _ => none
theorem at_update (e : tbUpdate k = some g) : MthAt X "update" k g := by
  cases k with
  | dct => cases e; exact ⟨_, _, F.plainAttrs_dict, F.slot_dict_update, F.type_dict_update, mt_dupd, updG_ok⟩
  | _ => cases e
end
end Md

set_option Elab.async false
set_option linter.all false
set_option maxRecDepth 100000
/-! Md14: == and != of what holds dicts: tuples, lists, dicts, item by item. -/
namespace Md
open PySem PySem.Spec PyProof.Rows L2
open AutoSeq1 (wpAny_loadPart')
open MeetsSeq MeetsSeq2 MeetsSeq3 SeqRoads2 SeqAt

/-! ### two tuples, two lists, by what their items answer -/
section
variable {P : Program} {w : World}
/-- the first so many places all alike -/
abbrev allTo (n : Nat) (f : Nat → Bool) : Bool := (List.range n).all f
theorem drop_range {n i : Nat} (h : i < n) : (List.range n).drop i = i :: (List.range n).drop (i + 1) := by
  rw [List.drop_eq_getElem_cons (by simpa using h)]
  simp
theorem zip_at {xs ys : Array Value} {x y : Value} {r : List (Value × Value)} {i : Nat} (e : (y, x) :: r = (xs.toList.zip ys.toList).drop i) :
    ∃ (h1 : i < xs.size) (h2 : i < ys.size), y = xs[i] ∧ x = ys[i] ∧ r = (xs.toList.zip ys.toList).drop (i + 1) := by
  have hl : i < (xs.toList.zip ys.toList).length := by
    rcases Nat.lt_or_ge i (xs.toList.zip ys.toList).length with z | z
    · exact z
    · rw [List.drop_of_length_le z] at e
      cases e
  have hz : (xs.toList.zip ys.toList).length = min xs.size ys.size := by simp
  rw [List.drop_eq_getElem_cons (h := hl)] at e
  injection e with e1 e2
  have a1 : y = _ := congrArg Prod.fst e1
  have a2 : x = _ := congrArg Prod.snd e1
  exact ⟨by omega, by omega, by simpa using a1, by simpa using a2, e2⟩
/-- one way or the other: == or != -/
def tupId : Bool → String
  | true => "tuple.__eq__"
  | false => "tuple.__ne__"
theorem tup_eqB (p q : Addr) (xs ys : Array Value) (c c2 : Nat) (da db : Option Addr) (sa sb : Array (Option Value)) (f : Nat → Bool) :
    MeetsIn P w (Builtin.«tuple.__eq__» ⟨[.ref p, .ref q], []⟩) (fun A R s =>
      s.heap.get? p = some { cls := .type "tuple", dict := da, data := .seq xs c, slots := sa } ∧ s.heap.get? q = some { cls := .type "tuple", dict := db, data := .seq ys c2, slots := sb } ∧
      (∀ j (h1 : j < xs.size) (h2 : j < ys.size), EqP P w A.in1 s xs[j] ys[j] (f j)) ∧
      R (.ok (.ret (.bool (allTo (min xs.size ys.size) f && xs.size == ys.size)))) s) :=
  .of_wp fun A R s ⟨hp, hq, he, h⟩ => by
    obtain ⟨hh, gg, dr, tk, os⟩ := s
    have sub2 := AutoSeq1.sub_tuple_tuple
    have hz : (xs.toList.zip ys.toList).length = min xs.size ys.size := by simp
    wp_walk using wpAny_loadPart' hp, wpAny_loadPart' hq, wpAny_forIn_list _ (fun rest o s' => o.1 = none ∧ s' = ⟨hh, gg, dr, tk, os⟩ ∧ ∃ i, rest = (xs.toList.zip ys.toList).drop i ∧
      R (.ok (.ret (.bool (((List.range (min xs.size ys.size)).drop i).all f && xs.size == ys.size)))) ⟨hh, gg, dr, tk, os⟩) _
    case turn =>
      rintro ⟨y, x⟩ rest o s' ⟨ho, rfl, i, ez, hR⟩
      obtain ⟨h1, h2, rfl, rfl, er⟩ := zip_at ez
      rw [drop_range (by omega : i < min xs.size ys.size), List.all_cons] at hR
      refine wpAny_bind (he i h1 h2 _ _ ?_)
      cases hf : f i with
      | true => rw [hf] at hR; wp_walk; exact ⟨rfl, rfl, i + 1, er, by simpa using hR⟩
      | false => rw [hf] at hR; wp_walk; exact ⟨_, rfl, by simpa using hR⟩
    case fin =>
      rintro ⟨o1, o2⟩ s' ⟨ho, rfl, i, ez, hR⟩
      dsimp only at ho
      subst ho
      have hi : min xs.size ys.size ≤ i := by
        have z := congrArg List.length ez
        rw [List.length_drop, hz] at z
        simp at z
        omega
      rw [List.drop_of_length_le (by simpa using hi)] at hR
      wp_walk
      exact ⟨_, rfl, by simpa [Builtin.Tuple.tupleCompareSizes] using hR⟩
    case h => exact ⟨rfl, rfl, 0, rfl, by simpa using h⟩
theorem tup_neB (p q : Addr) (xs ys : Array Value) (c c2 : Nat) (da db : Option Addr) (sa sb : Array (Option Value)) (f : Nat → Bool) :
    MeetsIn P w (Builtin.«tuple.__ne__» ⟨[.ref p, .ref q], []⟩) (fun A R s =>
      s.heap.get? p = some { cls := .type "tuple", dict := da, data := .seq xs c, slots := sa } ∧ s.heap.get? q = some { cls := .type "tuple", dict := db, data := .seq ys c2, slots := sb } ∧
      (∀ j (h1 : j < xs.size) (h2 : j < ys.size), EqP P w A.in1 s xs[j] ys[j] (f j)) ∧
      R (.ok (.ret (.bool (!(allTo (min xs.size ys.size) f && xs.size == ys.size))))) s) :=
  .of_wp fun A R s ⟨hp, hq, he, h⟩ => by
    obtain ⟨hh, gg, dr, tk, os⟩ := s
    have sub2 := AutoSeq1.sub_tuple_tuple
    have hz : (xs.toList.zip ys.toList).length = min xs.size ys.size := by simp
    wp_walk using wpAny_loadPart' hp, wpAny_loadPart' hq, wpAny_forIn_list _ (fun rest o s' => o.1 = none ∧ s' = ⟨hh, gg, dr, tk, os⟩ ∧ ∃ i, rest = (xs.toList.zip ys.toList).drop i ∧
      R (.ok (.ret (.bool (!(((List.range (min xs.size ys.size)).drop i).all f && xs.size == ys.size))))) ⟨hh, gg, dr, tk, os⟩) _
    case turn =>
      rintro ⟨y, x⟩ rest o s' ⟨ho, rfl, i, ez, hR⟩
      obtain ⟨h1, h2, rfl, rfl, er⟩ := zip_at ez
      rw [drop_range (by omega : i < min xs.size ys.size), List.all_cons] at hR
      refine wpAny_bind (he i h1 h2 _ _ ?_)
      cases hf : f i with
      | true => rw [hf] at hR; wp_walk; exact ⟨rfl, rfl, i + 1, er, by simpa using hR⟩
      | false => rw [hf] at hR; wp_walk; exact ⟨_, rfl, by simpa using hR⟩
    case fin =>
      rintro ⟨o1, o2⟩ s' ⟨ho, rfl, i, ez, hR⟩
      dsimp only at ho
      subst ho
      have hi : min xs.size ys.size ≤ i := by
        have z := congrArg List.length ez
        rw [List.length_drop, hz] at z
        simp at z
        omega
      rw [List.drop_of_length_le (by simpa using hi)] at hR
      wp_walk
      exact ⟨_, rfl, by simpa [Builtin.Tuple.tupleCompareSizes, bne] using hR⟩
    case h => exact ⟨rfl, rfl, 0, rfl, by simpa using h⟩
theorem rc_tupB {A : Around} {s : Shared} {p q : Addr} {xs ys : Array Value} {f : Nat → Bool} (hp : s.heap.IsTuple p xs) (hq : s.heap.IsTuple q ys) (hu : A.units < cLine)
    (he : ∀ j (h1 : j < xs.size) (h2 : j < ys.size), EqP P w A.in1 s xs[j] ys[j] (f j)) (E Q : Value → Shared → Prop) :
    (Q (.bool (allTo (min xs.size ys.size) f && xs.size == ys.size)) s → wpAny (model P w) A (richCompare .Eq (.ref p) (.ref q)) Q E s) ∧
    (Q (.bool (!(allTo (min xs.size ys.size) f && xs.size == ys.size))) s → wpAny (model P w) A (richCompare .NotEq (.ref p) (.ref q)) Q E s) := by
  obtain ⟨⟨c1, da, dt1, sa⟩, o1, e1, n1, f1⟩ := id hp
  obtain ⟨⟨c2, db, dt2, sb⟩, o2, e2, n2, f2⟩ := id hq
  simp only at e1 f1 e2 f2
  subst e1 f1 e2 f2
  have t1 : s.TypeIs (.ref p) "tuple" := ⟨_, o1, rfl⟩
  have t2 : s.TypeIs (.ref q) "tuple" := ⟨_, o2, rfl⟩
  refine ⟨fun h => ?_, fun h => ?_⟩
  · exact wpAny_richCompare_same_room (op := .Eq) t1 t2 F.slot_tuple_eq (call_meetsIn F.slot_tuple_eq t1 F.entry_tuple_eq (F.args_tuple_eq_2 _ _) (tup_eqB p q xs ys n1 n2 da db sa sb f) ⟨o1, o2, he, (fun x => nomatch x), h⟩) hu
  · exact wpAny_richCompare_same_room (op := .NotEq) t1 t2 F.slot_tuple_ne (call_meetsIn F.slot_tuple_ne t1 F.entry_tuple_ne (F.args_tuple_ne_2 _ _) (tup_neB p q xs ys n1 n2 da db sa sb f) ⟨o1, o2, he, (fun x => nomatch x), h⟩) hu
theorem lst_neLoop (p q : Addr) (xs ys : Array Value) (c c2 : Nat) (da db : Option Addr) (sa sb : Array (Option Value)) (hs : xs.size = ys.size) (f : Nat → Bool) (k : Nat) :
    ∀ i : Nat, xs.size - i = k → MeetsIn P w (Builtin.«list.__eq__.loop» ⟨[.ref p, .ref q, rawInt i, rawInt 3], []⟩) (fun A R s =>
      s.heap.get? p = some { cls := .type "list", dict := da, data := .seq xs c, slots := sa } ∧ s.heap.get? q = some { cls := .type "list", dict := db, data := .seq ys c2, slots := sb } ∧
      (∀ j (h1 : j < xs.size) (h2 : j < ys.size), EqP P w A.in1 s xs[j] ys[j] (f j)) ∧ R (.ok (.ret (.bool (!((List.range xs.size).drop i).all f)))) s) := by
  induction k with
  | zero =>
    intro i hk A R s ⟨hp, hq, he, h⟩
    obtain ⟨hh, gg, dr, tk, os⟩ := s
    wp_walk using wpAny_loadPart' hp, wpAny_loadPart' hq
    have n1 : xs[((i : Nat) : Int).toNat]? = none := by simp; omega
    have n2 : ys[((i : Nat) : Int).toNat]? = none := by simp; omega
    rw [show (List.range xs.size).drop i = [] by simp; omega] at h
    rw [n1, n2]
    wp_walk using wpAny_loadPart' hp, wpAny_loadPart' hq
    show R (.ok (.ret (.bool (xs.size != ys.size)))) _
    rw [hs]
    simpa using h
  | succ k ih =>
    intro i hk A R s ⟨hp, hq, he, h⟩
    obtain ⟨hh, gg, dr, tk, os⟩ := s
    wp_walk using wpAny_loadPart' hp, wpAny_loadPart' hq
    have l1 : i < xs.size := by omega
    have l2 : i < ys.size := by omega
    have n1 : xs[((i : Nat) : Int).toNat]? = some xs[i] := by simp [l1]
    have n2 : ys[((i : Nat) : Int).toNat]? = some ys[i] := by simp [l2]
    rw [drop_range l1, List.all_cons] at h
    rw [n1, n2]
    refine wpAny_bind (he i l1 l2 _ _ ?_)
    cases hf : f i with
    | true =>
      rw [hf] at h
      wp_walk
      rw [show ((i : Int) + 1) = ((i + 1 : Nat) : Int) by push_cast; rfl]
      refine ⟨plainId_quiet plain_eq_loop _, codeAny_builtin entry_eq_loop ?_⟩
      rw [Around.under_plainId plain_eq_loop _]
      exact ih (i + 1) (by omega) A R _ ⟨hp, hq, he, by simpa using h⟩
    | false =>
      rw [hf] at h
      wp_walk using wpAny_loadPart' hp, wpAny_loadPart' hq
      rw [n1, n2]
      wp_walk
      simpa using h
theorem lst_neB (p q : Addr) (xs ys : Array Value) (c c2 : Nat) (da db : Option Addr) (sa sb : Array (Option Value)) (hs : xs.size = ys.size) (f : Nat → Bool) :
    MeetsIn P w (Builtin.«list.__ne__» ⟨[.ref p, .ref q], []⟩) (fun A R s =>
      s.heap.get? p = some { cls := .type "list", dict := da, data := .seq xs c, slots := sa } ∧ s.heap.get? q = some { cls := .type "list", dict := db, data := .seq ys c2, slots := sb } ∧
      (∀ j (h1 : j < xs.size) (h2 : j < ys.size), EqP P w A.in1 s xs[j] ys[j] (f j)) ∧ R (.ok (.ret (.bool (!allTo xs.size f)))) s) := by
  intro A R s ⟨hp, hq, he, h⟩
  obtain ⟨hh, gg, dr, tk, os⟩ := s
  have sub3 := AutoSeq1.sub_list_list
  have same : ¬ (xs.size != ys.size) = true := by simp [hs]
  wp_walk using wpAny_loadPart' hp, wpAny_loadPart' hq
  refine ⟨plainId_quiet plain_eq_loop _, codeAny_builtin entry_eq_loop ?_⟩
  rw [Around.under_plainId plain_eq_loop _]
  exact lst_neLoop p q xs ys c c2 da db sa sb hs f _ 0 rfl A R _ ⟨hp, hq, he, by simpa using h⟩
theorem rc_lstB {A : Around} {s : Shared} {p q : Addr} {xs ys : Array Value} {f : Nat → Bool} (hp : s.heap.IsList p xs) (hq : s.heap.IsList q ys) (hs : xs.size = ys.size) (hu : A.units < cLine)
    (he : ∀ j (h1 : j < xs.size) (h2 : j < ys.size), EqP P w A.in1 s xs[j] ys[j] (f j)) (E Q : Value → Shared → Prop) :
    (Q (.bool (allTo xs.size f)) s → wpAny (model P w) A (richCompare .Eq (.ref p) (.ref q)) Q E s) ∧ (Q (.bool (!allTo xs.size f)) s → wpAny (model P w) A (richCompare .NotEq (.ref p) (.ref q)) Q E s) := by
  refine ⟨fun h => rcP_lists hp hq hs hu he E Q h, fun h => ?_⟩
  obtain ⟨⟨c1, da, dt1, sa⟩, o1, e1, n1, f1⟩ := id hp
  obtain ⟨⟨c2, db, dt2, sb⟩, o2, e2, n2, f2⟩ := id hq
  simp only at e1 f1 e2 f2
  subst e1 f1 e2 f2
  have t1 : s.TypeIs (.ref p) "list" := ⟨_, o1, rfl⟩
  have t2 : s.TypeIs (.ref q) "list" := ⟨_, o2, rfl⟩
  exact wpAny_richCompare_same_room (op := .NotEq) t1 t2 F.slot_list_ne (call_meetsIn F.slot_list_ne t1 F.entry_list_ne (F.args_list_ne_2 _ _) (lst_neB p q xs ys n1 n2 da db sa sb hs f) ⟨o1, o2, he, (fun x => nomatch x), h⟩) hu
theorem rc_dctB {κ : Type} [DecidableEq κ] {knd : KeyKind P w κ} {A : Around} {s : Shared} {p q : Addr} {ka kb : List (κ × Value)} {r : Bool} (hp : (p == sysModules) = false) (hq : (q == sysModules) = false)
    (da : s.heap.DictOf knd p ka) (db : s.heap.DictOf knd q kb) (hu : A.units < cLine) (hits : ka.length = kb.length → PySem.W.KeqHitsP P w A.in1 s kb ka r) (E Q : Value → Shared → Prop) :
    (Q (.bool (ka.length == kb.length && r)) s → wpAny (model P w) A (richCompare .Eq (.ref p) (.ref q)) Q E s) ∧ (Q (.bool (!(ka.length == kb.length && r))) s → wpAny (model P w) A (richCompare .NotEq (.ref p) (.ref q)) Q E s) := by
  refine ⟨fun h => PySem.W.rcP_dicts hp hq da db hu hits E Q h, fun h => ?_⟩
  refine wpAny_richCompare_same_room (op := .NotEq) da.typeIs db.typeIs PySem.F.slot_dict_ne (wpAny_call_entry PySem.F.slot_dict_ne da.typeIs PySem.F.entry_dict_ne ?_ (PySem.F.args_dict_ne_2 _ _)) hu
  refine wpAny_bind (m := Builtin.Dict.dictSlotArgs "__ne__" ⟨[.ref p, .ref q], []⟩) ?_
  unfold Builtin.Dict.dictSlotArgs
  refine wpAny_bind (wpAny_notOrdered_dict da.typeIs (wpAny_pure (a := (Value.ref p, Value.ref q)) ?_))
  refine wpAny_bind (wpAny_isInstance (T := "dict") db.typeIs PySem.F.sub_dict_dict ?_)
  simp only [Bool.not_true, Bool.false_eq_true, if_false]
  refine wpAny_bind (wpAny_pure (wpAny_bind (wpAny_pure (wpAny_bind (PySem.W.samePairsP hp hq da db hits (wpAny_pure ⟨_, rfl, (fun x => nomatch x), ?_⟩))))))
  simpa using h
end
end Md

set_option Elab.async false
set_option linter.all false
set_option maxRecDepth 100000
/-! Md15: == and != of anything that holds data, lists, tuples, dicts. -/
namespace Md
open PySem PySem.Spec PyProof.Rows L2
open SeqAt (EqP)

def eqAllF (f : D → D → Option Bool) : List D → List D → Option Bool
  | x :: xs, y :: ys => match f x y, eqAllF f xs ys with
    | some p, some q => some (p && q)
    | _, _ => none
  | _, _ => some true
def eqKvF (f : D → D → Option Bool) (ls : List (D × D)) : List (D × D) → Option Bool
  | [] => some true
  | kv :: r => match keyD kv.1 with
    | none => none
    | some q => match lookD ls q with
      | none => some false
      | some u => match f kv.2 u, eqKvF f ls r with
        | some e, some b => some (e && b)
        | _, _ => none
def stepD (s : S) (f : D → D → Option Bool) (a b : D) : Option Bool := match dctD s a, dctD s b with
  | some (_, _, ks), some (_, _, ls) => if ks.length = ls.length then eqKvF f ls ks else some false
  | none, none => match tupD a, tupD b with
    | some xs, some ys => (eqAllF f xs ys).map fun b => b && xs.length == ys.length
    | _, _ => match lstD s a, lstD s b with
      | some xs, some ys => if xs.length = ys.length then eqAllF f xs ys else none
      | _, _ => none
  | _, _ => none
def sameR : D → D → Bool
  | .ref n, .ref m => n == m
  | _, _ => false
def eqN (s : S) : Nat → D → D → Option Bool
  | 0, _, _ => none
  | n + 1, a, b => match toPy s 20 a, toPy s 20 b with
    | some x, some y => some (PyData.eqv x y)
    | _, _ => if sameR a b = true then some true else stepD s (eqN s n) a b
def eqTop (s : S) (a b : D) : Option Bool := match toPy s 20 a, toPy s 20 b with
  | some x, some y => some (PyData.eqv x y)
  | _, _ => stepD s (eqN s 30) a b

/-! ### lists, item by item -/
def itF (f : D → D → Option Bool) (xs ys : List D) (j : Nat) : Bool := match xs[j]?, ys[j]? with
  | some x, some y => (f x y).getD true
  | _, _ => true
theorem range_all_succ (n : Nat) (g : Nat → Bool) : (List.range (n + 1)).all g = (g 0 && (List.range n).all fun j => g (j + 1)) := by
  rw [List.range_succ_eq_map, List.all_cons, List.all_map]
  rfl
theorem eqAllF_all {f : D → D → Option Bool} : ∀ {xs ys : List D} {k : Bool}, eqAllF f xs ys = some k → k = (List.range (min xs.length ys.length)).all (itF f xs ys)
  | [], ys, k, h => by
    have h : some true = some k := by simpa [eqAllF] using h
    injection h with h
    subst h
    simp
  | x :: xs, [], k, h => by
    have h : some true = some k := by simpa [eqAllF] using h
    injection h with h
    subst h
    simp
  | x :: xs, y :: ys, k, h => by
    unfold eqAllF at h
    cases e1 : f x y with
    | none => rw [e1] at h; cases h
    | some p =>
      cases e2 : eqAllF f xs ys with
      | none => rw [e1, e2] at h; cases h
      | some q =>
        rw [e1, e2] at h
        injection h with h
        subst h
        have ih := eqAllF_all e2
        have em : min (x :: xs).length (y :: ys).length = min xs.length ys.length + 1 := by simp only [List.length_cons]; omega
        rw [em, range_all_succ, ih]
        have e0 : itF f (x :: xs) (y :: ys) 0 = p := by
          show (f x y).getD true = p
          rw [e1]; rfl
        rw [e0]
        congr 1
theorem eqAllF_at {f : D → D → Option Bool} : ∀ {xs ys : List D} {k : Bool}, eqAllF f xs ys = some k → ∀ {j : Nat} {x y : D}, xs[j]? = some x → ys[j]? = some y → f x y = some (itF f xs ys j)
  | [], ys, k, h, j, x, y, e1, e2 => by simp at e1
  | x0 :: xs, [], k, h, j, x, y, e1, e2 => by simp at e2
  | x0 :: xs, y0 :: ys, k, h, j, x, y, e1, e2 => by
    unfold eqAllF at h
    cases q1 : f x0 y0 with
    | none => rw [q1] at h; cases h
    | some p =>
      cases q2 : eqAllF f xs ys with
      | none => rw [q1, q2] at h; cases h
      | some q =>
        cases j with
        | zero =>
          have z1 : x0 = x := Option.some.inj e1
          have z2 : y0 = y := Option.some.inj e2
          subst z1 z2
          show f x0 y0 = some ((f x0 y0).getD true)
          rw [q1]; rfl
        | succ j =>
          have e1' : xs[j]? = some x := e1
          have e2' : ys[j]? = some y := e2
          exact eqAllF_at q2 e1' e2'
section
variable {X : Cx} {pins : List (Addr × Obj)} {sg : L2.St} {O : Ow} {H : Hp} {sh : Shared} {s : S}
theorem sqT_one (I : L2.Inv X pins sg H sh) {p : Addr} {xs ys : List V} (h1 : SqT X.K H p xs) (h2 : SqT X.K H p ys) : xs = ys := by
  obtain ⟨i1, r1, ⟨o1, e1, _, n1, d1⟩, _⟩ := I.tuple h1
  obtain ⟨i2, r2, ⟨o2, e2, _, n2, d2⟩, _⟩ := I.tuple h2
  rw [e1] at e2
  cases e2
  rw [d1] at d2
  injection d2 with d2 _
  have e3 : i1 = i2 := by simpa using d2
  subst e3
  exact Vals.inj r1 r2
theorem sqL_one (I : L2.Inv X pins sg H sh) {p : Addr} {xs ys : List V} (h1 : SqL X.K H p xs) (h2 : SqL X.K H p ys) : xs = ys := by
  obtain ⟨i1, r1, ⟨o1, n1, e1, _, _, d1⟩, _⟩ := I.list h1
  obtain ⟨i2, r2, ⟨o2, n2, e2, _, _, d2⟩, _⟩ := I.list h2
  rw [e1] at e2
  cases e2
  rw [d1] at d2
  injection d2 with d2 _
  have e3 : i1 = i2 := by simpa using d2
  subst e3
  exact Vals.inj r1 r2
/-- what stands at one place, read twice, is alike -/
theorem all_same {f : D → D → Option Bool} (ih : ∀ a b x v k, f a b = some k → DV X.K X.mg O H a x → DV X.K X.mg O H b x → RelV x v → k = true) : ∀ {xs ys : List D} {vs : List V} {us : List Value} {k : Bool}, DVs X.K X.mg O H xs vs → DVs X.K X.mg O H ys vs → Vals vs us → eqAllF f xs ys = some k → k = true
  | _, _, _, _, k, .nil, .nil, _, h => by
    have h : some true = some k := h
    injection h with h
    exact h.symm
  | _, _, _, _, k, .cons (d := x) (ds := xs) a t, .cons (d := y) (ds := ys) b u, .cons r q, h => by
    unfold eqAllF at h
    cases q1 : f x y with
    | none => rw [q1] at h; cases h
    | some p =>
      cases q2 : eqAllF f xs ys with
      | none => rw [q1, q2] at h; cases h
      | some z =>
        rw [q1, q2] at h
        injection h with h
        subst h
        rw [ih _ _ _ _ _ q1 a b r, all_same ih t u q q2]
        rfl
theorem eqN_same (I : L2.Inv X pins sg H sh) (r : RelS X.K X.mg O H s) : ∀ (n : Nat) (a b : D) (x : V) (v : Value) (k : Bool), eqN s n a b = some k → DV X.K X.mg O H a x → DV X.K X.mg O H b x → RelV x v → k = true := by
  intro n
  induction n with
  | zero => intro a b x v k h; cases h
  | succ n ih =>
    intro a b x v k h da db rv
    unfold eqN at h
    have rest : (if sameR a b = true then some true else stepD s (eqN s n) a b) = some k → k = true := fun h => by
      by_cases hs : sameR a b = true
      · rw [if_pos hs] at h
        injection h with h
        exact h.symm
      · rw [if_neg hs] at h
        unfold stepD at h
        cases ea : dctD s a with
        | some ka =>
          obtain ⟨na, la, ks⟩ := ka
          cases eb : dctD s b with
          | none => rw [ea, eb] at h; cases h
          | some kb =>
            obtain ⟨nb, lb, ls⟩ := kb
            obtain ⟨p, vs, rfl, rfl, ha, _⟩ := dctD_ok r da ea
            obtain ⟨q, ws, rfl, e, hb, _⟩ := dctD_ok r db eb
            cases e
            have e2 : na = nb := by
              obtain ⟨h1, h2⟩ := List.getElem?_eq_some_iff.mp ha
              obtain ⟨h3, h4⟩ := List.getElem?_eq_some_iff.mp hb
              exact (List.getElem_inj r.nd).mp (h2.trans h4.symm)
            subst e2
            exact absurd (by simp [sameR]) hs
        | none =>
          cases eb : dctD s b with
          | some kb => rw [ea, eb] at h; cases h
          | none =>
            rw [ea, eb] at h
            dsimp only at h
            have lst : (match lstD s a, lstD s b with
              | some xs, some ys => if xs.length = ys.length then eqAllF (eqN s n) xs ys else none
              | _, _ => none) = some k → k = true := fun h => by
              cases e1 : lstD s a with
              | none => rw [e1] at h; cases h
              | some xs =>
                cases e2 : lstD s b with
                | none => rw [e1, e2] at h; cases h
                | some ys =>
                  rw [e1, e2] at h
                  dsimp only at h
                  by_cases hl : xs.length = ys.length
                  · rw [if_pos hl] at h
                    obtain ⟨p, vs, rfl, s1, t1⟩ := lstD_ok r da e1
                    obtain ⟨q, ws, e, s2, t2⟩ := lstD_ok r db e2
                    cases e
                    have ev := sqL_one I s1 s2
                    subst ev
                    obtain ⟨us, rr, _⟩ := I.list s1
                    exact all_same (ih := ih) t1 t2 rr h
                  · rw [if_neg hl] at h; cases h
            cases e1 : tupD a with
            | none => rw [e1] at h; exact lst h
            | some xs =>
              cases e2 : tupD b with
              | none => rw [e1, e2] at h; exact lst h
              | some ys =>
                rw [e1, e2] at h
                dsimp only at h
                obtain ⟨p, vs, rfl, s1, t1⟩ := tupD_ok da e1
                obtain ⟨q, ws, e, s2, t2⟩ := tupD_ok db e2
                cases e
                have ev := sqT_one I s1 s2
                subst ev
                obtain ⟨us, rr, _⟩ := I.tuple s1
                cases e3 : eqAllF (eqN s n) xs ys with
                | none => rw [e3] at h; cases h
                | some z =>
                  rw [e3] at h
                  injection h with h
                  rw [← h, all_same (ih := ih) t1 t2 rr e3, t1.length, t2.length]
                  simp
    cases e1 : toPy s 20 a with
    | none => rw [e1] at h; exact rest h
    | some px =>
      cases e2 : toPy s 20 b with
      | none => rw [e1, e2] at h; exact rest h
      | some py =>
        rw [e1, e2] at h
        injection h with h
        obtain ⟨as, ra⟩ := reads_of I (rdv_of r 20 a x px da e1) rv
        obtain ⟨bs, rb⟩ := reads_of I (rdv_of r 20 b x py db e2) rv
        obtain ⟨e3, _⟩ := PySem.Reads.unique ra py bs rb
        subst e3
        rw [← h]
        exact PySem.SeqAt.eqv_refl px (toPy_shape s 20 a px e1).1
theorem hits_of {P : Program} {w : World} {A : Around} {K : PySem.W.Frag} {mg : Str → Option Value} {f : D → D → Option Bool} (ih : ∀ a b x y v u k, f a b = some k → DV K mg O H a x → DV K mg O H b y → RelV x v → RelV y u → EqP P w A sh v u k)
    {ls : List (D × D)} {lv : List (Key × V)} {lu : List (Key × Value)} (tl : PrK K mg O H ls lv) (kl : KV lv lu) : ∀ {ks : List (D × D)} {kv : List (Key × V)} {ku : List (Key × Value)} {k : Bool}, PrK K mg O H ks kv → KV kv ku → eqKvF f ls ks = some k → PySem.W.KeqHitsP P w A sh lu ku k
  | _, _, _, k, .nil, .nil, h => by
    have h : some true = some k := h
    injection h with h
    subst h
    exact .nil
  | _, _, _, k, .cons (k := d) (q := q) (d := x) (v := v) (fs := r) e dx t, .cons (b := qu) hh tt, h => by
    obtain ⟨q2, u⟩ := qu
    obtain ⟨e0, ru⟩ := hh
    have e0 : q = q2 := e0
    subst e0
    unfold eqKvF at h
    rw [e] at h
    dsimp only at h
    have vl := kl.val q
    rcases tl.look (q := q) with ⟨c1, c2⟩ | ⟨y, yv, c1, c2, dy⟩
    · rw [c1] at h
      injection h with h
      subst h
      rw [c2] at vl
      exact .miss (RelO.none_of vl)
    · rw [c1] at h
      dsimp only at h
      rw [c2] at vl
      obtain ⟨z, ez, rz⟩ := vl.some_of
      cases q1 : f x y with
      | none => rw [q1] at h; cases h
      | some e1 =>
        cases q2 : eqKvF f ls r with
        | none => rw [q1, q2] at h; cases h
        | some b1 =>
          rw [q1, q2] at h
          injection h with h
          subst h
          exact .hit ez (ih _ _ _ _ _ _ _ q1 dx dy ru rz) (hits_of ih tl kl t tt q2)
theorem items_eq {P : Program} {w : World} {A : Around} {K : PySem.W.Frag} {mg : Str → Option Value} {f : D → D → Option Bool} (ih : ∀ a b x y v u k, f a b = some k → DV K mg O H a x → DV K mg O H b y → RelV x v → RelV y u → EqP P w A sh v u k)
    {xs ys : List D} {vs ws : List V} {us zs : List Value} {k : Bool} (t1 : DVs K mg O H xs vs) (t2 : DVs K mg O H ys ws) (r1 : Vals vs us) (r2 : Vals ws zs) (h : eqAllF f xs ys = some k) :
    ∀ j (h1 : j < us.toArray.size) (h2 : j < zs.toArray.size), EqP P w A sh us.toArray[j] zs.toArray[j] (itF f xs ys j) := by
  intro j h1 h2
  have l1 : xs.length = us.toArray.size := by rw [t1.length, r1.length, List.size_toArray]
  have l2 : ys.length = zs.toArray.size := by rw [t2.length, r2.length, List.size_toArray]
  obtain ⟨x, ex⟩ := at_lt (xs := xs) (i := j) (by omega)
  obtain ⟨y, ey⟩ := at_lt (xs := ys) (i := j) (by omega)
  obtain ⟨v, ev, dv⟩ := t1.at_ ex
  obtain ⟨w2, ew, dw⟩ := t2.at_ ey
  obtain ⟨u, eu, ru⟩ := r1.get ev
  obtain ⟨z, ez, rz⟩ := r2.get ew
  have e1 : us.toArray[j] = u := by
    have q := (List.getElem?_eq_some_iff.mp eu).2
    simpa using q
  have e2 : zs.toArray[j] = z := by
    have q := (List.getElem?_eq_some_iff.mp ez).2
    simpa using q
  rw [e1, e2]
  exact ih x y v w2 u z _ (eqAllF_at h ex ey) dv dw ru rz
theorem step_rc (I : L2.Inv X pins sg H sh) (r : RelS X.K X.mg O H s) {A : Around} (hu : A.units < cLine) {f : D → D → Option Bool} (ih : ∀ a b x y v u k, f a b = some k → DV X.K X.mg O H a x → DV X.K X.mg O H b y → RelV x v → RelV y u → EqP X.prog X.w A.in1 sh v u k)
    {a b : D} {x y : V} {v u : Value} {k : Bool} (h : stepD s f a b = some k) (da : DV X.K X.mg O H a x) (db : DV X.K X.mg O H b y) (rx : RelV x v) (ry : RelV y u) :
    ∃ p q, v = .ref p ∧ u = .ref q ∧ x = .ref p ∧ y = .ref q ∧ ∀ E Q, (Q (.bool k) sh → wpAny (model X.prog X.w) A (richCompare .Eq v u) Q E sh) ∧ (Q (.bool (!k)) sh → wpAny (model X.prog X.w) A (richCompare .NotEq v u) Q E sh) := by
  unfold stepD at h
  cases ea : dctD s a with
  | some ka =>
    obtain ⟨na, la, ks⟩ := ka
    cases eb : dctD s b with
    | none => rw [ea, eb] at h; cases h
    | some kb =>
      obtain ⟨nb, lb, ls⟩ := kb
      rw [ea, eb] at h
      dsimp only at h
      obtain ⟨p, vs, rfl, rfl, ha, _, k1, t1⟩ := dctD_ok r da ea
      obtain ⟨q, ws, rfl, rfl, hb, _, k2, t2⟩ := dctD_ok r db eb
      cases rx
      cases ry
      obtain ⟨_, hd1, v1, rel1, dd1⟩ := dk_rd I.hok k1.rd
      obtain ⟨_, hd2, v2, rel2, dd2⟩ := dk_rd I.hok k2.rd
      refine ⟨p, q, rfl, rfl, rfl, rfl, fun E Q => ?_⟩
      have l1 : ks.length = v1.length := by rw [t1.length, rel1.length]
      have l2 : ls.length = v2.length := by rw [t2.length, rel2.length]
      by_cases hl : ks.length = ls.length
      · rw [if_pos hl] at h
        have z := rc_dctB (r := k) hd1 hd2 dd1 dd2 hu (fun _ => hits_of ih t2 rel2 t1 rel1 h) E Q
        rw [show (v1.length == v2.length && k) = k by rw [← l1, ← l2, hl]; simp] at z
        exact z
      · rw [if_neg hl] at h
        injection h with h
        subst h
        have z := rc_dctB (r := true) hd1 hd2 dd1 dd2 hu (fun e => absurd (by rw [l1, l2]; exact e) hl) E Q
        rw [show (v1.length == v2.length && true) = false by
          rw [Bool.and_true, ← l1, ← l2]
          exact beq_eq_false_iff_ne.mpr hl] at z
        exact z
  | none =>
    cases eb : dctD s b with
    | some kb => rw [ea, eb] at h; cases h
    | none =>
      rw [ea, eb] at h
      dsimp only at h
      have lst : (match lstD s a, lstD s b with
        | some xs, some ys => if xs.length = ys.length then eqAllF f xs ys else none
        | _, _ => none) = some k → ∃ p q, v = .ref p ∧ u = .ref q ∧ x = .ref p ∧ y = .ref q ∧ ∀ E Q, (Q (.bool k) sh → wpAny (model X.prog X.w) A (richCompare .Eq v u) Q E sh) ∧ (Q (.bool (!k)) sh → wpAny (model X.prog X.w) A (richCompare .NotEq v u) Q E sh) := fun h => by
        cases e1 : lstD s a with
        | none => rw [e1] at h; cases h
        | some xs =>
          cases e2 : lstD s b with
          | none => rw [e1, e2] at h; cases h
          | some ys =>
            rw [e1, e2] at h
            dsimp only at h
            by_cases hl : xs.length = ys.length
            · rw [if_pos hl] at h
              obtain ⟨p, vs, rfl, s1, t1⟩ := lstD_ok r da e1
              obtain ⟨q, ws, rfl, s2, t2⟩ := lstD_ok r db e2
              cases rx
              cases ry
              obtain ⟨us, r1, p1, _⟩ := I.list s1
              obtain ⟨zs, r2, p2, _⟩ := I.list s2
              have l1 : xs.length = us.length := by rw [t1.length, r1.length]
              have l2 : ys.length = zs.length := by rw [t2.length, r2.length]
              refine ⟨p, q, rfl, rfl, rfl, rfl, fun E Q => ?_⟩
              have z := rc_lstB (f := itF f xs ys) p1.isList p2.isList (by rw [List.size_toArray, List.size_toArray]; omega) hu (items_eq ih t1 t2 r1 r2 h) E Q
              have e3 := eqAllF_all h
              rw [hl, Nat.min_self, l2] at e3
              rw [show allTo us.toArray.size (itF f xs ys) = k by
                rw [e3, List.size_toArray, ← l1, hl, l2]] at z
              exact z
            · rw [if_neg hl] at h; cases h
      cases e1 : tupD a with
      | none => rw [e1] at h; exact lst h
      | some xs =>
        cases e2 : tupD b with
        | none => rw [e1, e2] at h; exact lst h
        | some ys =>
          rw [e1, e2] at h
          dsimp only at h
          cases e3 : eqAllF f xs ys with
          | none => rw [e3] at h; cases h
          | some k1 =>
            rw [e3] at h
            injection h with h
            obtain ⟨p, vs, rfl, s1, t1⟩ := tupD_ok da e1
            obtain ⟨q, ws, rfl, s2, t2⟩ := tupD_ok db e2
            cases rx
            cases ry
            obtain ⟨us, r1, p1, _⟩ := I.tuple s1
            obtain ⟨zs, r2, p2, _⟩ := I.tuple s2
            have l1 : xs.length = us.toArray.size := by rw [t1.length, r1.length, List.size_toArray]
            have l2 : ys.length = zs.toArray.size := by rw [t2.length, r2.length, List.size_toArray]
            refine ⟨p, q, rfl, rfl, rfl, rfl, fun E Q => ?_⟩
            have z := rc_tupB (f := itF f xs ys) p1 p2 hu (items_eq ih t1 t2 r1 r2 e3) E Q
            have e4 := eqAllF_all e3
            rw [l1, l2] at e4 h
            rw [show (allTo (min us.toArray.size zs.toArray.size) (itF f xs ys) && us.toArray.size == zs.toArray.size) = k by rw [← h, e4]] at z
            exact z
theorem eqN_run (I : L2.Inv X pins sg H sh) (r : RelS X.K X.mg O H s) : ∀ (n : Nat) (A : Around), A.units + n + 30 < cLine → ∀ (a b : D) (x y : V) (v u : Value) (k : Bool), eqN s n a b = some k → DV X.K X.mg O H a x → DV X.K X.mg O H b y → RelV x v → RelV y u → EqP X.prog X.w A sh v u k := by
  intro n
  induction n with
  | zero => intro A hu a b x y v u k h; cases h
  | succ n ih =>
    intro A hu a b x y v u k h da db rx ry
    have h0 := h
    unfold eqN at h
    have rest : (if sameR a b = true then some true else stepD s (eqN s n) a b) = some k → EqP X.prog X.w A sh v u k := fun h => by
      by_cases hs : sameR a b = true
      · rw [if_pos hs] at h
        injection h with h
        subst h
        cases a with
        | ref i =>
          cases b with
          | ref j =>
            have e : i = j := by simpa [sameR] using hs
            subst e
            cases da with
            | ref ha =>
              cases db with
              | ref hb =>
                rw [ha] at hb
                cases hb
                cases rx
                cases ry
                exact (SeqAt.EqAt.same _).eqP
          | _ => cases hs
        | _ => cases b <;> cases hs
      · rw [if_neg hs] at h
        obtain ⟨p, q, rfl, rfl, rfl, rfl, st⟩ := step_rc I r (A := A) (by omega) (ih A.in1 (by show A.units + 1 + n + 30 < cLine; omega)) h da db rx ry
        by_cases hpq : p = q
        · subst hpq
          rw [eqN_same I r (n + 1) a b _ _ k h0 da db rx]
          exact (SeqAt.EqAt.same _).eqP
        · exact SeqAt.eqP_refs hpq fun E Q hq => (st E Q).1 hq
    cases e1 : toPy s 20 a with
    | none => rw [e1] at h; exact rest h
    | some px =>
      cases e2 : toPy s 20 b with
      | none => rw [e1, e2] at h; exact rest h
      | some py =>
        rw [e1, e2] at h
        injection h with h
        subst h
        obtain ⟨as, ra⟩ := reads_of I (rdv_of r 20 a x px da e1) rx
        obtain ⟨bs, rb⟩ := reads_of I (rdv_of r 20 b y py db e2) ry
        have s1 := toPy_shape s 20 a px e1
        have s2 := toPy_shape s 20 b py e2
        exact fun E Q hq => PySem.SeqAt.eqAt_reads px py A sh v u as bs ra rb s1.1 s2.1 (by omega) X.prog X.w E Q hq
end
/-! ### as operators -/
def rEqX (K : PySem.W.Frag) (mg : Str → Option Value) (f : Bool → Bool) : R2 := fun x y H Q => ∃ O s a b k, RelS K mg O H s ∧ DV K mg O H a x ∧ DV K mg O H b y ∧ eqTop s a b = some k ∧ Q (.bl (f k)) H
def eqX (f : Bool → Bool) : D → D → M D := fun a b s => match eqTop s a b with
  | some k => .ok (.bl (f k)) s
  | none => .bad
theorem eqX_ok {K : PySem.W.Frag} {mg : Str → Option Value} (f : Bool → Bool) : OpOk K mg (rEqX K mg f) (eqX f) := by
  intro O H s d1 d2 v w Q X' r dv dw h
  unfold eqX at h
  cases e : eqTop s d1 d2 with
  | none => rw [e] at h; exact h.elim
  | some k =>
    rw [e] at h
    have h : Post K mg O H (ret (D.bl (f k)) s) (fun d _ O' H' => ∀ u, DV K mg O' H' d u → Q u H') X' := h
    exact ⟨O, s, d1, d2, k, r, dv, dw, e, h.ret r _ (.bl _)⟩
section
variable {X : Cx} {W : WX} {a b : Expr} {fa fb : Rs → M D} {pos : Pos}
theorem eqTop_op (hu : X.A.units + 100 < cLine) : OpR X (compareOp .Eq) (rEqX X.K X.mg id) ∧ OpR X (compareOp .NotEq) (rEqX X.K X.mg not) := by
  have key : ∀ {pins : List (Addr × Obj)} {sh : Shared} {sg : L2.St} {O : Ow} {H : Hp} {s : S} {a b : D} {x y : V} {v u : Value} {k : Bool} {Q : Value → Shared → Prop}, L2.Inv X pins sg H sh → RelS X.K X.mg O H s → DV X.K X.mg O H a x → DV X.K X.mg O H b y → RelV x v → RelV y u → eqTop s a b = some k →
      (Q (.bool k) sh → wpAny (model X.prog X.w) X.A (compareOp .Eq v u) Q X.xe sh) ∧ (Q (.bool (!k)) sh → wpAny (model X.prog X.w) X.A (compareOp .NotEq v u) Q X.xe sh) := by
    intro pins sh sg O H s a b x y v u k Q I r da db rx ry h
    unfold eqTop at h
    have rest : stepD s (eqN s 30) a b = some k → (Q (.bool k) sh → wpAny (model X.prog X.w) X.A (compareOp .Eq v u) Q X.xe sh) ∧ (Q (.bool (!k)) sh → wpAny (model X.prog X.w) X.A (compareOp .NotEq v u) Q X.xe sh) := fun h => by
      obtain ⟨p, q, rfl, rfl, rfl, rfl, st⟩ := step_rc I r (A := X.A) (by omega) (eqN_run I r 30 X.A.in1 (by show X.A.units + 1 + 30 + 30 < cLine; omega)) h da db rx ry
      exact st X.xe Q
    cases e1 : toPy s 20 a with
    | none => rw [e1] at h; exact rest h
    | some px =>
      cases e2 : toPy s 20 b with
      | none => rw [e1, e2] at h; exact rest h
      | some py =>
        rw [e1, e2] at h
        injection h with h
        subst h
        obtain ⟨as, ra⟩ := reads_of I (rdv_of r 20 a x px da e1) rx
        obtain ⟨bs, rb⟩ := reads_of I (rdv_of r 20 b y py db e2) ry
        have s1 := toPy_shape s 20 a px e1
        have s2 := toPy_shape s 20 b py e2
        exact ⟨fun h => PySem.SeqAt.compareEq_reads ra rb s1.1 s2.1 (by omega) h, fun h => PySem.SeqAt.compareNe_reads ra rb s1.1 s2.1 (by omega) h⟩
  constructor
  · intro pins sh sg H x y v u Q I rx ry ⟨O, s, a, b, k, r, da, db, e, q⟩
    exact (key I r da db rx ry e).1 ⟨.bl _, H, I, rfl, q⟩
  · intro pins sh sg H x y v u Q I rx ry ⟨O, s, a, b, k, r, da, db, e, q⟩
    exact (key I r da db rx ry e).2 ⟨.bl _, H, I, rfl, q⟩
theorem re_eqX (hu : X.A.units + 100 < cLine) (ha : RE X W a fa) (hb : RE X W b fb) (hm : behindInMarks .Eq b = false := by rfl) : RE X W (.Compare a [.Eq] [b] pos) (op2 (eqX id) fa fb) := re_cmp (eqTop_op hu).1 (eqX_ok id) ha hb hm
theorem rt_eqX (hu : X.A.units + 100 < cLine) (ha : RE X W a fa) (hb : RE X W b fb) (hm : behindInMarks .Eq b = false := by rfl) : RT X W (.Compare a [.Eq] [b] pos) (toB (op2 (eqX id) fa fb)) := rt_cmp (eqTop_op hu).1 (eqX_ok id) ha hb hm
theorem re_neX (hu : X.A.units + 100 < cLine) (ha : RE X W a fa) (hb : RE X W b fb) (hm : behindInMarks .NotEq b = false := by rfl) : RE X W (.Compare a [.NotEq] [b] pos) (op2 (eqX not) fa fb) := re_cmp (eqTop_op hu).2 (eqX_ok not) ha hb hm
theorem rt_neX (hu : X.A.units + 100 < cLine) (ha : RE X W a fa) (hb : RE X W b fb) (hm : behindInMarks .NotEq b = false := by rfl) : RT X W (.Compare a [.NotEq] [b] pos) (toB (op2 (eqX not) fa fb)) := rt_cmp (eqTop_op hu).2 (eqX_ok not) ha hb hm
end
end Md

set_option Elab.async false
set_option linter.all false
set_option maxRecDepth 100000
/-! Md16: repr of data, of dicts whose values hold no list. -/
namespace Md
open PySem PySem.Spec PyProof.Rows L2

mutual
/-- no list, no dict in it -/
def noL : PyData → Bool
  | .list _ => false
  | .dict _ => false
  | .tuple xs => noLs xs
  | _ => true
def noLs : List PyData → Bool
  | [] => true
  | x :: xs => noL x && noLs xs
end
mutual
theorem noL_reads {h : Heap} : ∀ {v : Value} {x : PyData} {as : List Addr}, Reads h v x as → noL x = true → as = []
  | _, _, _, .none, _ => rfl
  | _, _, _, .bool _, _ => rfl
  | _, _, _, .int _ _, _ => rfl
  | _, _, _, .str _ _, _ => rfl
  | _, _, _, .list _ _ _ _, h => by simp [noL] at h
  | _, _, _, .dict _ _ _ _ _, h => by simp [noL] at h
  | _, _, _, .tuple _ _ _ t, h => noLs_reads t (by simpa [noL] using h)
theorem noLs_reads {h : Heap} : ∀ {vs : List Value} {xs : List PyData} {as : List Addr}, ReadsAll h vs xs as → noLs xs = true → as = []
  | _, _, _, .nil, _ => rfl
  | _, _, _, .cons (d := d) (ds := ds) a t, h => by
    have h' : noL d = true ∧ noLs ds = true := by simpa [noLs] using h
    rw [noL_reads a h'.1, noLs_reads t h'.2]
    rfl
end
def keyPy : Key → PyData
  | .inl i => .int i
  | .inr x => .str x
/-- a dict's pairs as data -/
def kvPy (s : S) : List (D × D) → Option (List (PyData × PyData))
  | [] => some []
  | kv :: r => match keyD kv.1, toPy s 18 kv.2, kvPy s r with
    | some q, some x, some xs => if noL x = true then some ((keyPy q, x) :: xs) else none
    | _, _, _ => none
/-- what an object shows as -/
def anyPy (s : S) (d : D) : Option PyData := match dctD s d with
  | some (_, _, kvs) => (kvPy s kvs).map .dict
  | none => toPy s 20 d
def shownOk (x : PyData) : Bool := x.showable && decide (x.shown.length ≤ sizeLine) && decide (x.depth ≤ 40)
def reprD (s : S) (d : D) : Option Str := match anyPy s d with
  | some x => if shownOk x = true then some x.shown else none
  | none => none
section
variable {X : Cx} {pins : List (Addr × Obj)} {sg : L2.St} {O : Ow} {H : Hp} {sh : Shared} {s : S}
theorem kv_reads (I : L2.Inv X pins sg H sh) (r : RelS X.K X.mg O H s) : ∀ {kvs : List (D × D)} {vs : List (Key × V)} {us : List (Key × Value)} {es : List DictEntry} {xs : List (PyData × PyData)}, PrK X.K X.mg O H kvs vs → KV vs us → Pairs (mixKind X.prog X.w) es us → kvPy s kvs = some xs →
    ReadsAll sh.heap (es.map (·.key)) (xs.map (·.1)) [] ∧ ReadsAll sh.heap (es.map (·.val)) (xs.map (·.2)) []
  | _, _, _, _, xs, .nil, .nil, .nil, h => by
    have h : some [] = some xs := h
    injection h with h
    subst h
    exact ⟨.nil, .nil⟩
  | _, _, _, _, xs, .cons (k := k) (q := q) (d := d) (fs := kvs) ek dv t, .cons (b := u) hu tu, .cons (e := e) (es := es) hk hv te, h => by
    unfold kvPy at h
    rw [ek] at h
    cases e1 : toPy s 18 d with
    | none => rw [e1] at h; cases h
    | some x =>
      cases e2 : kvPy s kvs with
      | none => rw [e1, e2] at h; cases h
      | some ys =>
        rw [e1, e2] at h
        dsimp only at h
        by_cases hn : noL x = true
        · rw [if_pos hn] at h
          injection h with h
          subst h
          obtain ⟨i1, i2⟩ := kv_reads I r t tu te e2
          obtain ⟨q1, ru⟩ := hu
          have q1 : q = u.1 := q1
          obtain ⟨as, ra⟩ := reads_of I (rdv_of r 18 d _ x dv e1) ru
          have ea := noL_reads ra hn
          subst ea
          rw [← hv] at ra
          have rk : Reads sh.heap e.key (keyPy q) [] := by
            rw [← q1] at hk
            rcases keyIs_shape (show keyIs q e.key = true from hk) with ⟨i, tk, rfl, e3⟩ | ⟨z, tk, rfl, e3⟩
            · rw [e3]; exact .int i tk
            · rw [e3]; exact .str z tk
          exact ⟨by simpa using ReadsAll.cons rk i1, by simpa using ReadsAll.cons ra i2⟩
        · rw [if_neg hn] at h; cases h
theorem any_reads (I : L2.Inv X pins sg H sh) (r : RelS X.K X.mg O H s) {d : D} {v : V} {u : Value} {x : PyData} (dv : DV X.K X.mg O H d v) (ru : RelV v u) (h : anyPy s d = some x) : ∃ as, Reads sh.heap u x as ∧ (x.hasDict = true → sysModules ∉ as) := by
  unfold anyPy at h
  cases e : dctD s d with
  | some z =>
    obtain ⟨n, lk, kvs⟩ := z
    rw [e] at h
    obtain ⟨a, vs, rfl, rfl, ha, es, l, pk⟩ := dctD_ok r dv e
    obtain ⟨xs, e1, e2⟩ := Option.map_eq_some_iff.mp h
    subst e2
    obtain ⟨_, hd, us, rel, o, en, ep, ho, hx, hdt, hk, hp, _⟩ := dk_rd I.hok l.rd
    obtain ⟨i1, i2⟩ := kv_reads I r pk rel hp e1
    obtain rfl : u = .ref a := ru
    refine ⟨_, .dict ho hx.1 hdt i1 i2, fun _ hm => ?_⟩
    have hm : sysModules = a := by simpa using hm
    rw [hm] at hd
    simp at hd
  | none =>
    rw [e] at h
    obtain ⟨as, ra⟩ := reads_of I (rdv_of r 20 d v x dv h) ru
    exact ⟨as, ra, PySem.PyData.noDict_hsm (PySem.PyData.hasDict_of_canLay x (toPy_shape s 20 d x h).1)⟩
end
def rReprX (K : PySem.W.Frag) (mg : Str → Option Value) : List V → Hp → VK → Prop := fun xs H Q => ∃ O s d v t, RelS K mg O H s ∧ DV K mg O H d v ∧ xs = [v] ∧ reprD s d = some t ∧ Q (.str t) H
theorem call_reprX {X : Cx} (hg : X.A.guards = some []) (hu : X.A.units + 100 < cLine) : CallR X (.builtin "repr") (rReprX X.K X.mg) := by
  intro pins sh sg H xs us Q I r ⟨O, s, d, v, t, rs, dv, ex, e, q⟩
  subst ex
  obtain ⟨u, rfl, ru⟩ := r.one
  unfold reprD at e
  cases e1 : anyPy s d with
  | none => rw [e1] at e; cases e
  | some x =>
    rw [e1] at e
    dsimp only at e
    by_cases hs : shownOk x = true
    · rw [if_pos hs] at e
      injection e with e
      subst e
      have hs' : (x.showable = true ∧ x.shown.length ≤ sizeLine) ∧ x.depth ≤ 40 := by simpa [shownOk] using hs
      obtain ⟨as, ra, hm⟩ := any_reads I rs dv ru e1
      have fin : ∀ (h' : Heap) (tk tk' : Nat), (∀ b o, sh.heap.get? b = some o → h'.get? b = some o) → EP X pins sg Q (.str x.shown tk) { sh with heap := h', toks := tk' } := fun h' tk tk' hk => ⟨.str x.shown, H, I.kept hk, ⟨tk, rfl⟩, q⟩
      cases ra with
      | none => exact PySem.P.repr_of_none (fin sh.heap _ _ fun _ _ e => e)
      | bool b => exact PySem.P.repr_of_bool (fin sh.heap _ _ fun _ _ e => e)
      | int i tk => exact PySem.P.repr_of_int (by simpa [PyData.showable] using hs'.1.1) (fin sh.heap _ _ fun _ _ e => e)
      | str z tk => exact PySem.P.repr_of_str (fin sh.heap _ _ fun _ _ e => e) (hsz := hs'.1.2)
      | list h1 h2 h3 h4 => exact repr_of_reads' (.list h1 h2 h3 h4) hs'.1.1 hm hg (by have := hs'.2; omega) (fun _ _ e => e) (fun h' tk tk' hk => fin h' tk tk' hk) hs'.1.2
      | tuple h1 h2 h3 h4 => exact repr_of_reads' (.tuple h1 h2 h3 h4) hs'.1.1 hm hg (by have := hs'.2; omega) (fun _ _ e => e) (fun h' tk tk' hk => fin h' tk tk' hk) hs'.1.2
      | dict h1 h2 h3 h4 h5 => exact repr_of_reads' (.dict h1 h2 h3 h4 h5) hs'.1.1 hm hg (by have := hs'.2; omega) (fun _ _ e => e) (fun h' tk tk' hk => fin h' tk tk' hk) hs'.1.2
    · rw [if_neg hs] at e; cases e
def reprF : D → M D := fun d s => match reprD s d with
  | some t => .ok (.str t) s
  | none => .bad
theorem reprF_ok {K : PySem.W.Frag} {mg : Str → Option Value} : CallOk K mg (rReprX K mg) (arg1 reprF) := call1 fun O H s d v Q X' r dv h => by
  unfold reprF at h
  cases e : reprD s d with
  | none => rw [e] at h; exact h.elim
  | some t =>
    rw [e] at h
    exact ⟨O, s, d, v, t, r, dv, rfl, e, Post.ret (show Post K mg O H (ret (D.str t) s) (fun d _ O' H' => ∀ u, DV K mg O' H' d u → Q u H') X' from h) r _ (.str _)⟩
section
variable {X : Cx} {W : WX} {e : Expr} {es : List Expr} {fa : Rs → M (List D)} {p pos : Pos}
theorem re_repr (hg0 : X.A.guards = some []) (hu : X.A.units + 100 < cLine) (hm : X.mg "repr" = none) (ha : RA X W (e :: es) fa) (hg : Gl X "repr" := by rfl) (he : starEach (e :: es) X.env = (false, eval e X.env) :: starEach es X.env := by rfl) (hpl : (backTo pos (starEach es X.env)).any (·.1) = false := by rfl) :
    RE X W (.Call (.Name "repr" p) (e :: es) [] pos) (callM (arg1 reprF) [] fa) := re_cB (call_reprX hg0 hu) reprF_ok hm (by with_unfolding_all rfl) ha hg (by decide) (by decide) he hpl
end
end Md

set_option Elab.async false
set_option linter.all false
set_option maxRecDepth 100000
set_option maxHeartbeats 1000000
/-! Md17: set comprehensions over a theory of sets; sets of keys (ints, texts). The comprehension's walk is HandS.SetBool's, turned to any set. -/
namespace Md
open PySem PySem.Spec PyProof.Rows L2

/-! ### what is told of a set's object -/
abbrev fresh0 (w : World) : Obj := { cls := .type "set", dict := none, data := .set #[] 0 (.fresh 0 0 (!w.params.followText "set-order")) }
structure SetTh (P : Program) (w : World) where
  T : Type
  pr : Heap → Addr → T → Prop
  e0 : T
  fresh : ∀ h a, h.get? a = some (fresh0 w) → pr h a e0
  there : ∀ h a x, pr h a x → ∃ o, h.get? a = some o
  stay : ∀ h h' a x, pr h a x → (∀ o, h.get? a = some o → h'.get? a = some o) → pr h' a x
def SetTh.so {P : Program} {w : World} (S : SetTh P w) (a : Addr) (x : S.T) : HO := .ext fun h => S.pr h a x
theorem SetTh.ok {P : Program} {w : World} (S : SetTh P w) {H : Hp} {h : Heap} {a : Addr} {x : S.T} (p : S.pr h a x) : ObjOk P w H h a (S.so a x) := ⟨p, S.there _ _ _ p, fun h1 h2 q k => S.stay _ _ _ _ q k⟩
theorem SetTh.get {X : Cx} (S : SetTh X.prog X.w) {pins : List (Addr × Obj)} {sg : L2.St} {H : Hp} {s : Shared} {a : Addr} {x : S.T} (I : L2.Inv X pins sg H s) (e : H a = some (S.so a x)) : S.pr s.heap a x := (I.hok a _ e).1
/-- set.add -/
def AddOk (X : Cx) (S : SetTh X.prog X.w) (ad : V → Hp → S.T → S.T → Prop) : Prop := ∀ (pins : List (Addr × Obj)) (s : Shared) (sg : L2.St) (H : Hp) (a : Addr) (x x' : S.T) (y : V) (u : Value) (E Q : Value → Shared → Prop),
  L2.Inv X pins sg H s → H a = some (S.so a x) → RelV y u → ad y H x x' → (∀ s', L2.Inv X pins sg (upd H a (S.so a x')) s' → Q .none s') → wpAny (model X.prog X.w) X.A (call (.builtin "set.add") [.ref a, u]) Q E s
theorem SetTh.turn {X : Cx} (S : SetTh X.prog X.w) {pins : List (Addr × Obj)} {sg : L2.St} {H : Hp} {s : Shared} {a : Addr} {x x' : S.T} {h' : Heap} {tk : Nat} (I : L2.Inv X pins sg H s) (e : H a = some (S.so a x)) (sb : Heap.SameBut a s.heap h') (p : S.pr h' a x') :
    L2.Inv X pins sg (upd H a (S.so a x')) { s with heap := h', toks := tk } :=
  I.write (x := a) (e := a) (by rw [e]; exact True.intro) (.inl rfl) (fun b u hb hu => (sb.2 b hb).trans hu) (S.there _ _ _ p) (S.ok p)

/-! ### {elt for target in iter if ..} -/
section
variable {X : Cx} (S : SetTh X.prog X.w) (ad : V → Hp → S.T → S.T → Prop)
def tSet (wi : TI) (g : TG) (tt : TT) (te : TE) (ws : List Nat) : TE := fun sg H Q => wi sg H fun J H1 => ∀ D, H1 D = none → ∃ W : Nat → Nat → Hp → Prop, (∃ m, W 0 m (upd H1 D (S.so D S.e0))) ∧ ∀ i m H, W i m H →
  (J.stop i H ∧ Q (.ref D) H) ∨ (J.go i H ∧ ∃ N : Hp → Prop, (∀ H', N H' → ∃ m', m' < m ∧ W (i + 1) m' H') ∧ ∀ x H', J.yld i H x H' → g x (wipe sg ws) H' fun sg2 H2 => wipe sg2 ws = wipe sg ws ∧ tt sg2 H2 fun b H3 =>
    if b = true then te sg2 H3 fun y H4 => ∃ z z', H4 D = some (S.so D z) ∧ ad y H4 z z' ∧ N (upd H4 D (S.so D z')) else N H3)
theorem set_core {pins : List (Addr × Obj)} {s : Shared} {sg : L2.St} {H : Hp} {Q : VK} {elt tg iter : Expr} {ifs : List Expr} {scope : Scope} {own : List (Str × Nat)} {pos pos' : Pos} {wi : TI} {g : TG} {tt : TT} {te : TE} {use : Option (Value → Sem Unit)} {Qf : Value → Shared → Prop}
    (calm : X.calm = true) (hN : X.N.Nodup) (I : L2.Inv X pins sg H s) (hi : PI X tg iter wi) (ok : BlkOk X.N X.env.scope scope own)
    (hg : ∀ (s : Shared) (H : Hp) (C : Addr) (cl : List (Str × Addr)) (fp : List Addr), PG (X.blk s H scope (compEnvC scope cl C X.env) fp) tg g)
    (ht : ∀ (s : Shared) (H : Hp) (C : Addr) (cl : List (Str × Addr)) (fp : List Addr), PTs (X.blk s H scope (compEnvC scope cl C X.env) fp) ifs tt)
    (he : ∀ (s : Shared) (H : Hp) (C : Addr) (cl : List (Str × Addr)) (fp : List Addr), PE (X.blk s H scope (compEnvC scope cl C X.env) fp) elt te)
    (ha : ∀ (s : Shared) (H : Hp) (C : Addr) (cl : List (Str × Addr)) (fp : List Addr), AddOk (X.blk s H scope (compEnvC scope cl C X.env) fp) S ad) (hs : ∀ x, foldedSetIterable iter X.env x = pure x)
    (h : tSet S ad wi g tt te (own.map (·.2)) sg H Q)
    (last : ∀ D C s' m H', L2.Inv X pins sg H' s' → Q (.ref D) H' → s'.heap.Ns C m → FpOk X pins H' C → compPost (model X.prog X.w) X.A X.xe use Qf (.ref D) C (.ok .next) s') :
    wpAny (model X.prog X.w) X.A (comprehension (.SetComp elt [⟨tg, iter, ifs, 0⟩] scope pos) scope X.env pos' (newSet (.type "set")) false (eval iter X.env) use) Qf X.xe s := by
  have free : ∀ y ∈ scope.names, y.2 = .free → ∃ c, X.env.cells.lookup y.1 = some c := fun y hy e => (ok.free y hy e).elim (fun k => I.ok.has _ (.inl k)) fun k => I.ok.has _ (.inr k)
  refine wpAny_comprehension_free (use := use) rfl hs (closure_ok free) ok.kind (fun y hy e => by rw [ok.uniq y hy, e]) (L2.thn (hi.run pins s sg H _ I h) fun xv s1 hx => L2.thn hx fun itv s2 h2 => ?_)
  obtain ⟨it, fp, tn, J, H2, rfl, I2, T, st2, f2, q⟩ := h2
  refine PpSet.newSet_ok (newEnv_comp ?_)
  generalize hD : s2.heap.objs.size = D
  obtain ⟨W, ⟨m0, w0⟩, turn⟩ := q D (I2.hok.fresh (Nat.le_of_eq hD))
  generalize hs3 : ({ s2 with heap := s2.heap.push (fresh0 X.w) } : Shared) = s3
  have I3 : L2.Inv X pins sg (upd H2 D (S.so D S.e0)) s3 := by
    subst hs3 hD
    exact I2.laid (t' := s2.toks) (fun b o e => Heap.get?_push_of_some _ e) (Nat.le_refl _) (S.ok (S.fresh _ _ (Heap.get?_push_size _ rfl)))
  have p3 : s3.heap = s2.heap.push (fresh0 X.w) := by rw [← hs3]
  have f3 : ∀ b ∈ fp, FpOk X pins (upd H2 D (S.so D S.e0)) b ∧ b < s3.heap.objs.size := fun b hb => by
    obtain ⟨o, e, _⟩ := T.obj _ _ st2 b hb
    have lt := Heap.lt_size e
    exact ⟨⟨by rw [upd_ne (by rw [← hD]; exact Nat.ne_of_lt lt)]; exact (f2 b hb).1, (f2 b hb).2⟩, by rw [p3, Heap.size_push]; exact Nat.lt_succ_of_lt lt⟩
  have st3 : tn 0 s3.heap := T.keep _ _ _ st2 fun b _ o e => by rw [p3]; exact Heap.get?_push_of_some _ e
  have I4 := block_start I3 ok hN f3
  have pg := hg s3 (upd H2 D (S.so D S.e0)) s3.heap.objs.size (cellsFrom (s3.heap.objs.size + 1) scope.names (cloFrom X.env.cells scope.names [])) fp
  have pt := ht s3 (upd H2 D (S.so D S.e0)) s3.heap.objs.size (cellsFrom (s3.heap.objs.size + 1) scope.names (cloFrom X.env.cells scope.names [])) fp
  have pe := he s3 (upd H2 D (S.so D S.e0)) s3.heap.objs.size (cellsFrom (s3.heap.objs.size + 1) scope.names (cloFrom X.env.cells scope.names [])) fp
  have pa := ha s3 (upd H2 D (S.so D S.e0)) s3.heap.objs.size (cellsFrom (s3.heap.objs.size + 1) scope.names (cloFrom X.env.cells scope.names [])) fp
  show codeAny _ _ (.compStart (.SetComp elt [⟨tg, iter, ifs, 0⟩] scope pos) 0 (.ref it) (.ref D) (compEnvC scope (cellsFrom (s3.heap.objs.size + 1) scope.names (cloFrom X.env.cells scope.names [])) s3.heap.objs.size X.env)) (compPost (model X.prog X.w) X.A X.xe use Qf (.ref D) s3.heap.objs.size)
    { s3 with heap := pushCells (s3.heap.push { cls := .type "dict", data := .dict #[] }) scope.names }
  have nfp : ∀ b ∈ fp, (upd H2 D (S.so D S.e0)) b = none := fun b hb => (f3 b hb).1.1
  generalize hce : compEnvC scope (cellsFrom (s3.heap.objs.size + 1) scope.names (cloFrom X.env.cells scope.names [])) s3.heap.objs.size X.env = ce at I4 pg pt pe pa ⊢
  have cL : ce.locals = s3.heap.objs.size := by subst hce; rfl
  generalize hH3 : upd H2 D (S.so D S.e0) = H3 at I3 I4 pg pt pe pa w0 nfp f3
  generalize hs4 : ({ s3 with heap := pushCells (s3.heap.push { cls := .type "dict", data := .dict #[] }) scope.names } : Shared) = s4 at I4 ⊢
  have st4 : tn 0 s4.heap := T.keep _ _ _ st3 fun b _ o e => by rw [← hs4]; exact pushCells_keeps _ _ _ _ (Heap.get?_push_of_some _ e)
  have fps : ∀ {sg' : L2.St} {H' : Hp} {s' : Shared}, L2.Inv (X.blk s3 H3 scope ce fp) [] sg' H' s' → (∀ b ∈ fp, H' b = none) → ∀ b ∈ fp, FpOk (X.blk s3 H3 scope ce fp) [] H' b := fun J' hn b hb =>
    ⟨hn b hb, (J'.ok.exf b hb).1, J'.ok.exfs b hb, .inl hb, fun x c e => (J'.ok.exf b hb).2 x c e, fun p hp => absurd (show p ∈ ([] : List (Addr × Obj)) ++ [] from hp) (by simp)⟩
  refine (fun loop => PpSet.codeAny_compStart_set loop (T.self X.A 0 _ _ _ st4 loop)) (PpSet.compLoopS_any (fun n s' => ∃ i H', L2.Inv (X.blk s3 H3 scope ce fp) [] (wipe sg (own.map (·.2))) H' s' ∧ tn i s'.heap ∧ (∀ b ∈ fp, H' b = none) ∧ W i n H') ?_ m0 ⟨0, H3, I4, st4, nfp, w0⟩)
  rintro n s5 ⟨i, H5, I5, st5, n5, w5⟩
  rcases turn i n H5 w5 with ⟨stop, qq⟩ | ⟨go, N, hN', step⟩
  · refine thnF (T.done (X.blk s3 H3 scope ce fp) rfl rfl rfl calm i [] s5 _ H5 (fun _ _ => False) I5 (fps I5 n5) st5 stop) fun r s6 ⟨hr, I6⟩ => ?_
    subst hr
    have I7 : L2.Inv X pins sg H5 s6 := I3.call' (ch := fp) I6.os I6.base I6.hok I6.bare fun b hb => ⟨(f3 b hb).1.2.2.2.1, (f3 b hb).1.2.1, (f3 b hb).1.2.2.2.2.1, (f3 b hb).1.2.2.2.2.2⟩
    have nC : H5 s3.heap.objs.size = none := cL ▸ I6.free
    obtain ⟨m, hn, _⟩ := I6.loc
    exact last D s3.heap.objs.size s6 m H5 I7 qq (cL ▸ (show s6.heap.Ns ce.locals m from hn)) (I3.fpOk (Nat.le_refl _) nC)
  · refine thnF (T.item (X.blk s3 H3 scope ce fp) rfl rfl rfl calm i [] s5 _ H5 (fun _ _ => False) I5 (fps I5 n5) st5 go) fun r s6 ⟨u, hr, h6⟩ => ?_
    subst hr
    refine thnF h6 fun _ s7 ⟨x, H7, I7, r7, y7, st7, n7⟩ => ?_
    refine thnF (pg.run _ s7 _ H7 x u _ (I7.pinned (fps I7 n7) (T.obj _ _ st7)) r7 (step x H7 y7)) fun _ s8 ⟨sg8, H8, I8, hw8, q8⟩ => ?_
    refine thnF (pt.run _ s8 sg8 H8 _ I8 q8) fun b s9 ⟨H9, I9, q9⟩ => ?_
    have fin : ∀ {s' : Shared} {H' : Hp}, L2.Inv (X.blk s3 H3 scope ce fp) ([] ++ pinsAt fp s7.heap) sg8 H' s' → N H' → ∃ m, m < n ∧ ∃ i H', L2.Inv (X.blk s3 H3 scope ce fp) [] (wipe sg (own.map (·.2))) H' s' ∧ tn i s'.heap ∧ (∀ b ∈ fp, H' b = none) ∧ W i m H' := fun {s' H'} I' nx => by
      obtain ⟨m', hm, w'⟩ := hN' H' nx
      have pin : ∀ b ∈ fp, ∀ o, s7.heap.get? b = some o → s'.heap.get? b = some o ∧ H' b = none := fun b hb o e => let z := I'.pin (b, o) (List.mem_append_right _ (List.mem_append_right _ (mem_pinsAt hb e))); ⟨z.1, z.2.1⟩
      refine ⟨m', hm, i + 1, H', (I'.unpinned (pins := [])).weak (by rw [← hw8, wipe_length]) (fun j v e => (wipe_some (by rw [hw8]; exact e)).1), T.keep _ _ _ st7 fun b hb o e => (pin b hb o e).1, fun b hb => ?_, w'⟩
      obtain ⟨o, e, _⟩ := T.obj _ _ st7 b hb
      exact (pin b hb o e).2
    cases b with
    | false => simp only [Bool.false_eq_true, if_false] at q9 ⊢; exact fin I9 q9
    | true =>
      simp only [if_true] at q9 ⊢
      refine thnF (pe.run _ s9 sg8 H9 _ I9 q9) fun z s10 ⟨yv, H10, I10, r10, z0, z1, e10, a10, nx⟩ => ?_
      exact pa _ s10 _ H10 D z0 z1 yv z _ _ I10 e10 r10 a10 fun s11 I11 => fin I11 nx
theorem pe_setC {elt tg iter : Expr} {ifs : List Expr} {scope : Scope} {own : List (Str × Nat)} {pos : Pos} {wi : TI} {g : TG} {tt : TT} {te : TE} (calm : X.calm = true) (hN : X.N.Nodup) (hi : PI X tg iter wi) (ok : BlkOk X.N X.env.scope scope own)
    (hg : ∀ (s : Shared) (H : Hp) (C : Addr) (cl : List (Str × Addr)) (fp : List Addr), PG (X.blk s H scope (compEnvC scope cl C X.env) fp) tg g)
    (ht : ∀ (s : Shared) (H : Hp) (C : Addr) (cl : List (Str × Addr)) (fp : List Addr), PTs (X.blk s H scope (compEnvC scope cl C X.env) fp) ifs tt)
    (he : ∀ (s : Shared) (H : Hp) (C : Addr) (cl : List (Str × Addr)) (fp : List Addr), PE (X.blk s H scope (compEnvC scope cl C X.env) fp) elt te)
    (ha : ∀ (s : Shared) (H : Hp) (C : Addr) (cl : List (Str × Addr)) (fp : List Addr), AddOk (X.blk s H scope (compEnvC scope cl C X.env) fp) S ad) (hs : ∀ x, foldedSetIterable iter X.env x = pure x := by intro _; rfl) :
    PE X (.SetComp elt [⟨tg, iter, ifs, 0⟩] scope pos) (tSet S ad wi g tt te (own.map (·.2))) := by
  refine ⟨fun pins s sg H Q I h => ?_⟩
  rw [PpSet.eval_SetComp]
  refine set_core S ad calm hN I hi ok hg ht he ha hs h fun D C s' m H' I' q hn ⟨g0, g1, g2, g3, g4, g5⟩ => ⟨m, hn, fun h2 sb => ?_⟩
  exact ⟨.ref D, H', I'.turned (t' := s'.toks) (fun b o hb e => (sb.2 b hb).trans e) g0 g1 g3 g4 g5, rfl, q⟩
end
end Md

set_option Elab.async false
set_option linter.all false
set_option maxRecDepth 100000
set_option maxHeartbeats 1000000
/-! Md18: sets of ints and texts; sorted of what is collected. -/
namespace Md
open PySem PySem.Spec PyProof.Rows L2

section
variable {P : Program} {w : World}
/-- a set's object that can be walked -/
structure Shape (w : World) (h : Heap) (a : Addr) (es : Array (Int × Value)) : Prop where
  ex : ∃ o ep t, h.get? a = some o ∧ o.ExactSet ∧ o.data = .set es ep t ∧ es.size < scanBound ∧ t.fits es.size = true ∧ Ris t.place.toList ∧ (w.params.followText "set-order" = true ∨ t.led = true)
variable {A : Around} {E : Value → Shared → Prop} {s : Shared} {a : Addr} {κ : Type} [DecidableEq κ] {knd : KeyKind P w κ}
/-- the store behind an add, and the table's growth -/
theorem add_end {gv : Bool → Sem Unit} (hgv : ∀ (b : Bool) (s₁ : Shared) (Q' : Unit → Shared → Prop), Q' () s₁ → wpAny (model P w) A (gv b) Q' E s₁) {o : Obj} {es en : Array (Int × Value)} {ep : Nat} {t tn : SetTable} (ho : s.heap.get? a = some o) (hx : o.ExactSet) (hd : o.data = .set es ep t)
    (few : en.size < scanBound) (fit : tn.fits en.size = true) (ris : Ris tn.place.toList) (led : w.params.followText "set-order" = true ∨ tn.led = true) {dum : Bool} {Q : Option Bool → Shared → Prop}
    (hQ : ∀ h' e', Heap.SameBut a s.heap h' → Shape w h' a e' → e'.toList.Perm en.toList → Q (some true) { s with heap := h' }) :
    wpAny (model P w) A (do
        storeSet a en tn
        if (!dum && tn.tooFull) = true then do
            gv (relayAll tn en (SetTable.grown en.size)).2.2
            storeSet a (relayAll tn en (SetTable.grown en.size)).1 (relayAll tn en (SetTable.grown en.size)).2.1
            pure (some true)
          else pure (some true)) Q E s := by
  have at1 := store_at (es' := en) (t' := tn) ho hd
  have sb := Heap.SameBut.update s.heap a (Obj.putSet en tn)
  refine wpAny_bind (wpAny_storeSet_of ho hd ?_ (fits_of_scanBound few))
  by_cases hc : (!dum && tn.tooFull) = true
  · rw [if_pos hc]
    have p1 := relayAll_perm tn en (SetTable.grown en.size)
    have p2 := relayAll_fits tn en (SetTable.grown en.size)
    have p3 := relayAll_ris tn en (SetTable.grown en.size)
    have p4 := relayAll_led tn en (SetTable.grown en.size)
    generalize relayAll tn en (SetTable.grown en.size) = Z at p1 p2 p3 p4 ⊢
    obtain ⟨e2, t2, gave⟩ := Z
    dsimp only at p1 p2 p3 p4 ⊢
    have few2 : e2.size < scanBound := by rw [← Array.length_toList, p1.length_eq, Array.length_toList]; exact few
    refine wpAny_bind (hgv _ _ _ (wpAny_bind (wpAny_storeSet_of at1 rfl (wpAny_pure ?_) (fits_of_scanBound few2))))
    exact hQ _ e2 (sb.trans (Heap.SameBut.update _ a _)) ⟨_, _, t2, store_at at1 rfl, hx, rfl, few2, p2, p3, led.imp id fun z => by rw [p4]; exact z⟩ p1
  · rw [if_neg hc]
    exact wpAny_pure (hQ _ en sb ⟨_, _, tn, at1, hx, rfl, few, fit, ris, led⟩ (List.Perm.refl _))
theorem shape_add {k : κ} {u : Value} {es : Array (Int × Value)} {Q : Bool → Shared → Prop} (R : Shape w s.heap a es) (hel : ElemsOf knd es.toList) (hk : knd.is k u = true) (hsc : u.scannable = true) (room : es.size + 1 < scanBound)
    (hQ : ∀ b h' e', Heap.SameBut a s.heap h' → Shape w h' a e' → ((∃ e ∈ es.toList, knd.is k e.2 = true) → e' = es) → ((¬ ∃ e ∈ es.toList, knd.is k e.2 = true) → e'.toList.Perm ((knd.hash k, u) :: es.toList)) → Q b { s with heap := h' }) :
    wpAny (model P w) A (setAddHashed a u (knd.hash k)) Q E s := by
  obtain ⟨o, ep, t, ho, hx, hd, few, fit, ris, led⟩ := R.ex
  unfold setAddHashed setAddHashedIn
  refine wpAny_holding (wpAny_bind (wpAny_setState_of ho hd fit ?_))
  dsimp only
  rw [byScan_of hsc few hel]
  simp only [↓reduceIte]
  unfold setAddByScan
  refine wpAny_bind (wpAny_bind (wpAny_rule (wpAny_bind (wpAny_setScan_of hk ho hd fit hel ?_))))
  cases hf : List.findIdx? (fun e => knd.is k e.2) es.toList with
  | some j =>
    dsimp only
    obtain ⟨lt, pj, _⟩ := List.findIdx?_eq_some_iff_getElem.mp hf
    exact wpAny_pure (wpAny_pure (hQ false s.heap es (Heap.SameBut.refl a s.heap) R (fun _ => rfl) fun z => absurd ⟨_, List.getElem_mem lt, pj⟩ z))
  | none =>
    dsimp only
    have no : ¬ ∃ e ∈ es.toList, knd.is k e.2 = true := fun ⟨e, he, q⟩ => by
      have z := List.findIdx?_eq_none_iff.mp hf e he
      rw [q] at z
      cases z
    have gw : ∀ (b : Bool) {s₁ : Shared} {Q' : Unit → Shared → Prop}, Q' () s₁ → wpAny (model P w) A (match b with | true => rule "set.scan.the-table-gave-way" | false => pure ()) Q' E s₁ :=
      fun b {s₁ Q'} q => by
        cases b with
        | true => exact wpAny_rule q
        | false => exact wpAny_pure q
    have n1 := layNew_perm t es (knd.hash k) u
    have n2 := layNew_fits t es (knd.hash k) u
    have n3 := layNew_ris t es (knd.hash k) u ris
    have n4 := layNew_led t es (knd.hash k) u
    generalize layNew t es (knd.hash k) u = Z at n1 n2 n3 n4 ⊢
    obtain ⟨en, tn, dum, gave⟩ := Z
    dsimp only at n1 n2 n3 n4 ⊢
    rw [Array.toList_push] at n1
    have pc : en.toList.Perm ((knd.hash k, u) :: es.toList) := n1.trans (List.perm_append_singleton _ _)
    have sz : en.size = es.size + 1 := by rw [← Array.length_toList, pc.length_eq, List.length_cons, Array.length_toList]
    have ld : w.params.followText "set-order" = true ∨ tn.led = true := led.imp id fun z => by rw [n4]; exact z
    have fin : ∀ h' e', Heap.SameBut a s.heap h' → Shape w h' a e' → e'.toList.Perm en.toList → Q true { s with heap := h' } := fun h' e' sb sh pm => hQ true h' e' sb sh (fun z => absurd z no) fun _ => pm.trans pc
    refine wpAny_bind (gw _ ?_)
    split
    · refine wpAny_bind ?_
      rw [hashByValue_scannable 8 hsc]
      refine wpAny_pure (add_end (fun b s₁ Q' q => gw b q) ho hx hd (by rw [sz]; exact room) ?_ ?_ ?_ fun h' e' sb sh pm => ?_)
      · first | (split <;> first | exact n2 | exact SetTable.fits_plain_off n2) | exact n2
      · first | (split <;> exact n3) | exact n3
      · first | (split <;> exact ld) | exact ld
      · dsimp only; exact wpAny_pure (fin h' e' sb sh pm)
    · refine wpAny_bind (wpAny_pure ?_)
      simp only [↓reduceIte]
      refine add_end (fun b s₁ Q' q => gw b q) ho hx hd (by rw [sz]; exact room) n2 n3 ld fun h' e' sb sh pm => ?_
      dsimp only
      exact wpAny_pure (fin h' e' sb sh pm)
theorem shape_madd {k : κ} {u : Value} {es : Array (Int × Value)} {Q : Value → Shared → Prop} (R : Shape w s.heap a es) (hel : ElemsOf knd es.toList) (hk : knd.is k u = true) (hsc : u.scannable = true) (room : es.size + 1 < scanBound)
    (hQ : ∀ h' e', Heap.SameBut a s.heap h' → Shape w h' a e' → ((∃ e ∈ es.toList, knd.is k e.2 = true) → e' = es) → ((¬ ∃ e ∈ es.toList, knd.is k e.2 = true) → e'.toList.Perm ((knd.hash k, u) :: es.toList)) → Q .none { s with heap := h', toks := s.toks + 1 }) :
    wpAny (model P w) A (call (.builtin "set.add") [.ref a, u]) Q E s := by
  obtain ⟨o, ep, t, ho, hx, hd, _⟩ := R.ex
  have ty : s.TypeIs (.ref a) "set" := ⟨o, ho, hx.1⟩
  refine wpAny_call_entry F.slot_set_add ty F.entry_set_add ?_ (F.args_set_add_2 _ _)
  unfold Builtin.«set.add» Builtin.Frozenset.oneOther
  simp only [List.isEmpty_nil, bind_assoc]
  unfold Builtin.Frozenset.addrOf setAdd
  refine wpAny_bind (wpAny_pure (wpAny_bind (wpAny_pure (wpAny_bind (wpAny_holding (wpAny_bind (knd.pyHash hk ?_)))))))
  refine shape_add (s := { s with toks := s.toks + 1 }) R hel hk hsc room fun b h' e' sb sh c1 c2 => ?_
  show wpAny _ _ (PySem.ret Value.none) _ _ _
  exact wpAny_pure ⟨_, rfl, hQ h' e' sb sh c1 c2⟩
end

/-! ### the theory of keys -/
def keyQ (e : Int × Value) : Key := match e.2 with
  | .int i _ => .inl i
  | .str x _ => .inr x
  | _ => .inl 0
theorem keyQ_of {k : Key} {e : Int × Value} (h : keyIs k e.2 = true) : keyQ e = k ∧ e.2.scannable = true := by
  obtain ⟨c, v⟩ := e
  rcases keyIs_shape h with ⟨i, t, rfl, e2⟩ | ⟨x, t, rfl, e2⟩
  · have e2 : v = _ := e2
    subst e2
    exact ⟨rfl, rfl⟩
  · have e2 : v = _ := e2
    subst e2
    exact ⟨rfl, rfl⟩
structure KsOk (P : Program) (w : World) (h : Heap) (a : Addr) (ks : List Key) : Prop where
  ex : ∃ es, Shape w h a es ∧ ElemsOf (mixKind P w) es.toList ∧ (es.toList.map keyQ).Perm ks ∧ ks.Nodup
def keySet (P : Program) (w : World) : SetTh P w where
  T := List Key
  pr := KsOk P w
  e0 := []
  fresh := fun h a e => ⟨#[], ⟨_, 0, _, e, ⟨rfl, rfl, rfl⟩, rfl, by decide, by rfl, List.Pairwise.nil, by
    show _ ∨ (!w.params.followText "set-order") = true
    cases w.params.followText "set-order"
    · exact .inr rfl
    · exact .inl rfl⟩, fun e he => by simp at he, List.Perm.refl _, List.nodup_nil⟩
  there := fun h a x ⟨es, ⟨o, _, _, e, _⟩, _⟩ => ⟨o, e⟩
  stay := fun h h' a x ⟨es, ⟨o, ep, t, e, r⟩, q⟩ k => ⟨es, ⟨o, ep, t, k o e, r⟩, q⟩
def hasK (k : Key) (ks : List Key) : Bool := ks.any fun j => decide (j = k)
theorem hasK_iff {k : Key} {ks : List Key} : hasK k ks = true ↔ k ∈ ks := by
  unfold hasK
  rw [List.any_eq_true]
  exact ⟨fun ⟨j, hj, e⟩ => of_decide_eq_true e ▸ hj, fun h => ⟨k, h, decide_eq_true rfl⟩⟩
def insK (k : Key) (ks : List Key) : List Key := if hasK k ks = true then ks else ks ++ [k]
theorem insK_length (k : Key) (ks : List Key) : (insK k ks).length ≤ ks.length + 1 := by
  unfold insK
  split
  · omega
  · simp
def adK : V → Hp → List Key → List Key → Prop := fun y _ ks ks' => ∃ k, y = kV k ∧ ks.length + 1 < scanBound ∧ ks' = insK k ks
theorem ks_add {P : Program} {w : World} {A : Around} {E Q : Value → Shared → Prop} {s : Shared} {a : Addr} {x : List Key} {k : Key} {u : Value} (R : KsOk P w s.heap a x) (hk : (mixKind P w).is k u = true) (room : x.length + 1 < scanBound)
    (hQ : ∀ h', Heap.SameBut a s.heap h' → KsOk P w h' a (insK k x) → Q .none { s with heap := h', toks := s.toks + 1 }) : wpAny (model P w) A (call (.builtin "set.add") [.ref a, u]) Q E s := by
  obtain ⟨es, sh, hel, pm, nd⟩ := R.ex
  have sz : es.size = x.length := by rw [← pm.length_eq, List.length_map, Array.length_toList]
  have mem : (∃ e ∈ es.toList, (mixKind P w).is k e.2 = true) ↔ k ∈ x := by
    rw [← pm.mem_iff, List.mem_map]
    constructor
    · rintro ⟨e, he, q⟩
      exact ⟨e, he, (keyQ_of (show keyIs k e.2 = true from q)).1⟩
    · rintro ⟨e, he, rfl⟩
      obtain ⟨⟨k', q, _⟩, _⟩ := hel e he
      refine ⟨e, he, ?_⟩
      rw [(keyQ_of (show keyIs k' e.2 = true from q)).1]
      exact q
  have kq := keyQ_of (e := ((mixKind P w).hash k, u)) hk
  refine shape_madd (knd := mixKind P w) sh hel hk kq.2 (by rw [sz]; exact room) fun h' e' sb sh' c1 c2 => hQ h' sb ?_
  by_cases hm : k ∈ x
  · have ee := c1 (mem.mpr hm)
    subst ee
    have ex2 : insK k x = x := if_pos (hasK_iff.mpr hm)
    rw [ex2]
    exact ⟨e', sh', hel, pm, nd⟩
  · have pe := c2 fun z => hm (mem.mp z)
    have ex2 : insK k x = x ++ [k] := if_neg fun z => hm (hasK_iff.mp z)
    rw [ex2]
    refine ⟨e', sh', fun e he => ?_, ?_, ?_⟩
    · rcases List.mem_cons.mp (pe.mem_iff.mp he) with z | z
      · subst z
        exact ⟨⟨k, hk, rfl⟩, kq.2⟩
      · exact hel e z
    · refine (pe.map keyQ).trans ?_
      rw [List.map_cons, kq.1]
      exact (pm.cons k).trans (List.perm_append_singleton k x).symm
    · refine List.nodup_append.mpr ⟨nd, by simp, fun p hp q hq z => ?_⟩
      rw [List.mem_singleton.mp hq] at z
      exact hm (z ▸ hp)
theorem keySet_add {X : Cx} : AddOk X (keySet X.prog X.w) adK := by
  intro pins s sg H a x x' y u E Q I e ry ⟨k, ey, room, ex⟩ hQ
  subst ey ex
  exact ks_add ((keySet X.prog X.w).get I e) (kV_is ry) room fun h' sb R => hQ _ ((keySet X.prog X.w).turn I e sb R)
end Md

set_option Elab.async false
set_option linter.all false
set_option maxRecDepth 100000
set_option maxHeartbeats 1000000
/-! Md19: sorted of dicts and of set comprehensions. -/
namespace Md
open PySem PySem.Spec PyProof.Rows L2

/-! ### keys in their order -/
def leS (x y : Str) : Bool := decide (x.cps.toList ≤ y.cps.toList)
def leI_ (x y : Int) : Bool := decide (x ≤ y)
def intsK : List Key → Option (List Int)
  | [] => some []
  | .inl i :: r => (intsK r).map (i :: ·)
  | _ => none
def strsK : List Key → Option (List Str)
  | [] => some []
  | .inr i :: r => (strsK r).map (i :: ·)
  | _ => none
def sortKey (ks : List Key) : Option (List Key) := match intsK ks with
  | some is => some ((isortB leI_ is).map Sum.inl)
  | none => match strsK ks with
    | some xs => some ((isortB leS xs).map Sum.inr)
    | none => none
theorem intsK_eq : ∀ {ks : List Key} {is : List Int}, intsK ks = some is → ks = is.map Sum.inl
  | [], is, h => by injection h with h; subst h; rfl
  | .inl i :: r, is, h => by
    obtain ⟨js, e, e2⟩ := Option.map_eq_some_iff.mp (show (intsK r).map (i :: ·) = some is from h)
    subst e2
    rw [intsK_eq e]
    rfl
  | .inr x :: r, is, h => by cases h
theorem strsK_eq : ∀ {ks : List Key} {is : List Str}, strsK ks = some is → ks = is.map Sum.inr
  | [], is, h => by injection h with h; subst h; rfl
  | .inr i :: r, is, h => by
    obtain ⟨js, e, e2⟩ := Option.map_eq_some_iff.mp (show (strsK r).map (i :: ·) = some is from h)
    subst e2
    rw [strsK_eq e]
    rfl
  | .inl x :: r, is, h => by cases h
theorem leI_trans (a b c : Int) (h : leI_ a b = true) (k : leI_ b c = true) : leI_ a c = true := decide_eq_true (Int.le_trans (of_decide_eq_true h) (of_decide_eq_true k))
theorem leI_total (a b : Int) : (leI_ a b || leI_ b a) = true := by
  unfold leI_
  rw [Bool.or_eq_true, decide_eq_true_eq, decide_eq_true_eq]
  omega
theorem leS_trans (a b c : Str) (h : leS a b = true) (k : leS b c = true) : leS a c = true := decide_eq_true (List.le_trans (of_decide_eq_true h) (of_decide_eq_true k))
theorem leS_total (a b : Str) : (leS a b || leS b a) = true := by
  unfold leS
  rw [Bool.or_eq_true, decide_eq_true_eq, decide_eq_true_eq]
  exact List.le_total _ _
theorem leS_anti {a b : Str} (h : leS a b = true) (k : leS b a = true) : a = b := by
  have e := List.le_antisymm (of_decide_eq_true h) (of_decide_eq_true k)
  obtain ⟨⟨x⟩⟩ := a
  obtain ⟨⟨y⟩⟩ := b
  have e : x = y := e
  subst e
  rfl
theorem sort_one {α : Type} {le : α → α → Bool} (tr : ∀ a b c, le a b = true → le b c = true → le a c = true) (to : ∀ a b, (le a b || le b a) = true) (an : ∀ a b, le a b = true → le b a = true → a = b) {xs ys : List α} (p : xs.Perm ys) : xs.mergeSort le = ys.mergeSort le :=
  List.Perm.eq_of_pairwise (le := fun a b => le a b = true) (fun a b _ _ => an a b) (List.pairwise_mergeSort tr to xs) (List.pairwise_mergeSort tr to ys) ((List.mergeSort_perm xs le).trans (p.trans (List.mergeSort_perm ys le).symm))
theorem perm_map_inl {ts : List Key} {is : List Int} (p : ts.Perm (is.map Sum.inl)) : ∃ js : List Int, ts = js.map Sum.inl ∧ js.Perm is := by
  have all : ∀ (ts : List Key), (∀ t ∈ ts, ∃ i, t = Sum.inl i) → ∃ js : List Int, ts = js.map Sum.inl := by
    intro ts
    induction ts with
    | nil => intro _; exact ⟨[], rfl⟩
    | cons t ts ih =>
      intro h
      obtain ⟨i, e⟩ := h t (by simp)
      obtain ⟨js, e2⟩ := ih fun u hu => h u (by simp [hu])
      exact ⟨i :: js, by rw [e, e2]; rfl⟩
  obtain ⟨js, e⟩ := all ts fun t ht => by
    obtain ⟨i, _, e⟩ := List.mem_map.mp (p.mem_iff.mp ht)
    exact ⟨i, e.symm⟩
  subst e
  refine ⟨js, rfl, ?_⟩
  have q := p.filterMap (fun k : Key => match k with | .inl i => some i | .inr _ => none)
  simpa [List.filterMap_map, Function.comp_def] using q
theorem perm_map_inr {ts : List Key} {is : List Str} (p : ts.Perm (is.map Sum.inr)) : ∃ js : List Str, ts = js.map Sum.inr ∧ js.Perm is := by
  have all : ∀ (ts : List Key), (∀ t ∈ ts, ∃ i, t = Sum.inr i) → ∃ js : List Str, ts = js.map Sum.inr := by
    intro ts
    induction ts with
    | nil => intro _; exact ⟨[], rfl⟩
    | cons t ts ih =>
      intro h
      obtain ⟨i, e⟩ := h t (by simp)
      obtain ⟨js, e2⟩ := ih fun u hu => h u (by simp [hu])
      exact ⟨i :: js, by rw [e, e2]; rfl⟩
  obtain ⟨js, e⟩ := all ts fun t ht => by
    obtain ⟨i, _, e⟩ := List.mem_map.mp (p.mem_iff.mp ht)
    exact ⟨i, e.symm⟩
  subst e
  refine ⟨js, rfl, ?_⟩
  have q := p.filterMap (fun k : Key => match k with | .inr i => some i | .inl _ => none)
  simpa [List.filterMap_map, Function.comp_def] using q
/-- any order of these keys is sorted to the same -/
theorem sortKey_ok {ks zs : List Key} (h : sortKey ks = some zs) : PySem.W.AllAlike (ks.map keyPy) ∧ PySem.W.Sortable (ks.map keyPy) ∧ ∀ ts : List Key, ts.Perm ks → ts.mergeSort (PySem.W.dataLe false keyPy) = zs := by
  unfold sortKey at h
  cases e1 : intsK ks with
  | some is =>
    rw [e1] at h
    injection h with h
    subst h
    have ek := intsK_eq e1
    subst ek
    have hm : ∀ d ∈ (is.map Sum.inl).map keyPy, ∃ i, d = PyData.int i := fun d hd => by
      obtain ⟨k, hk, rfl⟩ := List.mem_map.mp hd
      obtain ⟨i, _, rfl⟩ := List.mem_map.mp hk
      exact ⟨i, rfl⟩
    refine ⟨fun d hd d' hd' => ?_, .inr fun d hd => ?_, fun ts p => ?_⟩
    · obtain ⟨i, rfl⟩ := hm d hd
      obtain ⟨j, rfl⟩ := hm d' hd'
      simp [PySem.W.alike]
    · obtain ⟨i, rfl⟩ := hm d hd
      exact ⟨(fun z => nomatch z), (fun xs z => nomatch z)⟩
    · obtain ⟨js, rfl, pj⟩ := perm_map_inl p
      rw [← isortB_eq ⟨leI_trans, fun a b => by simpa using leI_total a b⟩ is]
      rw [← List.map_mergeSort (r := leI_) (f := Sum.inl) (fun a _ b _ => by
        have q := congrFun (congrFun (PySem.W.dataLe_int (β := Int) id) a) b
        exact q.symm), sort_one leI_trans leI_total (fun a b x y => Int.le_antisymm (of_decide_eq_true x) (of_decide_eq_true y)) pj]
  | none =>
    rw [e1] at h
    dsimp only at h
    cases e2 : strsK ks with
    | none => rw [e2] at h; cases h
    | some is =>
      rw [e2] at h
      injection h with h
      subst h
      have ek := strsK_eq e2
      subst ek
      have hm : ∀ d ∈ (is.map Sum.inr).map keyPy, ∃ i, d = PyData.str i := fun d hd => by
        obtain ⟨k, hk, rfl⟩ := List.mem_map.mp hd
        obtain ⟨i, _, rfl⟩ := List.mem_map.mp hk
        exact ⟨i, rfl⟩
      refine ⟨fun d hd d' hd' => ?_, .inr fun d hd => ?_, fun ts p => ?_⟩
      · obtain ⟨i, rfl⟩ := hm d hd
        obtain ⟨j, rfl⟩ := hm d' hd'
        simp [PySem.W.alike]
      · obtain ⟨i, rfl⟩ := hm d hd
        exact ⟨(fun z => nomatch z), (fun xs z => nomatch z)⟩
      · obtain ⟨js, rfl, pj⟩ := perm_map_inr p
        rw [← isortB_eq ⟨leS_trans, fun a b => by simpa using leS_total a b⟩ is]
        rw [← List.map_mergeSort (r := leS) (f := Sum.inr) (fun a _ b _ => by
          have q := congrFun (congrFun (PySem.W.dataLe_str (β := Str) id) a) b
          exact q.symm), sort_one leS_trans leS_total (fun a b x y => leS_anti x y) pj]
def qD : Key → D
  | .inl i => .int i
  | .inr x => .str x
theorem qD_kV {K : PySem.W.Frag} {mg : Str → Option Value} {O : Ow} {H : Hp} : ∀ (ks : List Key), DVs K mg O H (ks.map qD) (ks.map kV)
  | [] => .nil
  | .inl i :: r => .cons (.int i) (qD_kV r)
  | .inr x :: r => .cons (.str x) (qD_kV r)
theorem rdK {K : PySem.W.Frag} {H : Hp} (k : Key) : RdV K H (kV k) (keyPy k) ∧ (keyPy k).depth ≤ 60 := by
  cases k with
  | inl i => exact ⟨.int i, by simp [keyPy, PyData.depth]⟩
  | inr x => exact ⟨.str x, by simp [keyPy, PyData.depth]⟩

/-! ### sorted, of what can be collected -/
mutual
theorem reads_lt {h : Heap} : ∀ {v : Value} {x : PyData} {as : List Addr}, Reads h v x as → ∀ b ∈ as, b < h.objs.size
  | _, _, _, .none, b, hb => by cases hb
  | _, _, _, .bool _, b, hb => by cases hb
  | _, _, _, .int _ _, b, hb => by cases hb
  | _, _, _, .str _ _, b, hb => by cases hb
  | _, _, _, .list e _ _ t, b, hb => by
    rcases List.mem_cons.mp hb with z | z
    · rw [z]; exact Heap.lt_size e
    · exact readsAll_lt t b z
  | _, _, _, .tuple _ _ _ t, b, hb => readsAll_lt t b hb
  | _, _, _, .dict e _ _ t u, b, hb => by
    rcases List.mem_append.mp hb with z | z
    · rcases List.mem_cons.mp z with z | z
      · rw [z]; exact Heap.lt_size e
      · exact readsAll_lt t b z
    · exact readsAll_lt u b z
theorem readsAll_lt {h : Heap} : ∀ {vs : List Value} {xs : List PyData} {as : List Addr}, ReadsAll h vs xs as → ∀ b ∈ as, b < h.objs.size
  | _, _, _, .nil, b, hb => by cases hb
  | _, _, _, .cons a t, b, hb => by
    rcases List.mem_append.mp hb with z | z
    · exact reads_lt a b z
    · exact readsAll_lt t b z
end
theorem sorted_col {X : Cx} (hu : X.A.units + 64 < cLine) {pins : List (Addr × Obj)} {sg : L2.St} {s : Shared} {x : Value} {Q : VK}
    (hc : wpAny (model X.prog X.w) X.A.in1 (collect x) (fun vs s1 => ∃ (H : Hp) (ts : List (V × PyData)), L2.Inv X pins sg H s1 ∧ Vals (ts.map (·.1)) vs ∧ (∀ t ∈ ts, RdV X.K H t.1 t.2 ∧ t.2.depth ≤ 50) ∧ PySem.W.AllAlike (ts.map (·.2)) ∧ PySem.W.Sortable (ts.map (·.2)) ∧ ts.length ≤ sizeLine ∧
      ∀ l, H l = none → Q (.ref l) (upd H l (.lst ((ts.mergeSort (PySem.W.dataLe false (·.2))).map (·.1))))) X.xe s) : wpAny (model X.prog X.w) X.A (call (.builtin "sorted") [x]) (EP X pins sg Q) X.xe s := by
  refine Calls.call_function_entry PyProof.Rows.kind_sorted PyProof.Rows.plain_sorted PyProof.Rows.entry_sorted (PyProof.Rows.args_sorted1 _) ?_
  unfold Builtin.«sorted»
  refine wpAny_bind (m := checkCount "sorted" 1 1 _) (wpAny_pure (wpAny_bind (wpAny_mono hc (fun vs s1 ⟨H, ts, I, rv, rd, al, so, len, q⟩ => ?_) fun _ _ z => z)))
  have lv : vs.length = ts.length := by rw [← rv.length, List.length_map]
  refine wpAny_bind (wpAny_newList ?_ (by rw [lv]; exact len))
  have at1 : (s1.heap.push (seqObj "list" vs.toArray 0)).get? s1.heap.objs.size = some (seqObj "list" vs.toArray 0) := Heap.get?_push_size _ rfl
  have I1 : L2.Inv X pins sg H { s1 with heap := s1.heap.push (seqObj "list" vs.toArray 0) } := I.kept (t' := s1.toks) fun b o e => Heap.get?_push_of_some _ e
  have e1 := vals_each (fun t : V × PyData => t.1) rv
  have e2 : PySem.W.EachIs (fun v t => ∃ as, Reads (s1.heap.push (seqObj "list" vs.toArray 0)) v t.2 as ∧ s1.heap.objs.size ∉ as) vs ts := by
    refine (PySem.W.each_mem e1).mono fun v t ⟨rt, mt⟩ => ?_
    obtain ⟨as, ra⟩ := reads_of I (rd t mt).1 rt
    exact ⟨as, PyProof.Rows.Reads.keeps (fun b o e => Heap.get?_push_of_some _ e) ra, fun z => Nat.lt_irrefl _ (reads_lt ra _ z)⟩
  refine wpAny_bind (wpAny_holding (PySem.W.list_sort_data (s := { s1 with heap := s1.heap.push (seqObj "list" vs.toArray 0) }) (enc := fun t : V × PyData => t.2) at1 e1 e2 al so len (fun t mt => by
    have := (rd t mt).2
    show X.A.units + 1 + 1 + t.2.depth < cLine
    omega) fun out lo eo => ?_))
  obtain ⟨c, hc2⟩ := PyProof.Rows.sortedHeap_at (vs := vs) (out := out.toArray) at1
  refine wpAny_pure ⟨_, rfl, .ref s1.heap.objs.size, upd H s1.heap.objs.size (.lst ((ts.mergeSort (PySem.W.dataLe false (·.2))).map (·.1))), I.laid (t' := s1.toks) (fun b o e => ?_) (Nat.le_refl _) ⟨?_, out, c, each_vals (fun t : V × PyData => t.1) eo, hc2⟩, rfl, q _ (I.hok.fresh (Nat.le_refl _))⟩
  · have lt := Heap.lt_size e
    show (sortedHeap (s1.heap.push (seqObj "list" vs.toArray 0)) s1.heap.objs.size vs out.toArray).get? b = some o
    rw [PyProof.Rows.sortedHeap_old (Nat.ne_of_lt lt) (by rw [size_push']; exact Nat.lt_succ_of_lt lt)]
    exact Heap.get?_push_of_some _ e
  · rw [List.length_map, List.length_mergeSort]
    exact len
end Md

set_option Elab.async false
set_option linter.all false
set_option maxRecDepth 100000
set_option maxHeartbeats 1000000
/-! Md20: sorted({..}), sorted(a dict), list(a dict). -/
namespace Md
open PySem PySem.Spec PyProof.Rows L2

/-! ### sorted({e for t in it if ..}) -/
def ksR (t : TgM) (tt : Rs → M Bool) (te : Rs → M D) (env : Rs) : List D → List Key → M (List Key)
  | [], acc => ret acc
  | d :: ds, acc => bnd (t d env) fun e => bnd (tt e) fun k => if k = true then bnd (te e) fun y => match keyD y with
    | some q => if acc.length + 1 < scanBound then ksR t tt te env ds (insK q acc) else bad
    | none => bad
    else ksR t tt te env ds acc
def ksF (fin : List D → M D) (ks : List Key) : M D := match sortKey ks with
  | some zs => if zs.length ≤ sizeLine then fin (zs.map qD) else bad
  | none => bad
def ksM (own : List Nat) (it : Rs → M (List D)) (t : TgM) (tt : Rs → M Bool) (te : Rs → M D) (fin : List D → M D) : Rs → M D := fun env =>
  bnd (it env) fun items => bnd (nox (ksR t tt te (wipeR env own) items [])) (ksF fin)
def rSortSet (P : Program) (w : World) : List V → Hp → VK → Prop := fun xs H Q => ∃ (a : Addr) (ks zs : List Key), xs = [.ref a] ∧ H a = some ((keySet P w).so a ks) ∧ sortKey ks = some zs ∧ zs.length ≤ sizeLine ∧ ∀ l, H l = none → Q (.ref l) (upd H l (.lst (zs.map kV)))
theorem ts_sort {ts zs : List Key} (h : ts.mergeSort (PySem.W.dataLe false keyPy) = zs) : ((ts.map fun k => (kV k, keyPy k)).mergeSort (PySem.W.dataLe false (·.2))).map (·.1) = zs.map kV := by
  rw [← List.map_mergeSort (r := PySem.W.dataLe false keyPy) (f := fun k => (kV k, keyPy k)) (fun a _ b _ => rfl), h, List.map_map]
  rfl
theorem vals_keys : ∀ {vs : List Value} {ks : List Key}, Paired (fun v k => keyIs k v = true) vs ks → Vals (ks.map kV) vs
  | _, _, .nil => .nil
  | _, _, .cons (b := k) h t => .cons (relV_key (show keyIs k _ = true from h)) (vals_keys t)
theorem keys_of_perm {P : Program} {w : World} {es : List (Int × Value)} (hel : ElemsOf (mixKind P w) es) : ∀ {out : List Value}, (∀ v ∈ out, ∃ e ∈ es, e.2 = v) → Paired (fun v k => keyIs k v = true) out (out.map fun v => keyQ (0, v))
  | [], _ => .nil
  | v :: out, h => by
    obtain ⟨e, he, ev⟩ := h v (by simp)
    obtain ⟨⟨k, hk, _⟩, _⟩ := hel e he
    rw [ev] at hk
    refine .cons ?_ (keys_of_perm hel fun u hu => h u (by simp [hu]))
    show keyIs (keyQ (0, v)) v = true
    rw [(keyQ_of (e := (0, v)) (show keyIs k v = true from hk)).1]
    exact hk
theorem call_sortSet {X : Cx} (hc : X.calm = true) (hu : X.A.units + 64 < cLine) : CallR X (.builtin "sorted") (rSortSet X.prog X.w) := by
  intro pins s sg H xs us Q I r ⟨a, ks, zs, ex, ea, es, hz, q⟩
  subst ex
  obtain ⟨u, rfl, ru⟩ := r.one
  obtain rfl : u = .ref a := ru
  obtain ⟨en, ⟨o, ep, t, ho, hx, hd, few, fit, ris, led⟩, hel, pm, nd⟩ := ((keySet X.prog X.w).get I ea).ex
  obtain ⟨al, so, uniq⟩ := sortKey_ok es
  refine sorted_col hu (collect_set (A := X.A.in1) (I.ok.hd hc) ⟨o, ho, hx.1, hd⟩ fit few ris led fun s1 out kp sz gn os pv => ?_)
  have pk : (out.map fun v => keyQ (0, v)).Perm ks := by
    refine (pv.map fun v => keyQ (0, v)).trans ?_
    rw [List.map_map]
    exact pm
  have I1 : L2.Inv X pins sg H s1 := by
    obtain ⟨h1, g1, d1, t1, o1⟩ := s1
    have gn : g1 = s.gens := gn
    have os : o1 = s.os := os
    subst gn os
    exact I.call' (ch := []) rfl (Un.kept kp) (I.hok.kept kp) I.bare fun _ z => nomatch z
  have pr := keys_of_perm hel (out := out) fun v hv => by
    obtain ⟨e, he, ev⟩ := List.mem_map.mp (pv.mem_iff.mp hv)
    exact ⟨e, he, ev⟩
  have mem : ∀ d ∈ (out.map fun v => keyQ (0, v)).map keyPy, d ∈ ks.map keyPy := fun d hd => (pk.map keyPy).mem_iff.mp hd
  have e2 : ((out.map fun v => keyQ (0, v)).map fun k => (kV k, keyPy k)).map (·.2) = (out.map fun v => keyQ (0, v)).map keyPy := by rw [List.map_map]; rfl
  have e1 : ((out.map fun v => keyQ (0, v)).map fun k => (kV k, keyPy k)).map (·.1) = (out.map fun v => keyQ (0, v)).map kV := by rw [List.map_map]; rfl
  have zl : zs.length = ks.length := by rw [← uniq ks (List.Perm.refl _), List.length_mergeSort]
  refine ⟨H, (out.map fun v => keyQ (0, v)).map fun k => (kV k, keyPy k), I1, by rw [e1]; exact vals_keys pr, fun t mt => ?_, ?_, ?_, ?_, fun l hl => ?_⟩
  · obtain ⟨k, _, rfl⟩ := List.mem_map.mp mt
    refine ⟨(rdK k).1, ?_⟩
    cases k <;> simp [keyPy, PyData.depth]
  · rw [e2]; exact fun d hd d' hd' => al d (mem d hd) d' (mem d' hd')
  · rw [e2]
    exact so.imp (fun f d hd => f d (mem d hd)) fun f d hd => f d (mem d hd)
  · rw [List.length_map, pk.length_eq, ← zl]; exact hz
  · rw [ts_sort (uniq _ pk)]
    exact q l hl
theorem ks_ok {X : Cx} {K : PySem.W.Frag} {mg : Str → Option Value} {W : WX} {own : List Nat} {it : Rs → M (List D)} {t : TgM} {tt : Rs → M Bool} {te : Rs → M D} {fin : List D → M D} (hf : NewOk K mg fin) {sg : L2.St} {H : Hp} {Q : VK}
    (h : tM K mg W (ksM own it t tt te fin) sg H Q) : tCB (rSortSet X.prog X.w) (tCons (tSet (X := X) (keySet X.prog X.w) adK (tMI K mg W it) (tMG K mg own t) (tMT K mg W0 tt) (tM K mg W0 te) own) tNil) sg H Q := by
  obtain ⟨O, env, s, hE, hS, hP⟩ := h
  refine ⟨O, env, s, hE, hS, hP.split.imp (fun items s1 O1 H1 _ x1 q1 p1 J wk => ?_) fun _ _ _ _ _ _ z => z⟩
  intro D hD
  obtain ⟨zs, sz, ez, pz⟩ := nox_ok p1
  have b0 := beside (o := (keySet X.prog X.w).so D []) q1 (.refl : Ext O1 H1 O1 H1) hD (notMu q1 hD) (notFz q1 hD) (fun xs e => by rw [hD] at e; cases e) (fun x y e => by rw [hD] at e; cases e)
  have hE1 : RelE K mg O1 H1 (wipeR env own) (wipe sg own) := (hE.mono x1.toMono).wipe own
  refine ⟨fun i m H => m = items.length - i ∧ i ≤ items.length ∧ ∃ O s acc, Ext O1 H1 O H ∧ D ∉ O.mu ∧ ¬ O.fz D ∧ H D = some ((keySet X.prog X.w).so D acc) ∧ RelE K mg O H (wipeR env own) (wipe sg own) ∧ RelS K mg O H s ∧
      ksR t tt te (wipeR env own) (items.drop i) acc s = .ok zs sz,
    ⟨items.length, by simp, Nat.zero_le _, O1, s1, [], b0.2.1, notMu q1 hD, notFz q1 hD, upd_same, hE1.mono b0.1, b0.2.2, ez⟩, ?_⟩
  rintro i m H2 ⟨rfl, hi, O2, s2, acc, x2, nm, nf, eD, hE2, hS2, er⟩
  by_cases hlt : i < items.length
  · refine .inr ⟨wk.go i O2 H2 x2 hlt, fun H => i + 1 ≤ items.length ∧ ∃ O s acc, Ext O1 H1 O H ∧ D ∉ O.mu ∧ ¬ O.fz D ∧ H D = some ((keySet X.prog X.w).so D acc) ∧ RelE K mg O H (wipeR env own) (wipe sg own) ∧ RelS K mg O H s ∧
      ksR t tt te (wipeR env own) (items.drop (i + 1)) acc s = .ok zs sz, fun H' ⟨a, b⟩ => ⟨items.length - (i + 1), by omega, rfl, a, b⟩, fun y H3 hy => ?_⟩
    obtain ⟨d, O3, ed, x3, q3, dv⟩ := wk.yld i O2 H2 s2 y H3 hlt x2 hS2 hy
    have edr : items.drop i = d :: items.drop (i + 1) := by
      rw [List.drop_eq_getElem_cons (h := hlt)]
      rw [List.getElem?_eq_getElem hlt] at ed
      rw [Option.some.inj ed]
    rw [edr] at er
    obtain ⟨e4, s4, h4, er⟩ := bnd_ok er
    obtain ⟨k, s5, h5, er⟩ := bnd_ok er
    obtain ⟨nm3, nf3, eD3⟩ := x3.beside nm nf eD
    have x13 := x2.trans hS2 x3
    refine ⟨O3, wipeR env own, s2, d, hE2.mono x3.toMono, q3, dv, ?_⟩
    rw [h4]
    intro O4 H4 sg4 x4 q4 r4 w4
    refine ⟨w4.trans (wipe_twice own sg), O4, e4, s4, r4, q4, ?_⟩
    rw [h5]
    intro O5 H5 x5 q5
    have x14 := x13.trans q3 x4
    have x15 := x14.trans q4 x5
    obtain ⟨nm4, nf4, eD4⟩ := x4.beside nm3 nf3 eD3
    obtain ⟨nm5, nf5, eD5⟩ := x5.beside nm4 nf4 eD4
    have m35 := (x3.toMono.trans x4.toMono).trans x5.toMono
    cases k with
    | false =>
      rw [if_neg Bool.false_ne_true] at er
      exact iteFF ⟨hlt, O5, s5, acc, x15, nm5, nf5, eD5, hE2.mono m35, q5, er⟩
    | true =>
      rw [if_pos rfl] at er
      refine iteTT ?_
      obtain ⟨z6, s6, h6, er⟩ := bnd_ok er
      refine ⟨O5, e4, s5, r4.mono x5.toMono, q5, ?_⟩
      rw [h6]
      intro O6 H6 x6 q6 v6 dv6
      obtain ⟨nm6, nf6, eD6⟩ := x6.beside nm5 nf5 eD5
      have x16 := x15.trans q5 x6
      have m36 := m35.trans x6.toMono
      cases ek : keyD z6 with
      | none => rw [ek] at er; cases er
      | some q =>
        rw [ek] at er
        dsimp only at er
        by_cases hl : acc.length + 1 < scanBound
        · rw [if_pos hl] at er
          have b7 := beside (o := (keySet X.prog X.w).so D (insK q acc)) q6 x16 hD nm6 nf6 (fun xs e => by rw [eD6] at e; cases e) (fun x y e => by rw [eD6] at e; cases e)
          exact ⟨acc, insK q acc, eD6, ⟨q, keyV dv6 ek, hl, rfl⟩, hlt, O6, s6, _, b7.2.1, nm6, nf6, upd_same, (hE2.mono m36).mono b7.1, b7.2.2, er⟩
        · rw [if_neg hl] at er; cases er
  · have e : i = items.length := by omega
    subst e
    rw [List.drop_length] at er
    have erq : (Res.ok acc s2 : Res (List Key)) = .ok zs sz := er
    injection erq with e8 e9
    subst e8
    subst e9
    refine .inl ⟨wk.stop O2 H2 x2, ?_⟩
    unfold ksF at pz
    cases e3 : sortKey acc with
    | none => rw [e3] at pz; exact pz.elim
    | some ys =>
      rw [e3] at pz
      dsimp only at pz
      by_cases hl : ys.length ≤ sizeLine
      · rw [if_pos hl] at pz
        exact ⟨D, acc, ys, rfl, eD, e3, hl, fun l hl' => hf O2 H2 s2 l _ _ Q _ hS2 hl' (qD_kV ys) (Post.ext pz x2 hS2)⟩
      · rw [if_neg hl] at pz; exact pz.elim
section
variable {X : Cx} {W : WX}
theorem re_sortSet {fin : List D → M D} (hf : NewOk X.K X.mg fin) {elt tg iter : Expr} {ifs : List Expr} {scope : Scope} (own : List (Str × Nat)) {p pos pos2 : Pos} {it : Rs → M (List D)} {t : TgM} {tt : Rs → M Bool} {te : Rs → M D} (hc : X.calm = true) (hu : X.A.units + 64 < cLine) (hm : X.mg "sorted" = none) (hN : X.N.Nodup) (ok : blkC X.N X.env.scope scope own = true) (hi : RI X W tg iter it)
    (hg : ∀ (s : Shared) (H : Hp) (C : Addr) (cl : List (Str × Addr)) (fp : List Addr), RG (X.blk s H scope (compEnvC scope cl C X.env) fp) (own.map (·.2)) tg t)
    (ht : ∀ (s : Shared) (H : Hp) (C : Addr) (cl : List (Str × Addr)) (fp : List Addr), RTs (X.blk s H scope (compEnvC scope cl C X.env) fp) W0 ifs tt)
    (he : ∀ (s : Shared) (H : Hp) (C : Addr) (cl : List (Str × Addr)) (fp : List Addr), RE (X.blk s H scope (compEnvC scope cl C X.env) fp) W0 elt te) (hgl : Gl X "sorted" := by rfl) (hs : ∀ x, foldedSetIterable iter X.env x = pure x := by intro _; rfl)
    (hst : starEach [.SetComp elt [⟨tg, iter, ifs, 0⟩] scope pos] X.env = (false, eval (.SetComp elt [⟨tg, iter, ifs, 0⟩] scope pos) X.env) :: starEach [] X.env := by rfl) :
    RE X W (.Call (.Name "sorted" p) [.SetComp elt [⟨tg, iter, ifs, 0⟩] scope pos] [] pos2) (ksM (own.map (·.2)) it t tt te fin) := by
  have z : PE X (.SetComp elt [⟨tg, iter, ifs, 0⟩] scope pos) (tSet (keySet X.prog X.w) adK (tMI X.K X.mg W it) (tMG X.K X.mg (own.map (·.2)) t) (tMT X.K X.mg W0 tt) (tM X.K X.mg W0 te) (own.map (·.2))) :=
    pe_setC (keySet X.prog X.w) adK hc hN hi (blkOk_by ok) hg ht he (fun s H C cl fp => keySet_add (X := X.blk s H scope (compEnvC scope cl C X.env) fp)) hs
  exact pe_weak (pe_callB (call_sortSet hc hu) hgl hm (by with_unfolding_all rfl) (pa_cons z pa_nil hst) (by decide) (by decide) hst rfl) fun _ _ _ h => ks_ok hf h
end

/-! ### sorted(a dict), list(a dict) -/
def rSortD : List V → Hp → VK → Prop := fun xs H Q => ∃ (a : Addr) (kvs : List (Key × V)) (zs : List Key), xs = [.ref a] ∧ Rd H a (.dK kvs) ∧ sortKey (kvs.map (·.1)) = some zs ∧ ∀ l, H l = none → Q (.ref l) (upd H l (.lst (zs.map kV)))
theorem items_keys {acc : Array Value} {vs : List (Key × Value)} (h : ItemsOf (fun i v => ∃ k x, vs[i]? = some (k, x) ∧ keyIs k v = true) acc vs.length) : Vals ((vs.map (·.1)).map kV) acc.toList := by
  have key : ∀ (us : List Value) (ws : List (Key × Value)), us.length = ws.length → (∀ (i : Nat) (v : Value), us[i]? = some v → ∃ k x, ws[i]? = some (k, x) ∧ keyIs k v = true) → Vals ((ws.map (·.1)).map kV) us := by
    intro us
    induction us with
    | nil => intro ws hl _; cases ws with
      | nil => exact .nil
      | cons w ws => cases hl
    | cons u us ih => intro ws hl h; cases ws with
      | nil => cases hl
      | cons w ws =>
        obtain ⟨k, x, e, ki⟩ := h 0 u rfl
        have e := Option.some.inj (show some w = some (k, x) from e)
        subst e
        exact .cons (relV_key ki) (ih ws (by simpa using hl) fun i v ev => h (i + 1) v (by simpa using ev))
  exact key _ _ (by rw [Array.length_toList]; exact h.1) fun i v ev => h.2 i v (by rw [← Array.getElem?_toList]; exact ev)
theorem call_sortD {X : Cx} (hc : X.calm = true) (hu : X.A.units + 64 < cLine) : CallR X (.builtin "sorted") rSortD := by
  intro pins s sg H xs us Q I r ⟨a, kvs, zs, ex, ea, es, q⟩
  subst ex
  obtain ⟨u, rfl, ru⟩ := r.one
  obtain rfl : u = .ref a := ru
  obtain ⟨z, lo, vs, rel, dd⟩ := dk_rd I.hok ea
  obtain ⟨ep, hat⟩ := dd.dictAt
  obtain ⟨al, so, uniq⟩ := sortKey_ok es
  have lv : vs.length ≤ sizeLine := by rw [← rel.length]; exact z
  refine sorted_col hu (PySem.W.kdu_collect (A := X.A.in1) (PySem.W.kdl_dict (knd := mixKind X.prog X.w) (kvs := vs) (ep := ep) lo) (I.ok.hd hc) hat lv fun h' tk acc hk hacc => ?_)
  have ek : vs.map (·.1) = kvs.map (·.1) := rel.keys.symm
  have e2 : ((vs.map (·.1)).map fun k => (kV k, keyPy k)).map (·.2) = (kvs.map (·.1)).map keyPy := by rw [List.map_map, ek]; rfl
  have e1 : ((vs.map (·.1)).map fun k => (kV k, keyPy k)).map (·.1) = (vs.map (·.1)).map kV := by rw [List.map_map]; rfl
  refine ⟨H, (vs.map (·.1)).map fun k => (kV k, keyPy k), I.kept hk, by rw [e1]; exact items_keys hacc, fun t mt => ?_, by rw [e2]; exact al, by rw [e2]; exact so, by rw [List.length_map, List.length_map]; exact lv, fun l hl => ?_⟩
  · obtain ⟨k, _, rfl⟩ := List.mem_map.mp mt
    refine ⟨(rdK k).1, ?_⟩
    cases k <;> simp [keyPy, PyData.depth]
  · rw [ts_sort (uniq _ (by rw [ek]))]
    exact q l hl
def keysD : List (D × D) → Option (List Key)
  | [] => some []
  | kv :: r => match keyD kv.1, keysD r with
    | some q, some qs => some (q :: qs)
    | _, _ => none
theorem keysD_ok {K : PySem.W.Frag} {mg : Str → Option Value} {O : Ow} {H : Hp} : ∀ {kvs : List (D × D)} {vs : List (Key × V)} {qs : List Key}, PrK K mg O H kvs vs → keysD kvs = some qs → qs = vs.map (·.1)
  | _, _, qs, .nil, h => by injection h with h; subst h; rfl
  | _, _, qs, .cons (fs := r) e a t, h => by
    unfold keysD at h
    rw [e] at h
    cases e2 : keysD r with
    | none => rw [e2] at h; cases h
    | some ps =>
      rw [e2] at h
      injection h with h
      subst h
      rw [keysD_ok t e2]
      rfl
/-- sorted(x): a dict's keys, a list's items -/
def sortAF (fin : List D → M D) : D → M D := fun d s => match dctD s d with
  | some (_, _, kvs) => match (keysD kvs).bind sortKey with
    | some zs => fin (zs.map qD) s
    | none => .bad
  | none => sortF fin d s
theorem sortAF_ok {K : PySem.W.Frag} {mg : Str → Option Value} {fin : List D → M D} (hf : NewOk K mg fin) : CallOk K mg (fun xs H Q => rSortD xs H Q ∨ rSrt K xs H Q) (arg1 (sortAF fin)) := call1 fun O H s d v Q X' r dv h => by
  unfold sortAF at h
  cases e1 : dctD s d with
  | none => rw [e1] at h; exact .inr (sortF_ok hf O H s [d] [v] Q X' r (.cons dv .nil) h)
  | some x =>
    obtain ⟨n, lk, kvs⟩ := x
    rw [e1] at h
    dsimp only at h
    cases e2 : keysD kvs with
    | none => rw [e2] at h; exact h.elim
    | some qs =>
      rw [e2] at h
      simp only [Option.bind_some] at h
      cases e3 : sortKey qs with
      | none => rw [e3] at h; exact h.elim
      | some zs =>
        rw [e3] at h
        obtain ⟨a, vs, rfl, rfl, ha, es, l, pk⟩ := dctD_ok r dv e1
        rw [keysD_ok pk e2] at e3
        exact .inl ⟨a, vs, zs, rfl, l.rd, e3, fun l' hl' => hf O H s l' _ _ Q X' r hl' (qD_kV zs) h⟩
/-- list(x): a dict's keys, a list's or a tuple's items -/
def listAF (fin : List D → M D) : D → M D := fun d s => match dctD s d with
  | some (_, _, kvs) => match keysD kvs with
    | some zs => fin (zs.map qD) s
    | none => .bad
  | none => listF fin d s
def rListD : List V → Hp → VK → Prop := fun xs H Q => ∃ (a : Addr) (kvs : List (Key × V)), xs = [.ref a] ∧ Rd H a (.dK kvs) ∧ ∀ p, H p = none → Q (.ref p) (upd H p (.lst (kvs.map fun kv => kV kv.1)))
theorem listAF_ok {K : PySem.W.Frag} {mg : Str → Option Value} {fin : List D → M D} (hf : NewOk K mg fin) : CallOk K mg (fun xs H Q => rListD xs H Q ∨ ∃ p ys, xs = [.ref p] ∧ (SqL K H p ys ∨ SqT K H p ys) ∧ ∀ l, H l = none → Q (.ref l) (upd H l (.lst ys))) (arg1 (listAF fin)) := call1 fun O H s d v Q X' r dv h => by
  unfold listAF at h
  cases e1 : dctD s d with
  | none => rw [e1] at h; exact .inr (listF_ok hf O H s [d] [v] Q X' r (.cons dv .nil) h)
  | some x =>
    obtain ⟨n, lk, kvs⟩ := x
    rw [e1] at h
    dsimp only at h
    cases e2 : keysD kvs with
    | none => rw [e2] at h; exact h.elim
    | some qs =>
      rw [e2] at h
      obtain ⟨a, vs, rfl, rfl, ha, es, l, pk⟩ := dctD_ok r dv e1
      refine .inl ⟨a, vs, rfl, l.rd, fun l' hl' => hf O H s l' (qs.map qD) _ Q X' r hl' ?_ h⟩
      rw [keysD_ok pk e2, show (vs.map fun kv => kV kv.1) = (vs.map (·.1)).map kV by rw [List.map_map]; rfl]
      exact qD_kV _
section
variable {X : Cx} {W : WX} {e : Expr} {es : List Expr} {fa : Rs → M (List D)} {p pos : Pos}
theorem re_sortA {fin : List D → M D} (hf : NewOk X.K X.mg fin) (hc : X.calm = true) (hu : X.A.units + 64 < cLine) (hm : X.mg "sorted" = none) (ha : RA X W (e :: es) fa) (hg : Gl X "sorted" := by rfl) (he : starEach (e :: es) X.env = (false, eval e X.env) :: starEach es X.env := by rfl) (hpl : (backTo pos (starEach es X.env)).any (·.1) = false := by rfl) :
    RE X W (.Call (.Name "sorted" p) (e :: es) [] pos) (callM (arg1 (sortAF fin)) [] fa) := re_cB ((call_sortD hc hu).or (call_sortedP hu)) (sortAF_ok hf) hm (by with_unfolding_all rfl) ha hg (by decide) (by decide) he hpl
theorem re_listA {fin : List D → M D} (hf : NewOk X.K X.mg fin) (hc : X.calm = true) (hm : X.mg "list" = none) (ha : RA X W (e :: es) fa) (hg : Gl X "list" := by rfl) (he : starEach (e :: es) X.env = (false, eval e X.env) :: starEach es X.env := by rfl) (hpl : (backTo pos (starEach es X.env)).any (·.1) = false := by rfl) :
    RE X W (.Call (.Name "list" p) (e :: es) [] pos) (callM (arg1 (listAF fin)) [] fa) := re_cT ((L2.call_listD hc).or call_list_of) (listAF_ok hf) hm (by with_unfolding_all rfl) ha hg (by decide) (by decide) he hpl
end
end Md

set_option Elab.async false
set_option linter.all false
set_option maxRecDepth 100000
set_option maxHeartbeats 1000000
/-! Md21: enumerate of a tuple, slices with a step, unpacking lists, repeating, -i, what never comes. -/
namespace Md
open PySem PySem.Spec PyProof.Rows L2
open AutoSeq1 (wpAny_loadPart')

/-! ### what never comes -/
def badE : Rs → M D := fun _ _ => .bad
def badS : SM := fun _ _ => .bad
def badT : Rs → M Bool := fun _ _ => .bad
section
variable {X : Cx} {W : WX} {e : Expr} {st : Stmt} {sts : List Stmt}
theorem re_bad : RE X W e badE := ⟨fun pins s sg H Q I ⟨_, _, _, _, _, h⟩ => (show False from h).elim⟩
theorem rt_bad : RT X W e badT := ⟨fun pins s sg H Q I ⟨_, _, _, _, _, h⟩ => (show False from h).elim⟩
theorem rs_bad : RS X W st badS := ⟨fun pins s sg H Q I ⟨_, _, _, _, _, h⟩ => (show False from h).elim⟩
theorem rss_bad : RSs X W sts badS := ⟨fun pins s sg H Q I ⟨_, _, _, _, _, h⟩ => (show False from h).elim⟩
end

theorem tM_imp {K : PySem.W.Frag} {mg : Str → Option Value} {W : WX} {f : Rs → M D} {sg : L2.St} {H : Hp} {A B : VK} (h : tM K mg W f sg H A) (k : ∀ v H', A v H' → B v H') : tM K mg W f sg H B := by
  obtain ⟨O, env, s, a, b, c⟩ := h
  exact ⟨O, env, s, a, b, c.imp (fun d s1 O1 H1 _ _ _ z v dv => k _ _ (z v dv)) fun _ _ _ _ _ _ z => z⟩

/-! ### -i -/
def negM (f : Rs → M D) : Rs → M D := fun env => bnd (f env) fun d => match d with
  | .int i => ret (.int (-i))
  | _ => bad
section
variable {X : Cx} {W : WX} {a b : Expr} {fa fb : Rs → M D} {pos : Pos}
theorem re_neg (ha : RE X W a fa) : RE X W (.UnaryOp .USub a pos) (negM fa) := by
  refine pe_weak (pe_un un_neg ha) fun sg H Q ⟨O, env, s, hE, hS, hP⟩ => ?_
  refine ⟨O, env, s, hE, hS, hP.split.imp (fun d s1 O1 H1 _ x1 q1 p1 v dv => ?_) fun _ _ _ _ _ _ z => z⟩
  cases d with
  | int i => cases dv; exact ⟨i, rfl, Post.ret p1 q1 _ (.int _)⟩
  | _ => exact p1.elim
end

/-! ### xs * n -/
def repG (fin : List D → M D) : D → D → M D := fun a b s => match plnD s a, b with
  | some xs, .int k => if -(2 ^ 62) ≤ k ∧ k < 2 ^ 62 ∧ xs.length * k.toNat ≤ sizeLine then fin (List.replicate k.toNat xs).flatten s else .bad
  | _, _ => .bad
section
variable {K : PySem.W.Frag} {mg : Str → Option Value}
theorem DVs.rep {O : Ow} {H : Hp} {ds : List D} {vs : List V} (h : DVs K mg O H ds vs) : ∀ k : Nat, DVs K mg O H (List.replicate k ds).flatten (List.replicate k vs).flatten
  | 0 => .nil
  | k + 1 => by
    rw [List.replicate_succ, List.flatten_cons, List.replicate_succ, List.flatten_cons]
    exact h.app (DVs.rep h k)
theorem repG_ok {fin : List D → M D} (hf : NewOk K mg fin) : OpOk K mg rRep (repG fin) := by
  intro O H s d1 d2 v w Q X' r dv dw h
  unfold repG at h
  split at h
  · rename_i xs k e
    obtain ⟨l, vs, rfl, eH, t⟩ := plnD_ok r dv e
    cases dw
    by_cases hb : -(2 ^ 62) ≤ k ∧ k < 2 ^ 62 ∧ xs.length * k.toNat ≤ sizeLine
    · rw [if_pos hb] at h
      exact ⟨l, k, vs, rfl, rfl, eH, by omega, by omega, by rw [← t.length]; exact hb.2.2, fun p hp => hf O H s p _ _ Q X' r hp (t.rep _) h⟩
    · rw [if_neg hb] at h; exact h.elim
  · exact h.elim
def mulA (fin : List D → M D) : D → D → M D := fun a b => match a with
  | .int _ => mulI a b
  | _ => repG fin a b
end
section
variable {X : Cx} {W : WX} {a b : Expr} {fa fb : Rs → M D} {pos : Pos}
theorem mulI_ok : OpOk X.K X.mg (rI (fun i j => (-(2 ^ 64) < i ∧ i < 2 ^ 64) ∨ (-(2 ^ 64) < j ∧ j < 2 ^ 64)) fun i j => .int (i * j)) mulI := int2_ok fun i j d e => by
  by_cases h : (-(2 ^ 64) < i ∧ i < 2 ^ 64) ∨ (-(2 ^ 64) < j ∧ j < 2 ^ 64)
  · rw [if_pos h] at e; injection e with e; subst e; exact ⟨h, fun _ _ => .int _⟩
  · rw [if_neg h] at e; cases e
theorem re_mulA {fin : List D → M D} (hf : NewOk X.K X.mg fin) (ha : RE X W a fa) (hb : RE X W b fb) : RE X W (.BinOp a .Mult b pos) (op2 (mulA fin) fa fb) :=
  re_op (op_mul.or op_rep) (OpOk.or (g1 := mulI) (mulI_ok (X := X)) (repG_ok hf) fun a b s => by cases a <;> first | exact .inl rfl | exact .inr rfl) ha hb

/-! ### xs[::k], k = 1 or -1 -/
theorem pick_fwd (items : Array Value) : slicePick items none none (some 1) = items.toList.toArray := by
  unfold slicePick
  have e : sliceBounds none none (some 1) items.size = (0, (items.size : Int), 1) := by
    first
    | rfl
    | simp [sliceBounds]
  rw [e]
  show ((sliceRange 0 (items.size : Int) 1).filterMap (items[·]?)).toArray = _
  have e2 : sliceRange 0 (items.size : Int) 1 = List.range items.size := by
    unfold sliceRange
    by_cases h : (0 : Int) < items.size
    · simp [show 0 < items.size by omega]
    · have z : items.size = 0 := by omega
      simp [z]
  rw [e2, PySem.W.krv_all]
def stepG (fin : List D → M D) : D → D → M D := fun a b s => match lstD s a, b with
  | some xs, .int k => if k = 1 then fin xs s else if k = -1 then fin xs.reverse s else .bad
  | _, _ => .bad
theorem re_step {fin : List D → M D} (hf : NewOk X.K X.mg fin) {p2 : Pos} (ha : RE X W a fa) (hb : RE X W b fb)
    (hsub : ∀ v : Value, ∀ p : Addr, subscripted (.Slice none none (some b) p2) false v (.ref p) = operate [v, .ref p] (getItem v (.ref p)) := by intro _ _; rfl) :
    RE X W (.Subscript a (.Slice none none (some b) p2) pos) (op2 (stepG fin) fa fb) := by
  refine ⟨fun pins s sg H Q I ⟨O, env, st, hE, hS, hP⟩ => ?_⟩
  have z := two (R2 := fun x y H => ∃ p xs k ys, x = .ref p ∧ y = .int k ∧ SqL X.K H p xs ∧ ((k = 1 ∧ ys = xs) ∨ (k = -1 ∧ ys = xs.reverse)) ∧ ∀ l, H l = none → Q (.ref l) (upd H l (.lst ys))) hE hS hP fun O' H' s' d1 d2 v w _ q dv dw h => by
    unfold stepG at h
    split at h
    · rename_i xs k e
      obtain ⟨p, vs, rfl, ep, t⟩ := lstD_ok q dv e
      cases dw
      by_cases h1 : k = 1
      · rw [if_pos h1] at h
        exact ⟨p, vs, k, vs, rfl, rfl, ep, .inl ⟨h1, rfl⟩, fun l hl => hf O' H' s' l _ _ Q _ q hl t h⟩
      · rw [if_neg h1] at h
        by_cases h2 : k = -1
        · rw [if_pos h2] at h
          exact ⟨p, vs, k, vs.reverse, rfl, rfl, ep, .inr ⟨h2, rfl⟩, fun l hl => hf O' H' s' l _ _ Q _ q hl t.rev h⟩
        · rw [if_neg h2] at h; exact h.elim
    · exact h.elim
  refine Subscript_ (L2.thn (ha.run pins s sg H _ I z) fun v s1 ⟨x, H1, I1, r1, q1⟩ => ?_)
  refine wpAny_Slice (L2.thn (po_none.run pins s1 sg H1 (fun o H2 => o = none ∧ H2 = H1) I1 ⟨rfl, rfl⟩) fun vl s2 ⟨l, H2, I2, pl, el, e2⟩ => ?_)
  subst el e2
  refine L2.thn (po_none.run pins s2 sg H2 (fun o H3 => o = none ∧ H3 = H2) I2 ⟨rfl, rfl⟩) fun vu s3 ⟨u, H3, I3, pu, eu, e3⟩ => ?_
  subst eu e3
  refine L2.thn ((po_some hb).run pins s3 sg H3 (fun o H4 => ∃ k, o = some k ∧ ∃ p xs ys, x = .ref p ∧ SqL X.K H4 p xs ∧ ((k = 1 ∧ ys = xs) ∨ (k = -1 ∧ ys = xs.reverse)) ∧ ∀ l, H4 l = none → Q (.ref l) (upd H4 l (.lst ys))) I3 ?_) fun vs s4 ⟨o, H4, I4, ps, k, eo, p, xs, ys, ex, hx, hk, q⟩ => ?_
  · exact tM_imp q1 fun y H4 ⟨p, xs, k, ys, e1, e2, h1, h2, h3⟩ => ⟨k, e2, k, rfl, p, xs, ys, e1, h1, h2, h3⟩
  · subst eo ex
    obtain rfl : v = .ref p := r1
    have I5 : L2.Inv X pins sg H4 { s4 with heap := s4.heap.push { cls := .type "slice", data := .fields #[vl, vu, vs] } } := I4.kept (t' := s4.toks) fun b ob q => Heap.get?_push_of_some _ q
    obtain ⟨its, r, ht, hz⟩ := I5.list hx
    have lz : its.toArray.size ≤ sizeLine := by rw [List.size_toArray, ← r.length]; exact hz
    refine tail_any (ops := [.ref p, .ref s4.heap.objs.size]) ht.isList.typeIs PySem.slot_list_getitem.lookup ?_ (hsub _ _)
    rcases hk with ⟨rfl, rfl⟩ | ⟨rfl, rfl⟩
    · refine wpAny_getItem_list_slice ht.isList (Heap.IsSliceOf.new _ vl vu vs) pl pu ps (by decide) ?_ lz
      rw [pick_fwd]
      exact ⟨.ref _, _, I5.laid (t' := s4.toks) (o := .lst ys) (fun b ob q => Heap.get?_push_of_some _ q) (Nat.le_refl _) ⟨hz, its, 0, r, Heap.get?_push_size _ rfl⟩, rfl, q _ (I5.hok.fresh (Nat.le_refl _))⟩
    · refine wpAny_getItem_list_slice ht.isList (Heap.IsSliceOf.new _ vl vu vs) pl pu ps (by decide) ?_ lz
      rw [PySem.W.krv_pick]
      exact ⟨.ref _, _, I5.laid (t' := s4.toks) (o := .lst xs.reverse) (fun b ob q => Heap.get?_push_of_some _ q) (Nat.le_refl _) ⟨by rw [List.length_reverse]; exact hz, _, 0, r.reverse, Heap.get?_push_size _ rfl⟩, rfl, q _ (I5.hok.fresh (Nat.le_refl _))⟩
end

/-! ### a, b, .. = a tuple or a list -/
def toSeq (n : Nat) (u : List D → Rs → M Rs) : TgM := fun d env s => match tupD d with
  | some ds => if ds.length = n then u ds env s else .bad
  | none => match lstD s d with
    | some ds => if ds.length = n then u ds env s else .bad
    | none => .bad
theorem rg_alt {X : Cx} {ws : List Nat} {e : Expr} {t t1 t2 : TgM} (h1 : RG X ws e t1) (h2 : RG X ws e t2) (ht : ∀ d env s, t d env s = t1 d env s ∨ t d env s = t2 d env s) : RG X ws e t := ⟨fun pins s sg H v u Q I r ⟨O, env, st, d, hE, hS, dv, hP⟩ => by
  rcases ht d env st with z | z
  · exact h1.run pins s sg H v u Q I r ⟨O, env, st, d, hE, hS, dv, by rw [← z]; exact hP⟩
  · exact h2.run pins s sg H v u Q I r ⟨O, env, st, d, hE, hS, dv, by rw [← z]; exact hP⟩⟩
def toLstU (n : Nat) (u : List D → Rs → M Rs) : TgM := fun d env s => match lstD s d with
  | some ds => if ds.length = n then u ds env s else .bad
  | none => .bad
section
variable {X : Cx} {pos : Pos}
theorem rg_lstU {es : List Expr} {k n : Nat} {u : List D → Rs → M Rs} {ws : List Nat} (hc : X.calm = true) (h : RGs X ws es u) (hn : (assignEach es X.env).length = n := by rfl) (hst : (assignEach es X.env).findIdx? (·.1) = none := by rfl) : RG X ws (.Tuple es k pos) (toLstU n u) := by
  refine pg_weak (pg_unl hc h hn hst) fun v sg H Q ⟨O, env, s, d, hE, hS, dv, hP⟩ => ?_
  unfold toLstU at hP
  cases e : lstD s d with
  | none => rw [e] at hP; exact hP.elim
  | some ds =>
    rw [e] at hP
    dsimp only at hP
    by_cases hl : ds.length = n
    · rw [if_pos hl] at hP
      obtain ⟨a, vs, rfl, sq, t⟩ := lstD_ok hS dv e
      exact ⟨a, vs, rfl, sq, by rw [← t.length]; exact hl, O, env, s, ds, hE, hS, t, hP⟩
    · rw [if_neg hl] at hP; exact hP.elim
theorem rg_seq {es : List Expr} {k n : Nat} {u : List D → Rs → M Rs} {ws : List Nat} (hc : X.calm = true) (h : RGs X ws es u) (hn : (assignEach es X.env).length = n := by rfl) (hst : (assignEach es X.env).findIdx? (·.1) = none := by rfl) : RG X ws (.Tuple es k pos) (toSeq n u) :=
  rg_alt (rg_tup hc h hn hst) (rg_lstU hc h hn hst) fun d env s => by
    unfold toSeq
    cases d <;> first | exact .inr rfl | skip
    rename_i ds
    refine .inl ?_
    show (if ds.length = n then u ds env s else .bad) = (if ds.length = n then u ds env else bad) s
    split <;> rfl
end

/-! ### name op= e -/
def augS (i : Nat) (fe : Rs → M D) (g : D → D → M D) : SM := Md.thn (vr i) fun a => Md.thn fe fun b => Md.thn (fun _ => g a b) fun d => tgS (toN i) d
end Md

set_option Elab.async false
set_option linter.all false
set_option maxRecDepth 100000
/-! Md22: enumerate of a tuple, isinstance with two kinds, names of the module. -/
namespace Md
open PySem PySem.Spec PyProof.Rows L2

set_option maxHeartbeats 1000000 in
theorem meetsEnumT (l : Addr) (items : Array Value) :
    Meets (Builtin.«enumerate.__new__» ⟨[.type "enumerate", .ref l], []⟩) (fun _ R s => s.heap.IsTuple l items ∧
      R (.ok (.ret (.ref (s.heap.push { cls := .type "tuple_iterator", data := .fields #[.ref l, .int 0 0] }).objs.size)))
        { s with heap := (s.heap.push { cls := .type "tuple_iterator", data := .fields #[.ref l, .int 0 0] }).push { cls := .type "enumerate", data := .fields #[.none, .bool false, .ref s.heap.objs.size, rawInt 0, .none, .none] } }) :=
  .of_wp fun prog w A R s h => by
    obtain ⟨hp, g, d, tk, os⟩ := s
    obtain ⟨h1, h⟩ := h
    have hsub := sub_enumerate
    have q1 : ∀ {A' : Around} {E : Value → Shared → Prop} {Q : Value → Shared → Prop}, Q (.ref hp.objs.size) ⟨hp.push { cls := .type "tuple_iterator", data := .fields #[.ref l, .int 0 0] }, g, d, tk, os⟩ → wpAny (model prog w) A' (pyIter (.ref l)) Q E ⟨hp, g, d, tk, os⟩ :=
      fun q => wpAny_pyIter_tuple (s := ⟨hp, g, d, tk, os⟩) h1 q
    wp_walk using q1
    refine wpAny_stack_any fun st => wpAny_pure ?_
    split
    · rename_i c _ _ _ _ _
      cases (c == Value.type "enumerate")
      · wp_walk using q1
        exact ⟨_, rfl, h⟩
      · wp_walk using q1
        exact ⟨_, rfl, h⟩
    · wp_walk using q1
      exact ⟨_, rfl, h⟩
theorem callEnumT {prog : Program} {w : World} {A : Around} {E : Value → Shared → Prop} {s : Shared} {l : Addr} {items : Array Value} {Q : Value → Shared → Prop} (hL : s.heap.IsTuple l items)
    (h : ∀ h', IsEnum h' (s.heap.objs.size + 1) s.heap.objs.size 0 .none → h'.IsTupleIter s.heap.objs.size l 0 → h'.objs.size = s.heap.objs.size + 2 →
      (∀ b o, s.heap.get? b = some o → h'.get? b = some o) → Q (.ref (s.heap.objs.size + 1)) { s with heap := h' }) :
    wpAny (model prog w) A (call (.type "enumerate") [.ref l]) Q E s := by
  refine callType_new F.called_enumerate (by decide) (F.typeCall_enumerate_1 _) (F.newCall_enumerate_1 _) (fun obj => F.args_object_init_2 obj _) F.entry_enumerate_new
    (meetsEnumT l items) ⟨hL, ?_⟩
  have hz : (s.heap.push { cls := .type "tuple_iterator", data := .fields #[.ref l, .int 0 0] }).objs.size = s.heap.objs.size + 1 := Heap.size_push ..
  show _ ∧ _
  rw [hz]
  have he : IsEnum ((s.heap.push { cls := .type "tuple_iterator", data := .fields #[.ref l, .int 0 0] }).push
      { cls := .type "enumerate", data := .fields #[.none, .bool false, .ref s.heap.objs.size, rawInt 0, .none, .none] }) (s.heap.objs.size + 1) s.heap.objs.size 0 .none := by
    have := Heap.get?_push_size (s.heap.push { cls := .type "tuple_iterator", data := .fields #[.ref l, .int 0 0] })
      (o := { cls := .type "enumerate", data := .fields #[.none, .bool false, .ref s.heap.objs.size, rawInt 0, .none, .none] }) rfl
    rw [hz] at this; exact this
  refine ⟨⟨_, he, rfl⟩, h _ he ⟨_, Heap.get?_push_of_some _ (Heap.get?_push_size _ rfl), rfl, rfl⟩ (by rw [Heap.size_push, hz]) fun b o x => Heap.get?_push_of_some _ (Heap.get?_push_of_some _ x)⟩

/-- the tuple at a, each item in a new pair -/
def IteT (K : PySem.W.Frag) (a : Addr) : It :=
  ⟨fun i H => ∃ (xs : List V) (x : V), SqT K H a xs ∧ xs[i]? = some x, fun i H v H' => ∃ T x, v = .ref T ∧ H T = none ∧ H' = upd H T (.tup [.int (i : Nat), x]) ∧ ∀ xs, SqT K H a xs → xs[i]? = some x, fun i H => ∃ xs : List V, SqT K H a xs ∧ xs.length ≤ i⟩
theorem turn_enumT {P : Program} {w : World} {K : PySem.W.Frag} {elts : List Expr} {kk : Nat} {tpos : Pos} (a e it : Addr) (hae : a ≠ e) (hai : a ≠ it) :
    Turn P w K (.Tuple elts kk tpos) (IteT K a) [e, it] e (fun i h => (∃ old, IsEnum h e it ((i : Nat) : Int) old) ∧ h.IsTupleIter it a i ∧ e ≠ it) where
  mem := by simp
  obj := fun i h st b hb => by
    obtain ⟨⟨old, he⟩, ⟨o, ho, hc, hd⟩, _⟩ := st
    have e' : b = e ∨ b = it := by simpa using hb
    rcases e' with z | z
    · rw [z]; exact ⟨_, he, (fun v q => nomatch q)⟩
    · rw [z]; exact ⟨o, ho, fun v q => by rw [hd] at q; cases q⟩
  keep := fun i h h' st k => let ⟨⟨old, he⟩, hi, hne⟩ := st; ⟨⟨old, k e (by simp) _ he⟩, hi.at fun o q => k it (by simp) o q, hne⟩
  item := by
    intro X hP hw hK hc i pins s σ H E I hf st hg
    subst hP hw hK
    obtain ⟨⟨old, he⟩, hit, hne⟩ := st
    obtain ⟨xs, x, hq, hx⟩ := hg
    obtain ⟨its, rv, p, hz⟩ := I.tuple hq
    have p2 : s.heap.IsTuple a its.toArray := p
    obtain ⟨u, hu, ru⟩ := rv.get hx
    have hel : e < s.heap.objs.size := Heap.lt_size he
    have hil : it < s.heap.objs.size := by obtain ⟨_, q, _⟩ := hit; exact Heap.lt_size q
    have hix : i < its.toArray.size := by
      have := (List.getElem?_eq_some_iff.mp hu).1
      simpa using this
    have hef : e ∉ [it, a] := by
      intro q
      rcases List.mem_cons.mp q with q | q
      · exact hne q
      · exact hae (List.mem_singleton.mp q).symm
    refine wpAny_pyNext_enum_itemD (Draws.tuple (prog := X.prog) (w := X.w) (A := X.A.in1) (I.ok.hd hc) it a hai its.toArray) he ⟨hit, p2⟩ hix hne hef fun y h' tk hy ho st' hT hsz hk => ?_
    have hy' : its.toArray[i]? = some y := hy
    rw [List.getElem?_toArray, hu] at hy'
    have e1 := Option.some.inj hy'
    subst e1
    refine ⟨_, rfl, wpAny_letOwnedTupleGo_enum (s := { s with heap := h', toks := tk + 1 }) ho fun h'' he' sb => ?_⟩
    have hT2 : h''.get? s.heap.objs.size = some { cls := .type "tuple", data := .seq #[.int i tk, u] } := (sb.2 _ (Nat.ne_of_gt hel)).trans hT
    have new : ObjOk X.prog X.w (upd H s.heap.objs.size (.tup [.int (i : Nat), x])) h'' s.heap.objs.size (.tup [.int (i : Nat), x]) :=
      ⟨by show 2 ≤ sizeLine; decide, [.int i tk, u], .cons ⟨_, rfl⟩ (.cons ru .nil), ⟨_, hT2, rfl, _, rfl⟩⟩
    have I1 : Inv X pins σ (upd H s.heap.objs.size (.tup [.int (i : Nat), x])) { s with heap := h'', toks := tk + 1 } :=
      I.turnedNew (ch := [e, it]) (fun b ob hb q => (sb.2 b (fun z => hb (by simp [z]))).trans (hk b ob (fun z => hb (by simp [z])) (fun z => hb (by simp [z])) q)) hf (Nat.le_refl _) new
    refine ⟨.ref s.heap.objs.size, _, I1, rfl, ⟨_, x, rfl, I.hok.fresh (Nat.le_refl _), rfl, fun ys hy => by rw [I.tuple_inj hy hq]; exact hx⟩, ⟨⟨u, ?_⟩, st'.1.at fun o q => (sb.2 it (Ne.symm hne)).trans q, hne⟩, fun b hb => ?_⟩
    · have e1 : ((i + 1 : Nat) : Int) = (i : Int) + 1 := by omega
      rw [e1]; exact he'
    · have hb' : b < s.heap.objs.size := by
        have e' : b = e ∨ b = it := by simpa using hb
        rcases e' with z | z
        · rw [z]; exact hel
        · rw [z]; exact hil
      rw [upd_ne (Nat.ne_of_lt hb')]
      exact (hf b hb).1
  done := by
    intro X hP hw hK hc i pins s σ H E I hf st hg
    subst hP hw hK
    obtain ⟨⟨old, he⟩, hit, hne⟩ := st
    obtain ⟨xs, hq, hx⟩ := hg
    obtain ⟨its, rv, p, hz⟩ := I.tuple hq
    have p2 : s.heap.IsTuple a its.toArray := p
    obtain ⟨f0, f1, f2, f3, f4, f5⟩ := hf it (by simp)
    have hl := rv.length
    unfold pyNext
    have hT : s.TypeIs (.ref e) "enumerate" := ⟨_, he, rfl⟩
    refine wpAny_bind (wpAny_attempt (wpAny_callSpecial?_slot (name := Str.ofString "__next__") hT F.slot_enumerate_next
      (wpAny_call_entry F.slot_enumerate_next hT F.entry_enumerate_next ?_ (F.args_enumerate_next_1 _))))
    show wpAny _ _ (field (.ref e) 2 >>= _) _ _ _
    refine wpAny_bind (wpAny_field he rfl (x := .ref it) rfl ?_)
    refine wpAny_bind (wpAny_nextOf_tuple_end (I.ok.hd hc) hit p2 (by simp; omega) fun h' x he' hx' => ?_)
    obtain ⟨o, ho, hc⟩ := hx'
    refine wpAny_bind (wpAny_isInstance (T := "StopIteration") (b := true) ⟨o, ho, hc⟩ isSubtype_stop ?_)
    exact wpAny_pure ⟨rfl, I.turned (t' := s.toks) (fun b o hb q => he' b o hb q) f0 f1 f3 f4 f5⟩
  self := fun A i s Q E st h => let ⟨⟨_, he⟩, _⟩ := st; wpAny_pyIter_enum he h
def iEnumT (K : PySem.W.Frag) (ta : TA) : TI := fun σ H R => ta σ H fun vs H1 => ∃ a xs, vs = [.ref a] ∧ SqT K H1 a xs ∧ R (IteT K a) H1
theorem pi_enumT {X : Cx} {e : Expr} {ta : TA} {p pos tpos : Pos} {elts : List Expr} {kk : Nat} (hg : Gl X "enumerate") (hm : X.mg "enumerate" = none) (ha : PA X [e] ta) (hs : starEach [e] X.env = [(false, eval e X.env)] := by rfl) :
    PI X (.Tuple elts kk tpos) (.Call (.Name "enumerate" p) [e] [] pos) (iEnumT X.K ta) := by
  refine ⟨fun pins s σ H R I h => ?_⟩
  refine Call_ (ld_blt I hg hm boot_enumerate (PyProof.Rows.callWith_type1 (L2.thn (ha.run pos pins s σ H _ I h) fun us s1 ⟨vs, H1, I1, r1, q1⟩ => ?_) hs rfl))
  obtain ⟨a, xs, ex, hq, q⟩ := q1
  subst ex
  cases r1 with
  | cons r rr =>
    cases rr
    cases r
    obtain ⟨its, rv, p', hz⟩ := I1.tuple hq
    have p2 : s1.heap.IsTuple a its.toArray := p'
    have hal : a < s1.heap.objs.size := by obtain ⟨_, q, _⟩ := p2; exact Heap.lt_size q
    refine callEnumT p2 fun h' he hit hsz hk => wpAny_pyIter_enum he ?_
    have I2 : Inv X pins σ H1 { s1 with heap := h' } := I1.kept (t' := s1.toks) hk
    refine ⟨s1.heap.objs.size + 1, [s1.heap.objs.size + 1, s1.heap.objs.size], _, _, H1, rfl, I2, turn_enumT a (s1.heap.objs.size + 1) s1.heap.objs.size (Nat.ne_of_lt (Nat.lt_succ_of_lt hal)) (Nat.ne_of_lt hal), ⟨⟨.none, he⟩, hit, Nat.succ_ne_self _⟩, fun b hb => ?_, q⟩
    have e' : b = s1.heap.objs.size + 1 ∨ b = s1.heap.objs.size := by simpa using hb
    have hle : s1.heap.objs.size ≤ b := by
      rcases e' with z | z
      · rw [z]; exact Nat.le_add_right _ _
      · rw [z]; exact Nat.le_refl _
    exact I1.fpOk hle (I1.hok.fresh hle)

section
variable {K : PySem.W.Frag} {mg : Str → Option Value} {O : Ow} {H : Hp}
theorem wk_enumT {a : Addr} {vs : List V} {ds : List D} (ta : TupAt K H a vs) (t : DVs K mg O H ds vs) : Wk K mg O H (IteT K a) (enD 0 ds) where
  go := fun i O1 H1 x h => by
    rw [enD_length] at h
    obtain ⟨v, e⟩ := at_lt (xs := vs) (by rw [← t.length]; exact h)
    exact ⟨vs, v, (ta.mono x.toMono).sq, e⟩
  yld := fun i O1 H1 s y H' lt x r h => by
    obtain ⟨T, u, rfl, hT, rfl, h⟩ := h
    rw [enD_length] at lt
    obtain ⟨d, ed⟩ := at_lt lt
    obtain ⟨v, ev, dv⟩ := t.at_ ed
    have e := h vs (ta.mono x.toMono).sq
    rw [ev] at e
    cases e
    obtain ⟨x2, r2, d2⟩ := new_tup (ds := [.int (i : Nat), d]) r hT (.cons (.int _) (.cons (dv.mono x.toMono) .nil))
    refine ⟨_, O1, enD_at ed, x2, r2, ?_⟩
    rw [Nat.zero_add]
    exact d2
  stop := fun O1 H1 x => ⟨vs, (ta.mono x.toMono).sq, by rw [enD_length, t.length]; exact Nat.le_refl _⟩
end
section
variable {X : Cx} {W : WX} {tg e e2 : Expr} {fe : Rs → M D} {fa : Rs → M (List D)} {p p1 p2 p3 pos : Pos}
def itEnumL (fa : Rs → M (List D)) : Rs → M (List D) := fun env => bnd (fa env) fun ds s => match ds with
  | [d] => (match stayD s d with
    | some xs => .ok (enD 0 xs) s
    | none => .bad)
  | _ => .bad
def itEnumT (fa : Rs → M (List D)) : Rs → M (List D) := fun env => bnd (fa env) fun ds s => match ds with
  | [.tup xs] => .ok (enD 0 xs) s
  | _ => .bad
theorem ri_enumL {elts : List Expr} {kk : Nat} {tpos : Pos} (hm : X.mg "enumerate" = none) (ha : RA X W [e] fa) (hg : Gl X "enumerate" := by rfl) (hs : starEach [e] X.env = [(false, eval e X.env)] := by rfl) : RI X W (.Tuple elts kk tpos) (.Call (.Name "enumerate" p) [e] [] pos) (itEnumL fa) := by
  refine pi_weak (pi_enum hg hm ha hs) fun sg H R ⟨O, env, s, hE, hS, hP⟩ => ?_
  refine ⟨O, env, s, hE, hS, hP.split.imp (fun ds s1 O1 H1 e x1 q1 p1 vs dv => ?_) fun _ _ _ _ _ _ z => z⟩
  split at p1
  · rename_i d
    cases dv with
    | cons dv tv =>
      cases tv
      cases es : stayD s1 d with
      | none => rw [es] at p1; exact p1.elim
      | some xs =>
        rw [es] at p1
        obtain ⟨a, vs, rfl, t, q⟩ := stayD_ok q1 dv es
        exact ⟨a, vs, rfl, q _ _ .refl, Post.ret (show Post X.K X.mg O1 H1 (ret (enD 0 xs) s1) _ _ from p1) q1 _ (wk_enum q t)⟩
  · exact p1.elim
theorem ri_enumT {elts : List Expr} {kk : Nat} {tpos : Pos} (hm : X.mg "enumerate" = none) (ha : RA X W [e] fa) (hg : Gl X "enumerate" := by rfl) (hs : starEach [e] X.env = [(false, eval e X.env)] := by rfl) : RI X W (.Tuple elts kk tpos) (.Call (.Name "enumerate" p) [e] [] pos) (itEnumT fa) := by
  refine pi_weak (pi_enumT hg hm ha hs) fun sg H R ⟨O, env, s, hE, hS, hP⟩ => ?_
  refine ⟨O, env, s, hE, hS, hP.split.imp (fun ds s1 O1 H1 e x1 q1 p1 vs dv => ?_) fun _ _ _ _ _ _ z => z⟩
  split at p1
  · rename_i xs
    cases dv with
    | cons dv tv =>
      cases tv
      cases dv with
      | tup ta t => exact ⟨_, _, rfl, ta.sq, Post.ret (show Post X.K X.mg O1 H1 (ret (enD 0 xs) s1) _ _ from p1) q1 _ (wk_enumT ta t)⟩
  · exact p1.elim
/-- enumerate of a list that stays, of a tuple -/
def itEnumA (fa : Rs → M (List D)) : Rs → M (List D) := fun env => bnd (fa env) fun ds s => match ds with
  | [d] => (match tupD d with
    | some xs => .ok (enD 0 xs) s
    | none => (match stayD s d with
      | some xs => .ok (enD 0 xs) s
      | none => .bad))
  | _ => .bad
theorem bnd_alt {α β : Type} {m : M α} {f g h : α → M β} {s : S} (hf : ∀ a s, f a s = g a s ∨ f a s = h a s) : bnd m f s = bnd m g s ∨ bnd m f s = bnd m h s := by
  unfold bnd
  cases m s with
  | ok a s1 => exact hf a s1
  | exc e s1 => exact .inl rfl
  | bad => exact .inl rfl
theorem ri_enumA {elts : List Expr} {kk : Nat} {tpos : Pos} (hm : X.mg "enumerate" = none) (ha : RA X W [e] fa) (hg : Gl X "enumerate" := by rfl) (hs : starEach [e] X.env = [(false, eval e X.env)] := by rfl) : RI X W (.Tuple elts kk tpos) (.Call (.Name "enumerate" p) [e] [] pos) (itEnumA fa) :=
  ri_alt (ri_enumT hm ha hg hs) (ri_enumL hm ha hg hs) fun env s => bnd_alt fun ds s => by
    cases ds with
    | nil => exact .inl rfl
    | cons d r =>
      cases r with
      | nil => cases d with
        | tup xs => exact .inl rfl
        | _ => exact .inr rfl
      | cons _ _ => exact .inl (by cases d <;> rfl)
/-- isinstance(e, (S, T)) -/
theorem re_isi2 (T U : Ty) {x y : Str} {kk : Nat} (hT : T ≠ .non) (hU : U ≠ .non) (hm : X.mg "isinstance" = none) (hmT : X.mg x = none) (hmU : X.mg y = none) (hv : bootBuiltins x = some (.type T.name)) (hvU : bootBuiltins y = some (.type U.name)) (he : RE X W e fe) (hg : Gl X "isinstance" := by rfl) (hgx : Gl X x := by rfl) (hgy : Gl X y := by rfl)
    (hn : x ≠ "__name__" := by decide) (hdb : (x == ("__debug__" : Str)) = false := by decide) (hny : y ≠ "__name__" := by decide) (hdby : (y == ("__debug__" : Str)) = false := by decide)
    (hst : starEach (e :: [.Tuple [.Name x p1, .Name y p2] kk p3]) X.env = (false, eval e X.env) :: starEach [.Tuple [.Name x p1, .Name y p2] kk p3] X.env := by rfl) :
    RE X W (.Call (.Name "isinstance" p) [e, .Tuple [.Name x p1, .Name y p2] kk p3] [] pos) (isi2M T U fe) := by
  have ht : PE X (.Tuple [.Name x p1, .Name y p2] kk p3) _ := pe_tup (pa_cons (te := tC (.ty T.name)) (pe_bltn hgx hmT hv (show RelV (.ty T.name) (.type T.name) from rfl) hn hdb) (pa_cons (te := tC (.ty U.name)) (pe_bltn hgy hmU hvU (show RelV (.ty U.name) (.type U.name) from rfl) hny hdby) pa_nil))
  refine pe_weak (pe_callB call_isiT hg hm boot_isinstance (pa_cons he (pa_cons ht pa_nil) hst) (by decide) (by decide) hst) fun sg H Q ⟨O, env, s, hE, hS, hP⟩ => ?_
  refine ⟨O, env, s, hE, hS, hP.split.imp (fun d s1 O1 H1 _ x1 q1 p1 v dv => ?_) fun _ _ _ _ _ _ z => z⟩
  cases ty : tyD s1 d with
  | none => simp only [ty] at p1; exact p1.elim
  | some t =>
    simp only [ty] at p1
    refine ⟨by show 2 ≤ sizeLine; decide, fun p hp => ?_⟩
    obtain ⟨x2, r2⟩ := new_else (o := .tup [.ty T.name, .ty U.name]) q1 hp
    refine ⟨_, p, [.ty T.name, .ty U.name], .type t.name, [.type T.name, .type U.name], t.sub T || t.sub U, rfl, upd_same, .cons (.ty _) (.cons (.ty _) .nil), tyD_ok r2 (dv.mono x2.toMono) ty, ?_, p1 O1 _ x2 r2 _ (.bl _)⟩
    refine kitAny_cons (Ty.kit t T hT) (fun e1 => ?_) fun e1 => by rw [e1]; rfl
    refine kitAny_cons (Ty.kit t U hU) (fun e2 => ?_) fun e2 => by rw [e1, e2]; rfl
    rw [e1, e2]
    exact kitAny_nil
/-! ### names of the module -/
theorem re_globI {x : Str} {i : Int} {t : Tok} {pos : Pos} (hm : X.mg x = some (.int i t)) (hg : Gl X x := by rfl) (hd : (x == ("__debug__" : Str)) = false := by decide) : RE X W (.Name x pos) (cst (.int i)) := re_cst (pe_glob (v := .int i) hg hm ⟨t, rfl⟩ hd) fun _ _ => .int i
theorem re_globS {x y : Str} {t : Tok} {pos : Pos} (hm : X.mg x = some (.str y t)) (hg : Gl X x := by rfl) (hd : (x == ("__debug__" : Str)) = false := by decide) : RE X W (.Name x pos) (cst (.str y)) := re_cst (pe_glob (v := .str y) hg hm ⟨t, rfl⟩ hd) fun _ _ => .str y
end
/-! ### text.index -/
section
variable {X : Cx} {k : Kd} {g : D → List D → M D}
def sixG : D → List D → M D := fun d ds => match d, ds with
  | .str a, [.str b] => (match Builtin.Str.occurrences a b 0 a.length 1 with
    | i :: _ => ret (.int (i : Nat))
    | [] => bad)
  | _, _ => bad
theorem sixG_ok {K : PySem.W.Frag} {mg : Str → Option Value} : MtOk K mg (fun x xs H Q => ∃ a b i rest, x = .str a ∧ xs = [.str b] ∧ Builtin.Str.occurrences a b 0 a.length 1 = i :: rest ∧ Q (.int (i : Nat)) H) sixG := by
  intro O H s d v ds vs Q X' r dv dvs hP
  cases dv with
  | str a =>
    cases dvs with
    | nil => exact hP.elim
    | cons h t =>
      cases t with
      | cons _ _ => cases h <;> exact hP.elim
      | nil =>
        cases h with
        | str b =>
          have hP : Post K mg O H ((match Builtin.Str.occurrences a b 0 a.length 1 with
            | i :: _ => ret (.int (i : Nat))
            | [] => bad : M Md.D) s) (fun d _ O' H' => ∀ u, DV K mg O' H' d u → Q u H') X' := hP
          cases e : Builtin.Str.occurrences a b 0 a.length 1 with
          | nil => rw [e] at hP; exact hP.elim
          | cons i rest =>
            rw [e] at hP
            exact ⟨a, b, i, rest, rfl, rfl, e, Post.ret hP r _ (.int _)⟩
        | _ => exact hP.elim
  | _ => exact hP.elim
def tbSix : MTb
  | .str => some sixG
  | _ => none
theorem at_sindex (e : tbSix k = some g) : MthAt X "index" k g := by
  cases k with
  | str => cases e; exact ⟨_, _, F.plainAttrs_str, F.slot_str_index, F.type_str_index, mt_sindex, sixG_ok⟩
  | _ => cases e
end
end Md

set_option Elab.async false
set_option linter.all false
set_option maxRecDepth 100000
set_option maxHeartbeats 2000000
/-! MdEnd: a law's end: from the promise of its def to the walk. -/
namespace Md
open PySem PySem.Spec PyProof.Rows L2

section
variable {P : Program} {w : World} {K : PySem.W.Frag} {mg mb : Str → Option Value} {CX : CXT} {k : Nat} {fa a : Addr} {fd : FuncData} {x : Str} {sp : Sp} {s : Shared} {vs : List Value} {ns : List Int}
abbrev Ends_ (s : Shared) (r : Result) (s' : Shared) : Prop := r = .ok (.ret (.bool true)) ∧ OldK s.heap s'.heap ∧ s'.os = s.os ∧ AllBare s'.gens
/-- at one abstract heap -/
theorem end_at {H : Hp} (kin : K.In s.heap) (hns : s.heap.Ns mainGlobals mg) (hb : s.heap.Ns builtinsNs mb) (hbb : ∀ x : Str, x ≠ "__name__" → mb x = bootBuiltins x) (nol : s.heap.NoLimit) (hg : s.gens = #[])
    (ha : s.heap.get? a = some { cls := .type "list", data := .seq vs.toArray }) (hr : RmG k callerA) (F : ∀ base : Heap, K.In base → base.Ns mainGlobals mg → FnG P w K mg base CX k fa fd [x] sp)
    (hbind : ∀ (s : Shared) (u : Value), BindsTo s fd ⟨[u], []⟩ [(x, u)]) (hsp : sp [.ref a] H (fun v _ => v = .bl true) fun _ _ _ => False) (hCX : ∀ H e s', CX [] H s (fun _ _ _ => False) e s' → False)
    (only : Only H) (ok : HOk P w H s.heap) (one : ∀ b, H b ≠ none → b = a) (free : H a ≠ none → K.lookup a = none) : codeAny (model P w) callerA (.call (.ref fa) ⟨[.ref a], []⟩) (Ends_ s) s := by
  have keeps : ∀ {b : Addr} {o : Obj}, s.heap.get? b = some o → H b = none → (hidT s.heap H).get? b = some o := fun e n => hidT_get e n
  have other : ∀ {b : Addr} {o : Obj}, s.heap.get? b = some o → (∀ xs n, o.data ≠ .seq xs n) → H b = none := fun {b o} e nd => by
    cases q : H b with
    | none => rfl
    | some u =>
      have z := one b (by rw [q]; exact fun z => nomatch z)
      subst z
      rw [ha] at e
      cases e
      exact absurd rfl (nd _ _)
  have names : ∀ {b : Addr} {m : Str → Option Value}, s.heap.Ns b m → (hidT s.heap H).Ns b m := fun {b m} ⟨o, es, ep, e, d, r⟩ => ⟨o, es, ep, keeps e (other e fun xs n z => by rw [d] at z; cases z), d, r⟩
  have kb : K.In (hidT s.heap H) := fun b o e => keeps (kin b o e) (by
    cases q : H b with
    | none => rfl
    | some u =>
      have z := one b (by rw [q]; exact fun z => nomatch z)
      subst z
      rw [free (by rw [q]; exact fun z => nomatch z)] at e
      cases e)
  obtain ⟨mc, h1, h2⟩ := nol
  have md : Mod K mg (hidT s.heap H) := ⟨kb, names hns, ⟨mb, names hb, hbb⟩, mc, names h1, h2⟩
  have e0 : Env0 P w K mg (hidT s.heap H) callerA [] s H := ⟨rfl, md, fun b o e => of_hidT e, Nat.le_of_eq (hidT_size _ _), trivial, fun b z => absurd (show b ∈ ([] : List Addr) from z) (List.not_mem_nil), ok, .of_eq hg⟩
  refine codeAny_mono ((F _ kb (names hns)).run callerA [] s H ⟨[.ref a], []⟩ [.ref a] [.ref a] _ _ hr e0 (hbind s (.ref a)) (.cons rfl .nil) hsp) fun r s' h => ?_
  match r, h with
  | .error e, h => exact (hCX H e s' h).elim
  | .ok .next, h => exact h.elim
  | .ok .brk, h => exact h.elim
  | .ok .cont, h => exact h.elim
  | .ok (.ret u), h =>
    obtain ⟨v, H', os, bare, un, ok', rv, ev⟩ := h
    have ev : v = .bl true := ev
    subst ev
    obtain rfl : u = Value.bool true := rv
    refine ⟨rfl, OldK.of_keep fun b o e => ?_, os, bare⟩
    rcases only b with z | ⟨ob, xs, z⟩
    · exact un.keep b o e z (fun q => absurd (show b ∈ ([] : List Addr) from q) List.not_mem_nil) List.not_mem_nil
    · obtain ⟨f1, _⟩ := ok b _ z
      obtain ⟨f2, _⟩ := ok' b _ (un.frzs b ob _ z)
      rw [e] at f1
      cases f1
      exact f2
theorem end_call (kin : K.In s.heap) (hns : s.heap.Ns mainGlobals mg) (hb : s.heap.Ns builtinsNs mb) (hbb : ∀ x : Str, x ≠ "__name__" → mb x = bootBuiltins x) (nol : s.heap.NoLimit) (hg : s.gens = #[])
    (ha : s.heap.get? a = some { cls := .type "list", data := .seq vs.toArray }) (hi : IntsAre vs ns) (hl : ns.length ≤ sizeLine) (hr : RmG k callerA) (F : ∀ base : Heap, K.In base → base.Ns mainGlobals mg → FnG P w K mg base CX k fa fd [x] sp)
    (hbind : ∀ (s : Shared) (u : Value), BindsTo s fd ⟨[u], []⟩ [(x, u)]) (hsp : ∀ H : Hp, Only H → SqL K H a (ns.map V.int) → sp [.ref a] H (fun v _ => v = .bl true) fun _ _ _ => False) (hCX : ∀ H e s', CX [] H s (fun _ _ _ => False) e s' → False) :
    codeAny (model P w) callerA (.call (.ref fa) ⟨[.ref a], []⟩) (Ends_ s) s := by
  have rv := vals_ints hi
  cases hk : K.lookup a with
  | some o =>
    have e := kin a o hk
    rw [ha] at e
    cases e
    have only : Only (fun _ => none) := fun _ => .inl rfl
    refine end_at kin hns hb hbb nol hg ha hr F hbind (hsp _ only (.inr ⟨_, vs.toArray, 0, hk, rfl, rfl, rfl, by rw [List.size_toArray, hi.length]; exact hl, rv⟩)) hCX only (fun b u z => ?_) (fun b z => absurd rfl z) fun z => absurd rfl z
    have z' : (none : Option HO) = some u := z
    cases z'
  | none =>
    let Hs : Hp := fun b => if b = a then some (.frz { cls := .type "list", data := .seq vs.toArray } (.lst (ns.map V.int))) else none
    have at_a : Hs a = some (.frz { cls := .type "list", data := .seq vs.toArray } (.lst (ns.map V.int))) := if_pos rfl
    have off : ∀ b, b ≠ a → Hs b = none := fun b h => if_neg h
    have only : Only Hs := fun b => if h : b = a then .inr ⟨_, _, h ▸ at_a⟩ else .inl (off b h)
    refine end_at (H := Hs) kin hns hb hbb nol hg ha hr F hbind (hsp _ only (.inl (.inr ⟨_, at_a⟩))) hCX only (fun b u z => ?_) (fun b z => ?_) fun _ => hk
    · by_cases h : b = a
      · subst h
        rw [at_a] at z
        cases z
        exact ⟨ha, by rw [List.length_map]; exact hl, vs, _, rv, ha⟩
      · rw [off b h] at z; cases z
    · exact Classical.byContradiction fun h => z (off b h)
end
/-- a law: the written part, the function object, the promise over every base -/
theorem walk_md {l : PySem.W.OpenLaw} {n k : Nat} {q : Program} {loose : List Str} {XP : (Str → Option Value) → Heap → Prop} {YP : World → Heap → Prop} {d : DefRec} {CX : World → CXT} {x : Str}
    (hn : l.most = some n) (hn2 : n ≤ sizeLine) (hdf : d.params.defaults = []) (hr : RmG k callerA)
    (F : ∀ (w : World) (mg : Str → Option Value) (fa : Addr) (h : Heap), YP w h → h.Ns mainGlobals mg → mg d.name = some (.ref fa) →
      ∃ (K : PySem.W.Frag) (fd : FuncData) (sp : Sp), K.In h ∧ (∀ (s : Shared) (u : Value), BindsTo s fd ⟨[u], []⟩ [(x, u)]) ∧ (∀ (H : Hp) (a : Addr) (ns : List Int), ns.length ≤ n → Only H → SqL K H a (ns.map V.int) → sp [.ref a] H (fun v _ => v = .bl true) fun _ _ _ => False) ∧
        ∀ base : Heap, K.In base → base.Ns mainGlobals mg → FnG l.prog w K mg base (CX w) k fa fd [x] sp)
    (hCX : ∀ (w : World) (H : Hp) (s : Shared) (e : Value) (s' : Shared), CX w [] H s (fun _ _ _ => False) e s' → False) : PySem.W.WalkO q loose XP YP l.row.toRowW d [] (fun f vs => PySem.call f vs) := by
  refine Att.attach_call hn hdf fun w s0 s1 mg mb fa o pm cd doc a vs ns G Y ho hd hcd hmg hobj hints hlen hg => ?_
  obtain ⟨K, fd, sp, kin, hb, hsp, hF⟩ := F w mg fa _ Y G.T.g hmg
  exact end_call kin G.T.g G.T.b G.T.builtins G.T.nolimit hg hobj hints (Nat.le_trans hlen hn2) hr hF hb (fun H hO hS => hsp H a ns hlen hO hS) fun H e s' => hCX w H s1 e s'
end Md

set_option Elab.async false
set_option linter.all false
set_option maxRecDepth 100000
/-! Md23: what the printed texts lean on. -/
namespace Md
open PySem PySem.Spec PyProof.Rows L2

theorem re_gI {X : Cx} {W : WX} {x : Str} {i : Int} {pos : Pos} (hm : ∃ t, X.mg x = some (.int i t)) (hg : Gl X x := by rfl) (hd : (x == ("__debug__" : Str)) = false := by decide) : RE X W (.Name x pos) (cst (.int i)) := let ⟨_, e⟩ := hm; re_globI e hg hd
theorem re_gS {X : Cx} {W : WX} {x y : Str} {pos : Pos} (hm : ∃ t, X.mg x = some (.str y t)) (hg : Gl X x := by rfl) (hd : (x == ("__debug__" : Str)) = false := by decide) : RE X W (.Name x pos) (cst (.str y)) := let ⟨_, e⟩ := hm; re_globS e hg hd
/-- a class's body -/
def clsB (s : Stmt) : List Stmt := match s with
  | .ClassDef (body := b) .. => b
  | _ => []
section
variable {X : Cx} {W : WX} {a b c : Expr} {fa fb fc : Rs → M D} {pos : Pos}
theorem rt_chain {op op' : CmpOp} {r r' : R2} {g g' : D → D → M D} (ho : OpR X (compareOp op) r) (ho' : OpR X (compareOp op') r') (hg : OpOk X.K X.mg r g) (hg' : OpOk X.K X.mg r' g') (ha : RE X W a fa) (hb : RE X W b fb) (hc : RE X W c fc)
    (hm : lastMarks [op, op'] [b, c] = false := by rfl) : RT X W (.Compare a [op, op'] [b, c] pos) (toB (chn g g' fa fb fc)) := by
  refine pt_weak (pt_chain ho ho' ha hb hc hm) fun sg H Q ⟨O, env, s, hE, hS, hP⟩ => ?_
  refine chain_ok hg hg' ⟨O, env, s, hE, hS, hP.split.imp (fun d s2 O2 H2 _ x2 q2 p2 u du => ?_) fun _ _ _ _ _ _ z => z⟩
  cases d with
  | bl k => cases du; exact ⟨k, rfl, p2.ret q2⟩
  | _ => exact p2.elim
theorem rt_cLeLe (ha : RE X W a fa) (hb : RE X W b fb) (hc : RE X W c fc) (hm : lastMarks [.LtE, .LtE] [b, c] = false := by rfl) : RT X W (.Compare a [.LtE, .LtE] [b, c] pos) (toB (chn leI leI fa fb fc)) := rt_chain op_le op_le leI_ok leI_ok ha hb hc hm
theorem rt_cLeLt (hu : X.A.units + 64 < cLine) (ha : RE X W a fa) (hb : RE X W b fb) (hc : RE X W c fc) (hm : lastMarks [.LtE, .Lt] [b, c] = false := by rfl) : RT X W (.Compare a [.LtE, .Lt] [b, c] pos) (toB (chn leI ltD fa fb fc)) := rt_chain op_le (ltO hu) leI_ok ltD_ok ha hb hc hm
end
theorem tk0 {X : Cx} : Takes X W0 := fun u s' ⟨_, _, _, _, _, _, _, _, _, _, _, _, _, _, _, _, w⟩ => w.elim
/-- what a def's body may lean on -/
structure Cf (X : Cx) (W : WX) (k : Nat) : Prop where
  N : X.N.Nodup
  c : X.calm = true
  r : RmG k X.A
  t : Takes X W
  p : PassesOwn (model X.prog X.w) X.A X.env X.xe
section
variable {X : Cx} {W : WX} {k j : Nat}
theorem Cf.u (c : Cf X W k) : X.A.units + 64 < cLine := c.r.rm.units
theorem Cf.u1 (c : Cf X W k) : X.A.units + 100 < cLine := by have := c.r.rm.un; omega
theorem Cf.g (c : Cf X W k) : X.A.guards = some [] := c.r.gd
theorem Cf.at (c : Cf X W k) (h : j ≤ k) : RmG j X.A := c.r.mono h
end
section
variable {P : Program} {w : World} {K : PySem.W.Frag} {mg : Str → Option Value} {base : Heap} {x qual c m : Str} {params : Arguments} {body : List Stmt} {scope : Scope} {dvs : List V} {kws : List (Str × V)} {f : Addr} {fd : FuncData} {N ps : List Str} {k : Nat} {G : List D → M D} {g : SM}
theorem cf_of (S : FnScope N ps scope) {cdv : Value} {A : Around} {outer : List Env} {s : Shared} {H : Hp} {E : XK} (hr : RmG k (A.deeper (envOfC qual scope s.heap.objs.size f cdv))) : Cf (cxOf (L2.CX P w) P w K mg base N qual scope f cdv A outer s H E) (fun c d _ H => E c d H) k :=
  ⟨S.nd, rfl, hr, takes_of rfl rfl rfl rfl, passes_of rfl⟩
/-- the body's reading -/
abbrev Bd (P : Program) (w : World) (K : PySem.W.Frag) (mg : Str → Option Value) (base : Heap) (N : List Str) (qual : Str) (scope : Scope) (f : Addr) (body : List Stmt) (k : Nat) (g : SM) : Prop :=
  ∀ (cdv : Value) (A : Around) (outer : List Env) (s : Shared) (H : Hp) (E : XK), Cf (cxOf (L2.CX P w) P w K mg base N qual scope f cdv A outer s H E) (fun c d _ H => E c d H) k → RSs (cxOf (L2.CX P w) P w K mg base N qual scope f cdv A outer s H E) (fun c d _ H => E c d H) body g
theorem fn_bd (F : FunD K x qual params body scope dvs kws f fd) (S : FnScope N ps scope) (hb : Bd P w K mg base N qual scope f body k g) : FnG P w K mg base (L2.CX P w) (k + 1) f fd ps (spM K mg ps.length (run g ps.length N.length)) :=
  fn_md F S fun cdv A outer s H E hr => hb cdv A outer s H E (cf_of S hr)
/-- every parameter is given -/
abbrev BA (x qual : Str) (params : Arguments) (body : List Stmt) (scope : Scope) (ps : List Str) : Prop := ∀ (kV doc pm : Value) (an : Option Addr) (cdv ct : Value) (us : List Value), us.length = ps.length → bindArgs (PySem.W.fnOf x qual params body scope .none kV doc pm an cdv ct) ⟨us, []⟩ = pure (ps.zip us)
theorem fn_mk (F : FunD K x qual params body scope [] kws f fd) (S : FnScope N ps scope) (hm : mg x = some (.ref f)) (ha : BA x qual params body scope ps) (hb : Bd P w K mg base N qual scope f body k g) : Fn P w K mg base (k + 1) x [] (run g ps.length N.length) :=
  ⟨f, fd, ps, [], [], ps.length, fn_bd F S hb, hm, F.kp, F.bindsN ha, .nil, fun _ _ => .nil, run_ar _ _ _⟩
theorem mt_mk {C : Addr} (F : FunD K m qual params body scope [] kws f fd) (S : FnScope N ps scope) (hm : mg c = some (.ref C)) (hc : Cls K C) (ht : Meth K C m f) (ha : BA m qual params body scope ps) (hb : Bd P w K mg base N qual scope f body k g) : Mt P w K mg base (k + 1) c m [] (run g ps.length N.length) :=
  ⟨C, f, fd, ps, [], [], ps.length, hm, hc, ht, fn_bd F S hb, F.bindsN ha, .nil, fun _ _ => .nil, run_ar _ _ _⟩
theorem mc_mk {C : Addr} (F : FunD K "__init__" qual params body scope [] kws f fd) (S : FnScope N ps scope) (hm : mg c = some (.ref C)) (ht : Mk K C f) (ha : BA "__init__" qual params body scope ps) (hb : Bd P w K mg base N qual scope f body k g) : Mc P w K mg base (k + 1) c [] (run g ps.length N.length) :=
  ⟨C, f, fd, ps, [], [], ps.length, hm, ht, fn_bd F S hb, F.bindsN ha, .nil, fun _ _ => .nil, run_ar _ _ _⟩
end
end Md

set_option Elab.async false
set_option linter.all false
set_option maxRecDepth 100000
/-! Md24: own classes: ==, !=, isinstance. -/
namespace Md
open PySem PySem.Spec PyProof.Rows L2

def tysB : List Ty := [.non, .bl, .int, .str, .tup, .lst, .dct]
theorem tysB_all (t : Ty) : t ∈ tysB := by cases t <;> decide
/-- a look at a class of one's own -/
def kcB (K : PySem.W.Frag) (C : Addr) : Bool :=
  (decide (PySem.W.findIn K (.ref C) "__class__" = some (some (.builtin "object.__class__"))) && (decide (PySem.W.specialIn K (.builtin "object.__class__") "__get__" = some (some (.builtin "getset_descriptor.__get__"))) && (decide (PySem.W.takesIn K (.builtin "object.__class__") = some true) && decide (PySem.W.mroIn K C (.type "object") = some true)))) &&
  ((tysB.all fun t => decide (PySem.W.kitOne K (.type t.name) (.ref C) = some false) && (PySem.W.notFirst K C (.type t.name) && decide (PySem.W.subIn K (.ref C) (.type t.name) = some false))) && (decide (PySem.W.kitOne K (.ref C) (.ref C) = some true) && decide (PySem.W.findIn K (.ref C) "__ne__" = some (some (.builtin "object.__ne__")))))
structure Kc (K : PySem.W.Frag) (mg : Str → Option Value) (c : Str) : Prop where
  ex : ∃ C, mg c = some (.ref C) ∧ Cls K C ∧ kcB K C = true
section
variable {K : PySem.W.Frag} {C : Addr}
structure KcF (K : PySem.W.Frag) (C : Addr) : Prop where
  a1 : PySem.W.findIn K (.ref C) "__class__" = some (some (.builtin "object.__class__"))
  a2 : PySem.W.specialIn K (.builtin "object.__class__") "__get__" = some (some (.builtin "getset_descriptor.__get__"))
  a3 : PySem.W.takesIn K (.builtin "object.__class__") = some true
  a4 : PySem.W.mroIn K C (.type "object") = some true
  b1 : ∀ t : Ty, PySem.W.kitOne K (.type t.name) (.ref C) = some false
  b2 : ∀ t : Ty, PySem.W.notFirst K C (.type t.name) = true
  b3 : ∀ t : Ty, PySem.W.subIn K (.ref C) (.type t.name) = some false
  c1 : PySem.W.kitOne K (.ref C) (.ref C) = some true
  c2 : PySem.W.findIn K (.ref C) "__ne__" = some (some (.builtin "object.__ne__"))
theorem kcF (h : kcB K C = true) : KcF K C := by
  unfold kcB at h
  simp only [Bool.and_eq_true, decide_eq_true_eq, List.all_eq_true] at h
  obtain ⟨⟨h1, h2, h3, h4⟩, h5, h6, h7⟩ := h
  exact ⟨h1, h2, h3, h4, fun t => (h5 t (tysB_all t)).1, fun t => (h5 t (tysB_all t)).2.1, fun t => (h5 t (tysB_all t)).2.2, h6, h7⟩
end
/-- whether it is an instance of the class -/
def isInsO (c : Str) (s : S) (d : D) : Bool := match d with
  | .ref n => match s[n]? with
    | some (.ins c' _) => decide (c' = c)
    | _ => false
  | _ => false
theorem isInsO_ok {K : PySem.W.Frag} {mg : Str → Option Value} {O : Ow} {H : Hp} {s : S} {c : Str} {C : Addr} {d : D} {v : V} (hC : mg c = some (.ref C)) (r : RelS K mg O H s) (dv : DV K mg O H d v) (h : isInsO c s d = true) : ∃ a dx fs, v = .ref a ∧ H a = some (.ins C dx fs) := by
  cases dv with
  | @ref n a ha =>
    have h : (match s[n]? with
      | some (.ins c' _) => decide (c' = c)
      | _ => false) = true := h
    cases e : s[n]? with
    | none => rw [e] at h; cases h
    | some ob =>
      rw [e] at h
      cases ob with
      | ins c' fs =>
        have hc : c' = c := of_decide_eq_true h
        subst hc
        obtain ⟨C2, dx, vs, hm, eH, _⟩ := r.obs n a _ ha e
        rw [hC] at hm
        cases hm
        exact ⟨a, dx, vs, rfl, eH⟩
      | _ => cases h
  | _ => cases h
theorem tyx_ins {K : PySem.W.Frag} {H : Hp} {C a dx : Addr} {fs : List (Str × V)} (cl : Cls K C) (k : KcF K C) (e : H a = some (.ins C dx fs)) : TyX K H (.ref a) (.ref C) := .base (.ins e cl k.a1 k.a2 k.a3 k.a4)
/-! ### isinstance(x, C) -/
def isiO (c : Str) (fe : Rs → M D) : Rs → M D := fun env => bnd (fe env) fun d s => match tyD s d with
  | some _ => .ok (.bl false) s
  | none => if isInsO c s d = true then .ok (.bl true) s else .bad
section
variable {X : Cx} {W : WX} {e : Expr} {fe : Rs → M D} {p p1 pos : Pos}
theorem re_isiO {c : Str} (kc : Kc X.K X.mg c) (hm : X.mg "isinstance" = none) (he : RE X W e fe) (hg : Gl X "isinstance" := by rfl) (hgx : Gl X c := by rfl) (hdb : (c == ("__debug__" : Str)) = false := by decide)
    (hst : starEach (e :: [.Name c p1]) X.env = (false, eval e X.env) :: starEach [.Name c p1] X.env := by rfl) :
    RE X W (.Call (.Name "isinstance" p) [e, .Name c p1] [] pos) (isiO c fe) := by
  obtain ⟨C, hC, cl, kb⟩ := kc.ex
  have k := kcF kb
  refine pe_weak (pe_callB call_isi hg hm boot_isinstance (pa_cons he (pa_cons (te := tC (.ref C)) (pe_glob (v := .ref C) hgx hC rfl hdb) pa_nil) hst) (by decide) (by decide) hst) fun sg H Q ⟨O, env, s, hE, hS, hP⟩ => ?_
  refine ⟨O, env, s, hE, hS, hP.split.imp (fun d s1 O1 H1 _ x1 q1 p1 v dv => ?_) fun _ _ _ _ _ _ z => z⟩
  cases ty : tyD s1 d with
  | some t =>
    simp only [ty] at p1
    exact ⟨v, .ref C, .type t.name, .ref C, false, rfl, .own C, tyD_ok q1 dv ty, k.b1 t, p1 O1 H1 .refl q1 _ (.bl _)⟩
  | none =>
    simp only [ty] at p1
    by_cases hi : isInsO c s1 d = true
    · rw [if_pos hi] at p1
      obtain ⟨a, dx, fs, rfl, eH⟩ := isInsO_ok hC q1 dv hi
      exact ⟨.ref a, .ref C, .ref C, .ref C, true, rfl, .own C, tyx_ins cl k eH, k.c1, p1 O1 H1 .refl q1 _ (.bl _)⟩
    · rw [if_neg hi] at p1
      exact p1.elim
end
/-! ### == by an own __eq__ -/
def eqO (c : Str) (G : List D → M D) (f : Bool → Bool) : D → D → M D := fun a b => bnd (insOf c a) fun _ s => if (tyD s b).isSome = true ∨ isInsO c s b = true then (match G [a, b] s with
  | .ok (.bl k) s' => .ok (.bl (f k)) s'
  | _ => .bad) else .bad
def rEqO (X : Cx) (c : Str) (G : List D → M D) (f : Bool → Bool) : R2 := fun x y H Q => ∃ O s a b, RelS X.K X.mg O H s ∧ DV X.K X.mg O H a x ∧ DV X.K X.mg O H b y ∧ Post X.K X.mg O H (eqO c G f a b s) (fun d _ O' H' => ∀ v, DV X.K X.mg O' H' d v → Q v H') (fun _ _ _ _ => False)
theorem eqO_ok {X : Cx} {c : Str} {G : List D → M D} {f : Bool → Bool} : OpOk X.K X.mg (rEqO X c G f) (eqO c G f) := by
  intro O H s d1 d2 v w Q X' r dv dw h
  refine ⟨O, s, d1, d2, r, dv, dw, ?_⟩
  cases e : eqO c G f d1 d2 s with
  | ok a s' => rw [e] at h; exact h
  | bad => rw [e] at h; exact h
  | exc a s' =>
    exfalso
    unfold eqO bnd at e
    cases e1 : insOf c d1 s with
    | ok q s1 =>
      rw [e1] at e
      dsimp only at e
      split at e
      · split at e <;> cases e
      · cases e
    | bad => rw [e1] at e; cases e
    | exc q s1 =>
      unfold insOf at e1
      cases d1 with
      | ref n =>
        dsimp only at e1
        unfold bnd get? at e1
        cases e2 : s[n]? with
        | none => rw [e2] at e1; cases e1
        | some ob =>
          rw [e2] at e1
          cases ob with
          | ins c' fs =>
            dsimp only at e1
            split at e1 <;> cases e1
          | _ => cases e1
      | _ => cases e1
section
variable {X : Cx} {k : Nat} {f : Addr} {fd : FuncData} {ps : List Str} {sp : Sp} {CX : CXT} {E : XK} {pins : List (Addr × Obj)} {sg : L2.St} {H : Hp} {s : Shared} {Q : VK} {us : List Value} {vs : List V}
theorem runGA {A : Around} (F : FnG X.prog X.w X.K X.mg X.base CX k f fd ps sp) (hA : A.frames = X.A.frames) (hr : RmG k A) (hb : Binds X.K fd ps []) (hx : PassesAt CX X sg E) (I : L2.Inv X pins sg H s) (r : Vals vs us) (h : sp vs H Q E) :
    wpAny (model X.prog X.w) A (call (.ref f) us) (EP X pins sg Q) X.xe s := by
  have nl : us.length = ps.length := by rw [← r.length]; exact F.len _ _ _ _ h
  have e0 : Env0 X.prog X.w X.K X.mg X.base A X.stack s H := by
    have e := I.env0
    exact ⟨by rw [hA]; exact e.frames, e.mod, e.bs, e.bsz, e.funs, e.frf, e.hok, e.bare⟩
  have b0 : BindsTo s fd ⟨us, []⟩ (ps.zip us) := by
    have z := hb s us I.kIn (by rw [List.append_nil]; exact nl)
    rw [List.append_nil] at z
    exact z
  refine wpAny_call (codeAny_mono (F.run A X.stack s H ⟨us, []⟩ us vs Q E hr e0 b0 r h) (fun z s' hq => ?_))
  match z, hq with
  | .error e, hq => exact hx pins H s e s' I hq
  | .ok (.ret u), hq => exact I.after hq
  | .ok .next, hq => exact hq.elim
  | .ok .brk, hq => exact hq.elim
  | .ok .cont, hq => exact hq.elim
theorem pass_none {X : Cx} (sg : L2.St) : PassesAt (L2.CX X.prog X.w) X sg (fun _ _ _ => False) := fun _ _ _ _ _ _ ⟨_, _, _, _, _, _, _, _, _, _, _, _, z⟩ => z.elim
end
section
variable {X : Cx} {W : WX} {k : Nat} {c : Str} {G : List D → M D} {f : Bool → Bool} {pins : List (Addr × Obj)} {sg : L2.St} {H : Hp} {s : Shared} {Q : VK} {x y : V} {v u : Value}
theorem eqO_core (F : Mt X.prog X.w X.K X.mg X.base k c "__eq__" [] G) (kc : Kc X.K X.mg c) (I : L2.Inv X pins sg H s) (rx : RelV x v) (ry : RelV y u) (h : rEqO X c G f x y H Q) :
    ∃ (a C fo : Addr) (tb : Value) (ox : Obj) (od : Option Obj), v = .ref a ∧ PySem.W.InstAt s.heap a ox C od ∧ PySem.W.Looks (model X.prog X.w) s.heap (typeOf u) tb ∧ PySem.W.notFirst X.K C tb = true ∧ PySem.W.findIn X.K (.ref C) "__eq__" = some (some (.ref fo)) ∧ PySem.W.isFn X.K (.ref fo) = true ∧ KcF X.K C ∧
      ∀ A : Around, A.frames = X.A.frames → RmG k A → wpAny (model X.prog X.w) A (call (.ref fo) [.ref a, u]) (fun w s' => ∃ b, w = .bool b ∧ EP X pins sg Q (.bool (f b)) s') X.xe s := by
  obtain ⟨O, st, d, e, hS, dd, de, hP⟩ := h
  obtain ⟨C, hC, cl, kb⟩ := kc.ex
  have kf := kcF kb
  obtain ⟨C2, fo, fd, ps, ds, dvs, n, hC2, cl2, hm, FG, hb, hd, hD, ar⟩ := F.ex
  rw [hC] at hC2
  cases hC2
  have hv : dvs = [] := by
    have z := hD O H
    cases z
    rfl
  subst hv
  cases hd
  have hP : Post X.K X.mg O H (bnd (insOf c d) (fun _ s => if (tyD s e).isSome = true ∨ isInsO c s e = true then (match G [d, e] s with
    | .ok (.bl k) s' => .ok (.bl (f k)) s'
    | _ => .bad) else .bad) st) (fun d _ O' H' => ∀ v, DV X.K X.mg O' H' d v → Q v H') (fun _ _ _ _ => False) := hP
  obtain ⟨nn, fs, a, dx, ws, rfl, rfl, ha, es, eH, fl, p2⟩ := insOf_ok hC hS dd hP
  cases rx
  obtain ⟨mA, J, _⟩ := ins_get I.hok eH
  obtain ⟨od, J, _⟩ := J.look
  by_cases hk : (tyD st e).isSome = true ∨ isInsO c st e = true
  · rw [if_pos hk] at p2
    have ty : ∃ tb, TyX X.K H y tb ∧ PySem.W.notFirst X.K C tb = true := by
      rcases hk with hk | hk
      · obtain ⟨t, et⟩ := Option.isSome_iff_exists.mp hk
        exact ⟨.type t.name, tyD_ok hS de et, kf.b2 t⟩
      · obtain ⟨b, dy, gs, rfl, eb⟩ := isInsO_ok hC hS de hk
        exact ⟨.ref C, tyx_ins cl kf eb, by simp [PySem.W.notFirst]⟩
    obtain ⟨tb, ty, hn⟩ := ty
    obtain ⟨PP, Z, hp, _⟩ := kit_of I ry ty
    refine ⟨a, C, fo, tb, _, od, rfl, J, Z.ty _ _ I.kIn hp, hn, hm.at_, hm.fn, kf, fun A hA hr => ?_⟩
    have hsp : spM X.K X.mg n G [.ref a, y] H (fun w H' => ∃ b, w = .bl b ∧ Q (.bl (f b)) H') (fun _ _ _ => False) := by
      have dv2 : DVs X.K X.mg O H [.ref nn, e] [.ref a, y] := .cons dd (.cons de .nil)
      refine ⟨?_, O, _, st, dv2, hS, ?_⟩
      · by_cases hl : ([.ref nn, e] : List Md.D).length = n
        · exact hl
        · rw [ar _ _ hl] at p2; exact p2.elim
      · cases eg : G [.ref nn, e] st with
        | bad => rw [eg] at p2; exact p2.elim
        | exc q s' => rw [eg] at p2; exact p2.elim
        | ok q s' =>
          rw [eg] at p2
          cases q with
          | bl kk =>
            intro O' H' x2 q2 w dw
            cases dw
            exact ⟨kk, rfl, p2 O' H' x2 q2 _ (.bl _)⟩
          | _ => exact p2.elim
    refine wpAny_mono (runGA (vs := [.ref a, y]) (us := [.ref a, u]) FG hA hr hb (pass_none sg) I (.cons rfl (.cons ry .nil)) hsp) (fun w s' ⟨z, H', I', rz, b, ez, q⟩ => ?_) fun _ _ z => z
    subst ez
    cases rz
    exact ⟨b, rfl, .bl (f b), H', I', rfl, q⟩
  · rw [if_neg hk] at p2; exact p2.elim
theorem op_eqO (F : Mt X.prog X.w X.K X.mg X.base k c "__eq__" [] G) (kc : Kc X.K X.mg c) (hr : RmG k X.A) : OpR X (compareOp .Eq) (rEqO X c G id) := by
  intro pins s sg H x y v u Q I rx ry h
  obtain ⟨a, C, fo, tb, ox, od, rfl, J, lk, hn, hs, hf, kf, go⟩ := eqO_core F kc I rx ry h
  obtain ⟨m, hF⟩ := I.fr
  show wpAny (model X.prog X.w) X.A (richCompare .Eq (.ref a) u) (EP X pins sg Q) X.xe s
  refine PySem.W.cmp_K (op := .Eq) (tb := tb) hr.rm.units0 hF I.ok.mod.kin J lk hn hs hf ?_
  refine wpAny_mono (go X.A rfl hr) (fun w s' ⟨b, e, q⟩ => ?_) fun _ _ z => z
  subst e
  exact q
theorem ne_bind (self : Value) : bindSpecial (.builtin "object.__ne__") self = pure (.builtin "object.__ne__", [self]) :=
  (Slot.of (T := "object") (name := "__ne__") (owner := "object") (n := "__ne__") (by rw [typeLookup_type, builtinLookup_eq_fast]; kernel_rfl) (by decide +kernel) (by decide +kernel) (by decide +kernel)
    (.inl (by decide +kernel)) (by rw [isSubtype_type]; kernel_rfl)).bind self
theorem ifBound_ne {prog : Program} {w : World} {A : Around} {E : Value → Shared → Prop} {s : Shared} {K : PySem.W.Frag} {a C : Addr} {ox : Obj} {od : Option Obj} {args : List Value} {Q : Option Value → Shared → Prop} (XK : K.In s.heap) (J : PySem.W.InstAt s.heap a ox C od) (kf : KcF K C)
    (h : wpAny (model prog w) A (call (.builtin "object.__ne__") (.ref a :: args)) (fun v => Q (some v)) E s) : wpAny (model prog w) A (callSpecialIfBound? (.ref a) "__ne__" args) Q E s := by
  simp only [callSpecialIfBound?, bindSpecialIfBound?]
  refine wpAny_holding (wpAny_bind (wpAny_bind (wpAny_bind (J.type.here ((PySem.W.looks_findIn XK kf.c2).here ?_)))))
  simp only [ne_bind]
  refine wpAny_bind (wpAny_askSetting (wpAny_ite ?_))
  have fin : wpAny (model prog w) A (call (.builtin "object.__ne__") ([.ref a] ++ args) >>= fun v => pure (some v)) Q E s := wpAny_bind (wpAny_mono h (fun v s' h' => wpAny_pure h') fun _ _ h' => h')
  split
  · exact wpAny_bind (wpAny_pure (wpAny_pure (by exact fin)))
  · exact wpAny_tryCatch (wpAny_bind (wpAny_pure (wpAny_pure (by exact fin))))
theorem ne_run {prog : Program} {w : World} {A : Around} {E : Value → Shared → Prop} {s : Shared} {K : PySem.W.Frag} {a C fo : Addr} {ox : Obj} {od : Option Obj} {b : Value} {Q : Fin → Shared → Prop} (hu : A.units < cLine) (XK : K.In s.heap) (J : PySem.W.InstAt s.heap a ox C od)
    (hs : PySem.W.findIn K (.ref C) "__eq__" = some (some (.ref fo))) (hf : PySem.W.isFn K (.ref fo) = true) (h : wpAny (model prog w) A (call (.ref fo) [.ref a, b]) (fun r s' => ∃ k, r = .bool k ∧ Q (.done (.ret (.bool (!k)))) s') E s) :
    wpAny (model prog w) A (Builtin.«object.__ne__» ⟨[.ref a, b], []⟩) Q E s := by
  unfold Builtin.«object.__ne__»
  repeat (first
    | with_reducible refine wpAny_cRoomFor hu ?_
    | (refine wpAny_bind (m := callSpecialIfBound? (.ref a) (Str.ofString "__eq__") [b])
        (PySem.W.ifBound_K XK J hs hf (wpAny_mono h (fun r s' hr => by
          obtain ⟨k, rfl, hq⟩ := hr
          repeat (first | exact hq | exact wpAny_pure hq | exact wpAny_truthy_bool hq | (refine wpAny_bind (m := truthy (.bool _)) (wpAny_truthy_bool ?_)) | wp_step)) fun _ _ e => e)))
    | wp_step)
theorem ne_try {prog : Program} {w : World} {A : Around} {E : Value → Shared → Prop} {s : Shared} {K : PySem.W.Frag} {a C fo : Addr} {ox : Obj} {od : Option Obj} {b : Value} {Q : Value → Shared → Prop} (hu : A.units + 1 < cLine) (XK : K.In s.heap) (J : PySem.W.InstAt s.heap a ox C od) (kf : KcF K C)
    (hs : PySem.W.findIn K (.ref C) "__eq__" = some (some (.ref fo))) (hf : PySem.W.isFn K (.ref fo) = true) (h : wpAny (model prog w) A.in1 (call (.ref fo) [.ref a, b]) (fun r s' => ∃ k, r = .bool k ∧ Q (.bool (!k)) s') E s) :
    wpAny (model prog w) A (tryCompare (.ref a) "__ne__" b) (fun r s' => ∃ v, r = some v ∧ Q v s') E s := by
  simp only [tryCompare]
  refine wpAny_bind (ifBound_ne XK J kf (wpAny_call (codeAny_call_builtin (by decide +kernel) F.cmpEntry_ne
    (PySem.W.check_slot F.cmpKind_ne F.cmpSplit_ne (J.type.andThen (PySem.W.looks_mroIn XK kf.a4)) (F.cmpArgs_ne _ _) (ne_run (A := A.in1) hu XK J hs hf (wpAny_mono h (fun v s' hv => ?_) fun _ _ e => e))))))
  obtain ⟨k, rfl, hq⟩ := hv
  refine ⟨k, rfl, ?_⟩
  first | exact wpAny_pure ⟨_, rfl, hq⟩ | exact wpAny_pure (wpAny_pure ⟨_, rfl, hq⟩)
theorem op_neO (F : Mt X.prog X.w X.K X.mg X.base k c "__eq__" [] G) (kc : Kc X.K X.mg c) (hr : RmG (k + 1) X.A) : OpR X (compareOp .NotEq) (rEqO X c G not) := by
  intro pins s sg H x y v u Q I rx ry h
  obtain ⟨a, C, fo, tb, ox, od, rfl, J, lk, hn, hs, hf, kf, go⟩ := eqO_core F kc I rx ry h
  have hu := hr.rm.units
  have hr1 : RmG k X.A.in1 := ⟨hr.rm.in1, hr.gd⟩
  have one := ne_try (Q := EP X pins sg Q) (A := X.A) (by omega) I.kIn J kf hs hf (wpAny_mono (go X.A.in1 rfl hr1) (fun w s' ⟨b, e, q⟩ => ⟨b, e, q⟩) fun _ _ z => z)
  show wpAny (model X.prog X.w) X.A (richCompare .NotEq (.ref a) u) (EP X pins sg Q) X.xe s
  unfold richCompare
  simp only [oneThing_ref]
  refine wpAny_holding (wpAny_bind (wpAny_cRoomFor (by omega) ?_))
  rw [cmpInfo_NotEq]
  refine wpAny_bind (J.type.here (wpAny_bind (lk.here ?_)))
  split
  · rename_i q
    have e : PySem.W.subIn X.K tb (.ref C) = some false := by
      rcases Bool.or_eq_true_iff.mp hn with e | e
      · rw [beq_iff_eq.mp e] at q; simp at q
      · exact beq_iff_eq.mp e
    refine wpAny_bind ((PySem.W.looks_subIn I.kIn e).here ?_)
    simp only [Bool.false_eq_true, if_false]
    refine wpAny_bind (wpAny_mono one (fun r s' z => ?_) fun _ _ e => e)
    obtain ⟨v, rfl, hq⟩ := z
    exact wpAny_pure hq
  · refine wpAny_bind (wpAny_pure ?_)
    simp only [Bool.false_eq_true, if_false]
    refine wpAny_bind (wpAny_mono one (fun r s' z => ?_) fun _ _ e => e)
    obtain ⟨v, rfl, hq⟩ := z
    exact wpAny_pure hq
end
end Md

set_option Elab.async false
set_option linter.all false
set_option maxRecDepth 100000
/-! Md25: max of two, dict items as a list. -/
namespace Md
open PySem PySem.Spec PyProof.Rows L2

section
variable {prog : Program} {w : World} {A : Around} {E : Value → Shared → Prop} {s : Shared}
theorem call_max_twoH {a b : Value} {Q : Value → Shared → Prop}
    (h : wpAny (model prog w) A.in1 (pyIter (.ref s.heap.objs.size)) (fun it s₂ => ∃ I fp wr G n P St H bt, it = .ref I ∧ WalksS prog w A.in1 I fp wr G n P St ∧ St 0 s₂ ∧ (∀ b ∈ fp, b < s₂.heap.objs.size) ∧ 0 < n ∧
      (∀ b o, H.get? b = some o → b ∉ wr) ∧ (∀ b o, H.get? b = some o → s₂.heap.get? b = some o) ∧ CmpIn prog w A.in1 .Gt H P bt ∧ ∀ v s', P (argBest bt (n - 1)) v → Moved wr G s₂ s' → Q v s') E
      { s with heap := s.heap.push { cls := .type "tuple", data := .seq #[a, b] } }) :
    wpAny (model prog w) A (call (.builtin "max") [a, b]) Q E s := by
  have hname : (toString "max" ++ toString ".loop" : String) = "max.loop" := by decide
  refine call_function_tree F.kind_max F.plain_max F.entry_max (F.args_max2 _ _) ?_
  show wpAny _ A.in1 (Builtin.Builtins.bindParams "max" ["key", "default"] 0 ⟨[], []⟩ >>= _) _ _ s
  refine wpAny_bind (wpAny_of_eq (show Builtin.Builtins.bindParams "max" ["key", "default"] 0 ⟨[], []⟩ = pure [none, none] from rfl) ?_)
  show wpAny _ A.in1 (newTuple [a, b] >>= _) _ _ s
  refine wpAny_bind (wpAny_newObj_type ?_)
  refine wpAny_bind (wpAny_mono h (fun it s₂ h₂ => ?_) fun _ _ e => e)
  obtain ⟨I, fp, wr, G, n, P, St, H, bt, rfl, W, hst, hfp, hn, hw, hkeep, hcmp, hQ⟩ := h₂
  refine wpAny_bind (wpAny_newObj_type ?_)
  have hSf : s₂.heap.objs.size ∉ fp := fun hm => Nat.lt_irrefl _ (hfp _ hm)
  rw [hname]
  refine wpAny_pure ⟨plainId_quiet F.plain_max_loop _, codeAny_max_loop_firstH W H hw bt hcmp s₂.heap.objs.size hSf (fresh_in hkeep) _ hn (fun b o e => Heap.get?_push_of_some _ (hkeep b o e)) (W.frame 0 s₂ _ s₂.toks hst (Nat.le_refl _) fun b _ o e => Heap.get?_push_of_some _ e) (Heap.get?_push_size _ rfl) fun v s' hP hm => ?_⟩
  exact hQ v s' hP (Moved.drop_new (tk := s₂.toks) hm (Nat.le_refl _))
theorem max_two_data {a b : Value} {x y : PyData} {as bs : List Addr} {Q : Value → Shared → Prop} (hh : A.handled = none) (ra : Reads s.heap a x as) (rb : Reads s.heap b y bs) (ha : PySem.W.AlikeAll [x, y]) (hu : A.units + 1 + PyData.depthAll [x, y] < cLine)
    (h : ∀ h' tk, (∀ c o, s.heap.get? c = some o → h'.get? c = some o) → Q (if PySem.W.dataLt x y = true then b else a) { s with heap := h', toks := tk }) :
    wpAny (model prog w) A (call (.builtin "max") [a, b]) Q E s := by
  have k0 : ∀ c o, s.heap.get? c = some o → (s.heap.push { cls := .type "tuple", data := .seq #[a, b] }).get? c = some o := fun c o e => Heap.get?_push_of_some _ e
  have hT : (s.heap.push { cls := .type "tuple", data := .seq #[a, b] }).IsTuple s.heap.objs.size #[a, b] := ⟨_, Heap.get?_push_size _ rfl, rfl, 0, rfl⟩
  have hr : ReadsAll (s.heap.push { cls := .type "tuple", data := .seq #[a, b] }) (#[a, b] : Array Value).toList [x, y] (as ++ (bs ++ [])) := .cons (PySem.W.reads_keeps k0 ra) (.cons (PySem.W.reads_keeps k0 rb) .nil)
  refine call_max_twoH (PySem.W.iter_tupleW (A := A.in1) hh hT fun s₂ e W st hfp hw hk => ?_)
  refine ⟨_, _, _, _, _, _, _, s.heap.push { cls := .type "tuple", data := .seq #[a, b] }, _, rfl, W, st, hfp, by simp, hw, hk, PySem.W.cmpIn_gt (s := { s with heap := s.heap.push { cls := .type "tuple", data := .seq #[a, b] } }) (A := A.in1) hr ha (by show A.units + 1 + _ < _; exact hu), fun v s' hP m => ?_⟩
  obtain ⟨h', tk, rfl, hk'⟩ := PySem.W.moved_old e rfl m
  have hv : v = if PySem.W.dataLt x y = true then b else a := by
    have hP : (#[a, b] : Array Value)[argBest (fun i j => PySem.W.dataLt ([x, y].getD j .none) ([x, y].getD i .none)) 1]? = some v := hP
    by_cases q : PySem.W.dataLt x y = true
    · rw [if_pos q]
      simp [argBest, q] at hP
      exact hP.symm
    · rw [if_neg q]
      simp [argBest, q] at hP
      exact hP.symm
  rw [hv]
  exact h h' tk fun c o e => hk' c o (k0 c o e)
end
/-! ### max(x, y) -/
def rMax2P (K : PySem.W.Frag) : List V → Hp → VK → Prop := fun xs H Q => ∃ x y px py, xs = [x, y] ∧ RdV K H x px ∧ RdV K H y py ∧ PySem.W.AlikeAll [px, py] ∧ PyData.depthAll [px, py] ≤ 60 ∧ Q (if PySem.W.dataLt px py = true then y else x) H
theorem call_max2P {X : Cx} (hc : X.calm = true) (hu : X.A.units + 64 < cLine) : CallR X (.builtin "max") (rMax2P X.K) := by
  intro pins s sg H xs us Q I r h
  obtain ⟨x, y, px, py, rfl, h1, h2, al, dp, q⟩ := h
  obtain ⟨u, w, rfl, r1, r2⟩ := vals2 r
  obtain ⟨as, ra⟩ := reads_of I h1 r1
  obtain ⟨bs, rb⟩ := reads_of I h2 r2
  refine max_two_data (I.ok.hd hc) ra rb al (by omega) fun h' tk k => ⟨_, H, I.kept k, ?_, q⟩
  by_cases hj : PySem.W.dataLt px py = true
  · rw [if_pos hj, if_pos hj]; exact r2
  · rw [if_neg hj, if_neg hj]; exact r1
/-- none of them None -/
def noNone (xs : List PyData) : Bool := xs.all fun x => match x with
  | .none => false
  | _ => true
def maxPD (a b : D) : M D := fun s => match toPy s 20 a, toPy s 20 b with
  | some x, some y => if alikesB [x, y] = true ∧ noNone [x, y] = true then .ok (if PySem.W.dataLt x y = true then b else a) s else .bad
  | _, _ => .bad
def maxP : List D → M D := fun ds => match ds with
  | [a, b] => maxPD a b
  | _ => bad
theorem alikeAll_of {xs : List PyData} (h1 : alikesB xs = true) (h2 : noNone xs = true) : PySem.W.AlikeAll xs := ⟨fun x hx y hy => alikesB_ok h1 x hx y hy, fun x hx e => by
  have z := List.all_eq_true.mp h2 x hx
  rw [e] at z
  cases z⟩
theorem maxP_ok {K : PySem.W.Frag} {mg : Str → Option Value} : CallOk K mg (rMax2P K) maxP := by
  intro O H s ds vs Q X' r dv h
  match ds, vs, dv with
  | [a, b], [v, w], .cons da (.cons db .nil) =>
    have h : Post K mg O H (maxPD a b s) _ _ := h
    unfold maxPD at h
    cases e1 : toPy s 20 a with
    | none => rw [e1] at h; exact h.elim
    | some x =>
      cases e2 : toPy s 20 b with
      | none => rw [e1, e2] at h; exact h.elim
      | some y =>
        rw [e1, e2] at h
        dsimp only at h
        by_cases hc : alikesB [x, y] = true ∧ noNone [x, y] = true
        · rw [if_pos hc] at h
          have dx := (toPy_shape s 20 a x e1).2
          have dy := (toPy_shape s 20 b y e2).2
          refine ⟨v, w, x, y, rfl, rdv_of r 20 a v x da e1, rdv_of r 20 b w y db e2, alikeAll_of hc.1 hc.2, ?_, ?_⟩
          · simp only [PyData.depthAll]
            omega
          · have q := Post.ret (show Post K mg O H (ret (if PySem.W.dataLt x y = true then b else a) s) (fun d _ O' H' => ∀ u, DV K mg O' H' d u → Q u H') X' from h) r
            by_cases hj : PySem.W.dataLt x y = true
            · rw [if_pos hj] at q ⊢; exact q w db
            · rw [if_neg hj] at q ⊢; exact q v da
        · rw [if_neg hc] at h; exact h.elim
  | [], _, _ => exact h.elim
  | [_], _, _ => exact h.elim
  | _ :: _ :: _ :: _, _, _ => exact h.elim
/-- two ints, or two alike -/
def maxA : List D → M D := fun ds => match ds with
  | [.int i, .int j] => ret (.int (if j > i then j else i))
  | _ => maxP ds
theorem maxA_ok {K : PySem.W.Frag} {mg : Str → Option Value} : CallOk K mg (fun xs H Q => (∃ i j, xs = [.int i, .int j] ∧ Q (.int (if j > i then j else i)) H) ∨ rMax2P K xs H Q) maxA :=
  CallOk.or (g1 := maxI) (g2 := maxP) (two2_ok fun i j O H => .int _) maxP_ok fun ds s => by
    unfold maxA
    split
    · exact .inl rfl
    · exact .inr rfl
section
variable {X : Cx} {W : WX} {e : Expr} {es : List Expr} {fa : Rs → M (List D)} {p pos : Pos}
theorem re_maxA (hc : X.calm = true) (hu : X.A.units + 64 < cLine) (hm : X.mg "max" = none) (ha : RA X W (e :: es) fa) (hg : Gl X "max" := by rfl) (he : starEach (e :: es) X.env = (false, eval e X.env) :: starEach es X.env := by rfl) (hpl : (backTo pos (starEach es X.env)).any (·.1) = false := by rfl) :
    RE X W (.Call (.Name "max" p) (e :: es) [] pos) (callM maxA [] fa) := re_cB ((call_max2 hc).or (call_max2P hc hu)) maxA_ok hm (by with_unfolding_all rfl) ha hg (by decide) (by decide) he hpl
end

/-! ### list(d.items()), sorted(d.items()) -/
/-- much is new, nothing else turned -/
theorem new_elses {K : PySem.W.Frag} {mg : Str → Option Value} {O : Ow} {H H1 : Hp} {s : S} (r : RelS K mg O H s) (k : ∀ b o, H b = some o → H1 b = some o) : Ext O H O H1 ∧ RelS K mg O H1 s := by
  have m : Mono O H O H1 := ⟨⟨[], by simp⟩, fun _ h => h, fun a u _ e => k _ _ e, fun a xs e => k _ _ e, fun a o u e => k _ _ e⟩
  refine ⟨⟨m, fun a u e _ => k _ _ e, fun a h => .inl h⟩, r.len, r.nd, r.sep, fun n a o' e1 e2 => ?_, fun a h => ?_⟩
  · have q := r.obs n a o' e1 e2
    obtain ⟨u, eu, _⟩ := q.there
    exact q.mono m (by rw [k _ _ eu, eu])
  · obtain ⟨u, e⟩ := r.fzs a h
    exact ⟨u, k _ _ e⟩
theorem pairs_dv {K : PySem.W.Frag} {mg : Str → Option Value} {O : Ow} {H H1 : Hp} (m : Mono O H O H1) : ∀ {kvs : List (D × D)} {vs : List (Key × V)} {ts : List Addr}, PrK K mg O H kvs vs → Paired (fun (t : Addr) (q : Key × V) => H1 t = some (.tup [kV q.1, q.2])) ts vs → DVs K mg O H1 (kvs.map pairD) (ts.map V.ref)
  | _, _, [], .nil, .nil => .nil
  | _, _, _ :: _, .cons e h t, .cons a b => .cons (.tup (.inl a) (.cons (keyDV e) (.cons (h.mono m) .nil))) (pairs_dv m t b)
def itemsF (fin : List D → M D) : D → M D := fun d s => match dctD s d with
  | some (_, false, kvs) => fin (kvs.map pairD) s
  | _ => .bad
theorem hide_upd {H1 : Hp} {p : Addr} {o : HO} (e : H1 p = some o) : upd (fun b => if b = p then none else H1 b) p o = H1 := by
  funext b
  by_cases h : b = p
  · rw [h, upd_same, e]
  · rw [upd_ne h, if_neg h]
theorem itemsF_ok {K : PySem.W.Frag} {mg : Str → Option Value} {O : Ow} {H : Hp} {s : S} {fin : List D → M D} (hf : NewOk K mg fin) {d : D} {v : V} {Q : VK} {X' : D → S → Ow → Hp → Prop} (r : RelS K mg O H s) (dv : DV K mg O H d v)
    (h : Post K mg O H (itemsF fin d s) (fun d _ O' H' => ∀ u, DV K mg O' H' d u → Q u H') X') : LiI.rItemsL v H Q := by
  unfold itemsF at h
  cases e : dctD s d with
  | none => rw [e] at h; exact h.elim
  | some x =>
    obtain ⟨n, lk, kvs⟩ := x
    rw [e] at h
    cases lk with
    | true => exact h.elim
    | false =>
      obtain ⟨a, vs, rfl, rfl, ha, es, l, pk⟩ := dctD_ok r dv e
      refine ⟨a, vs, rfl, l, fun H' p ts k hp ht np eL pr => ?_⟩
      have k0 : ∀ b o, H b = some o → (fun b => if b = p then none else H' b) b = some o := fun b o eb => by
        show (if b = p then none else H' b) = some o
        rw [if_neg (by rintro rfl; rw [hp] at eb; cases eb)]
        exact k _ _ eb
      obtain ⟨x1, q1⟩ := new_elses r k0
      have pr0 : Paired (fun (t : Addr) (q : Key × V) => (fun b => if b = p then none else H' b) t = some (.tup [kV q.1, q.2])) ts vs := by
        have key : ∀ {ts : List Addr} {vs : List (Key × V)}, p ∉ ts → Paired (fun (t : Addr) (q : Key × V) => H' t = some (.tup [kV q.1, q.2])) ts vs → Paired (fun (t : Addr) (q : Key × V) => (fun b => if b = p then none else H' b) t = some (.tup [kV q.1, q.2])) ts vs := by
          intro ts vs np z
          induction z with
          | nil => exact .nil
          | cons a t ih =>
            refine .cons ?_ (ih fun z => np (List.mem_cons_of_mem _ z))
            show (if _ = p then none else H' _) = _
            rw [if_neg (by rintro rfl; exact np (List.mem_cons_self ..))]
            exact a
        exact key np pr
      have z := hf O _ s p _ _ Q X' q1 (show (if p = p then none else H' p) = none from if_pos rfl) (pairs_dv x1.toMono pk pr0) (Post.ext h x1 q1)
      rw [hide_upd eL] at z
      exact z
section
variable {X : Cx} {W : WX} {e : Expr} {fe : Rs → M D} {p pos apos cpos : Pos}
def itmM (fin : List D → M D) (fe : Rs → M D) : Rs → M D := fun env => bnd (fe env) (itemsF fin)
theorem re_listItems {fin : List D → M D} (hf : NewOk X.K X.mg fin) (hc : X.calm = true) (hm : X.mg "list" = none) (he : RE X W e fe) (hg : Gl X "list" := by rfl) (hbase : attributeBase e "items" X.env (eval e X.env) = eval e X.env := by rfl) (hline : (apos.endLine == cpos.line) = true := by rfl)
    (hs : starEach [.Call (.Attribute e "items" apos) [] [] cpos] X.env = (false, eval (.Call (.Attribute e "items" apos) [] [] cpos) X.env) :: starEach [] X.env := by rfl) :
    RE X W (.Call (.Name "list" p) [.Call (.Attribute e "items" apos) [] [] cpos] [] pos) (itmM fin fe) := by
  refine pe_weak (LiI.pe_listItems hc he hg hm (by with_unfolding_all rfl) hbase hline hs) fun sg H Q ⟨O, env, s, hE, hS, hP⟩ => ?_
  exact ⟨O, env, s, hE, hS, hP.split.imp (fun d s1 O1 H1 _ x1 q1 p1 v dv => itemsF_ok hf q1 dv p1) fun _ _ _ _ _ _ z => z⟩
end
end Md

set_option Elab.async false
set_option linter.all false
set_option maxRecDepth 100000
/-! Md26: sorted(d.items()). -/
namespace Md
open PySem PySem.Spec PyProof.Rows L2
open LiI (putT putT_off putT_at paired_ix vals_refs)

theorem items_laid0 {X : Cx} {pins : List (Addr × Obj)} {σ : L2.St} {H : Hp} {s : Shared} {h' : Heap} {tk : Nat} {kvs : List (Key × V)} {vs : List (Key × Value)} {as : List Addr} (I : L2.Inv X pins σ H s) (kv : KV kvs vs)
    (hk : ∀ b o, s.heap.get? b = some o → h'.get? b = some o) (hl : as.length = vs.length) (hG : PySem.W.KdxG (mixKind X.prog X.w) vs s.heap.objs.size h' as) :
    ∃ H' : Hp, (∀ b o, H b = some o → H' b = some o) ∧ Paired (fun (t : Addr) (q : Key × V) => H' t = some (.tup [kV q.1, q.2])) as kvs ∧ L2.Inv X pins σ H' { s with heap := h', toks := tk } := by
  have lk : kvs.length = vs.length := Paired.length kv
  have nd : as.Nodup := List.Pairwise.imp (fun {a b} (h : a < b) => Nat.ne_of_lt h) hG.rise
  have new : ∀ t ∈ as, H t = none := fun t ht => I.hok.fresh (Nat.le_of_lt (hG.above t ht))
  have atP := putT_at as kvs H (by omega) nd
  have off : ∀ b, b ∉ as → putT H as kvs b = H b := fun b h1 => putT_off as kvs _ h1
  have low : ∀ b o, s.heap.get? b = some o → b ∉ as := fun b o e z => absurd (Heap.lt_size e) (Nat.not_lt.mpr (Nat.le_of_lt (hG.above b z)))
  have kp : ∀ b u, H b = some u → (putT H as kvs) b = some u := fun b u e => by
    rw [off b (fun z => by rw [new b z] at e; cases e)]
    exact e
  refine ⟨putT H as kvs, kp, atP, ?_⟩
  refine I.call' (ch := []) rfl ⟨fun b o q _ _ _ => hk b o q, fun b o q _ _ _ => ⟨o.slots, hk b o q⟩, fun b o q n _ => ?_, fun b o q _ => ⟨o, hk b o q⟩, fun b xs q => kp b _ q, fun b o u q => kp b _ q, fun b ps q => ⟨#[], by rw [kp b _ q]; simp⟩⟩ (fun b u q => ?_) I.bare fun b z => by simp at z
  · rw [off b (low b o q)]
    exact n
  · by_cases hb : b ∈ as
    · obtain ⟨j, pk, e1, e2, e3⟩ := paired_ix atP hb
      rw [e3] at q
      cases q
      obtain ⟨key, k, x, f1, f2, f3⟩ := hG.pairs j b e1
      obtain ⟨qv, g1, g2, g3⟩ := LiI.paired_get kv e2
      rw [f1] at g1
      cases g1
      have rk : RelV (kV pk.1) key := by
        rw [g2]
        exact relV_key (show keyIs k key = true from f2)
      exact ⟨by show 2 ≤ sizeLine; decide, [key, x], .cons rk (.cons g3 .nil), ⟨_, f3, rfl, _, rfl⟩⟩
    · rw [off b hb] at q
      exact (I.hok b u q).stay (fun d v _ y => hk d v y) (fun d y => kp d _ y) fun d xs y => kp d _ y
/-- what is asked of a dict whose items are sorted -/
def rItemsS (K : PySem.W.Frag) : V → Hp → VK → Prop := fun x H Q => ∃ (d : Addr) (kvs : List (Key × V)), x = .ref d ∧ Rd H d (.dK kvs) ∧
  ∀ (H1 : Hp) (ts : List Addr), (∀ b o, H b = some o → H1 b = some o) → Paired (fun (t : Addr) (q : Key × V) => H1 t = some (.tup [kV q.1, q.2])) ts kvs →
    ∃ pts : List (V × PyData), ts.map V.ref = pts.map (·.1) ∧ (∀ t ∈ pts, RdV K H1 t.1 t.2 ∧ t.2.depth ≤ 50) ∧ PySem.W.AllAlike (pts.map (·.2)) ∧ PySem.W.Sortable (pts.map (·.2)) ∧ ∀ l, H1 l = none → Q (.ref l) (upd H1 l (.lst ((pts.mergeSort (PySem.W.dataLe false (·.2))).map (·.1))))
section
variable {X : Cx} {e : Expr} {te : TE} {p apos cpos pos : Pos}
theorem pe_sortItems (hc : X.calm = true) (hu : X.A.units + 64 < cLine) (he : PE X e te) (hg : Gl X "sorted") (hm : X.mg "sorted" = none) (hv : bootBuiltins "sorted" = some (.builtin "sorted")) (hbase : attributeBase e "items" X.env (eval e X.env) = eval e X.env := by rfl) (hline : (apos.endLine == cpos.line) = true := by rfl)
    (hs : starEach [.Call (.Attribute e "items" apos) [] [] cpos] X.env = (false, eval (.Call (.Attribute e "items" apos) [] [] cpos) X.env) :: starEach [] X.env := by rfl) :
    PE X (.Call (.Name "sorted" p) [.Call (.Attribute e "items" apos) [] [] cpos] [] pos) (fun σ H Q => te σ H fun x H1 => rItemsS X.K x H1 Q) := by
  refine ⟨fun pins s σ H Q I hq => ?_⟩
  refine wpAny_Call_Name_kw (ld_blt I hg hm hv ?_)
  refine PyProof.Rows.callWith_builtin1 ?_ hs rfl
  rw [hs]
  show wpAny _ _ (spliced ((false, eval (.Call (.Attribute e "items" apos) [] [] cpos) X.env) :: backTo pos (starEach [] X.env))) _ _ s
  refine Calls.spliced_cons ?_
  refine wpAny_Call_method (T := "dict") (id := "dict.items") hbase rfl hline F.plainAttrs_dict F.slot_dict_items F.type_dict_items (L2.thn (he.run pins s σ H _ I hq) fun u s1 ⟨x, H1, I1, rx, d, kvs, ex, hd, q⟩ => ?_)
  subst ex
  obtain rfl : u = Value.ref d := rx
  obtain ⟨hz, hs0, vs, kv, hdo⟩ := dk_rd I1.hok hd
  obtain ⟨ep, hat⟩ := hdo.dictAt
  have lk : kvs.length = vs.length := Paired.length kv
  have I2 : L2.Inv X pins σ H1 { s1 with heap := s1.heap.push { cls := .type "dict_items", data := .fields #[.ref d] } } := I1.kept (t' := s1.toks) fun b ob q => Heap.get?_push_of_some _ q
  refine ⟨hdo.typeIs, hdo.mapOf.noDict, ?_⟩
  show wpAny _ _ (callWith cpos (.builtin "dict.items") [.ref d] [] []) _ X.xe s1
  refine method_meetsIn F.slot_dict_items F.entry_dict_items rfl (PySem.evalArgs_none ⟨rfl, hdo.typeIs, F.args_dict_items_1 _, _, meets_dict_items (mixKind X.prog X.w) d hs0, ⟨vs, hdo⟩, ?_⟩)
  refine Calls.spliced_nil ?_
  refine sorted_col hu (PySem.W.kdx_collect (A := X.A.in1) (knd := mixKind X.prog X.w) (kvs := vs) (ep := ep) (I1.ok.hd hc) ⟨_, Heap.get?_push_size _ rfl, rfl, rfl⟩ (hat.push _) (by omega) fun h' tk as hk hl hG => ?_)
  obtain ⟨H', k1, k6, J⟩ := items_laid0 (tk := tk) I2 kv hk hl hG
  obtain ⟨pts, e1, rd, al, so, fin⟩ := q H' as k1 k6
  refine ⟨H', pts, J, by rw [← e1]; exact vals_refs as, rd, al, so, ?_, fin⟩
  have e3 := congrArg List.length e1
  rw [List.length_map, List.length_map] at e3
  omega
end
theorem pysD_depth {s : S} : ∀ {ds : List D} {xs : List (D × PyData)}, pysD s ds = some xs → ∀ q ∈ xs, q.2.depth ≤ 20
  | [], xs, h, q, hq => by injection h with h; subst h; cases hq
  | d :: ds, xs, h, q, hq => by
    unfold pysD at h
    cases e1 : toPy s 20 d with
    | none => rw [e1] at h; cases h
    | some x =>
      cases e2 : pysD s ds with
      | none => rw [e1, e2] at h; cases h
      | some ys =>
        rw [e1, e2] at h
        injection h with h
        subst h
        rcases List.mem_cons.mp hq with rfl | hq
        · exact (toPy_shape s 20 d x e1).2
        · exact pysD_depth e2 q hq
/-- sorted(d.items()) -/
def sortIF (fin : List D → M D) : D → M D := fun d s => match dctD s d with
  | some (_, _, kvs) => match pysD s (kvs.map pairD) with
    | some xs => if alikesB (xs.map (·.2)) = true ∧ sortB (xs.map (·.2)) = true then fin (sortP xs) s else .bad
    | none => .bad
  | _ => .bad
theorem sortIF_ok {K : PySem.W.Frag} {mg : Str → Option Value} {O : Ow} {H : Hp} {s : S} {fin : List D → M D} (hf : NewOk K mg fin) {d : D} {v : V} {Q : VK} {X' : D → S → Ow → Hp → Prop} (r : RelS K mg O H s) (dv : DV K mg O H d v)
    (h : Post K mg O H (sortIF fin d s) (fun d _ O' H' => ∀ u, DV K mg O' H' d u → Q u H') X') : rItemsS K v H Q := by
  unfold sortIF at h
  cases e : dctD s d with
  | none => rw [e] at h; exact h.elim
  | some x =>
    obtain ⟨n, lk, kvs⟩ := x
    rw [e] at h
    dsimp only at h
    obtain ⟨a, vs, rfl, rfl, ha, es, l, pk⟩ := dctD_ok r dv e
    refine ⟨a, vs, rfl, l.rd, fun H1 ts k pr => ?_⟩
    obtain ⟨x1, q1⟩ := new_elses r k
    have dvs := pairs_dv x1.toMono pk pr
    cases e2 : pysD s (kvs.map pairD) with
    | none => rw [e2] at h; exact h.elim
    | some xs =>
      rw [e2] at h
      dsimp only at h
      obtain ⟨us, rfl, eu, ht⟩ := tris_of q1 dvs e2
      by_cases hc : alikesB ((us.map fun t => (t.1, t.2.2)).map (·.2)) = true ∧ sortB ((us.map fun t => (t.1, t.2.2)).map (·.2)) = true
      · rw [if_pos hc] at h
        have e4 : (us.map fun t => (t.1, t.2.2)).map (·.2) = (us.map fun t => (t.2.1, t.2.2)).map (·.2) := by simp [List.map_map, Function.comp_def]
        rw [e4] at hc
        have k1 : sortP (us.map fun t => (t.1, t.2.2)) = (us.mergeSort (PySem.W.dataLe false fun t => t.2.2)).map fun t => t.1 := by
          rw [sortP_eq]
          rw [← List.map_mergeSort (f := fun t : Tri => (t.1, t.2.2)) (r := PySem.W.dataLe false fun t : Tri => t.2.2) (fun a _ b _ => rfl), List.map_map]
          rfl
        have k2 : ((us.map fun t => (t.2.1, t.2.2)).mergeSort (PySem.W.dataLe false (·.2))).map (·.1) = (us.mergeSort (PySem.W.dataLe false fun t => t.2.2)).map fun t => t.2.1 := by
          rw [← List.map_mergeSort (f := fun t : Tri => (t.2.1, t.2.2)) (r := PySem.W.dataLe false fun t : Tri => t.2.2) (fun a _ b _ => rfl), List.map_map]
          rfl
        refine ⟨us.map fun t => (t.2.1, t.2.2), by rw [eu, List.map_map]; rfl, fun t mt => ?_, alikesB_ok hc.1, sortB_ok hc.2, fun l hl => ?_⟩
        · obtain ⟨t', mt', rfl⟩ := List.mem_map.mp mt
          exact ⟨(ht t' mt').2.1, by have := pysD_depth e2 (t'.1, t'.2.2) (List.mem_map.mpr ⟨t', mt', rfl⟩); show t'.2.2.depth ≤ 50; have h2 : t'.2.2.depth ≤ 20 := this; omega⟩
        · rw [k2]
          refine hf O H1 s l _ _ Q X' q1 hl ?_ (Post.ext h x1 q1)
          rw [k1]
          exact dvs_tris fun t mt => (ht t (List.mem_mergeSort.mp mt)).1
      · rw [if_neg hc] at h; exact h.elim
section
variable {X : Cx} {W : WX} {e : Expr} {fe : Rs → M D} {p pos apos cpos : Pos}
def sitM (fin : List D → M D) (fe : Rs → M D) : Rs → M D := fun env => bnd (fe env) (sortIF fin)
theorem re_sortItems {fin : List D → M D} (hf : NewOk X.K X.mg fin) (hc : X.calm = true) (hu : X.A.units + 64 < cLine) (hm : X.mg "sorted" = none) (he : RE X W e fe) (hg : Gl X "sorted" := by rfl) (hbase : attributeBase e "items" X.env (eval e X.env) = eval e X.env := by rfl) (hline : (apos.endLine == cpos.line) = true := by rfl)
    (hs : starEach [.Call (.Attribute e "items" apos) [] [] cpos] X.env = (false, eval (.Call (.Attribute e "items" apos) [] [] cpos) X.env) :: starEach [] X.env := by rfl) :
    RE X W (.Call (.Name "sorted" p) [.Call (.Attribute e "items" apos) [] [] cpos] [] pos) (sitM fin fe) := by
  refine pe_weak (pe_sortItems hc hu he hg hm (by with_unfolding_all rfl) hbase hline hs) fun sg H Q ⟨O, env, s, hE, hS, hP⟩ => ?_
  exact ⟨O, env, s, hE, hS, hP.split.imp (fun d s1 O1 H1 _ x1 q1 p1 v dv => sortIF_ok hf q1 dv p1) fun _ _ _ _ _ _ z => z⟩
end
end Md

set_option Elab.async false
set_option linter.all false
set_option maxRecDepth 100000
/-! Md27: == and != where own classes may stand; the head's looks with these classes. -/
namespace Md
open PySem PySem.Spec PyProof.Rows L2

def eqA (c : Str) (G : List D → M D) (f : Bool → Bool) : D → D → M D := fun a b s => if isInsO c s a = true then eqO c G f a b s else eqX f a b s
section
variable {X : Cx} {W : WX} {a b : Expr} {fa fb : Rs → M D} {pos : Pos} {k j : Nat} {c : Str} {G : List D → M D}
theorem eqA_ok {f : Bool → Bool} : OpOk X.K X.mg (fun x y H Q => rEqO X c G f x y H Q ∨ rEqX X.K X.mg f x y H Q) (eqA c G f) := OpOk.or eqO_ok (eqX_ok f) fun a b s => by
  unfold eqA
  split
  · exact .inl rfl
  · exact .inr rfl
theorem re_eqA (F : Mt X.prog X.w X.K X.mg X.base k c "__eq__" [] G) (kc : Kc X.K X.mg c) (hr : RmG (k + 1) X.A) (hu : X.A.units + 100 < cLine) (ha : RE X W a fa) (hb : RE X W b fb) (hm : behindInMarks .Eq b = false := by rfl) : RE X W (.Compare a [.Eq] [b] pos) (op2 (eqA c G id) fa fb) := re_cmp ((op_eqO F kc (hr.mono (Nat.le_succ k))).or (eqTop_op hu).1) eqA_ok ha hb hm
theorem rt_eqA (F : Mt X.prog X.w X.K X.mg X.base k c "__eq__" [] G) (kc : Kc X.K X.mg c) (hr : RmG (k + 1) X.A) (hu : X.A.units + 100 < cLine) (ha : RE X W a fa) (hb : RE X W b fb) (hm : behindInMarks .Eq b = false := by rfl) : RT X W (.Compare a [.Eq] [b] pos) (toB (op2 (eqA c G id) fa fb)) := rt_cmp ((op_eqO F kc (hr.mono (Nat.le_succ k))).or (eqTop_op hu).1) eqA_ok ha hb hm
theorem re_neA (F : Mt X.prog X.w X.K X.mg X.base k c "__eq__" [] G) (kc : Kc X.K X.mg c) (hr : RmG (k + 1) X.A) (hu : X.A.units + 100 < cLine) (ha : RE X W a fa) (hb : RE X W b fb) (hm : behindInMarks .NotEq b = false := by rfl) : RE X W (.Compare a [.NotEq] [b] pos) (op2 (eqA c G not) fa fb) := re_cmp ((op_neO F kc hr).or (eqTop_op hu).2) eqA_ok ha hb hm
theorem rt_neA (F : Mt X.prog X.w X.K X.mg X.base k c "__eq__" [] G) (kc : Kc X.K X.mg c) (hr : RmG (k + 1) X.A) (hu : X.A.units + 100 < cLine) (ha : RE X W a fa) (hb : RE X W b fb) (hm : behindInMarks .NotEq b = false := by rfl) : RT X W (.Compare a [.NotEq] [b] pos) (toB (op2 (eqA c G not) fa fb)) := rt_cmp ((op_neO F kc hr).or (eqTop_op hu).2) eqA_ok ha hb hm
end
/-! ### the head's looks -/
/-- a further fact -/
inductive Fb where
  | kc (c : Str)
def Fb.ok (K : PySem.W.Frag) : Fb → Bool
  | .kc c => kcB K (He.ga K c)
def obsX (fa : List He.Fa) (fb : List Fb) (fn : List He.DefD) (K : PySem.W.Frag) : He.AlD := (((fa.all fun f => f.ok K) && fb.all fun f => f.ok K) && fn.all fun d => d.ok K, fn.map fun d => He.fnW K d.at_)
def SaysX (fa : List He.Fa) (fb : List Fb) (fn : List He.DefD) (K : PySem.W.Frag) : Prop := obsX fa fb fn K = He.valD fn
def obsXG (n : Nat) (fa : List He.Fa) (fb : List Fb) (fn : List He.DefD) (g : Addr → Option Obj) : He.AlD := obsX fa fb fn (He.frG g (He.asD g n))
def hookX (n : Nat) (fa : List He.Fa) (fb : List Fb) (fn : List He.DefD) : PySem.W.Hook where
  α := He.AlD
  obs := fun s => obsXG n fa fb fn s.heap.get?
  val := fun _ => He.valD fn
  says := fun _ h => ∃ K : PySem.W.Frag, K.In h ∧ SaysX fa fb fn K
  of := fun _ _ e => ⟨_, He.frG_in, e⟩
  keeps := fun _ _ _ ⟨K, hK, c⟩ k => ⟨K, PySem.W.Frag.In.keeps hK k, c⟩
theorem obsXG_eq {n : Nat} {fa : List He.Fa} {fb : List Fb} {fn : List He.DefD} {g : Addr → Option Obj} {s : Shared} (h : ∀ a, g a = s.heap.get? a) : obsXG n fa fb fn g = (hookX n fa fb fn).obs s := by
  have e : g = s.heap.get? := funext h
  rw [e] <;> rfl
section
variable {fa : List He.Fa} {fb : List Fb} {fn : List He.DefD} {K : PySem.W.Frag}
theorem SaysX.d (c : SaysX fa fb fn K) : He.SaysD fa fn K := by
  have e1 : (((fa.all fun f => f.ok K) && fb.all fun f => f.ok K) && fn.all fun d => d.ok K) = true := congrArg (fun z : He.AlD => z.1) c
  have e2 : fn.map (fun d => He.fnW K d.at_) = fn.map He.DefD.val := congrArg (fun z : He.AlD => z.2) c
  simp only [Bool.and_eq_true] at e1
  show He.obsD fa fn K = He.valD fn
  unfold He.obsD He.valD
  rw [e2, e1.1.1, e1.2]
  rfl
theorem SaysX.b (c : SaysX fa fb fn K) (i : Nat) {f : Fb} (h : fb[i]? = some f := by rfl) : f.ok K = true := by
  have e1 : (((fa.all fun f => f.ok K) && fb.all fun f => f.ok K) && fn.all fun d => d.ok K) = true := congrArg (fun z : He.AlD => z.1) c
  simp only [Bool.and_eq_true] at e1
  exact List.all_eq_true.mp e1.1.2 f (List.mem_of_getElem? h)
end
/-! ### name = {k: v for ..} on one line -/
section
variable {X : Cx} {W : WX}
theorem ps_setDc {i : Nat} {y : Str} {py : Pos} {kx vx tg iter : Expr} {ifs : List Expr} {scope : Scope} {own : List (Str × Nat)} {pos spos : Pos} {wi : TI} {g : TG} {tt : TT} {tk tv : TE} (hc : X.calm = true) (hN : X.N.Nodup) (hy : X.N[i]? = some y) (hyl : X.env.scope.names.lookup y = some .local)
    (hsw : swapsWith (.DictComp kx vx [⟨tg, iter, ifs, 0⟩] scope pos) (some (.Name y py)) spos.line X.env = pure true) (hi : PI X tg iter wi) (ok : BlkOk X.N X.env.scope scope own)
    (hg : ∀ (s : Shared) (H : Hp) (C : Addr) (cl : List (Str × Addr)) (fp : List Addr), PG (X.blk s H scope (compEnvC scope cl C X.env) fp) tg g) (ht : ∀ (s : Shared) (H : Hp) (C : Addr) (cl : List (Str × Addr)) (fp : List Addr), PTs (X.blk s H scope (compEnvC scope cl C X.env) fp) ifs tt)
    (hk : ∀ (s : Shared) (H : Hp) (C : Addr) (cl : List (Str × Addr)) (fp : List Addr), PE (X.blk s H scope (compEnvC scope cl C X.env) fp) kx tk)
    (he : ∀ (s : Shared) (H : Hp) (C : Addr) (cl : List (Str × Addr)) (fp : List Addr), PE (X.blk s H scope (compEnvC scope cl C X.env) fp) vx tv) (hs : ∀ x, foldedSetIterable iter X.env x = pure x := by intro _; rfl) :
    PS X (.Assign [.Name y py] (.DictComp kx vx [⟨tg, iter, ifs, 0⟩] scope pos) spos) (tAsg (tDc wi g tt tk tv (own.map (·.2))) (gName i)) := by
  refine ⟨fun pins s σ H D I h => ?_⟩
  rw [exec_Assign_Name_used _ _ _ _ hsw]
  refine wpAny_bind (wpAny_standAt (wpAny_bind ?_))
  show wpAny _ X.A (do let _ ← comprehension (.DictComp kx vx [⟨tg, iter, ifs, 0⟩] scope pos) scope X.env (firstIterPos [⟨tg, iter, ifs, 0⟩] pos) newDict false (eval iter X.env) (some (assign (.Name y py) X.env))) _ _ s
  have h : tDc wi g tt tk tv (own.map (·.2)) σ H (fun x H1 => gName i x σ H1 D.nx) := h
  refine wpAny_bind (L2.thn (dc_core (Qf := fun _ s' => SP X pins D .next s') hc hN I hi ok hg ht hk he hs h fun L C s' m H' I' q hn f => ?_) fun _ s' hq => wpAny_pure (wpAny_pure hq))
  show wpAny _ _ (assign (.Name y py) X.env (.ref L)) _ _ _
  refine wpAny_assign_Name (store_ok2 (v := V.ref L) I' hN hy (.inl hyl) rfl (fun s2 I2 ⟨a, sb, ha⟩ => ?_) (.inr hyl))
  obtain ⟨f0, f1, f2, f3, f4, f5⟩ := f
  have haC : C ≠ a := by
    rcases ha with z | z
    · rw [z]; exact f1
    · exact fun e => f4 y a z e.symm
  refine ⟨m, hn.sameBut sb haC, fun h3 sb3 => ?_⟩
  exact ⟨_, H', I2.turned (t' := s2.toks) (fun b o hb e => (sb3.2 b hb).trans e) f0 f1 f3 f4 f5, q⟩
theorem rs_setDc (i : Nat) {y : Str} {py : Pos} {kx vx tg iter : Expr} {ifs : List Expr} {scope : Scope} (own : List (Str × Nat)) {pos spos : Pos} {it : Rs → M (List D)} {t : TgM} {tt : Rs → M Bool} {tk tv : Rs → M D} (hc : X.calm = true) (hN : X.N.Nodup) (ok : blkC X.N X.env.scope scope own = true)
    (hsw : swapsWith (.DictComp kx vx [⟨tg, iter, ifs, 0⟩] scope pos) (some (.Name y py)) spos.line X.env = pure true) (hi : RI X W tg iter it)
    (hg : ∀ (s : Shared) (H : Hp) (C : Addr) (cl : List (Str × Addr)) (fp : List Addr), RG (X.blk s H scope (compEnvC scope cl C X.env) fp) (own.map (·.2)) tg t)
    (ht : ∀ (s : Shared) (H : Hp) (C : Addr) (cl : List (Str × Addr)) (fp : List Addr), RTs (X.blk s H scope (compEnvC scope cl C X.env) fp) W0 ifs tt)
    (hk : ∀ (s : Shared) (H : Hp) (C : Addr) (cl : List (Str × Addr)) (fp : List Addr), RE (X.blk s H scope (compEnvC scope cl C X.env) fp) W0 kx tk)
    (hv : ∀ (s : Shared) (H : Hp) (C : Addr) (cl : List (Str × Addr)) (fp : List Addr), RE (X.blk s H scope (compEnvC scope cl C X.env) fp) W0 vx tv)
    (hy : X.N[i]? = some y := by rfl) (hyl : X.env.scope.names.lookup y = some .local := by rfl) (hs : ∀ x, foldedSetIterable iter X.env x = pure x := by intro _; rfl) :
    RS X W (.Assign [.Name y py] (.DictComp kx vx [⟨tg, iter, ifs, 0⟩] scope pos) spos) (asg (dcM (own.map (·.2)) it t tt tk tv) (toN i)) := by
  refine ps_weak (ps_setDc (wi := tMI X.K X.mg W it) (g := tMG X.K X.mg (own.map (·.2)) t) (tt := tMT X.K X.mg W0 tt) (tk := tM X.K X.mg W0 tk) (tv := tM X.K X.mg W0 tv) hc hN hy hyl hsw hi (blkOk_by ok) hg ht hk hv hs) fun E sg H ⟨O, env, s, hE, hS, hP⟩ => ?_
  refine dc_ok ⟨O, env, s, hE, hS, (hP.thn hE).imp (fun d s1 O1 H1 _ x q p v dv => ?_) fun _ _ _ _ _ _ z => z⟩
  exact p O1 H1 _ .refl q ((hE.mono x.toMono).set dv i)
end
end Md

set_option Elab.async false
set_option linter.all false
set_option maxRecDepth 1000000
set_option maxHeartbeats 2000000
/-! Md28: plain law: the pool of digits. -/
namespace Md
open PySem PySem.Spec PyProof.Rows L2

theorem toPyL_ints (s : S) (n : Nat) : ∀ ns : List Int, toPyL (toPy s (n + 1)) (ns.map Md.D.int) = some (ns.map PyData.int)
  | [] => rfl
  | i :: r => by
    show (match toPy s (n + 1) (.int i), toPyL (toPy s (n + 1)) (r.map Md.D.int) with
      | some x, some xs => some (x :: xs)
      | _, _ => none) = _
    rw [toPyL_ints s n r]
    rfl
theorem line0 : (0 ≤ sizeLine) = True := by simp
theorem line1 : (1 ≤ sizeLine) = True := by simp [show (1 ≤ sizeLine) from by decide]
theorem line2 : (2 ≤ sizeLine) = True := by simp [show (2 ≤ sizeLine) from by decide]
theorem line3 : (3 ≤ sizeLine) = True := by simp [show (3 ≤ sizeLine) from by decide]
theorem line4 : (4 ≤ sizeLine) = True := by simp [show (4 ≤ sizeLine) from by decide]
theorem line5 : (5 ≤ sizeLine) = True := by simp [show (5 ≤ sizeLine) from by decide]
def poolS : SM := seq (asg (cst (.int 0)) (toN 2))
  (seq (ifS (toB (op2 (eqX not) (vr 0) (lstE finL (aNil)))) (asg (op2 ixA (vr 0) (op2 modI (vr 1) (callM (lenA) [] (aCons (vr 0) (aNil))))) (toN 2)) (skp))
  (seq (ifS (toB (op2 (geI) (vr 1) (callM (lenA) [] (aCons (vr 0) (aNil))))) (asg (op2 ixA (lstE finL (aCons (op2 modI (vr 2) (cst (.int 1000003))) (aCons (op2 fdivI (vr 2) (op2 powI (cst (.int 10)) (cst (.int 18)))) (aNil)))) (callM (arg1 intF) [] (aCons (op2 (geI) (vr 2) (op2 powI (cst (.int 10)) (cst (.int 36)))) (aNil)))) (toN 2)) (skp))
  (seq (asg (op2 modI (op2 (mulA finL) (op2 (addD finL) (op2 (addD finL) (op2 modI (vr 2) (cst (.int 2147483629))) (op2 (mulA finL) (cst (.int 104729)) (vr 1))) (cst (.int 11))) (cst (.int 48271))) (cst (.int 2147483647))) (toN 3))
  (rtn (lstE finM (aCons (op2 (mulA finL) (vr 2) (callM (arg1 intF) [] (aCons (op2 (geI) (vr 2) (op2 powI (cst (.int 10)) (cst (.int 18)))) (aNil)))) (aCons (vr 3) (aNil))))))))
def takeS : SM := seq (ifS (toB (op2 (gtI) (op2 ixA (vr 0) (cst (.int 0))) (cst (.int 0)))) (seq (asg (op2 modI (op2 ixA (vr 0) (cst (.int 0))) (vr 1)) (toN 2))
  (seq (asg (op2 fdivI (op2 ixA (vr 0) (cst (.int 0))) (vr 1)) (toSub (vr 0) (cst (.int 0))))
  (rtn (vr 2)))) (skp))
  (seq (asg (op2 modI (op2 (addD finL) (op2 (mulA finL) (op2 ixA (vr 0) (cst (.int 1))) (cst (.int 48271))) (cst (.int 11))) (cst (.int 2147483647))) (toSub (vr 0) (cst (.int 1))))
  (rtn (op2 modI (op2 fdivI (op2 modI (op2 (mulA finL) (op2 ixA (vr 0) (cst (.int 1))) (op2 ixA (vr 0) (cst (.int 1)))) (cst (.int 2147483629))) (cst (.int 64))) (vr 1))))
/-- the pool, from the cell -/
theorem pool_end (s : S) (k c : Int) (x : Md.D) (y : Option Md.D) : ∃ a b, endS (seq (asg (op2 modI (op2 (mulA finL) (op2 (addD finL) (op2 (addD finL) (op2 modI (vr 2) (cst (.int 2147483629))) (op2 (mulA finL) (cst (.int 104729)) (vr 1))) (cst (.int 11))) (cst (.int 48271))) (cst (.int 2147483647))) (toN 3))
  (rtn (lstE finM (aCons (op2 (mulA finL) (vr 2) (callM (arg1 intF) [] (aCons (op2 (geI) (vr 2) (op2 powI (cst (.int 10)) (cst (.int 18)))) (aNil)))) (aCons (vr 3) (aNil))))) [some x, some (.int k), some (.int c), y] s) = .ok (.ref s.length) (s ++ [.lst [.int a, .int b]]) ∧ 0 ≤ b ∧ b < 2147483647 := by
  refine ⟨c * (if 1000000000000000000 ≤ c then 1 else 0), (c % 2147483629 + 104729 * k + 11) * 48271 % 2147483647, ?_, Int.emod_nonneg _ (by decide), Int.emod_lt_of_pos _ (by decide)⟩
  by_cases hc : 1000000000000000000 ≤ c <;>
  simp [hc, line2, seq, asg, Md.thn, cst, Md.ret, tgS, toN, op2, vr, lstE, aNil, aCons, bnd, mulA, mulI, addD, addI, int2, opt, modI, rtn, endS, callM, arg1, intF, geI, powI, finM, new]
theorem atI_ints {ns : List Int} {i : Int} (h0 : 0 ≤ i) (h1 : i < ns.length) : ∃ c, atI (ns.map Md.D.int) i = some (.int c) := by
  have hi : i.toNat < ns.length := by omega
  refine ⟨ns[i.toNat], ?_⟩
  unfold atI ixN
  rw [List.length_map, if_pos h0, if_pos h1]
  simp [hi]
/-- a pool: a list of the store -/
theorem pool_ok (s : S) (ns : List Int) (k : Int) (hk : 0 ≤ k) : ∃ a b, run poolS 2 4 [.wls (ns.map .int), .int k] s = .ok (.ref s.length) (s ++ [.lst [.int a, .int b]]) ∧ 0 ≤ b ∧ b < 2147483647 := by
  have key : ∀ c : Int, ∃ a b, endS (seq (ifS (toB (op2 (geI) (vr 1) (callM (lenA) [] (aCons (vr 0) (aNil))))) (asg (op2 ixA (lstE finL (aCons (op2 modI (vr 2) (cst (.int 1000003))) (aCons (op2 fdivI (vr 2) (op2 powI (cst (.int 10)) (cst (.int 18)))) (aNil)))) (callM (arg1 intF) [] (aCons (op2 (geI) (vr 2) (op2 powI (cst (.int 10)) (cst (.int 36)))) (aNil)))) (toN 2)) (skp))
  (seq (asg (op2 modI (op2 (mulA finL) (op2 (addD finL) (op2 (addD finL) (op2 modI (vr 2) (cst (.int 2147483629))) (op2 (mulA finL) (cst (.int 104729)) (vr 1))) (cst (.int 11))) (cst (.int 48271))) (cst (.int 2147483647))) (toN 3))
  (rtn (lstE finM (aCons (op2 (mulA finL) (vr 2) (callM (arg1 intF) [] (aCons (op2 (geI) (vr 2) (op2 powI (cst (.int 10)) (cst (.int 18)))) (aNil)))) (aCons (vr 3) (aNil)))))) [some (.wls (ns.map .int)), some (.int k), some (.int c), none] s) = .ok (.ref s.length) (s ++ [.lst [.int a, .int b]]) ∧ 0 ≤ b ∧ b < 2147483647 := by
    intro c
    obtain ⟨a0, b0, e0⟩ := pool_end s k c (.wls (ns.map .int)) none
    by_cases h1 : (ns.length : Int) ≤ k
    · by_cases hc : (1000000000000000000000000000000000000 : Int) ≤ c
      · obtain ⟨a, b, e⟩ := pool_end s k (c / 1000000000000000000) (.wls (ns.map .int)) none
        refine ⟨a, b, ?_, e.2⟩
        rw [← e.1]
        simp [h1, hc, line2, seq, asg, Md.thn, cst, Md.ret, tgS, toN, ifS, toB, op2, vr, lstE, aNil, aCons, bnd, geI, int2, opt, callM, lenA, lenD, lenL, dctD, lstD, tupD, arg1, intF, powI, modI, fdivI, finL, ixA, ixD, ixL, atI, ixN, skp]
      · obtain ⟨a, b, e⟩ := pool_end s k (c % 1000003) (.wls (ns.map .int)) none
        refine ⟨a, b, ?_, e.2⟩
        rw [← e.1]
        simp [h1, hc, line2, seq, asg, Md.thn, cst, Md.ret, tgS, toN, ifS, toB, op2, vr, lstE, aNil, aCons, bnd, geI, int2, opt, callM, lenA, lenD, lenL, dctD, lstD, tupD, arg1, intF, powI, modI, fdivI, finL, ixA, ixD, ixL, atI, ixN, skp]
    · refine ⟨a0, b0, ?_, e0.2⟩
      rw [← e0.1]
      simp [h1, line2, seq, asg, Md.thn, cst, Md.ret, tgS, toN, ifS, toB, op2, vr, lstE, aNil, aCons, bnd, geI, int2, opt, callM, lenA, lenD, lenL, dctD, lstD, tupD, arg1, intF, powI, modI, fdivI, finL, ixA, ixD, ixL, atI, ixN, skp]
  cases ns with
  | nil =>
    obtain ⟨a, b, e⟩ := key 0
    refine ⟨a, b, ?_, e.2⟩
    rw [← e.1]
    rfl
  | cons n r =>
    have hl : (0 : Int) < ((n :: r).length : Int) := by simp only [List.length_cons]; omega
    obtain ⟨c, ec⟩ := atI_ints (ns := n :: r) (Int.emod_nonneg k (by omega : ((n :: r).length : Int) ≠ 0)) (Int.emod_lt_of_pos k hl)
    obtain ⟨a, b, e⟩ := key c
    refine ⟨a, b, ?_, e.2⟩
    rw [← e.1]
    have e1 : eqX not (.wls ((n :: r).map .int)) (.lst []) s = .ok (.bl true) s := by
      unfold eqX eqTop
      show (match (match ((toPyL (toPy s 19) ((n :: r).map Md.D.int)).map PyData.list), toPy s 20 (.lst []) with
        | some x, some y => some (PyData.eqv x y)
        | _, _ => stepD s (eqN s 30) _ _) with | some k => _ | none => _) = _
      rw [toPyL_ints s 18]
      rfl
    have e2 : ((n :: r).map Md.D.int).length = (n :: r).length := List.length_map ..
    have lt : 0 < ((n :: r).map Md.D.int).length := by rw [e2]; simp
    rw [← e2] at ec
    clear e key hl e2
    generalize hxs : (n :: r).map Md.D.int = xs at *
    simp [poolS, run, e1, ec, lt, line0, seq, asg, Md.thn, cst, Md.ret, tgS, toN, ifS, toB, op2, vr, lstE, aNil, aCons, bnd, callM, lenA, lenD, lenL, dctD, lstD, tupD, modI, int2, opt, finL, ixA, ixD, ixL]
/-- a digit of the pool -/
theorem take_ok (s : S) (p : Nat) (a b m : Int) (hp : s[p]? = some (.lst [.int a, .int b])) (hm : 0 < m) (hm2 : m < 1000000) (hb : 0 ≤ b ∧ b < 2147483647) : ∃ a' b' d, run takeS 2 3 [.ref p, .int m] s = .ok (.int d) (s.set p (.lst [.int a', .int b'])) ∧ (0 ≤ d ∧ d < m) ∧ 0 ≤ b' ∧ b' < 2147483647 := by
  have hm3 : m < 1606938044258990275541962092341162602522202993782792835301376 := by omega
  have hlt : p < s.length := (List.getElem?_eq_some_iff.mp hp).1
  by_cases ha : 0 < a
  · refine ⟨a / m, b, a % m, ?_, ⟨Int.emod_nonneg _ (by omega), Int.emod_lt_of_pos _ hm⟩, hb⟩
    simp [takeS, run, hp, ha, hm, hm3, seq, asg, Md.thn, cst, Md.ret, tgS, toN, ifS, toB, op2, vr, bnd, callM, dctD, lstD, modI, fdivI, gtI, int2, opt, ixA, ixD, ixL, atI, ixN, toSub, setA, rtn, endS]
  · have b1 := Int.emod_nonneg (b * 48271 + 11) (show (2147483647 : Int) ≠ 0 by decide)
    have b2 := Int.emod_lt_of_pos (b * 48271 + 11) (show (0 : Int) < 2147483647 by decide)
    generalize hy : (b * 48271 + 11) % 2147483647 = y at b1 b2
    refine ⟨a, y, y * y % 2147483629 / 64 % m, ?_, ⟨Int.emod_nonneg _ (by omega), Int.emod_lt_of_pos _ hm⟩, b1, b2⟩
    have hs : ∀ o, (s.set p o)[p]? = some o := fun o => List.getElem?_set_self hlt
    have y3 : -18446744073709551616 < y ∧ y < 18446744073709551616 := ⟨by omega, by omega⟩
    simp [takeS, run, hp, hs, ha, hm, hm3, y3, hy, skp, addD, addI, mulA, mulI, seq, asg, Md.thn, cst, Md.ret, tgS, toN, ifS, toB, op2, vr, bnd, callM, dctD, lstD, modI, fdivI, gtI, int2, opt, ixA, ixD, ixL, atI, ixN, toSub, setA, rtn, endS]
end Md

set_option Elab.async false
set_option linter.all false
set_option maxRecDepth 100000
set_option maxHeartbeats 1000000
/-! Md29: set(xs) of a list, a tuple, over a theory of sets; sorted(set(xs)) of ints and texts. -/
namespace Md
open PySem PySem.Spec PyProof.Rows L2

section
variable {P : Program} {w : World}
/-- one more, as a set adds it by itself -/
def StepOk (A : Around) (S : SetTh P w) (E : Value → Shared → Prop) (D : Addr) (h0 : Heap) (v : Value) (x x' : S.T) : Prop := ∀ (s : Shared) (Q : Bool → Shared → Prop),
  (∀ b o, h0.get? b = some o → s.heap.get? b = some o) → S.pr s.heap D x → (∀ b h' tk, s.toks ≤ tk → Heap.SameBut D s.heap h' → S.pr h' D x' → Q b { s with heap := h', toks := tk }) → wpAny (model P w) A (setAdd D v) Q E s
variable {A : Around} {E : Value → Shared → Prop} {s : Shared}
theorem set_update_th {I : Addr} {fp wr : List Addr} {G : Array GenState → Array GenState → Prop} {n : Nat} {Pv : Nat → Value → Prop} {St : Nat → Shared → Prop} {R : PySem.Result → Shared → Prop}
    (W : WalksS P w A.in1 I fp wr G n Pv St) (S : SetTh P w) (D : Addr) (hSf : D ∉ fp) (h0 : Heap) (xs : Nat → S.T) (hD0 : h0.get? D = none) (hw0 : ∀ b ∈ wr, h0.get? b = none)
    (hs : ∀ i v E, i < n → Pv i v → StepOk A.in1 S E D h0 v (xs i) (xs (i + 1))) :
    ∀ (k i : Nat) (s : Shared), n - i = k → i ≤ n → St i s → (∀ b o, h0.get? b = some o → s.heap.get? b = some o) → S.pr s.heap D (xs i) →
      (∀ s', Moved (D :: wr) G s s' → (∀ b o, h0.get? b = some o → s'.heap.get? b = some o) → S.pr s'.heap D (xs n) → R (.ok (.ret .none)) s') →
      codeAny (model P w) A (.builtin "set.update.loop" ⟨[.ref D, .ref I], []⟩) R s := by
  have hSw : D ∉ wr := fun h => hSf (W.sub _ h)
  have hsub : ∀ b ∈ wr, b ∈ D :: wr := fun b hb => List.mem_cons_of_mem _ hb
  have keepM : ∀ {s s' : Shared}, Moved wr G s s' → (∀ b o, h0.get? b = some o → s.heap.get? b = some o) → ∀ b o, h0.get? b = some o → s'.heap.get? b = some o := fun hm hkp b o e =>
    hm.heap b o (fun hb => by rw [hw0 b hb] at e; cases e) (hkp b o e)
  intro k
  induction k with
  | zero =>
    intro i s hk hi hst hkp hS hR
    have hin : i = n := by omega
    subst hin
    refine codeAny_builtin F.entry_set_update_loop ?_
    rw [Around.under_plainId F.plain_set_update_loop _]
    show wpAny _ A.in1 (pyNext (.ref I) >>= _) _ _ s
    refine wpAny_bind (W.done s _ _ hst fun s' hm => ?_)
    show wpAny _ A.in1 (PySem.ret Value.none) _ _ s'
    exact wpAny_pure (hR s' (hm.mono hsub) (keepM hm hkp) (S.stay _ _ _ _ hS fun o e => hm.heap D o hSw e))
  | succ k ih =>
    intro i s hk hi hst hkp hS hR
    have hlt : i < n := by omega
    refine codeAny_builtin F.entry_set_update_loop ?_
    rw [Around.under_plainId F.plain_set_update_loop _]
    show wpAny _ A.in1 (pyNext (.ref I) >>= _) _ _ s
    refine wpAny_bind (W.item i s _ _ hlt hst fun v s' hP hst' hm => ?_)
    have hkp' := keepM hm hkp
    have hS' : S.pr s'.heap D (xs i) := S.stay _ _ _ _ hS fun o e => hm.heap D o hSw e
    show wpAny _ A.in1 (holding [v] (setAdd D v) >>= _) _ _ s'
    refine wpAny_bind (wpAny_holding (hs i v _ hlt hP s' _ hkp' hS' fun b h' tk le hsb hS2 => ?_))
    have hkp2 : ∀ b o, h0.get? b = some o → h'.get? b = some o := fun b o e => (hsb.2 b (fun z => by rw [z, hD0] at e; cases e)).trans (hkp' b o e)
    refine wpAny_pure ⟨plainId_quiet F.plain_set_update_loop _, ih (i + 1) _ (by omega) hlt (W.frame _ s' _ _ hst' le fun b hb o e => ?_) hkp2 hS2 fun s'' hm'' hkp'' hS'' => ?_⟩
    · rw [hsb.2 b (fun h : b = D => hSf (by rw [← h]; exact hb))]; exact e
    · refine hR s'' (Moved.trans W.gtrans ((hm.mono hsub).then_heap le fun b o hb e => ?_) hm'') hkp'' hS''
      rw [hsb.2 b (fun h : b = D => hb (by rw [h]; exact List.mem_cons_self))]; exact e
abbrev fresh1 (w : World) : Obj := { cls := .type "set", dict := none, data := .set #[] 0 (.fresh 0 0 (!w.params.followText "set-order")) }
set_option maxRecDepth 100000 in
set_option maxHeartbeats 3200000 in
theorem call_set_list {l : Addr} {items : Array Value} (S : SetTh P w) (xs : Nat → S.T) (h0 : xs 0 = S.e0) {Q : Value → Shared → Prop} (hh : A.handled = none) (hl : s.heap.IsList l items)
    (hs : ∀ i v E, items[i]? = some v → StepOk A.in1.in1.in1 S E s.heap.objs.size s.heap v (xs i) (xs (i + 1)))
    (h : ∀ (h' : Heap) (tk : Nat), S.pr h' s.heap.objs.size (xs items.size) → (∀ b o, s.heap.get? b = some o → h'.get? b = some o) → Q (.ref s.heap.objs.size) { s with heap := h', toks := tk }) :
    wpAny (model P w) A (call (.type "set") [.ref l]) Q E s := by
  obtain ⟨c, tl, hmro⟩ := F.called_set.mro
  have hmade := F.called_set.made
  have hsub := F.called_set.sub
  refine wpAny_call (codeAny_of_tree ?_)
  show wpAny _ _ (callAny (.type "set") _) _ _ _
  refine wpAny_pure ⟨Code.quiet_builtin _ (by decide +kernel), codeAny_builtin F.entry_type_call ?_⟩
  rw [Around.under_plain (weight_type_call_type "set" [.ref l] []) rfl]
  have h1 := F.called_set.notType
  have h2 := F.called_set.canCreate
  have hct := F.typeCall_set_1 (.ref l)
  repeat (any_goals (first | assumption | wp_step))
  refine codeAny_mono (code_set_led1 (.ref l) (E := E) (Q₁ := fun obj s₁ => obj = .ref s.heap.objs.size ∧ s₁ = { s with heap := s.heap.push (fresh1 w) }) ⟨rfl, rfl⟩) fun r s₁ hr => ?_
  cases r with
  | error e => exact hr
  | ok fl =>
    cases fl with
    | ret obj =>
      obtain ⟨rfl, rfl⟩ := hr
      have hS : (s.heap.push (fresh1 w)).get? s.heap.objs.size = some (fresh1 w) := Heap.get?_push_size _ rfl
      have hT : Shared.TypeIs { s with heap := s.heap.push (fresh1 w) } (.ref s.heap.objs.size) "set" := ⟨_, hS, rfl⟩
      have hli := F.called_set.init.lookup
      have hbi := F.called_set.init.bind (.ref s.heap.objs.size)
      repeat (any_goals (first | assumption | wp_step))
      refine codeAny_mono (codeAny_call_builtin (R := wants (fun r s₂ => r = .none ∧ ∃ h' tk, s₂ = { s with heap := h', toks := tk } ∧ S.pr h' s.heap.objs.size (xs items.size) ∧
          (∀ b o, s.heap.get? b = some o → h'.get? b = some o)) E) F.called_set.init.plain F.entry_set_init (check_set_init_1 hT ?_)) fun r₂ s₂ hr₂ => ?_
      · obtain ⟨ol, hol, hcl, nl, hdl⟩ := hl
        obtain ⟨ocls, odict, odata, oslots⟩ := ol
        simp only at hcl hdl
        subst hcl; subst hdl
        have hol' : (s.heap.push (fresh1 w)).get? l = some { cls := .type "list", dict := odict, data := .seq items nl, slots := oslots } := Heap.get?_push_of_some _ hol
        have hsls := F.sub_list_set
        have hslf := F.sub_list_frozenset
        have hne : (Value.type "list" == Value.type "dict") = false := by decide
        have hl1 : (s.heap.push (fresh1 w)).IsList l items := ⟨_, hol', rfl, nl, rfl⟩
        unfold Builtin.«set.__init__» noKeywords Builtin.Frozenset.updateFrom
        generalize hPI : pyIter = PI
        wp_walk
        subst hPI
        refine wpAny_pyIter_list hl1 ?_
        refine wpAny_bind (wpAny_runValue ?_)
        have hlS : l < s.heap.objs.size := Heap.lt_size hol
        have hh3 : A.in1.in1.in1.handled = none := by simp [hh]
        have hneI : l ≠ (s.heap.push (fresh1 w)).objs.size := by
          rw [Heap.size_push]; exact Nat.ne_of_lt (Nat.lt_succ_of_lt hlS)
        have hSf : s.heap.objs.size ∉ [(s.heap.push (fresh1 w)).objs.size, l] := by
          rw [Heap.size_push]; simp only [List.mem_cons, List.mem_singleton, List.not_mem_nil, or_false, not_or]
          exact ⟨Nat.ne_of_lt (Nat.lt_succ_self _), Nat.ne_of_gt hlS⟩
        have none_of : ∀ b, s.heap.objs.size ≤ b → s.heap.get? b = none := fun b hb => by
          cases q : s.heap.get? b with
          | none => rfl
          | some o => exact absurd (Nat.lt_of_lt_of_le (Heap.lt_size q) hb) (Nat.lt_irrefl _)
        refine set_update_th ((Walks.list hh3 _ l hneI items).toS) S s.heap.objs.size hSf s.heap xs (none_of _ (Nat.le_refl _)) (fun b hb => none_of b (by
            rw [List.mem_singleton.mp hb, Heap.size_push]
            exact Nat.le_succ _)) (fun i v E' _ pv => hs i v E' pv) (items.size - 0) 0 _ (by omega) (Nat.zero_le _)
          ⟨⟨_, Heap.get?_push_size _ rfl, rfl, rfl⟩, (hl1.push _)⟩ (fun b o e => Heap.get?_push_of_some _ (Heap.get?_push_of_some _ e)) ?hS0 ?hR
        case hS0 =>
          rw [h0]
          exact S.fresh _ _ (Heap.get?_push_of_some _ hS)
        case hR =>
          intro s' hm hkp hS'
          obtain ⟨h', g2, d', tk', os'⟩ := s'
          have eg : g2 = s.gens := hm.gens
          have ed : d' = s.drawn := hm.drawn
          have eo : os' = s.os := hm.os
          subst eg; subst ed; subst eo
          show wpAny _ _ _ _ _ _
          refine wpAny_pure ?_
          show wpAny _ _ (PySem.ret Value.none) _ _ _
          exact wpAny_pure ⟨rfl, h', tk', rfl, hS', hkp⟩
      · cases r₂ with
        | error e => exact hr₂
        | ok fl₂ =>
          cases fl₂ with
          | ret r =>
            obtain ⟨rfl, h', tk, rfl, hS', hk'⟩ := hr₂
            repeat (any_goals (first | assumption | wp_step))
            exact h _ _ hS' hk'
          | _ => exact hr₂.elim
    | _ => exact hr.elim
set_option maxRecDepth 100000 in
set_option maxHeartbeats 3200000 in
theorem call_set_tuple {l : Addr} {items : Array Value} (S : SetTh P w) (xs : Nat → S.T) (h0 : xs 0 = S.e0) {Q : Value → Shared → Prop} (hh : A.handled = none) (hl : s.heap.IsTuple l items)
    (hs : ∀ i v E, items[i]? = some v → StepOk A.in1.in1.in1 S E s.heap.objs.size s.heap v (xs i) (xs (i + 1)))
    (h : ∀ (h' : Heap) (tk : Nat), S.pr h' s.heap.objs.size (xs items.size) → (∀ b o, s.heap.get? b = some o → h'.get? b = some o) → Q (.ref s.heap.objs.size) { s with heap := h', toks := tk }) :
    wpAny (model P w) A (call (.type "set") [.ref l]) Q E s := by
  obtain ⟨c, tl, hmro⟩ := F.called_set.mro
  have hmade := F.called_set.made
  have hsub := F.called_set.sub
  refine wpAny_call (codeAny_of_tree ?_)
  show wpAny _ _ (callAny (.type "set") _) _ _ _
  refine wpAny_pure ⟨Code.quiet_builtin _ (by decide +kernel), codeAny_builtin F.entry_type_call ?_⟩
  rw [Around.under_plain (weight_type_call_type "set" [.ref l] []) rfl]
  have h1 := F.called_set.notType
  have h2 := F.called_set.canCreate
  have hct := F.typeCall_set_1 (.ref l)
  repeat (any_goals (first | assumption | wp_step))
  refine codeAny_mono (code_set_led1 (.ref l) (E := E) (Q₁ := fun obj s₁ => obj = .ref s.heap.objs.size ∧ s₁ = { s with heap := s.heap.push (fresh1 w) }) ⟨rfl, rfl⟩) fun r s₁ hr => ?_
  cases r with
  | error e => exact hr
  | ok fl =>
    cases fl with
    | ret obj =>
      obtain ⟨rfl, rfl⟩ := hr
      have hS : (s.heap.push (fresh1 w)).get? s.heap.objs.size = some (fresh1 w) := Heap.get?_push_size _ rfl
      have hT : Shared.TypeIs { s with heap := s.heap.push (fresh1 w) } (.ref s.heap.objs.size) "set" := ⟨_, hS, rfl⟩
      have hli := F.called_set.init.lookup
      have hbi := F.called_set.init.bind (.ref s.heap.objs.size)
      repeat (any_goals (first | assumption | wp_step))
      refine codeAny_mono (codeAny_call_builtin (R := wants (fun r s₂ => r = .none ∧ ∃ h' tk, s₂ = { s with heap := h', toks := tk } ∧ S.pr h' s.heap.objs.size (xs items.size) ∧
          (∀ b o, s.heap.get? b = some o → h'.get? b = some o)) E) F.called_set.init.plain F.entry_set_init (check_set_init_1 hT ?_)) fun r₂ s₂ hr₂ => ?_
      · obtain ⟨ol, hol, hcl, nl, hdl⟩ := hl
        obtain ⟨ocls, odict, odata, oslots⟩ := ol
        simp only at hcl hdl
        subst hcl; subst hdl
        have hol' : (s.heap.push (fresh1 w)).get? l = some { cls := .type "tuple", dict := odict, data := .seq items nl, slots := oslots } := Heap.get?_push_of_some _ hol
        have hsls := F.sub_tuple_set
        have hslf := F.sub_tuple_frozenset
        have hne : (Value.type "tuple" == Value.type "dict") = false := by decide
        have hl1 : (s.heap.push (fresh1 w)).IsTuple l items := ⟨_, hol', rfl, nl, rfl⟩
        unfold Builtin.«set.__init__» noKeywords Builtin.Frozenset.updateFrom
        generalize hPI : pyIter = PI
        wp_walk
        subst hPI
        refine wpAny_pyIter_tuple hl1 ?_
        refine wpAny_bind (wpAny_runValue ?_)
        have hlS : l < s.heap.objs.size := Heap.lt_size hol
        have hh3 : A.in1.in1.in1.handled = none := by simp [hh]
        have hneI : l ≠ (s.heap.push (fresh1 w)).objs.size := by
          rw [Heap.size_push]; exact Nat.ne_of_lt (Nat.lt_succ_of_lt hlS)
        have hSf : s.heap.objs.size ∉ [(s.heap.push (fresh1 w)).objs.size, l] := by
          rw [Heap.size_push]; simp only [List.mem_cons, List.mem_singleton, List.not_mem_nil, or_false, not_or]
          exact ⟨Nat.ne_of_lt (Nat.lt_succ_self _), Nat.ne_of_gt hlS⟩
        have none_of : ∀ b, s.heap.objs.size ≤ b → s.heap.get? b = none := fun b hb => by
          cases q : s.heap.get? b with
          | none => rfl
          | some o => exact absurd (Nat.lt_of_lt_of_le (Heap.lt_size q) hb) (Nat.lt_irrefl _)
        refine set_update_th ((Walks.tuple hh3 _ l hneI items).toS) S s.heap.objs.size hSf s.heap xs (none_of _ (Nat.le_refl _)) (fun b hb => none_of b (by
            rw [List.mem_singleton.mp hb, Heap.size_push]
            exact Nat.le_succ _)) (fun i v E' _ pv => hs i v E' pv) (items.size - 0) 0 _ (by omega) (Nat.zero_le _)
          ⟨⟨_, Heap.get?_push_size _ rfl, rfl, rfl⟩, (hl1.push _)⟩ (fun b o e => Heap.get?_push_of_some _ (Heap.get?_push_of_some _ e)) ?hS0 ?hR
        case hS0 =>
          rw [h0]
          exact S.fresh _ _ (Heap.get?_push_of_some _ hS)
        case hR =>
          intro s' hm hkp hS'
          obtain ⟨h', g2, d', tk', os'⟩ := s'
          have eg : g2 = s.gens := hm.gens
          have ed : d' = s.drawn := hm.drawn
          have eo : os' = s.os := hm.os
          subst eg; subst ed; subst eo
          show wpAny _ _ _ _ _ _
          refine wpAny_pure ?_
          show wpAny _ _ (PySem.ret Value.none) _ _ _
          exact wpAny_pure ⟨rfl, h', tk', rfl, hS', hkp⟩
      · cases r₂ with
        | error e => exact hr₂
        | ok fl₂ =>
          cases fl₂ with
          | ret r =>
            obtain ⟨rfl, h', tk, rfl, hS', hk'⟩ := hr₂
            repeat (any_goals (first | assumption | wp_step))
            exact h _ _ hS' hk'
          | _ => exact hr₂.elim
    | _ => exact hr.elim
end
/-! ### sets of keys -/
section
variable {P : Program} {w : World} {A : Around} {E : Value → Shared → Prop} {s : Shared} {a : Addr}
theorem ks_sadd {Q : Bool → Shared → Prop} {x : List Key} {k : Key} {u : Value} (R : KsOk P w s.heap a x) (hk : (mixKind P w).is k u = true) (room : x.length + 1 < scanBound)
    (hQ : ∀ b h', Heap.SameBut a s.heap h' → KsOk P w h' a (insK k x) → Q b { s with heap := h', toks := s.toks + 1 }) : wpAny (model P w) A (setAdd a u) Q E s := by
  obtain ⟨es, sh, hel, pm, nd⟩ := R.ex
  have sz : es.size = x.length := by rw [← pm.length_eq, List.length_map, Array.length_toList]
  have mem : (∃ e ∈ es.toList, (mixKind P w).is k e.2 = true) ↔ k ∈ x := by
    rw [← pm.mem_iff, List.mem_map]
    constructor
    · rintro ⟨e, he, q⟩
      exact ⟨e, he, (keyQ_of (show keyIs k e.2 = true from q)).1⟩
    · rintro ⟨e, he, rfl⟩
      obtain ⟨⟨k', q, _⟩, _⟩ := hel e he
      refine ⟨e, he, ?_⟩
      rw [(keyQ_of (show keyIs k' e.2 = true from q)).1]
      exact q
  have kq := keyQ_of (e := ((mixKind P w).hash k, u)) hk
  unfold setAdd
  refine wpAny_holding (wpAny_bind ((mixKind P w).pyHash hk ?_))
  refine shape_add (knd := mixKind P w) (s := { s with toks := s.toks + 1 }) sh hel hk kq.2 (by rw [sz]; exact room) fun b h' e' sb sh' c1 c2 => hQ b h' sb ?_
  by_cases hm : k ∈ x
  · have ee := c1 (mem.mpr hm)
    subst ee
    have ex2 : insK k x = x := if_pos (hasK_iff.mpr hm)
    rw [ex2]
    exact ⟨e', sh', hel, pm, nd⟩
  · have pe := c2 fun z => hm (mem.mp z)
    have ex2 : insK k x = x ++ [k] := if_neg fun z => hm (hasK_iff.mp z)
    rw [ex2]
    refine ⟨e', sh', fun e he => ?_, ?_, ?_⟩
    · rcases List.mem_cons.mp (pe.mem_iff.mp he) with z | z
      · subst z
        exact ⟨⟨k, hk, rfl⟩, kq.2⟩
      · exact hel e z
    · refine (pe.map keyQ).trans ?_
      rw [List.map_cons, kq.1]
      exact (pm.cons k).trans (List.perm_append_singleton k x).symm
    · refine List.nodup_append.mpr ⟨nd, by simp, fun p hp q hq z => ?_⟩
      rw [List.mem_singleton.mp hq] at z
      exact hm (z ▸ hp)
end
def insAll (ks : List Key) : List Key := ks.foldl (fun acc k => insK k acc) []
theorem insAll_len (ks : List Key) : ∀ i, (insAll (ks.take i)).length ≤ i := by
  intro i
  have key : ∀ (l acc : List Key), (l.foldl (fun acc k => insK k acc) acc).length ≤ acc.length + l.length := by
    intro l
    induction l with
    | nil => intro acc; simp
    | cons x t ih =>
      intro acc
      have a := ih (insK x acc)
      have b := insK_length x acc
      rw [List.foldl_cons, List.length_cons]
      omega
  have := key (ks.take i) []
  have l := List.length_take_le i ks
  unfold insAll
  simp at this l
  omega
theorem insAll_next {ks : List Key} {i : Nat} {k : Key} (h : ks[i]? = some k) : insAll (ks.take (i + 1)) = insK k (insAll (ks.take i)) := by
  unfold insAll
  rw [List.take_add_one, h, List.foldl_append]
  rfl
def rSetKs (P : Program) (w : World) (K : PySem.W.Frag) : List V → Hp → VK → Prop := fun xs H Q => ∃ (l : Addr) (ks : List Key), xs = [.ref l] ∧ (SqL K H l (ks.map kV) ∨ SqT K H l (ks.map kV)) ∧ ks.length + 1 < scanBound ∧ ∀ a, H a = none → Q (.ref a) (upd H a ((keySet P w).so a (insAll ks)))
theorem vals_key {P : Program} {w : World} {ks : List Key} {us : List Value} (r : Vals (ks.map kV) us) {i : Nat} {v : Value} (h : us[i]? = some v) : ∃ k, ks[i]? = some k ∧ (mixKind P w).is k v = true := by
  induction ks generalizing us i with
  | nil => cases r; simp at h
  | cons k t ih =>
    cases r with
    | cons a b =>
      cases i with
      | zero =>
        simp at h
        subst h
        exact ⟨k, rfl, kV_is a⟩
      | succ i => exact ih b (by simpa using h)
theorem cr_setKs {X : Cx} (hc : X.calm = true) : CallR X (.type "set") (rSetKs X.prog X.w X.K) := by
  intro pins s sg H xs us Q I r ⟨l, ks, ex, hs, room, q⟩
  subst ex
  obtain ⟨u, rfl, ru⟩ := r.one
  obtain rfl : u = .ref l := ru
  have step : ∀ (A : Around) (us : List Value), Vals (ks.map kV) us → ∀ i v E, us[i]? = some v → StepOk A (keySet X.prog X.w) E s.heap.objs.size s.heap v (insAll (ks.take i)) (insAll (ks.take (i + 1))) := by
    intro A us rv i v E hv s' Q' kp hS hQ
    obtain ⟨k, hk, hi⟩ := vals_key (P := X.prog) (w := X.w) rv hv
    have lt := (List.getElem?_eq_some_iff.mp hk).1
    have := insAll_len ks i
    refine ks_sadd (P := X.prog) (w := X.w) hS hi (by omega) fun b h' sb R => hQ b h' _ (Nat.le_succ _) sb ?_
    rw [insAll_next hk]
    exact R
  have fin : ∀ (us : List Value), Vals (ks.map kV) us → ∀ (h' : Heap) (tk : Nat), (keySet X.prog X.w).pr h' s.heap.objs.size (insAll (ks.take us.length)) → (∀ b o, s.heap.get? b = some o → h'.get? b = some o) → EP X pins sg Q (.ref s.heap.objs.size) { s with heap := h', toks := tk } := by
    intro us rv h' tk hS kp
    have len : us.length = ks.length := by rw [← rv.length, List.length_map]
    rw [len, List.take_length] at hS
    exact ⟨.ref s.heap.objs.size, upd H s.heap.objs.size ((keySet X.prog X.w).so s.heap.objs.size (insAll ks)), I.laid kp (Nat.le_refl _) ((keySet X.prog X.w).ok hS), rfl, q _ (I.hok.fresh (Nat.le_refl _))⟩
  rcases hs with hs | hs
  · obtain ⟨its, rv, ⟨⟨cls, dd, data, sl⟩, n, ho, hcc, hdn, hd⟩, hlen⟩ := I.list hs
    simp only at hcc hd
    subst hcc hd
    refine call_set_list (keySet X.prog X.w) (fun i => insAll (ks.take i)) rfl (I.ok.hd hc) ⟨_, ho, rfl, n, rfl⟩ (fun i v E hv => step _ its rv i v E (by simpa using hv)) fun h' tk hS kp => ?_
    exact fin its rv h' tk (by simpa using hS) kp
  · obtain ⟨its, rv, ht, hlen⟩ := I.tuple hs
    refine call_set_tuple (keySet X.prog X.w) (fun i => insAll (ks.take i)) rfl (I.ok.hd hc) ht (fun i v E hv => step _ its rv i v E (by simpa using hv)) fun h' tk hS kp => ?_
    exact fin its rv h' tk (by simpa using hS) kp
end Md

set_option Elab.async false
set_option linter.all false
set_option maxRecDepth 100000
set_option maxHeartbeats 1000000
/-! Md30: sorted(set(xs)) of keys; texts joined; how often a text is in a list. -/
namespace Md
open PySem PySem.Spec PyProof.Rows L2

def kysD : List D → Option (List Key)
  | [] => some []
  | d :: r => match keyD d, kysD r with
    | some k, some ks => some (k :: ks)
    | _, _ => none
def txsD : List D → Option (List Str)
  | [] => some []
  | .str x :: r => (txsD r).map (x :: ·)
  | _ :: _ => none
section
variable {K : PySem.W.Frag} {mg : Str → Option Value} {O : Ow} {H : Hp}
theorem keysV : ∀ {ds : List Md.D} {vs : List V} {ks : List Key}, DVs K mg O H ds vs → kysD ds = some ks → vs = ks.map kV
  | [], _, ks, .nil, e => by
    cases e
    rfl
  | d :: r, _, ks, .cons a t, e => by
    unfold kysD at e
    cases e1 : keyD d with
    | none => rw [e1] at e; cases e
    | some k =>
      cases e2 : kysD r with
      | none => rw [e1, e2] at e; cases e
      | some ks' =>
        rw [e1, e2] at e
        cases e
        rw [keyV a e1, keysV t e2]
        rfl
theorem txsV : ∀ {ds : List Md.D} {vs : List V} {ys : List Str}, DVs K mg O H ds vs → txsD ds = some ys → vs = ys.map V.str
  | [], _, ys, .nil, e => by
    cases e
    rfl
  | .str x :: r, _, ys, .cons a t, e => by
    have e : (txsD r).map (x :: ·) = some ys := e
    cases e2 : txsD r with
    | none => rw [e2] at e; cases e
    | some zs =>
      rw [e2] at e
      cases e
      cases a
      rw [txsV t e2]
      rfl
end
/-! ### sorted(set(xs)) -/
def ksOf (fin : List D → M D) : D → M D := fun d s => match (seqD s d).bind kysD with
  | some ks => if ks.length + 1 < scanBound then ksF fin (insAll ks) s else .bad
  | none => .bad
theorem ksOf_ok {P : Program} {w : World} {K : PySem.W.Frag} {mg : Str → Option Value} {fin : List D → M D} (hf : NewOk K mg fin) : CallOk K mg (fun xs H Q => rSetKs P w K xs H fun x H2 => rSortSet P w [x] H2 Q) (arg1 (ksOf fin)) := call1 fun O H s d v Q X' r dv h => by
  unfold ksOf at h
  cases e : seqD s d with
  | none => rw [e] at h; exact h.elim
  | some ds =>
    rw [e] at h
    dsimp only [Option.bind_some] at h
    cases e2 : kysD ds with
    | none => rw [e2] at h; exact h.elim
    | some ks =>
      rw [e2] at h
      dsimp only at h
      obtain ⟨p, vs, rfl, sq, t⟩ := seqD_ok r dv e
      rw [keysV t e2] at sq
      by_cases hl : ks.length + 1 < scanBound
      · rw [if_pos hl] at h
        refine ⟨p, ks, rfl, sq, hl, fun a ha => ?_⟩
        unfold ksF at h
        cases e3 : sortKey (insAll ks) with
        | none => rw [e3] at h; exact h.elim
        | some zs =>
          rw [e3] at h
          dsimp only at h
          by_cases h3 : zs.length ≤ sizeLine
          · rw [if_pos h3] at h
            have b0 := beside (o := (keySet P w).so a (insAll ks)) r (.refl : Ext O H O H) ha (notMu r ha) (notFz r ha) (fun xs e => by rw [ha] at e; cases e) (fun x y e => by rw [ha] at e; cases e)
            exact ⟨a, insAll ks, zs, rfl, upd_same, e3, h3, fun l hl' => hf O _ s l _ _ Q _ b0.2.2 hl' (qD_kV zs) (Post.ext h b0.2.1 b0.2.2)⟩
          · rw [if_neg h3] at h; exact h.elim
      · rw [if_neg hl] at h; exact h.elim
section
variable {X : Cx} {W : WX} {e : Expr} {fa : Rs → M (List D)} {p p2 q pos : Pos}
theorem re_sortOfSet {fin : List D → M D} (hf : NewOk X.K X.mg fin) (hc : X.calm = true) (hu : X.A.units + 64 < cLine) (hm : X.mg "sorted" = none) (hm2 : X.mg "set" = none) (ha : RA X W [e] fa) (hg : Gl X "sorted" := by rfl) (hg2 : Gl X "set" := by rfl)
    (he : starEach [e] X.env = (false, eval e X.env) :: starEach [] X.env := by rfl)
    (hst : starEach [.Call (.Name "set" p2) [e] [] q] X.env = (false, eval (.Call (.Name "set" p2) [e] [] q) X.env) :: starEach [] X.env := by rfl) :
    RE X W (.Call (.Name "sorted" p) [.Call (.Name "set" p2) [e] [] q] [] pos) (callM (arg1 (ksOf fin)) [] fa) := by
  have z := pe_callTy (p := p2) (pos := q) (cr_setKs hc) hg2 hm2 (by with_unfolding_all rfl) ha (by decide) (by decide) he rfl
  refine pe_weak (pe_callB (call_sortSet hc hu) hg hm (by with_unfolding_all rfl) (pa_cons z pa_nil hst) (by decide) (by decide) hst rfl) fun sg H Q ⟨O, env, s, hE, hS, hP⟩ => ?_
  refine ⟨O, env, s, hE, hS, hP.split.imp (fun ds s1 O1 H1 _ x1 q1 p1 vs dv => ?_) fun _ _ _ _ _ _ z => z⟩
  rw [List.append_nil] at p1
  exact ksOf_ok hf O1 H1 s1 ds vs Q _ q1 dv p1
end
/-! ### texts joined -/
section
variable {X : Cx} {k : Kd} {g : D → List D → M D}
def rJoin (K : PySem.W.Frag) : V → List V → Hp → VK → Prop := fun x xs H Q => ∃ a p, ∃ ys : List Str, x = .str a ∧ xs = [.ref p] ∧ (SqL K H p (ys.map V.str) ∨ SqT K H p (ys.map V.str)) ∧ (ys.map (·.length)).sum + ys.length * a.length ≤ 16777216 ∧ Q (.str (Txt.join a ys)) H
def joinG : D → List D → M D := fun d ds s => match d, ds with
  | .str a, [l] => (match (seqD s l).bind txsD with
    | some ys => if (ys.map (·.length)).sum + ys.length * a.length ≤ 16777216 then .ok (.str (Txt.join a ys)) s else .bad
    | none => .bad)
  | _, _ => .bad
theorem joinG_ok {K : PySem.W.Frag} {mg : Str → Option Value} : MtOk K mg (rJoin K) joinG := by
  intro O H s d v ds vs Q X' r dv dvs hP
  cases dv with
  | str a =>
    cases dvs with
    | nil => exact hP.elim
    | cons h t =>
      cases t with
      | cons _ _ => exact hP.elim
      | nil =>
        rename_i l u
        have hP : Post K mg O H (match (seqD s l).bind txsD with
          | some ys => if (ys.map (·.length)).sum + ys.length * a.length ≤ 16777216 then .ok (.str (Txt.join a ys)) s else .bad
          | none => .bad) (fun d _ O' H' => ∀ u, DV K mg O' H' d u → Q u H') X' := hP
        cases e : seqD s l with
        | none => rw [e] at hP; exact hP.elim
        | some xs =>
          rw [e] at hP
          dsimp only [Option.bind_some] at hP
          cases e2 : txsD xs with
          | none => rw [e2] at hP; exact hP.elim
          | some ys =>
            rw [e2] at hP
            dsimp only at hP
            obtain ⟨p, vs, rfl, sq, t⟩ := seqD_ok r h e
            rw [txsV t e2] at sq
            by_cases hl : (ys.map (·.length)).sum + ys.length * a.length ≤ 16777216
            · rw [if_pos hl] at hP
              exact ⟨a, p, ys, rfl, rfl, sq, hl, Post.ret hP r _ (.str _)⟩
            · rw [if_neg hl] at hP; exact hP.elim
  | _ => exact hP.elim
def tbJoin : MTb
  | .str => some joinG
  | _ => none
theorem at_join (e : tbJoin k = some g) : MthAt X "join" k g := by
  cases k with
  | str => cases e; exact ⟨_, _, F.plainAttrs_str, F.slot_str_join, F.type_str_join, mt_join, joinG_ok⟩
  | _ => cases e
/-! ### how often a text is in a list -/
def eqt (x : Str) (v : Value) : Bool := match v with
  | .str y _ => y == x
  | _ => false
def rCntS (K : PySem.W.Frag) : V → List V → Hp → VK → Prop := fun x xs H Q => ∃ (p : Addr) (ys : List Str) (k : Str), x = .ref p ∧ xs = [.str k] ∧ SqL K H p (ys.map V.str) ∧ Q (.int (ys.count k : Nat)) H
theorem strs_of_vals : ∀ {ys : List Str} {us : List Value}, Vals (ys.map V.str) us → ∀ x, us.countP (eqt x) = ys.count x ∧ ∀ u ∈ us, ∃ y t, u = Value.str y t
  | [], _, .nil, x => ⟨rfl, fun u hu => by cases hu⟩
  | y :: r, _, .cons a b, x => by
    obtain ⟨t, rfl⟩ := (show ∃ t, _ = Value.str y t from a)
    obtain ⟨i1, i2⟩ := strs_of_vals b x
    refine ⟨?_, fun u hu => ?_⟩
    · rw [List.countP_cons, List.count_cons, i1]
      rfl
    · rcases List.mem_cons.mp hu with e | e
      · exact ⟨y, t, e⟩
      · exact i2 u e
theorem mt_lcountS : MtR X "list.count" (rCntS X.K) := by
  intro pins s σ H x xs v us Q I rx rxs h
  obtain ⟨p, ys, k, rfl, rfl, hs, q⟩ := h
  cases rx
  obtain ⟨u, rfl, ru⟩ := rxs.one
  obtain ⟨t, rfl⟩ := (show ∃ t, u = Value.str k t from ru)
  obtain ⟨its, rv, ⟨⟨cls, dd, data, sl⟩, n, ho, hc, hdn, hd⟩, hlen⟩ := I.list hs
  simp only at hc hd
  subst hc hd
  obtain ⟨c1, c2⟩ := strs_of_vals rv k
  refine call_meets PySem.F.slot_list_count ⟨_, ho, rfl⟩ PySem.F.entry_list_count (PySem.F.args_list_count_2 _ _)
    (SeqAt.list_countAt p its.toArray n dd sl (.str k t) (eqt k)) ⟨ho, fun y hy => ?_, ?_⟩
  · obtain ⟨z, u, rfl⟩ := c2 y (by simpa using hy)
    exact SeqAt.EqAt.str_str z u k t
  · refine ⟨.int (ys.count k : Nat), H, I.tok _, ⟨s.toks, ?_⟩, q⟩
    show Value.int ((its.toArray.toList.countP (eqt k) : Nat) : Int) s.toks = Value.int ((ys.count k : Nat) : Int) s.toks
    have e : its.toArray.toList.countP (eqt k) = ys.count k := c1
    rw [e]
def cntG : D → List D → M D := fun d ds s => match ds with
  | [.str x] => (match (lstD s d).bind txsD with
    | some ys => .ok (.int (ys.count x : Nat)) s
    | none => .bad)
  | _ => .bad
theorem cntG_ok {K : PySem.W.Frag} {mg : Str → Option Value} : MtOk K mg (rCntS K) cntG := by
  intro O H s d v ds vs Q X' r dv dvs hP
  cases dvs with
  | nil => exact hP.elim
  | cons h t =>
    cases t with
    | cons _ _ => cases h <;> exact hP.elim
    | nil =>
      cases h with
      | str x =>
        have hP : Post K mg O H (match (lstD s d).bind txsD with
          | some ys => .ok (.int (ys.count x : Nat)) s
          | none => .bad) (fun d _ O' H' => ∀ u, DV K mg O' H' d u → Q u H') X' := hP
        cases e : lstD s d with
        | none => rw [e] at hP; exact hP.elim
        | some xs =>
          rw [e] at hP
          dsimp only [Option.bind_some] at hP
          cases e2 : txsD xs with
          | none => rw [e2] at hP; exact hP.elim
          | some ys =>
            rw [e2] at hP
            dsimp only at hP
            obtain ⟨p, vs, rfl, sq, t⟩ := lstD_ok r dv e
            rw [txsV t e2] at sq
            exact ⟨p, ys, x, rfl, rfl, sq, Post.ret hP r _ (.int _)⟩
      | _ => exact hP.elim
def tbCount : MTb
  | .lst => some cntG
  | _ => none
theorem at_count (e : tbCount k = some g) : MthAt X "count" k g := by
  cases k with
  | lst => cases e; exact ⟨_, _, F.plainAttrs_list, F.slot_list_count, F.type_list_count, mt_lcountS, cntG_ok⟩
  | _ => cases e
end
end Md

set_option Elab.async false
set_option linter.all false
set_option maxRecDepth 100000
set_option maxHeartbeats 1000000
/-! Md31: sets of tuples of ints and texts: one more. The table's own arithmetic is HandS.TupSets'. -/
namespace Md
open PySem PySem.Spec PyProof.Rows L2

abbrev Tk := List Key
section
variable {P : Program} {w : World} {A : Around} {E : Value → Shared → Prop} {s : Shared}
abbrev isTk (P : Program) (w : World) (h : Heap) (k : Tk) (a : Addr) : Prop := IsTupleKey (mixKind P w) h k a
abbrev hTk (P : Program) (w : World) (k : Tk) : Int := tupleKeyHash (mixKind P w) k

/-! ### what a search may ask of such a tuple -/
theorem flat_tk {k : Tk} {vs : List Value} (h : ItemsAre (mixKind P w) k vs) : ∀ v ∈ vs, v.scannable = true ∧ ∀ n, ofAClassStatement n v = pure false := by
  induction h with
  | nil => exact fun v hv => by cases hv
  | @cons q v r vs hq _ ih =>
    intro u hu
    rcases List.mem_cons.mp hu with e | hu
    · subst e
      rcases keyIs_shape (show keyIs q u = true from hq) with ⟨i, t, _, rfl⟩ | ⟨x, t, _, rfl⟩
      · exact ⟨rfl, fun n => by cases n <;> rfl⟩
      · exact ⟨rfl, fun n => by cases n <;> rfl⟩
    · exact ih u hu
theorem tk_noclass {k : Tk} {b : Addr} {Q : Bool → Shared → Prop} (hk : isTk P w s.heap k b) (h : Q false s) : wpAny (model P w) A (ofAClassStatement 8 (.ref b)) Q E s := by
  have hT := hk.typeIs
  obtain ⟨o, items, n, ho, _, hd, hi⟩ := hk
  have fl := flat_tk hi
  unfold ofAClassStatement
  refine wpAny_bind (wpAny_typeOf hT ?_)
  dsimp only
  have e : (("tuple" : String) == "tuple") = true := by decide
  simp only [e, if_true, Bool.not_true, Bool.false_eq_true, if_false]
  try refine wpAny_bind (wpAny_pure ?_)
  try simp only [Bool.not_true, Bool.false_eq_true, if_false]
  show wpAny _ _ (seqItems? (.ref b) >>= _) _ _ s
  refine wpAny_bind (wpAny_seqItems ho hd ?_)
  dsimp only
  refine wpAny_bind ?_
  show wpAny _ _ (forIn items _ _) _ _ s
  rw [← Array.forIn_toList]
  refine wpAny_forIn_list _ (fun rest r s' => r.1 = none ∧ s' = s ∧ ∀ v ∈ rest, v ∈ items.toList) _ ?_ ?_ _ _ ⟨rfl, rfl, fun v hv => hv⟩
  · rintro v rest r s' ⟨hr, rfl, sub⟩
    rw [(fl v (sub v List.mem_cons_self)).2]
    refine wpAny_bind (wpAny_pure ?_)
    simp only [Bool.false_eq_true, if_false]
    exact wpAny_pure ⟨rfl, rfl, fun u hu => sub u (List.mem_cons_of_mem _ hu)⟩
  · rintro ⟨r1, r2⟩ s' ⟨hr, rfl, _⟩
    simp only at hr
    subst hr
    exact wpAny_pure h
theorem tk_byvalue {k : Tk} {b : Addr} {Q : Bool → Shared → Prop} (hk : isTk P w s.heap k b) (h : ∀ v, Q v s) : wpAny (model P w) A (hashByValue 8 (.ref b)) Q E s := by
  have hT := hk.typeIs
  obtain ⟨o, items, n, ho, _, hd, hi⟩ := hk
  have fl := flat_tk hi
  unfold hashByValue
  refine wpAny_bind (wpAny_specialOf hT F.slot_tuple_hash.lookup ?_)
  show wpAny _ _ (seqItems? (.ref b) >>= _) _ _ s
  refine wpAny_bind (wpAny_seqItems ho hd ?_)
  refine wpAny_bind ?_
  show wpAny _ _ (forIn items _ _) _ _ s
  rw [← Array.forIn_toList]
  refine wpAny_forIn_list _ (fun rest r s' => r.1 = none ∧ s' = s ∧ ∀ v ∈ rest, v ∈ items.toList) _ ?_ ?_ _ _ ⟨rfl, rfl, fun v hv => hv⟩
  · rintro v rest r s' ⟨hr, rfl, sub⟩
    rw [hashByValue_scannable _ (fl v (sub v List.mem_cons_self)).1]
    refine wpAny_bind (wpAny_pure ?_)
    cases plainKind v with
    | true =>
      simp only [Bool.not_true, Bool.false_eq_true, if_false]
      refine wpAny_pure ?_
      exact ⟨rfl, rfl, fun u hu => sub u (List.mem_cons_of_mem _ hu)⟩
    | false =>
      simp only [Bool.not_false, if_true]
      refine wpAny_pure ?_
      exact wpAny_pure (h false)
  · rintro ⟨r1, r2⟩ s' ⟨hr, rfl, _⟩
    simp only at hr
    subst hr
    exact wpAny_pure (h true)
theorem tk_unseen {k : Tk} {b : Addr} {Q : Bool → Shared → Prop} (hk : isTk P w s.heap k b) {ys : List Value} (hy : ∀ y ∈ ys, ∃ q c, y = Value.ref c ∧ isTk P w s.heap q c) (h : Q false s) : wpAny (model P w) A (searchCouldBeSeen (.ref b) ys) Q E s := by
  unfold searchCouldBeSeen
  refine wpAny_bind ?_
  refine wpAny_forIn_list _ (fun (rest : List Value) r s' => r.1 = none ∧ s' = s ∧ ∀ y ∈ rest, y ∈ ys) _ ?_ ?_ _ _ ⟨rfl, rfl, fun (y : Value) (hy : y ∈ ys) => hy⟩
  · rintro v rest r s' ⟨hr, rfl, sub⟩
    obtain ⟨q, c, rfl, hc⟩ := hy v (sub v List.mem_cons_self)
    have sub' : ∀ y ∈ rest, y ∈ ys := fun u hu => sub u (List.mem_cons_of_mem _ hu)
    dsimp only
    by_cases hv : (b == c || (carriedByValue (.ref b) && carriedByValue (.ref c))) = true
    · refine wp_if_pos hv ?_
      exact wpAny_pure ⟨rfl, rfl, sub'⟩
    · refine wp_if_neg hv (wpAny_bind (wpAny_eqIsQuiet_tuple hk ?_))
      simp only [Bool.not_true, Bool.false_eq_true, if_false]
      refine wpAny_bind (wpAny_eqIsQuiet_tuple hc ?_)
      simp only [Bool.not_true, Bool.false_eq_true, if_false]
      refine wpAny_bind (tk_noclass hk ?_)
      simp only [Bool.false_eq_true, if_false]
      refine wpAny_bind (tk_noclass hc ?_)
      simp only [Bool.false_eq_true, if_false]
      exact wpAny_pure ⟨rfl, rfl, sub'⟩
  · rintro ⟨r1, r2⟩ s' ⟨hr, rfl, _⟩
    simp only at hr
    subst hr
    exact wpAny_pure h

/-! ### the set -/
abbrev Row := Addr × Tk
def rowH (P : Program) (w : World) (p : Row) : Int := hTk P w p.2
def rowE (P : Program) (w : World) (p : Row) : Int × Value := (rowH P w p, .ref p.1)
/-- the object; what its rows hold is said apart -/
structure DtO (P : Program) (w : World) (h : Heap) (a : Addr) (L : List Row) (es : Array (Int × Value)) (ep : Nat) (t : SetTable) : Prop where
  ob : ∃ o, h.get? a = some o ∧ o.ExactSet ∧ o.data = .set es ep t
  rows : es.toList = L.map (rowE P w)
  tab : TabOk t (L.map (rowH P w))
  nd : (L.map (·.2)).Nodup
  led : w.params.followText "set-order" = true ∨ t.led = true
  room : L.length * 5 < t.mask * 3
  few : L.length < 64
abbrev Tup (P : Program) (w : World) (h : Heap) (L : List Row) : Prop := ∀ p ∈ L, isTk P w h p.2 p.1
variable {a : Addr} {L : List Row} {es : Array (Int × Value)} {ep : Nat} {t : SetTable}
theorem rows_size (h : es.toList = L.map (rowE P w)) : es.size = L.length := by
  have := congrArg List.length h
  rwa [Array.length_toList, List.length_map] at this
theorem rows_get (h : es.toList = L.map (rowE P w)) {i : Nat} {p : Row} (hp : L[i]? = some p) : es[i]? = some (rowE P w p) := by
  rw [← Array.getElem?_toList, h, List.getElem?_map, hp]
  rfl
theorem tab_fits {hs : List Int} (T : TabOk t hs) {n : Nat} (e : n = hs.length) (l : n ≤ t.mask) : t.fits n = true := by
  have := T.sz
  unfold SetTable.fits SetTable.fill
  rw [T.dm, Bool.and_eq_true, beq_iff_eq, decide_eq_true_eq]
  show t.place.size = n ∧ t.place.size + 0 ≤ t.mask
  omega
theorem DtO.fits (R : DtO P w s.heap a L es ep t) : t.fits es.size = true := by
  have := rows_size R.rows
  have := R.room
  exact tab_fits R.tab (by rw [List.length_map]; omega) (by omega)
theorem DtO.sane (R : DtO P w s.heap a L es ep t) : ¬ t.gaveWay = true := by
  unfold SetTable.gaveWay
  rw [mask_odd R.tab.mok]
  decide
abbrev at0 (m : Nat) (h : Int) : SetTable.Probe := runAt m (SetTable.bits h % (m + 1)) (SetTable.bits h)
theorem nth_clean (m : Nat) : ∀ (n : Nat) (p : SetTable.Probe), p.dummy = none → (nth m p n).dummy = none
  | 0, p, h => h
  | n + 1, p, h => nth_clean m n (adv m p) (by unfold adv; split <;> exact h)
theorem way_add (m : Nat) (h : Int) (c q : Nat) : (nth m (nth m (at0 m h) c) q).j = way m h (c + q) := congrArg SetTable.Probe.j (nth_add m c _ q).symm
/-- a search on its way, from its c-th step on; K is the first empty place -/
theorem dt_search (R : DtO P w s.heap a L es ep t) (T : Tup P w s.heap L) {x : Addr} {k : Tk} (hx : isTk P w s.heap k x) (hu : A.units < cLine) {K : Nat} (K1 : K < 10 * SetTable.turns t.mask)
    (K2 : way t.mask (hTk P w k) K ∉ t.place.toList) (K3 : ∀ c, c < K → way t.mask (hTk P w k) c ∈ t.place.toList) {Q : SetFound → Shared → Prop} (yes : k ∈ L.map (·.2) → Q (.there none) s) (no : k ∉ L.map (·.2) → Q (.free (way t.mask (hTk P w k) K) false) s) :
    ∀ (f c : Nat) (st : Option SetTable.Probe), st.getD (t.probeStart (hTk P w k)) = nth t.mask (at0 t.mask (hTk P w k)) c → c ≤ K → K - c < f →
      (∀ (i : Nat) p, L[i]? = some p → p.2 = k → ∃ c', c ≤ c' ∧ c' < K ∧ t.place.toList[i]? = some (way t.mask (hTk P w k) c')) → wpAny (model P w) A (setSearchFrom a (.ref x) (hTk P w k) true f st) Q E s := by
  intro f
  induction f with
  | zero => exact fun c st _ _ hf _ => absurd hf (Nat.not_lt_zero _)
  | succ f ih =>
    intro c st hst hc hf ahead
    obtain ⟨o, ho, hex, hd⟩ := R.ob
    have sz := R.tab.sz
    rw [List.length_map] at sz
    have hashAt : ∀ (i : Nat) p, L[i]? = some p → (es[i]?.map (·.1)).getD 0 = hTk P w p.2 := fun i p hp => by rw [rows_get R.rows hp]; rfl
    rw [setSearchFrom_succ]
    refine wpAny_bind (wpAny_setState_of ho hd R.fits ?_)
    dsimp only
    refine wp_if_neg R.sane ?_
    try refine wpAny_bind (wpAny_pure ?_)
    rw [hst]
    have spec := go_spec t R.tab.ris R.tab.dm (fun i => (es[i]?.map (·.1)).getD 0) (hTk P w k) (10 * SetTable.turns t.mask) (K - c) (nth t.mask (at0 t.mask (hTk P w k)) c) (nth_clean _ c _ rfl) (by omega)
      (fun q hq => by rw [way_add]; exact K3 (c + q) (by omega)) (by rw [way_add, show c + (K - c) = K by omega]; exact K2)
    rcases spec with ⟨q, i, hq, hi, hh, nn, hpr⟩ | ⟨nn, hpr⟩
    · have hpr' : t.probe (fun i => (es[i]?.map (·.1)).getD 0) (hTk P w k) (nth t.mask (at0 t.mask (hTk P w k)) c) = some (.candidate (way t.mask (hTk P w k) (c + q)) i (nth t.mask (at0 t.mask (hTk P w k)) (c + (q + 1)))) := by
        rw [← way_add, ← nth_add t.mask c _ (q + 1)] at *
        exact hpr
      rw [hpr']
      dsimp only
      rw [way_add] at hi
      have il : i < L.length := by
        have := (List.getElem?_eq_some_iff.mp hi).1
        rw [Array.length_toList] at this
        omega
      obtain ⟨p, hp⟩ : ∃ p, L[i]? = some p := ⟨_, List.getElem?_eq_getElem il⟩
      have mem : p ∈ L := List.mem_of_getElem? hp
      have en : es[i]? = some (hTk P w p.2, Value.ref p.1) := rows_get R.rows hp
      have rest : wpAny (model P w) A (searchRest a (.ref x) (hTk P w k) true f es t (way t.mask (hTk P w k) (c + q)) i (nth t.mask (at0 t.mask (hTk P w k)) (c + (q + 1)))) Q E s := by
        unfold searchRest
        rw [en]
        dsimp only
        refine wpAny_bind (wpAny_holding (wpAny_eqBool_tuple hu (T p mem) hx ?_))
        refine wpAny_bind (wpAny_setState_of ho hd R.fits ?_)
        dsimp only
        by_cases e : p.2 = k
        · exact wp_if_pos (by simp [e]) (wpAny_pure (yes (List.mem_map.mpr ⟨p, mem, e⟩)))
        · refine wp_if_neg (by simp [e]) ?_
          try refine wpAny_bind (wpAny_pure ?_)
          rw [sameMem]
          dsimp only
          have live : t.slot (way t.mask (hTk P w k) (c + q)) = .live i := slot_live R.tab.ris hi
          simp only [if_true, live, en]
          refine wpAny_bind (wpAny_isSame_ref_self (wpAny_bind (wpAny_pure ?_)))
          simp only [if_true]
          refine wp_if_neg (by simp [e]) (ih (c + (q + 1)) _ rfl (by omega) (by omega) fun i' p' h' e' => ?_)
          obtain ⟨c', z1, z2, z3⟩ := ahead i' p' h' e'
          refine ⟨c', ?_, z2, z3⟩
          have h1 : ¬ c' < c + q := fun z => nn (c' - c) i' (by omega) (by rw [way_add, show c + (c' - c) = c' by omega]; exact z3) ((hashAt i' p' h').trans (congrArg (hTk P w) e'))
          have h2 : c' ≠ c + q := fun z => by
            rw [z] at z3
            have l2 := slot_live R.tab.ris z3
            rw [live] at l2
            injection l2 with l2
            rw [← l2, hp] at h'
            exact e ((congrArg Prod.snd (Option.some.inj h')).trans e')
          omega
      by_cases hl : t.led = true
      · refine wp_if_neg (by simp [hl]) ?_
        try refine wpAny_bind (wpAny_pure ?_)
        exact rest
      · refine wp_if_pos (by simp [hl]) (wpAny_bind (tk_unseen hx (fun y hy => ?_) ?_))
        · obtain ⟨e, he, rfl⟩ := List.mem_map.mp hy
          have h1 : e ∈ es ∧ e.1 = hTk P w k := by simpa using he
          have h2 : e ∈ es.toList := by simpa using h1.1
          rw [R.rows] at h2
          obtain ⟨p2, m2, rfl⟩ := List.mem_map.mp h2
          exact ⟨p2.2, p2.1, rfl, T p2 m2⟩
        · refine wp_if_neg (by decide) ?_
          try refine wpAny_bind (wpAny_pure ?_)
          exact rest
    · have hpr' : t.probe (fun i => (es[i]?.map (·.1)).getD 0) (hTk P w k) (nth t.mask (at0 t.mask (hTk P w k)) c) = some (.empty (way t.mask (hTk P w k) K) none) := by
        have e2 : way t.mask (hTk P w k) K = (nth t.mask (nth t.mask (at0 t.mask (hTk P w k)) c) (K - c)).j := by rw [way_add, show c + (K - c) = K by omega]
        rw [e2]
        exact hpr
      rw [hpr']
      dsimp only
      refine wpAny_pure (no fun hm => ?_)
      obtain ⟨p0, m0, e0⟩ := List.mem_map.mp hm
      obtain ⟨i0, l0, g0⟩ := List.getElem_of_mem m0
      have h0 : L[i0]? = some p0 := by rw [List.getElem?_eq_getElem l0, g0]
      obtain ⟨c', z1, z2, z3⟩ := ahead i0 p0 h0 e0
      exact nn (c' - c) i0 (by omega) (by rw [way_add, show c + (c' - c) = c' by omega]; exact z3) ((hashAt i0 p0 h0).trans (congrArg (hTk P w) e0))
theorem dt_find (R : DtO P w s.heap a L es ep t) (T : Tup P w s.heap L) {x : Addr} {k : Tk} (hx : isTk P w s.heap k x) (hu : A.units < cLine) {Q : SetFound → Shared → Prop} (yes : k ∈ L.map (·.2) → Q (.there none) s)
    (no : ∀ K, k ∉ L.map (·.2) → way t.mask (hTk P w k) K ∉ t.place.toList → (∀ c, c < K → way t.mask (hTk P w k) c ∈ t.place.toList) → Q (.free (way t.mask (hTk P w k) K) false) s) : wpAny (model P w) A (setSearch a (.ref x) (hTk P w k) true) Q E s := by
  have room := R.room
  obtain ⟨K, K1, K2, K3⟩ := R.tab.first (by rw [List.length_map]; omega) (hTk P w k)
  have big : K < 100000 := by
    have : 10 * SetTable.turns t.mask ≤ 1420 := by
      unfold SetTable.turns
      rcases R.tab.mok with e | e | e <;> omega
    omega
  unfold setSearch
  refine dt_search R T hx hu K1 K2 K3 yes (fun hn => no K hn K2 K3) 100000 0 none rfl (Nat.zero_le _) (by omega) fun i p hp e => ?_
  have hi : (L.map (rowH P w))[i]? = some (hTk P w k) := by rw [List.getElem?_map, hp, ← e]; rfl
  have il : i < t.place.toList.length := by
    have h1 : i < L.length := (List.getElem?_eq_some_iff.mp hp).1
    have h2 := R.tab.sz
    rw [List.length_map] at h2
    rw [Array.length_toList]
    omega
  have hj := List.getElem?_eq_getElem il
  obtain ⟨c, hc, z⟩ := R.tab.before K2 hi hj
  exact ⟨c, Nat.zero_le _, hc, by rw [hj, z]⟩
end
end Md

set_option Elab.async false
set_option linter.all false
set_option maxRecDepth 100000
set_option maxHeartbeats 1000000
/-! Md32: sets of tuples of ints and texts: the store, the table laid anew. -/
namespace Md
open PySem PySem.Spec PyProof.Rows L2
section
variable {P : Program} {w : World} {A : Around} {E : Value → Shared → Prop} {s : Shared} {a : Addr} {L : List Row} {es : Array (Int × Value)} {ep : Nat} {t : SetTable}
theorem tk_keep {h h' : Heap} {k : Tk} {b : Addr} (x : isTk P w h k b) (hk : ∀ o, h.get? b = some o → h'.get? b = some o) : isTk P w h' k b := by
  obtain ⟨o, items, n, ho, r⟩ := x
  exact ⟨o, items, n, hk o ho, r⟩
theorem tk_apart {h h' : Heap} {k : Tk} {b : Addr} {o : Obj} (x : isTk P w h k b) (ho : h.get? a = some o) (hd : o.data = .set es ep t) (hs : Heap.SameBut a h h') : isTk P w h' k b := by
  refine tk_keep x fun u e => (hs.2 b ?_).trans e
  rintro rfl
  obtain ⟨o', items, n, ho', _, hd', _⟩ := x
  obtain rfl : o' = o := Option.some.inj (ho'.symm.trans ho)
  rw [hd] at hd'
  exact nomatch hd'
theorem put_rows (p : Nat) (y : Row) : (L.take p ++ y :: L.drop p).map (rowE P w) = (L.map (rowE P w)).take p ++ rowE P w y :: (L.map (rowE P w)).drop p := by
  rw [List.map_append, List.map_cons, List.map_take, List.map_drop]
theorem put_hs (p : Nat) (y : Row) : (L.take p ++ y :: L.drop p).map (rowH P w) = (L.map (rowH P w)).take p ++ rowH P w y :: (L.map (rowH P w)).drop p := by
  rw [List.map_append, List.map_cons, List.map_take, List.map_drop]
theorem pick_rows (order : Array Nat) (hr : es.toList = L.map (rowE P w)) (hp : order.toList.Perm (List.range L.length)) :
    ∃ L2 : List Row, (order.filterMap (es[·]?)).toList = L2.map (rowE P w) ∧ L2.Perm L ∧ L2.map (rowH P w) = order.toList.map fun i => (es.map (·.1)).getD i 0 := by
  have sz := rows_size hr
  have key : ∀ l : List Nat, (∀ i ∈ l, i < L.length) → l.filterMap (fun i => es[i]?) = (l.filterMap (fun i => L[i]?)).map (rowE P w) ∧ (l.filterMap (fun i => L[i]?)).map (rowH P w) = l.map fun i => (es.map (·.1)).getD i 0 := by
    intro l
    induction l with
    | nil => exact fun _ => ⟨rfl, rfl⟩
    | cons i l ih =>
      intro hl
      have hi := hl i List.mem_cons_self
      obtain ⟨p, hp⟩ : ∃ p, L[i]? = some p := ⟨_, List.getElem?_eq_getElem hi⟩
      have en := rows_get hr hp
      obtain ⟨e1, e2⟩ := ih fun j hj => hl j (List.mem_cons_of_mem _ hj)
      have e4 : (es.map (·.1)).getD i 0 = rowH P w p := by
        have e5 : (es.map (·.1))[i]? = some (rowH P w p) := by rw [Array.getElem?_map, en]; rfl
        simp [Array.getD_eq_getD_getElem?, e5]
      rw [List.filterMap_cons_some en, List.filterMap_cons_some hp, e1, List.map_cons, List.map_cons, List.map_cons, e2, e4]
      exact ⟨rfl, rfl⟩
  obtain ⟨e1, e2⟩ := key order.toList fun i hi => List.mem_range.mp (hp.mem_iff.mp hi)
  refine ⟨_, by first | (rw [Array.toList_filterMap]; exact e1) | simpa using e1, ?_, e2⟩
  refine (hp.filterMap _).trans (List.Perm.of_eq ?_)
  have all : ∀ n, n ≤ L.length → (List.range n).filterMap (fun i => L[i]?) = L.take n := by
    intro n
    induction n with
    | zero => intro _; rfl
    | succ n ih =>
      intro hn
      have lt : n < L.length := hn
      rw [List.range_succ, List.filterMap_append, ih (Nat.le_of_lt lt), List.take_succ, List.getElem?_eq_getElem lt, List.filterMap_cons_some (List.getElem?_eq_getElem lt)]
      rfl
  rw [all L.length (Nat.le_refl _), List.take_length]
/-- the table laid anew, larger -/
theorem dt_relay {o : Obj} (ho : s.heap.get? a = some o) (hex : o.ExactSet) (hd : o.data = .set es ep t) (hr : es.toList = L.map (rowE P w)) (T : TabOk t (L.map (rowH P w))) (fl : L.length ≤ t.mask)
    (nd : (L.map (·.2)).Nodup) (ld : w.params.followText "set-order" = true ∨ t.led = true) (few : L.length < 64) {wanted M : Nat} (hw : SetTable.sizeAbove wanted - 1 = M) (hM : MaskOk M) (hw2 : SetTable.sizeAbove wanted ≤ 128) (hn : L.length * 5 < M * 3) {Q : Unit → Shared → Prop}
    (hQ : ∀ h' L' es' ep' t', Heap.SameBut a s.heap h' → DtO P w h' a L' es' ep' t' → L'.Perm L → Q () { s with heap := h' }) : wpAny (model P w) A (setRelay a wanted) Q E s := by
  have sz := rows_size hr
  have fits : t.fits es.size = true := tab_fits T (by rw [List.length_map, sz]) (by omega)
  obtain ⟨t', order, e, hp, T', em, el, _, ed⟩ := relaid_ok t (hs := es.map (·.1)) (wanted := wanted) hw hM (by rw [Array.size_map, sz]; omega)
  rw [Array.size_map, sz] at hp
  obtain ⟨L2, r1, r2, r3⟩ := pick_rows order hr hp
  rw [← r3] at T'
  have sz2 : (order.filterMap (es[·]?)).size = es.size := by rw [rows_size r1, r2.length_eq, sz]
  rw [setRelay_eq]
  refine wpAny_bind (wpAny_setState_of ho hd fits ?_)
  dsimp only
  refine wp_if_neg (by rw [sizeLine_eq]; omega) ?_
  try refine wpAny_bind (wpAny_pure ?_)
  rw [e]
  dsimp only
  refine wpAny_bind ?_
  refine wp_if_neg (by rw [sz2]; simp) ?_
  try refine wpAny_bind (wpAny_pure ?_)
  refine wpAny_pure ?_
  dsimp only
  refine wpAny_storeSet_of ho hd ?_ (by rw [sz2, sz, sizeLine_eq]; omega)
  refine hQ _ L2 (order.filterMap (es[·]?)) (ep + 1) t' (Heap.SameBut.update ..) ⟨⟨_, store_at ho hd, ⟨hex.1, hex.2.1, hex.2.2⟩, rfl⟩, r1, T', ?_, by rw [el]; exact ld, ?_, by rw [r2.length_eq]; exact few⟩ r2
  · exact (r2.map (·.2)).nodup_iff.mpr nd
  · rw [r2.length_eq, em]
    exact hn
/-- one more -/
theorem dt_add (R : DtO P w s.heap a L es ep t) (T : Tup P w s.heap L) {x : Addr} {k : Tk} (hx : isTk P w s.heap k x) (hu : A.units < cLine) (few : L.length + 1 < 64) {Q : Bool → Shared → Prop}
    (hQ : ∀ b h' L' es' ep' t', Heap.SameBut a s.heap h' → DtO P w h' a L' es' ep' t' → (k ∈ L.map (·.2) → L' = L) → (k ∉ L.map (·.2) → L'.Perm ((x, k) :: L)) → Q b { s with heap := h' }) : wpAny (model P w) A (setAddHashed a (.ref x) (hTk P w k)) Q E s := by
  obtain ⟨o, ho, hex, hd⟩ := R.ob
  have sz := rows_size R.rows
  have room := R.room
  unfold setAddHashed
  refine wpAny_holding ?_
  rw [show (100000 : Nat) = 99999 + 1 from rfl, setAddHashedIn_succ]
  refine wpAny_bind (wpAny_setState_of ho hd R.fits ?_)
  dsimp only
  refine wp_if_neg (by simp [byScan, Value.scannable]) ?_
  try refine wpAny_bind (wpAny_pure ?_)
  refine wpAny_bind (dt_find R T hx hu (fun hm => ?_) fun K hm hK hb => ?_)
  · dsimp only
    exact wpAny_pure (hQ false s.heap L es ep t (Heap.SameBut.refl a s.heap) R (fun _ => rfl) fun z => absurd hm z)
  · dsimp only
    refine wpAny_bind (wpAny_setState_of ho hd R.fits ?_)
    dsimp only
    obtain ⟨q1, q2, q3, q4, q5, q6, q7, q8, q9⟩ := R.tab.put hK hb
    generalize hpt : t.put (way t.mask (hTk P w k) K) = pt at q1 q3 q4 q5 q6 q7 q8 q9 ⊢
    obtain ⟨t1, p⟩ := pt
    dsimp only at q1 q3 q4 q5 q6 q7 q8 q9 ⊢
    subst q1
    have hin : (SetTable.insertAt es (SetTable.below t.place (way t.mask (hTk P w k) K)) (hTk P w k, Value.ref x)).toList = (L.take (SetTable.below t.place (way t.mask (hTk P w k) K)) ++ (x, k) :: L.drop (SetTable.below t.place (way t.mask (hTk P w k) K))).map (rowE P w) := by
      rw [SetTable.toList_insertAt, put_rows, R.rows]
      rfl
    generalize hpp : SetTable.below t.place (way t.mask (hTk P w k) K) = p at q2 q3 hin ⊢
    have pm := put_perm L p (x, k)
    have ln : (L.take p ++ (x, k) :: L.drop p).length = L.length + 1 := pm.length_eq
    have q3 : TabOk t1 ((L.take p ++ (x, k) :: L.drop p).map (rowH P w)) := by rw [put_hs]; exact q3
    have nd1 : ((L.take p ++ (x, k) :: L.drop p).map (·.2)).Nodup := by
      refine (pm.map (·.2)).nodup_iff.mpr ?_
      rw [List.map_cons]
      exact List.nodup_cons.mpr ⟨hm, R.nd⟩
    have z1 := rows_size hin
    rw [ln] at z1
    generalize SetTable.insertAt es p (hTk P w k, Value.ref x) = es1 at hin z1 ⊢
    generalize L.take p ++ (x, k) :: L.drop p = L1 at pm ln q3 nd1 hin
    -- whatever is told of the hash
    have fin : ∀ t2 : SetTable, t2.place = t1.place → t2.dummies = t1.dummies → t2.mask = t1.mask → t2.led = t1.led → t2.fill = t1.fill → t2.tooFull = t1.tooFull →
        wpAny (model P w) A (do
          storeSet a es1 t2
          if (!false && t2.tooFull) = true then setRelay a (SetTable.grown (es.size + 1))
          return true) Q E s := by
      intro t2 e1 e2 e3 e4 e5 e6
      have T2 : TabOk t2 (L1.map (rowH P w)) := ⟨by rw [e1]; exact q3.ris, by rw [e2]; exact q3.dm, by rw [e1]; exact q3.sz, by rw [e3]; exact q3.mok, by rw [e1, e3]; exact q3.bd, by rw [e1, e3]; exact q3.reach⟩
      refine wpAny_bind (wpAny_storeSet_of ho hd ?_ (by rw [z1, sizeLine_eq]; omega))
      have sb : Heap.SameBut a s.heap (s.heap.update a (Obj.putSet es1 t2)) := Heap.SameBut.update ..
      have ho1 := store_at (es' := es1) (t' := t2) ho hd
      generalize s.heap.update a (Obj.putSet es1 t2) = h1 at sb ho1 ⊢
      have ld1 : w.params.followText "set-order" = true ∨ t2.led = true := by rw [e4, q5]; exact R.led
      have m1 : t2.mask = t.mask := e3.trans q4
      by_cases hf : t2.tooFull = true
      · first
          | (refine wpAny_bind ?_; refine wp_if_pos (by simp [hf]) ?_)
          | (refine wp_if_pos (by simp [hf]) ?_; refine wpAny_bind ?_)
        have full : (L.length + 1) * 5 ≥ t2.mask * 3 := by
          have h := hf
          unfold SetTable.tooFull at h
          rw [decide_eq_true_eq, e5, q9, List.length_map] at h
          exact h
        rw [sz]
        have cases2 : (t.mask = 7 ∧ L.length = 4) ∨ (t.mask = 31 ∧ L.length = 18) := by
          rcases R.tab.mok with e | e | e
          · left; rw [m1, e] at full; rw [e] at room; exact ⟨e, by omega⟩
          · right; rw [m1, e] at full; rw [e] at room; exact ⟨e, by omega⟩
          · exfalso; rw [m1, e] at full; omega
        have go : ∀ M, SetTable.sizeAbove (SetTable.grown (L.length + 1)) - 1 = M → MaskOk M → SetTable.sizeAbove (SetTable.grown (L.length + 1)) ≤ 128 → (L.length + 1) * 5 < M * 3 →
            wpAny (model P w) A (setRelay a (SetTable.grown (L.length + 1))) (fun _ s' => wpAny (model P w) A (pure true) Q E s') E { s with heap := h1 } := fun M h1' h2' h3' h4' => by
          refine dt_relay (s := { s with heap := h1 }) (L := L1) ho1 ⟨hex.1, hex.2.1, hex.2.2⟩ rfl hin T2 (by rw [ln, m1]; rcases cases2 with ⟨e, e2⟩ | ⟨e, e2⟩ <;> omega) nd1 ld1 (by rw [ln]; exact few) h1' h2' h3' (by rw [ln]; exact h4') ?_
          intro h2 L2 es2 ep2 t2' sb2 R2 pm2
          exact wpAny_pure (hQ true h2 L2 es2 ep2 t2' (sb.trans sb2) R2 (fun z => absurd z hm) fun _ => pm2.trans pm)
        rcases cases2 with ⟨_, c2⟩ | ⟨_, c2⟩
        · refine go 31 (by rw [c2, size_20]) (.inr (.inl rfl)) (by rw [c2, size_20]; decide) (by omega)
        · refine go 127 (by rw [c2, size_76]) (.inr (.inr rfl)) (by rw [c2, size_76]; decide) (by omega)
      · first
          | refine wp_if_neg (by simp [hf]) ?_
          | (refine wpAny_bind ?_; refine wp_if_neg (by simp [hf]) ?_; refine wpAny_pure ?_)
        refine wpAny_pure (hQ true h1 L1 es1 (ep + 1) t2 sb ⟨⟨_, ho1, ⟨hex.1, hex.2.1, hex.2.2⟩, rfl⟩, hin, T2, nd1, ld1, ?_, by rw [ln]; exact few⟩ (fun z => absurd z hm) fun _ => pm)
        have h := hf
        unfold SetTable.tooFull at h
        rw [decide_eq_true_eq, e5, q9, List.length_map] at h
        rw [ln]
        omega
    by_cases pl : t1.plain = true
    · first
        | (refine wpAny_bind ?_; refine wp_if_pos pl (tk_byvalue hx fun v => ?_))
        | refine wp_if_pos pl (wpAny_bind (tk_byvalue hx fun v => ?_))
      cases v with
      | true => exact fin t1 rfl rfl rfl rfl rfl rfl
      | false => exact fin { t1 with plain := false } rfl rfl rfl rfl rfl rfl
    · first
        | (refine wpAny_bind ?_; refine wp_if_neg pl (wpAny_pure ?_))
        | refine wp_if_neg pl (wpAny_bind (wpAny_pure ?_))
      exact fin t1 rfl rfl rfl rfl rfl rfl
end
end Md

set_option Elab.async false
set_option linter.all false
set_option maxRecDepth 100000
set_option maxHeartbeats 2000000
/-! Md33: {e for a in x for b in y}, over a theory of sets. -/
namespace Md
open PySem PySem.Spec PyProof.Rows L2

theorem turnS_out (elt t0 i0 t1 i1 : Expr) (ifs0 ifs1 : List Expr) (scope : Scope) (pos : Pos) (it acc : Value) (env : Env) :
    compTurn (.SetComp elt [⟨t0, i0, ifs0, 0⟩, ⟨t1, i1, ifs1, 0⟩] scope pos) 0 it acc env = (do
      standAt i0.pos
      match ← pyNext it with
      | none => pure (.done .next)
      | some v =>
        letOwnedTupleGo t0 it v
        assign t0 env v
        let mut ok := true
        for c in ifs0 do
          if ok then ok ← isTrue c env (eval c env)
        if ok then
          let x ← eval i1 env
          standAt i1.pos
          let x ← foldedSetIterable i1 env x
          let _ ← runOwn (.compStart (.SetComp elt [⟨t0, i0, ifs0, 0⟩, ⟨t1, i1, ifs1, 0⟩] scope pos) 1 (← holding [x] (pyIter x)) acc env) env
        again (.compLoop (.SetComp elt [⟨t0, i0, ifs0, 0⟩, ⟨t1, i1, ifs1, 0⟩] scope pos) 0 it acc env)) := by rfl
theorem turnS_in (elt t0 i0 t1 i1 : Expr) (ifs0 ifs1 : List Expr) (scope : Scope) (pos : Pos) (it acc : Value) (env : Env) :
    compTurn (.SetComp elt [⟨t0, i0, ifs0, 0⟩, ⟨t1, i1, ifs1, 0⟩] scope pos) 1 it acc env = (do
      standAt i1.pos
      match ← pyNext it with
      | none => pure (.done .next)
      | some v =>
        letOwnedTupleGo t1 it v
        assign t1 env v
        let mut ok := true
        for c in ifs1 do
          if ok then ok ← isTrue c env (eval c env)
        if ok then
          (do let v ← eval elt env; standAt elt.pos; let _ ← call (.builtin "set.add") [acc, v])
        again (.compLoop (.SetComp elt [⟨t0, i0, ifs0, 0⟩, ⟨t1, i1, ifs1, 0⟩] scope pos) 1 it acc env)) := by rfl
section
variable {prog : Program} {w : World} {A : Around} {R : PySem.Result → Shared → Prop} {s : Shared} {elt t0 i0 t1 i1 : Expr} {ifs0 ifs1 : List Expr} {scope : Scope} {pos : Pos} {it acc : Value} {env : Env}
/-- the outer loop -/
theorem loopS_out (hs : ∀ x, foldedSetIterable i1 env x = pure x) (I : Nat → Shared → Prop)
    (turn : ∀ n s, I n s → wpAny (model prog w) A (pyNext it) (fun r s₁ => match r with
      | none => R (.ok .next) s₁
      | some v => wpAny (model prog w) A (letOwnedTupleGo t0 it v) (fun _ s₁' => wpAny (model prog w) A (assign t0 env v) (fun _ s₂ =>
          wpAny (model prog w) A (forIn ifs0 true fun c r => if r = true then do let ok ← isTrue c env (eval c env); pure (ForInStep.yield ok) else pure (ForInStep.yield r)) (fun ok s₃ =>
            if ok = true then wpAny (model prog w) A (eval i1 env) (fun x s₄ => wpAny (model prog w) A (pyIter x) (fun it1 s₅ =>
              codeAny (model prog w) A (.compStart (.SetComp elt [⟨t0, i0, ifs0, 0⟩, ⟨t1, i1, ifs1, 0⟩] scope pos) 1 it1 acc env) (fun r s' => match r with
                | .ok _ => ∃ m, m < n ∧ I m s'
                | .error _ => False) s₅) (notedBy (model prog w) A env fun e s' => R (.error e) s') s₄) (notedBy (model prog w) A env fun e s' => R (.error e) s') s₃
            else ∃ m, m < n ∧ I m s₃) (notedBy (model prog w) A env fun e s' => R (.error e) s') s₂) (notedBy (model prog w) A env fun e s' => R (.error e) s') s₁') (notedBy (model prog w) A env fun e s' => R (.error e) s') s₁) (notedBy (model prog w) A env fun e s' => R (.error e) s') s)
    (n : Nat) (h : I n s) : codeAny (model prog w) A (.compLoop (.SetComp elt [⟨t0, i0, ifs0, 0⟩, ⟨t1, i1, ifs1, 0⟩] scope pos) 0 it acc env) R s := by
  refine codeAny_loop rfl I (fun n s hI => ?_) n h
  show wpAny _ A ((compTurn (.SetComp elt [⟨t0, i0, ifs0, 0⟩, ⟨t1, i1, ifs1, 0⟩] scope pos) 0 it acc env).onRaise (fun x => do noteFrame x env; theTreesLotGoes x)) _ _ s
  refine wpAny_noted ?_
  rw [turnS_out]
  refine wpAny_bind (wpAny_standAt (wpAny_bind (wpAny_mono (turn n s hI) (fun r s₁ h₁ => ?_) fun _ _ z => z)))
  cases r with
  | none => exact wpAny_pure h₁
  | some v =>
    refine wpAny_bind (wpAny_mono h₁ (fun _ s₁' h₁' => ?_) fun _ _ z => z)
    refine wpAny_bind (wpAny_mono h₁' (fun _ s₂ h₂ => wpAny_bind (wpAny_mono h₂ (fun ok s₃ h₃ => ?_) fun _ _ z => z)) fun _ _ z => z)
    cases ok with
    | false => exact wpAny_pure ⟨rfl, h₃⟩
    | true =>
      refine wpAny_bind (wpAny_mono h₃ (fun x s₄ h₄ => ?_) fun _ _ z => z)
      refine wpAny_bind (wpAny_standAt (wpAny_bind (wpAny_of_eq (hs x) (wpAny_bind (wpAny_holding (wpAny_mono h₄ (fun it1 s₅ h₅ => ?_) fun _ _ z => z))))))
      refine wpAny_bind (wpAny_runOwn ?_)
      rw [Around.mark_none]
      refine codeAny_mono h₅ fun r s' hr => ?_
      cases r with
      | ok f =>
        first
          | exact wpAny_pure ⟨rfl, hr⟩
          | exact wpAny_bind (wpAny_pure (wpAny_pure ⟨rfl, hr⟩))
      | error e => exact hr.elim
/-- the inner loop -/
theorem loopS_in (I : Nat → Shared → Prop)
    (turn : ∀ n s, I n s → wpAny (model prog w) A (pyNext it) (fun r s₁ => match r with
      | none => R (.ok .next) s₁
      | some v => wpAny (model prog w) A (letOwnedTupleGo t1 it v) (fun _ s₁' => wpAny (model prog w) A (assign t1 env v) (fun _ s₂ =>
          wpAny (model prog w) A (forIn ifs1 true fun c r => if r = true then do let ok ← isTrue c env (eval c env); pure (ForInStep.yield ok) else pure (ForInStep.yield r)) (fun ok s₃ =>
            if ok = true then wpAny (model prog w) A (eval elt env) (fun x s₄ =>
              wpAny (model prog w) A (call (.builtin "set.add") [acc, x]) (fun _ s₅ => ∃ m, m < n ∧ I m s₅) (notedBy (model prog w) A env fun e s' => R (.error e) s') s₄) (notedBy (model prog w) A env fun e s' => R (.error e) s') s₃
            else ∃ m, m < n ∧ I m s₃) (notedBy (model prog w) A env fun e s' => R (.error e) s') s₂) (notedBy (model prog w) A env fun e s' => R (.error e) s') s₁') (notedBy (model prog w) A env fun e s' => R (.error e) s') s₁) (notedBy (model prog w) A env fun e s' => R (.error e) s') s)
    (n : Nat) (h : I n s) : codeAny (model prog w) A (.compLoop (.SetComp elt [⟨t0, i0, ifs0, 0⟩, ⟨t1, i1, ifs1, 0⟩] scope pos) 1 it acc env) R s := by
  refine codeAny_loop rfl I (fun n s hI => ?_) n h
  show wpAny _ A ((compTurn (.SetComp elt [⟨t0, i0, ifs0, 0⟩, ⟨t1, i1, ifs1, 0⟩] scope pos) 1 it acc env).onRaise (fun x => do noteFrame x env; theTreesLotGoes x)) _ _ s
  refine wpAny_noted ?_
  rw [turnS_in]
  refine wpAny_bind (wpAny_standAt (wpAny_bind (wpAny_mono (turn n s hI) (fun r s₁ h₁ => ?_) fun _ _ z => z)))
  cases r with
  | none => exact wpAny_pure h₁
  | some v =>
    refine wpAny_bind (wpAny_mono h₁ (fun _ s₁' h₁' => ?_) fun _ _ z => z)
    refine wpAny_bind (wpAny_mono h₁' (fun _ s₂ h₂ => wpAny_bind (wpAny_mono h₂ (fun ok s₃ h₃ => ?_) fun _ _ z => z)) fun _ _ z => z)
    cases ok with
    | false => exact wpAny_pure ⟨rfl, h₃⟩
    | true => exact wpAny_bind (wpAny_bind (wpAny_mono h₃ (fun x s₄ h₄ => wpAny_bind (wpAny_standAt (wpAny_bind (wpAny_mono h₄ (fun _ s₅ h₅ => wpAny_pure (wpAny_pure ⟨rfl, h₅⟩)) fun _ _ z => z)))) fun _ _ z => z))
theorem startS_in (h0 : codeAny (model prog w) A (.compLoop (.SetComp elt [⟨t0, i0, ifs0, 0⟩, ⟨t1, i1, ifs1, 0⟩] scope pos) 1 it acc env) R s)
    (h : wpAny (model prog w) A (pyIter it) (fun it' s' => codeAny (model prog w) A (.compLoop (.SetComp elt [⟨t0, i0, ifs0, 0⟩, ⟨t1, i1, ifs1, 0⟩] scope pos) 1 it' acc env) R s') (notedBy (model prog w) A env fun x s' => R (.error x) s') s) :
    codeAny (model prog w) A (.compStart (.SetComp elt [⟨t0, i0, ifs0, 0⟩, ⟨t1, i1, ifs1, 0⟩] scope pos) 1 it acc env) R s := by
  refine codeAny_of_tree ?_
  show wpAny _ _ ((compStart (.SetComp elt [⟨t0, i0, ifs0, 0⟩, ⟨t1, i1, ifs1, 0⟩] scope pos) 1 it acc env).onRaise (fun x => do noteFrame x env; standAt theWindowsPlace)) _ _ s
  refine wpAny_notedAt ?_
  unfold compStart
  show wpAny _ _ (ask >>= _) _ _ s
  refine wpAny_bind (wpAny_askSetting (wpAny_ite ?_))
  split
  · first
      | exact wpAny_bind (wpAny_pure (wpAny_pure (And.intro rfl h0)))
      | exact wpAny_pure (And.intro rfl h0)
  · first
      | exact wpAny_bind (wpAny_rule (wpAny_bind (wpAny_standAt (wpAny_bind (wpAny_mono h (fun it' s' h' => wpAny_pure (And.intro rfl h')) fun _ _ x => x)))))
      | (refine wpAny_bind (wpAny_rule ?_); show wpAny _ _ (standAt i1.pos >>= _) _ _ s; exact wpAny_bind (wpAny_standAt (wpAny_bind (wpAny_mono h (fun it' s' h' => wpAny_pure (And.intro rfl h')) fun _ _ x => x))))
end
section
variable {X : Cx} (S : SetTh X.prog X.w) (ad : V → Hp → S.T → S.T → Prop)
def tSet2 (wi : TI) (g : TG) (tt : TT) (wi1 : TI) (g1 : TG) (tt1 : TT) (te : TE) (ws ws1 : List Nat) : TE := fun sg H Q => wi sg H fun J H1 => ∀ D, H1 D = none → ∃ W : Nat → Nat → Hp → Prop, (∃ m, W 0 m (upd H1 D (S.so D S.e0))) ∧ ∀ i m H, W i m H →
  (J.stop i H ∧ Q (.ref D) H) ∨ (J.go i H ∧ ∃ N : Hp → Prop, (∀ H', N H' → ∃ m', m' < m ∧ W (i + 1) m' H') ∧ ∀ x H', J.yld i H x H' → g x (wipe sg ws) H' fun sg2 H2 => wipe sg2 ws = wipe sg ws ∧ tt sg2 H2 fun b H3 =>
    if b = true then wi1 sg2 H3 fun J1 H4 => ∃ W1 : Nat → Nat → Hp → Prop, (∃ m, W1 0 m H4) ∧ ∀ j k H, W1 j k H →
      (J1.stop j H ∧ N H) ∨ (J1.go j H ∧ ∃ N1 : Hp → Prop, (∀ H', N1 H' → ∃ k', k' < k ∧ W1 (j + 1) k' H') ∧ ∀ x H', J1.yld j H x H' → g1 x (wipe sg2 ws1) H' fun sg3 H5 => wipe sg3 ws1 = wipe sg2 ws1 ∧ tt1 sg3 H5 fun b H6 =>
        if b = true then te sg3 H6 fun y H7 => ∃ z z', H7 D = some (S.so D z) ∧ ad y H7 z z' ∧ N1 (upd H7 D (S.so D z')) else N1 H6)
    else N H3)
theorem set2_core {pins : List (Addr × Obj)} {s : Shared} {sg : L2.St} {H : Hp} {Q : VK} {elt tg iter tg1 iter1 : Expr} {ifs ifs1 : List Expr} {scope : Scope} {own : List (Str × Nat)} {ws1 : List Nat} {pos pos' : Pos} {wi wi1 : TI} {g g1 : TG} {tt tt1 : TT} {te : TE} {use : Option (Value → Sem Unit)} {Qf : Value → Shared → Prop}
    (calm : X.calm = true) (hN : X.N.Nodup) (I : L2.Inv X pins sg H s) (hi : PI X tg iter wi) (ok : BlkOk X.N X.env.scope scope own) (hv : ∀ i ∈ ws1, i ∈ own.map (·.2))
    (hg : ∀ (s : Shared) (H : Hp) (C : Addr) (cl : List (Str × Addr)) (fp : List Addr), PG (X.blk s H scope (compEnvC scope cl C X.env) fp) tg g)
    (ht : ∀ (s : Shared) (H : Hp) (C : Addr) (cl : List (Str × Addr)) (fp : List Addr), PTs (X.blk s H scope (compEnvC scope cl C X.env) fp) ifs tt)
    (hi1 : ∀ (s : Shared) (H : Hp) (C : Addr) (cl : List (Str × Addr)) (fp : List Addr), PI (X.blk s H scope (compEnvC scope cl C X.env) fp) tg1 iter1 wi1)
    (hg1 : ∀ (s : Shared) (H : Hp) (C : Addr) (cl : List (Str × Addr)) (fp : List Addr), PG (X.blk s H scope (compEnvC scope cl C X.env) fp) tg1 g1)
    (ht1 : ∀ (s : Shared) (H : Hp) (C : Addr) (cl : List (Str × Addr)) (fp : List Addr), PTs (X.blk s H scope (compEnvC scope cl C X.env) fp) ifs1 tt1)
    (he : ∀ (s : Shared) (H : Hp) (C : Addr) (cl : List (Str × Addr)) (fp : List Addr), PE (X.blk s H scope (compEnvC scope cl C X.env) fp) elt te)
    (ha : ∀ (s : Shared) (H : Hp) (C : Addr) (cl : List (Str × Addr)) (fp : List Addr), AddOk (X.blk s H scope (compEnvC scope cl C X.env) fp) S ad)
    (hs : ∀ x, foldedSetIterable iter X.env x = pure x) (hs1 : ∀ env x, foldedSetIterable iter1 env x = pure x)
    (h : tSet2 S ad wi g tt wi1 g1 tt1 te (own.map (·.2)) ws1 sg H Q)
    (last : ∀ D C s' m H', L2.Inv X pins sg H' s' → Q (.ref D) H' → s'.heap.Ns C m → FpOk X pins H' C → compPost (model X.prog X.w) X.A X.xe use Qf (.ref D) C (.ok .next) s') :
    wpAny (model X.prog X.w) X.A (comprehension (.SetComp elt [⟨tg, iter, ifs, 0⟩, ⟨tg1, iter1, ifs1, 0⟩] scope pos) scope X.env pos' (newSet (.type "set")) false (eval iter X.env) use) Qf X.xe s := by
  have free : ∀ y ∈ scope.names, y.2 = .free → ∃ c, X.env.cells.lookup y.1 = some c := fun y hy e => (ok.free y hy e).elim (fun k => I.ok.has _ (.inl k)) fun k => I.ok.has _ (.inr k)
  refine wpAny_comprehension_free (use := use) rfl hs (closure_ok free) ok.kind (fun y hy e => by rw [ok.uniq y hy, e]) (L2.thn (hi.run pins s sg H _ I h) fun xv s1 hx => L2.thn hx fun itv s2 h2 => ?_)
  obtain ⟨it, fp, tn, J, H2, rfl, I2, T, st2, f2, q⟩ := h2
  refine PpSet.newSet_ok (newEnv_comp ?_)
  generalize hD : s2.heap.objs.size = D
  obtain ⟨W, ⟨m0, w0⟩, turn⟩ := q D (I2.hok.fresh (Nat.le_of_eq hD))
  generalize hs3 : ({ s2 with heap := s2.heap.push (fresh0 X.w) } : Shared) = s3
  have I3 : L2.Inv X pins sg (upd H2 D (S.so D S.e0)) s3 := by
    subst hs3 hD
    exact I2.laid (t' := s2.toks) (fun b o e => Heap.get?_push_of_some _ e) (Nat.le_refl _) (S.ok (S.fresh _ _ (Heap.get?_push_size _ rfl)))
  have p3 : s3.heap = s2.heap.push (fresh0 X.w) := by rw [← hs3]
  have f3 : ∀ b ∈ fp, FpOk X pins (upd H2 D (S.so D S.e0)) b ∧ b < s3.heap.objs.size := fun b hb => by
    obtain ⟨o, e, _⟩ := T.obj _ _ st2 b hb
    have lt := Heap.lt_size e
    exact ⟨⟨by rw [upd_ne (by rw [← hD]; exact Nat.ne_of_lt lt)]; exact (f2 b hb).1, (f2 b hb).2⟩, by rw [p3, Heap.size_push]; exact Nat.lt_succ_of_lt lt⟩
  have st3 : tn 0 s3.heap := T.keep _ _ _ st2 fun b _ o e => by rw [p3]; exact Heap.get?_push_of_some _ e
  have I4 := block_start I3 ok hN f3
  have pg := hg s3 (upd H2 D (S.so D S.e0)) s3.heap.objs.size (cellsFrom (s3.heap.objs.size + 1) scope.names (cloFrom X.env.cells scope.names [])) fp
  have pt := ht s3 (upd H2 D (S.so D S.e0)) s3.heap.objs.size (cellsFrom (s3.heap.objs.size + 1) scope.names (cloFrom X.env.cells scope.names [])) fp
  have pi1 := hi1 s3 (upd H2 D (S.so D S.e0)) s3.heap.objs.size (cellsFrom (s3.heap.objs.size + 1) scope.names (cloFrom X.env.cells scope.names [])) fp
  have pg1 := hg1 s3 (upd H2 D (S.so D S.e0)) s3.heap.objs.size (cellsFrom (s3.heap.objs.size + 1) scope.names (cloFrom X.env.cells scope.names [])) fp
  have pt1 := ht1 s3 (upd H2 D (S.so D S.e0)) s3.heap.objs.size (cellsFrom (s3.heap.objs.size + 1) scope.names (cloFrom X.env.cells scope.names [])) fp
  have pe := he s3 (upd H2 D (S.so D S.e0)) s3.heap.objs.size (cellsFrom (s3.heap.objs.size + 1) scope.names (cloFrom X.env.cells scope.names [])) fp
  have pa := ha s3 (upd H2 D (S.so D S.e0)) s3.heap.objs.size (cellsFrom (s3.heap.objs.size + 1) scope.names (cloFrom X.env.cells scope.names [])) fp
  show codeAny _ _ (.compStart (.SetComp elt [⟨tg, iter, ifs, 0⟩, ⟨tg1, iter1, ifs1, 0⟩] scope pos) 0 (.ref it) (.ref D) (compEnvC scope (cellsFrom (s3.heap.objs.size + 1) scope.names (cloFrom X.env.cells scope.names [])) s3.heap.objs.size X.env)) (compPost (model X.prog X.w) X.A X.xe use Qf (.ref D) s3.heap.objs.size)
    { s3 with heap := pushCells (s3.heap.push { cls := .type "dict", data := .dict #[] }) scope.names }
  have nfp : ∀ b ∈ fp, (upd H2 D (S.so D S.e0)) b = none := fun b hb => (f3 b hb).1.1
  generalize hce : compEnvC scope (cellsFrom (s3.heap.objs.size + 1) scope.names (cloFrom X.env.cells scope.names [])) s3.heap.objs.size X.env = ce at I4 pg pt pi1 pg1 pt1 pe pa ⊢
  have cL : ce.locals = s3.heap.objs.size := by subst hce; rfl
  generalize hH3 : upd H2 D (S.so D S.e0) = H3 at I3 I4 pg pt pi1 pg1 pt1 pe pa w0 nfp f3
  generalize hs4 : ({ s3 with heap := pushCells (s3.heap.push { cls := .type "dict", data := .dict #[] }) scope.names } : Shared) = s4 at I4 ⊢
  have st4 : tn 0 s4.heap := T.keep _ _ _ st3 fun b _ o e => by rw [← hs4]; exact pushCells_keeps _ _ _ _ (Heap.get?_push_of_some _ e)
  have fps : ∀ {sg' : L2.St} {H' : Hp} {s' : Shared}, L2.Inv (X.blk s3 H3 scope ce fp) [] sg' H' s' → (∀ b ∈ fp, H' b = none) → ∀ b ∈ fp, FpOk (X.blk s3 H3 scope ce fp) [] H' b := fun J' hn b hb =>
    ⟨hn b hb, (J'.ok.exf b hb).1, J'.ok.exfs b hb, .inl hb, fun x c e => (J'.ok.exf b hb).2 x c e, fun p hp => absurd (show p ∈ ([] : List (Addr × Obj)) ++ [] from hp) (by simp)⟩
  refine (fun loop => PpSet.codeAny_compStart_set loop (T.self X.A 0 _ _ _ st4 loop)) (loopS_out (hs1 ce) (fun n s' => ∃ i H', L2.Inv (X.blk s3 H3 scope ce fp) [] (wipe sg (own.map (·.2))) H' s' ∧ tn i s'.heap ∧ (∀ b ∈ fp, H' b = none) ∧ W i n H') ?_ m0 ⟨0, H3, I4, st4, nfp, w0⟩)
  rintro n s5 ⟨i, H5, I5, st5, n5, w5⟩
  rcases turn i n H5 w5 with ⟨stop, qq⟩ | ⟨go, N, hN', step⟩
  · refine thnF (T.done (X.blk s3 H3 scope ce fp) rfl rfl rfl calm i [] s5 _ H5 (fun _ _ => False) I5 (fps I5 n5) st5 stop) fun r s6 ⟨hr, I6⟩ => ?_
    subst hr
    have I7 : L2.Inv X pins sg H5 s6 := I3.call' (ch := fp) I6.os I6.base I6.hok I6.bare fun b hb => ⟨(f3 b hb).1.2.2.2.1, (f3 b hb).1.2.1, (f3 b hb).1.2.2.2.2.1, (f3 b hb).1.2.2.2.2.2⟩
    have nC : H5 s3.heap.objs.size = none := cL ▸ I6.free
    obtain ⟨m, hn, _⟩ := I6.loc
    exact last D s3.heap.objs.size s6 m H5 I7 qq (cL ▸ (show s6.heap.Ns ce.locals m from hn)) (I3.fpOk (Nat.le_refl _) nC)
  · refine thnF (T.item (X.blk s3 H3 scope ce fp) rfl rfl rfl calm i [] s5 _ H5 (fun _ _ => False) I5 (fps I5 n5) st5 go) fun r s6 ⟨u, hr, h6⟩ => ?_
    subst hr
    refine thnF h6 fun _ s7 ⟨x, H7, I7, r7, y7, st7, n7⟩ => ?_
    refine thnF (pg.run _ s7 _ H7 x u _ (I7.pinned (fps I7 n7) (T.obj _ _ st7)) r7 (step x H7 y7)) fun _ s8 ⟨sg8, H8, I8, hw8, q8⟩ => ?_
    refine thnF (pt.run _ s8 sg8 H8 _ I8 q8) fun b s9 ⟨H9, I9, q9⟩ => ?_
    have fin : ∀ {sg9 : L2.St} {s' : Shared} {H' : Hp}, L2.Inv (X.blk s3 H3 scope ce fp) ([] ++ pinsAt fp s7.heap) sg9 H' s' → (wipe sg (own.map (·.2))).length = sg9.length → (∀ (j : Nat) v, (wipe sg (own.map (·.2)))[j]? = some (some v) → sg9[j]? = some (some v)) → N H' →
        ∃ m, m < n ∧ ∃ i H', L2.Inv (X.blk s3 H3 scope ce fp) [] (wipe sg (own.map (·.2))) H' s' ∧ tn i s'.heap ∧ (∀ b ∈ fp, H' b = none) ∧ W i m H' := fun {sg9 s' H'} I' hl hk nx => by
      obtain ⟨m', hm, w'⟩ := hN' H' nx
      have pin : ∀ b ∈ fp, ∀ o, s7.heap.get? b = some o → s'.heap.get? b = some o ∧ H' b = none := fun b hb o e => let z := I'.pin (b, o) (List.mem_append_right _ (List.mem_append_right _ (mem_pinsAt hb e))); ⟨z.1, z.2.1⟩
      refine ⟨m', hm, i + 1, H', (I'.unpinned (pins := [])).weak hl hk, T.keep _ _ _ st7 fun b hb o e => (pin b hb o e).1, fun b hb => ?_, w'⟩
      obtain ⟨o, e, _⟩ := T.obj _ _ st7 b hb
      exact (pin b hb o e).2
    have hl8 : (wipe sg (own.map (·.2))).length = sg8.length := by rw [← hw8, wipe_length]
    have hk8 : ∀ (j : Nat) v, (wipe sg (own.map (·.2)))[j]? = some (some v) → sg8[j]? = some (some v) := fun j v e => by
      rw [← hw8] at e
      exact (wipe_some e).1
    have hk9 : ∀ (j : Nat) v, (wipe sg (own.map (·.2)))[j]? = some (some v) → (wipe sg8 ws1)[j]? = some (some v) := fun j v e => by
      rw [← hw8] at e
      obtain ⟨e1, e2⟩ := wipe_some e
      rw [wipe_out fun z => e2 (hv j z)]
      exact e1
    cases b with
    | false => simp only [Bool.false_eq_true, if_false] at q9 ⊢; exact fin I9 hl8 hk8 q9
    | true =>
      simp only [if_true] at q9 ⊢
      refine thnF (pi1.run _ s9 sg8 H9 _ I9 q9) fun xv s10 hx => thnF hx fun itv s11 h11 => ?_
      obtain ⟨it1, fp1, tn1, J1, H11, rfl, I11, T1, st11, f11, W1, ⟨m1, w1⟩, turn1⟩ := h11
      have fps1 : ∀ {H' : Hp}, (∀ b ∈ fp1, H' b = none) → ∀ b ∈ fp1, FpOk (X.blk s3 H3 scope ce fp) ([] ++ pinsAt fp s7.heap) H' b := fun hn b hb => ⟨hn b hb, (f11 b hb).2⟩
      have loop1 : codeAny (model X.prog X.w) X.A (.compLoop (.SetComp elt [⟨tg, iter, ifs, 0⟩, ⟨tg1, iter1, ifs1, 0⟩] scope pos) 1 (.ref it1) (.ref D) ce)
          (fun r s' => match r with
            | .ok _ => ∃ m, m < n ∧ ∃ i H', L2.Inv (X.blk s3 H3 scope ce fp) [] (wipe sg (own.map (·.2))) H' s' ∧ tn i s'.heap ∧ (∀ b ∈ fp, H' b = none) ∧ W i m H'
            | .error _ => False) s11 := by
        refine loopS_in (fun k s' => ∃ j H', L2.Inv (X.blk s3 H3 scope ce fp) ([] ++ pinsAt fp s7.heap) (wipe sg8 ws1) H' s' ∧ tn1 j s'.heap ∧ (∀ b ∈ fp1, H' b = none) ∧ W1 j k H') ?_ m1 ⟨0, H11, I11.weak (wipe_length _ _) (fun j v e => (wipe_some e).1), st11, fun b hb => (f11 b hb).1, w1⟩
        rintro k s12 ⟨j, H12, I12, st12, n12, w12⟩
        rcases turn1 j k H12 w12 with ⟨stop1, nx1⟩ | ⟨go1, N1, hN1, step1⟩
        · refine thnF (T1.done (X.blk s3 H3 scope ce fp) rfl rfl rfl calm j _ s12 (wipe sg8 ws1) H12 (fun _ _ => False) I12 (fps1 n12) st12 stop1) fun r s13 ⟨hr, I13⟩ => ?_
          subst hr
          exact fin I13 (hl8.trans (wipe_length sg8 ws1).symm) hk9 nx1
        · refine thnF (T1.item (X.blk s3 H3 scope ce fp) rfl rfl rfl calm j _ s12 (wipe sg8 ws1) H12 (fun _ _ => False) I12 (fps1 n12) st12 go1) fun r s13 ⟨u1, hr, h13⟩ => ?_
          subst hr
          refine thnF h13 fun _ s14 ⟨x1, H14, I14, r14, y14, st14, n14⟩ => ?_
          refine thnF (pg1.run _ s14 (wipe sg8 ws1) H14 x1 u1 _ (I14.pinned (fps1 n14) (T1.obj _ _ st14)) r14 (step1 x1 H14 y14)) fun _ s15 ⟨sg15, H15, I15, hw15, q15⟩ => ?_
          refine thnF (pt1.run _ s15 sg15 H15 _ I15 q15) fun b1 s16 ⟨H16, I16, q16⟩ => ?_
          have fin1 : ∀ {s' : Shared} {H' : Hp}, L2.Inv (X.blk s3 H3 scope ce fp) (([] ++ pinsAt fp s7.heap) ++ pinsAt fp1 s14.heap) sg15 H' s' → N1 H' → ∃ m, m < k ∧ ∃ j H', L2.Inv (X.blk s3 H3 scope ce fp) ([] ++ pinsAt fp s7.heap) (wipe sg8 ws1) H' s' ∧ tn1 j s'.heap ∧ (∀ b ∈ fp1, H' b = none) ∧ W1 j m H' := fun {s' H'} I' nx => by
            obtain ⟨m', hm, w'⟩ := hN1 H' nx
            have pin : ∀ b ∈ fp1, ∀ o, s14.heap.get? b = some o → s'.heap.get? b = some o ∧ H' b = none := fun b hb o e => let z := I'.pin (b, o) (List.mem_append_right _ (List.mem_append_right _ (mem_pinsAt hb e))); ⟨z.1, z.2.1⟩
            refine ⟨m', hm, j + 1, H', I'.unpinned.weak (by rw [← hw15, wipe_length]) (fun j v e => by rw [← hw15] at e; exact (wipe_some e).1), T1.keep _ _ _ st14 fun b hb o e => (pin b hb o e).1, fun b hb => ?_, w'⟩
            obtain ⟨o, e, _⟩ := T1.obj _ _ st14 b hb
            exact (pin b hb o e).2
          cases b1 with
          | false => simp only [Bool.false_eq_true, if_false] at q16 ⊢; exact fin1 I16 q16
          | true =>
            simp only [if_true] at q16 ⊢
            refine thnF (pe.run _ s16 sg15 H16 _ I16 q16) fun z s17 ⟨yv, H17, I17, r17, z0, z1, e17, a17, nx⟩ => ?_
            exact pa _ s17 _ H17 D z0 z1 yv z _ _ I17 e17 r17 a17 fun s18 I18 => fin1 I18 nx
      exact startS_in loop1 (T1.self X.A 0 _ _ _ st11 loop1)
theorem pe_setC2 {elt tg iter tg1 iter1 : Expr} {ifs ifs1 : List Expr} {scope : Scope} {own : List (Str × Nat)} {ws1 : List Nat} {pos : Pos} {wi wi1 : TI} {g g1 : TG} {tt tt1 : TT} {te : TE} (calm : X.calm = true) (hN : X.N.Nodup) (hi : PI X tg iter wi) (ok : BlkOk X.N X.env.scope scope own) (hv : ∀ i ∈ ws1, i ∈ own.map (·.2))
    (hg : ∀ (s : Shared) (H : Hp) (C : Addr) (cl : List (Str × Addr)) (fp : List Addr), PG (X.blk s H scope (compEnvC scope cl C X.env) fp) tg g)
    (ht : ∀ (s : Shared) (H : Hp) (C : Addr) (cl : List (Str × Addr)) (fp : List Addr), PTs (X.blk s H scope (compEnvC scope cl C X.env) fp) ifs tt)
    (hi1 : ∀ (s : Shared) (H : Hp) (C : Addr) (cl : List (Str × Addr)) (fp : List Addr), PI (X.blk s H scope (compEnvC scope cl C X.env) fp) tg1 iter1 wi1)
    (hg1 : ∀ (s : Shared) (H : Hp) (C : Addr) (cl : List (Str × Addr)) (fp : List Addr), PG (X.blk s H scope (compEnvC scope cl C X.env) fp) tg1 g1)
    (ht1 : ∀ (s : Shared) (H : Hp) (C : Addr) (cl : List (Str × Addr)) (fp : List Addr), PTs (X.blk s H scope (compEnvC scope cl C X.env) fp) ifs1 tt1)
    (he : ∀ (s : Shared) (H : Hp) (C : Addr) (cl : List (Str × Addr)) (fp : List Addr), PE (X.blk s H scope (compEnvC scope cl C X.env) fp) elt te)
    (ha : ∀ (s : Shared) (H : Hp) (C : Addr) (cl : List (Str × Addr)) (fp : List Addr), AddOk (X.blk s H scope (compEnvC scope cl C X.env) fp) S ad)
    (hs : ∀ x, foldedSetIterable iter X.env x = pure x := by intro _; rfl) (hs1 : ∀ env x, foldedSetIterable iter1 env x = pure x := by intro _ _; rfl) :
    PE X (.SetComp elt [⟨tg, iter, ifs, 0⟩, ⟨tg1, iter1, ifs1, 0⟩] scope pos) (tSet2 S ad wi g tt wi1 g1 tt1 te (own.map (·.2)) ws1) := by
  refine ⟨fun pins s sg H Q I h => ?_⟩
  rw [PpSet.eval_SetComp]
  refine set2_core S ad calm hN I hi ok hv hg ht hi1 hg1 ht1 he ha hs hs1 h fun D C s' m H' I' q hn ⟨g0, g1, g2, g3, g4, g5⟩ => ⟨m, hn, fun h2 sb => ?_⟩
  exact ⟨.ref D, H', I'.turned (t' := s'.toks) (fun b o hb e => (sb.2 b hb).trans e) g0 g1 g3 g4 g5, rfl, q⟩
end
end Md

set_option Elab.async false
set_option linter.all false
set_option maxRecDepth 100000
set_option maxHeartbeats 2000000
/-! Md34: sets of dots (a number, a text, a number): the theory, sorted. -/
namespace Md
open PySem PySem.Spec PyProof.Rows L2

abbrev Dot := Int × Str × Int
def dtD (d : Dot) : D := .tup [.int d.1, .str d.2.1, .int d.2.2]
def dtP (d : Dot) : PyData := .tuple [.int d.1, .str d.2.1, .int d.2.2]
def dtT (d : Dot) : Tk := [.inl d.1, .inr d.2.1, .inl d.2.2]
def dtOf : D → Option Dot
  | .tup [.int a, .str b, .int c] => some (a, b, c)
  | _ => none
theorem dtOf_eq {y : D} {q : Dot} (h : dtOf y = some q) : y = dtD q := by
  unfold dtOf at h
  split at h
  · cases h; rfl
  · cases h
theorem dtT_inj {a b : Dot} (h : dtT a = dtT b) : a = b := by
  obtain ⟨a1, a2, a3⟩ := a
  obtain ⟨b1, b2, b3⟩ := b
  injection h with h1 h
  injection h with h2 h
  injection h with h3 h
  have g1 : a1 = b1 := Sum.inl.inj h1
  have g2 : a2 = b2 := Sum.inr.inj h2
  have g3 : a3 = b3 := Sum.inl.inj h3
  rw [g1, g2, g3]
/-! ### their order -/
def leDot (a b : Dot) : Bool := if a.1 = b.1 then (if a.2.1 = b.2.1 then decide (a.2.2 ≤ b.2.2) else leS a.2.1 b.2.1) else decide (a.1 < b.1)
theorem leDot_iff (a b : Dot) : leDot a b = true ↔ a.1 < b.1 ∨ (a.1 = b.1 ∧ ((a.2.1 ≠ b.2.1 ∧ leS a.2.1 b.2.1 = true) ∨ (a.2.1 = b.2.1 ∧ a.2.2 ≤ b.2.2))) := by
  unfold leDot
  by_cases h : a.1 = b.1
  · by_cases h2 : a.2.1 = b.2.1
    · rw [if_pos h, if_pos h2, decide_eq_true_eq]
      constructor
      · exact fun e => .inr ⟨h, .inr ⟨h2, e⟩⟩
      · rintro (e | ⟨_, e | e⟩)
        · omega
        · exact absurd h2 e.1
        · exact e.2
    · rw [if_pos h, if_neg h2]
      constructor
      · exact fun e => .inr ⟨h, .inl ⟨h2, e⟩⟩
      · rintro (e | ⟨_, e | e⟩)
        · omega
        · exact e.2
        · exact absurd e.1 h2
  · rw [if_neg h, decide_eq_true_eq]
    constructor
    · exact fun e => .inl e
    · rintro (e | e)
      · exact e
      · exact absurd e.1 h
theorem leDot_trans (a b c : Dot) (h : leDot a b = true) (k : leDot b c = true) : leDot a c = true := by
  rw [leDot_iff] at *
  rcases h with h | ⟨h, h2⟩ <;> rcases k with k | ⟨k, k2⟩
  · left; omega
  · left; omega
  · left; omega
  · right
    refine ⟨by omega, ?_⟩
    rcases h2 with ⟨n1, l1⟩ | ⟨e1, l1⟩ <;> rcases k2 with ⟨n2, l2⟩ | ⟨e2, l2⟩
    · by_cases z : a.2.1 = c.2.1
      · rw [z] at l1
        exact absurd (leS_anti l2 l1) n2
      · exact .inl ⟨z, leS_trans _ _ _ l1 l2⟩
    · rw [← e2]; exact .inl ⟨n1, l1⟩
    · rw [e1]; exact .inl ⟨n2, l2⟩
    · exact .inr ⟨e1.trans e2, by omega⟩
theorem leDot_total (a b : Dot) : leDot a b = true ∨ leDot b a = true := by
  rw [leDot_iff, leDot_iff]
  have t := leS_total a.2.1 b.2.1
  rw [Bool.or_eq_true] at t
  by_cases h : a.1 < b.1
  · exact .inl (.inl h)
  by_cases h2 : b.1 < a.1
  · exact .inr (.inl h2)
  have e : a.1 = b.1 := by omega
  by_cases e2 : a.2.1 = b.2.1
  · by_cases l : a.2.2 ≤ b.2.2
    · exact .inl (.inr ⟨e, .inr ⟨e2, l⟩⟩)
    · exact .inr (.inr ⟨e.symm, .inr ⟨e2.symm, by omega⟩⟩)
  · rcases t with t | t
    · exact .inl (.inr ⟨e, .inl ⟨e2, t⟩⟩)
    · exact .inr (.inr ⟨e.symm, .inl ⟨fun z => e2 z.symm, t⟩⟩)
theorem leDot_anti {a b : Dot} (h : leDot a b = true) (k : leDot b a = true) : a = b := by
  rw [leDot_iff] at *
  rcases h with h | ⟨h, h2⟩ <;> rcases k with k | ⟨k, k2⟩
  · omega
  · omega
  · omega
  · rcases h2 with ⟨n1, l1⟩ | ⟨e1, l1⟩ <;> rcases k2 with ⟨n2, l2⟩ | ⟨e2, l2⟩
    · exact absurd (leS_anti l1 l2) n1
    · exact absurd e2.symm n1
    · exact absurd e1.symm n2
    · exact Prod.ext h (Prod.ext e1 (by omega))
theorem leDot_tot : PySem.W.TotalLe leDot := ⟨leDot_trans, leDot_total⟩
theorem dot_le (a b : Dot) : PySem.W.dataLe false dtP a b = leDot a b := by
  rw [PySem.W.dataLe_eq]
  have lt : PySem.W.dataLt (dtP b) (dtP a) = !leDot a b := by
    unfold dtP leDot
    rw [PySem.W.dataLt_tuple, PySem.W.dataLt_cons (by simp [PySem.W.alike]), PySem.W.dataLt_cons (by simp [PySem.W.alike]), PySem.W.dataLt_cons (by simp [PySem.W.alike])]
    have e1 : PyData.eqv (.int b.1) (.int a.1) = decide (b.1 = a.1) := rfl
    have e2 : PyData.eqv (.str b.2.1) (.str a.2.1) = (b.2.1 == a.2.1) := rfl
    have e3 : PyData.eqv (.int b.2.2) (.int a.2.2) = decide (b.2.2 = a.2.2) := rfl
    rw [e1, e2, e3, PySem.W.dataLt_int, PySem.W.dataLt_int, PySem.W.dataLt_str]
    by_cases h1 : a.1 = b.1
    · rw [decide_eq_true h1.symm, if_pos rfl, if_pos h1]
      by_cases h2 : a.2.1 = b.2.1
      · have : (b.2.1 == a.2.1) = true := by simp [h2]
        rw [this, if_pos rfl, if_pos h2]
        by_cases h3 : b.2.2 = a.2.2
        · rw [decide_eq_true h3, if_pos rfl, decide_eq_true (by omega : a.2.2 ≤ b.2.2)]
          rfl
        · rw [decide_eq_false h3, if_neg Bool.false_ne_true, ← decide_not]
          exact decide_eq_decide.mpr (by omega)
      · have : (b.2.1 == a.2.1) = false := by simpa using fun z => h2 z.symm
        rw [this, if_neg Bool.false_ne_true, if_neg h2]
        have n := PySem.W.not_lt_str a.2.1.cps.toList b.2.1.cps.toList
        show decide (b.2.1.cps.toList < a.2.1.cps.toList) = !decide (a.2.1.cps.toList ≤ b.2.1.cps.toList)
        rw [← n, Bool.not_not]
    · rw [decide_eq_false (fun z => h1 z.symm), if_neg Bool.false_ne_true, if_neg h1, ← decide_not]
      exact decide_eq_decide.mpr (by omega)
  show (!PySem.W.dataLt (dtP b) (dtP a)) = _
  rw [lt, Bool.not_not]
/-! ### the theory -/
abbrev DRow := Addr × Dot
def rowT (p : DRow) : Row := (p.1, dtT p.2)
structure DtsOk (P : Program) (w : World) (h : Heap) (a : Addr) (L : List DRow) : Prop where
  ex : ∃ L' es ep t, L'.Perm (L.map rowT) ∧ DtO P w h a L' es ep t
def dotSet (P : Program) (w : World) : SetTh P w where
  T := List DRow
  pr := DtsOk P w
  e0 := []
  fresh := fun h a e => ⟨[], #[], 0, _, List.Perm.refl _, ⟨⟨_, e, ⟨rfl, rfl, rfl⟩, rfl⟩, rfl, ⟨List.Pairwise.nil, rfl, rfl, .inl rfl, fun x hx => (by cases hx), fun i h j hi => (by simp at hi)⟩, List.nodup_nil, by
    show _ ∨ (!w.params.followText "set-order") = true
    cases w.params.followText "set-order"
    · exact .inr rfl
    · exact .inl rfl, by
    show 0 * 5 < 7 * 3
    decide, by
    show 0 < 64
    decide⟩⟩
  there := fun h a x ⟨L', es, ep, t, _, O⟩ => let ⟨o, e, _⟩ := O.ob; ⟨o, e⟩
  stay := fun h h' a x ⟨L', es, ep, t, p, O⟩ k => let ⟨o, e, r⟩ := O.ob; ⟨L', es, ep, t, p, ⟨o, k o e, r⟩, O.rows, O.tab, O.nd, O.led, O.room, O.few⟩
def insR (p : DRow) (L : List DRow) : List DRow := if p.2 ∈ L.map (·.2) then L else L ++ [p]
section
variable {P : Program} {w : World} {A : Around} {E : Value → Shared → Prop} {s : Shared} {a : Addr}
abbrev TupD (P : Program) (w : World) (h : Heap) (L : List DRow) : Prop := ∀ p ∈ L, isTk P w h (dtT p.2) p.1
theorem dts_hash {L : List DRow} {x : Addr} {d : Dot} {Q : Bool → Shared → Prop} (R : DtsOk P w s.heap a L) (T : TupD P w s.heap L) (hx : isTk P w s.heap (dtT d) x) (hu : A.units < cLine) (few : L.length + 1 < 64)
    (hQ : ∀ b h', Heap.SameBut a s.heap h' → DtsOk P w h' a (insR (x, d) L) → Q b { s with heap := h' }) : wpAny (model P w) A (setAddHashed a (.ref x) (hTk P w (dtT d))) Q E s := by
  obtain ⟨L', es, ep, t, pm, O⟩ := R.ex
  have mem : dtT d ∈ L'.map (·.2) ↔ d ∈ L.map (·.2) := by
    rw [(pm.map (·.2)).mem_iff, List.map_map, List.mem_map, List.mem_map]
    exact ⟨fun ⟨p, hp, e⟩ => ⟨p, hp, dtT_inj e⟩, fun ⟨p, hp, e⟩ => ⟨p, hp, congrArg dtT e⟩⟩
  have ln : L'.length = L.length := by rw [pm.length_eq, List.length_map]
  refine dt_add O (fun p hp => ?_) hx hu (by omega) fun b h' L2 es' ep' t' sb O2 c1 c2 => hQ b h' sb ?_
  · obtain ⟨p0, h0, rfl⟩ := List.mem_map.mp (pm.mem_iff.mp hp)
    exact T p0 h0
  · unfold insR
    by_cases hm : d ∈ L.map (·.2)
    · rw [if_pos hm]
      have e := c1 (mem.mpr hm)
      subst e
      exact ⟨L2, es', ep', t', pm, O2⟩
    · rw [if_neg hm]
      refine ⟨L2, es', ep', t', ?_, O2⟩
      refine (c2 fun z => hm (mem.mp z)).trans ?_
      rw [List.map_append]
      exact (pm.cons _).trans (List.perm_append_singleton _ _).symm
theorem dts_sadd {L : List DRow} {x : Addr} {d : Dot} {Q : Bool → Shared → Prop} (R : DtsOk P w s.heap a L) (T : TupD P w s.heap L) (hx : isTk P w s.heap (dtT d) x) (hu : A.units < cLine) (few : L.length + 1 < 64)
    (hQ : ∀ b h' tk, s.toks ≤ tk → Heap.SameBut a s.heap h' → DtsOk P w h' a (insR (x, d) L) → Q b { s with heap := h', toks := tk }) : wpAny (model P w) A (setAdd a (.ref x)) Q E s := by
  unfold setAdd
  refine wpAny_holding (wpAny_bind (wpAny_pyHash_tuple hu hx ?_))
  exact dts_hash (s := { s with toks := s.toks + ((dtT d).length + 1) }) R T hx hu few fun b h' sb R' => hQ b h' _ (Nat.le_add_right _ _) sb R'
theorem dts_madd {L : List DRow} {x : Addr} {d : Dot} {Q : Value → Shared → Prop} (R : DtsOk P w s.heap a L) (T : TupD P w s.heap L) (hx : isTk P w s.heap (dtT d) x) (hu : A.units + 64 < cLine) (few : L.length + 1 < 64)
    (hQ : ∀ h' tk, Heap.SameBut a s.heap h' → DtsOk P w h' a (insR (x, d) L) → Q .none { s with heap := h', toks := tk }) : wpAny (model P w) A (call (.builtin "set.add") [.ref a, .ref x]) Q E s := by
  obtain ⟨L', es, ep, t, pm, O⟩ := R.ex
  obtain ⟨o, ho, hex, hd⟩ := O.ob
  have ty : s.TypeIs (.ref a) "set" := ⟨o, ho, hex.1⟩
  refine wpAny_call_entry F.slot_set_add ty F.entry_set_add ?_ (F.args_set_add_2 _ _)
  unfold Builtin.«set.add» Builtin.Frozenset.oneOther
  simp only [List.isEmpty_nil, bind_assoc]
  unfold Builtin.Frozenset.addrOf
  refine wpAny_bind (wpAny_pure (wpAny_bind (wpAny_pure (wpAny_bind (dts_sadd R T hx ?_ few fun b h' tk _ sb R' => ?_)))))
  · first | omega | (show _ < cLine; simp; omega)
  · show wpAny _ _ (PySem.ret Value.none) _ _ _
    exact wpAny_pure ⟨_, rfl, hQ h' tk sb R'⟩
end
theorem vals_tk {P : Program} {w : World} : ∀ {k : Tk} {us : List Value}, Vals (k.map kV) us → ItemsAre (mixKind P w) k us
  | [], _, .nil => .nil
  | q :: k, _, .cons r t => .cons (kV_is r) (vals_tk t)
theorem inv_tk {X : Cx} {pins : List (Addr × Obj)} {sg : L2.St} {H : Hp} {s : Shared} {b : Addr} {k : Tk} (I : L2.Inv X pins sg H s) (h : SqT X.K H b (k.map kV)) : isTk X.prog X.w s.heap k b := by
  obtain ⟨its, r, ⟨o, ho, hc, n, hd⟩, _⟩ := I.tuple h
  exact ⟨o, its.toArray, n, ho, hc, hd, by simpa using vals_tk r⟩
abbrev SqD (K : PySem.W.Frag) (H : Hp) (p : DRow) : Prop := SqT K H p.1 ((dtT p.2).map kV)
def adT (K : PySem.W.Frag) : V → Hp → List DRow → List DRow → Prop := fun y H L L' => ∃ p : DRow, y = .ref p.1 ∧ SqD K H p ∧ (∀ q ∈ L, SqD K H q) ∧ L.length + 1 < 64 ∧ L' = insR p L
theorem dotSet_add {X : Cx} (hu : X.A.units + 100 < cLine) : AddOk X (dotSet X.prog X.w) (adT X.K) := by
  intro pins s sg H a x x' y u E Q I e ry ⟨p, ey, hp, hL, room, ex⟩ hQ
  subst ey ex
  obtain rfl : u = .ref p.1 := ry
  exact dts_madd ((dotSet X.prog X.w).get I e) (fun q hq => inv_tk I (hL q hq)) (inv_tk I hp) (by omega) room fun h' tk sb R => hQ _ ((dotSet X.prog X.w).turn I e sb R)
/-! ### sorted -/
def sortR (L : List DRow) : List DRow := isortB (fun p q => leDot p.2 q.2) L
theorem insB_mapW {α β : Type} {le : α → α → Bool} {le' : β → β → Bool} {f : α → β} (h : ∀ a b, le' (f a) (f b) = le a b) (a : α) : ∀ xs : List α, insB le' (f a) (xs.map f) = (insB le a xs).map f
  | [] => rfl
  | b :: r => by
    show (if le' (f a) (f b) = true then f a :: f b :: r.map f else f b :: insB le' (f a) (r.map f)) = (if le a b = true then a :: b :: r else b :: insB le a r).map f
    rw [h, insB_mapW h a r]
    split <;> rfl
theorem isortB_mapW {α β : Type} {le : α → α → Bool} {le' : β → β → Bool} {f : α → β} (h : ∀ a b, le' (f a) (f b) = le a b) : ∀ xs : List α, isortB le' (xs.map f) = (isortB le xs).map f
  | [] => rfl
  | a :: r => by
    show insB le' (f a) (isortB le' (r.map f)) = (insB le a (isortB le r)).map f
    rw [isortB_mapW h r, insB_mapW h]
theorem sortR_dots (L : List DRow) : (sortR L).map (·.2) = isortB leDot (L.map (·.2)) := (isortB_mapW (fun a b => rfl) L).symm
theorem rowLe_tot : PySem.W.TotalLe (fun p q : DRow => leDot p.2 q.2) := ⟨fun a b c => leDot_trans _ _ _, fun a b => leDot_total _ _⟩
theorem sortR_merge (L : List DRow) : sortR L = L.mergeSort fun p q => leDot p.2 q.2 := (isortB_eq rowLe_tot L).symm
theorem sortR_mem {L : List DRow} {p : DRow} : p ∈ sortR L ↔ p ∈ L := by
  rw [sortR_merge]
  exact (List.mergeSort_perm L _).mem_iff
theorem sortR_len (L : List DRow) : (sortR L).length = L.length := by
  rw [sortR_merge]
  exact List.length_mergeSort ..
theorem perm_lift {α β : Type} {f : α → β} : ∀ {l : List α} {out : List β}, out.Perm (l.map f) → ∃ l' : List α, l'.Perm l ∧ out = l'.map f
  | [], out, h => ⟨[], List.Perm.refl _, by simpa using h⟩
  | x :: r, out, h => by
    have m : f x ∈ out := h.mem_iff.mpr (by simp)
    obtain ⟨u, v, e⟩ := List.append_of_mem m
    subst e
    have h2 : (u ++ v).Perm (r.map f) := by
      have := (List.perm_middle (a := f x) (l₁ := u) (l₂ := v)).symm.trans h
      exact List.Perm.cons_inv this
    obtain ⟨l2, p2, e2⟩ := perm_lift h2
    refine ⟨l2.take u.length ++ x :: l2.drop u.length, ?_, ?_⟩
    · have : (l2.take u.length ++ x :: l2.drop u.length).Perm (x :: (l2.take u.length ++ l2.drop u.length)) := List.perm_middle
      rw [List.take_append_drop] at this
      exact this.trans (p2.cons x)
    · have eu : u = (l2.take u.length).map f := by
        rw [List.map_take, ← e2, List.take_left]
      have ev : v = (l2.drop u.length).map f := by
        rw [List.map_drop, ← e2, List.drop_left]
      rw [List.map_append, List.map_cons, ← eu, ← ev]
theorem rd_dot {K : PySem.W.Frag} {H : Hp} {p : DRow} (h : SqD K H p) : RdV K H (.ref p.1) (dtP p.2) := .tup h (.cons (.int _) (.cons (.str _) (.cons (.int _) .nil)))
theorem alike_dots (l : List Dot) : PySem.W.AllAlike (l.map dtP) := by
  intro d hd e he
  obtain ⟨x, _, rfl⟩ := List.mem_map.mp hd
  obtain ⟨y, _, rfl⟩ := List.mem_map.mp he
  simp [dtP, PySem.W.alike, PySem.W.alikeAll]
theorem sortable_dots (l : List Dot) : PySem.W.Sortable (l.map dtP) := .inl fun d hd => by
  obtain ⟨x, _, rfl⟩ := List.mem_map.mp hd
  exact ⟨_, _, rfl⟩
def rSortDt (P : Program) (w : World) (K : PySem.W.Frag) : List V → Hp → VK → Prop := fun xs H Q => ∃ (a : Addr) (L : List DRow), xs = [.ref a] ∧ H a = some ((dotSet P w).so a L) ∧ (∀ p ∈ L, SqD K H p) ∧ ∀ l, H l = none → Q (.ref l) (upd H l (.lst ((sortR L).map fun p => V.ref p.1)))
theorem call_sortDt {X : Cx} (hc : X.calm = true) (hu : X.A.units + 64 < cLine) : CallR X (.builtin "sorted") (rSortDt X.prog X.w X.K) := by
  intro pins s sg H xs us Q I r ⟨a, L, ex, ea, hL, q⟩
  subst ex
  obtain ⟨u, rfl, ru⟩ := r.one
  obtain rfl : u = .ref a := ru
  obtain ⟨L', en, ep, t, pm, O⟩ := ((dotSet X.prog X.w).get I ea).ex
  obtain ⟨o, ho, hx, hd⟩ := O.ob
  have lnL : L'.length = L.length := by rw [pm.length_eq, List.length_map]
  have few : L.length < 64 := by have := O.few; omega
  have sz := rows_size O.rows
  refine sorted_col hu (collect_set (A := X.A.in1) (I.ok.hd hc) ⟨o, ho, hx.1, hd⟩ O.fits (by rw [sz]; exact Nat.lt_of_lt_of_le O.few (by decide)) O.tab.ris O.led fun s1 out kp szz gn os pv => ?_)
  have I1 : L2.Inv X pins sg H s1 := by
    obtain ⟨h1, g1, d1, t1, o1⟩ := s1
    have gn : g1 = s.gens := gn
    have os : o1 = s.os := os
    subst gn os
    exact I.call' (ch := []) rfl (Un.kept kp) (I.hok.kept kp) I.bare fun _ z => nomatch z
  have pv2 : out.Perm (L.map fun p : DRow => Value.ref p.1) := by
    rw [O.rows, List.map_map] at pv
    have := (pm.map (fun p : Row => Value.ref p.1))
    rw [List.map_map] at this
    exact pv.trans this
  obtain ⟨Lo, po, eo⟩ := perm_lift pv2
  have nd : (L.map (·.2)).Nodup := by
    have n2 := O.nd
    have n3 := ((pm.map (·.2)).nodup_iff.mp n2)
    have e : (L.map rowT).map (·.2) = (L.map (·.2)).map dtT := by rw [List.map_map, List.map_map]; rfl
    rw [e] at n3
    exact List.Pairwise.imp (fun h e => h (congrArg dtT e)) (List.pairwise_map.mp n3)
  refine ⟨H, Lo.map fun p => (V.ref p.1, dtP p.2), I1, ?_, fun t mt => ?_, ?_, ?_, ?_, fun l hl => ?_⟩
  · rw [eo, List.map_map]
    have : ∀ l : List DRow, Vals (l.map fun p => V.ref p.1) (l.map fun p => Value.ref p.1) := fun l => by
      induction l with
      | nil => exact .nil
      | cons p r ih => exact .cons rfl ih
    exact this Lo
  · obtain ⟨p, hp, rfl⟩ := List.mem_map.mp mt
    refine ⟨rd_dot (hL p (po.mem_iff.mp hp)), ?_⟩
    simp [dtP, PyData.depth, PyData.depthAll]
  · rw [List.map_map]
    have := alike_dots (Lo.map (·.2))
    rw [List.map_map] at this
    exact this
  · rw [List.map_map]
    have := sortable_dots (Lo.map (·.2))
    rw [List.map_map] at this
    exact this
  · rw [List.length_map, po.length_eq]
    exact Nat.le_trans (by omega : L.length ≤ 64) (by decide)
  · have e : ((Lo.map fun p : DRow => (V.ref p.1, dtP p.2)).mergeSort (PySem.W.dataLe false (·.2))).map (·.1) = (sortR L).map fun p => V.ref p.1 := by
      rw [← List.map_mergeSort (r := fun p q : DRow => leDot p.2 q.2) (f := fun p : DRow => (V.ref p.1, dtP p.2)) (fun a _ b _ => (dot_le a.2 b.2).symm), List.map_map, sortR_merge]
      have same : Lo.mergeSort (fun p q : DRow => leDot p.2 q.2) = L.mergeSort fun p q => leDot p.2 q.2 := by
        refine List.Perm.eq_of_pairwise (le := fun p q : DRow => leDot p.2 q.2 = true) (fun x y hx hy h k => ?_) (List.pairwise_mergeSort (le := fun p q : DRow => leDot p.2 q.2) (fun a b c => leDot_trans a.2 b.2 c.2) (fun a b => by rw [Bool.or_eq_true]; exact leDot_total a.2 b.2) Lo) (List.pairwise_mergeSort (le := fun p q : DRow => leDot p.2 q.2) (fun a b c => leDot_trans a.2 b.2 c.2) (fun a b => by rw [Bool.or_eq_true]; exact leDot_total a.2 b.2) L) ((List.mergeSort_perm Lo _).trans (po.trans (List.mergeSort_perm L _).symm))
        have mx : x ∈ L := po.mem_iff.mp ((List.mergeSort_perm Lo _).mem_iff.mp hx)
        have my : y ∈ L := (List.mergeSort_perm L _).mem_iff.mp hy
        have e2 : x.2 = y.2 := leDot_anti h k
        clear h k hx hy
        clear po eo pv2 pv hL pm ea O few lnL q
        induction L with
        | nil => cases mx
        | cons z r ih =>
          rw [List.map_cons, List.nodup_cons] at nd
          rcases List.mem_cons.mp mx with ex | mx' <;> rcases List.mem_cons.mp my with ey | my'
          · rw [ex, ey]
          · exact absurd (List.mem_map.mpr ⟨y, my', by rw [← e2, ex]⟩) nd.1
          · exact absurd (List.mem_map.mpr ⟨x, mx', by rw [e2, ey]⟩) nd.1
          · exact ih nd.2 mx' my'
      rw [same]
      rfl
    rw [e]
    exact q l hl
end Md

set_option Elab.async false
set_option linter.all false
set_option maxRecDepth 100000
set_option maxHeartbeats 2000000
/-! Md35: sorted({d for a in x for d in a}) of dots. -/
namespace Md
open PySem PySem.Spec PyProof.Rows L2

/-! ### a walk that nothing disturbs -/
structure WkM (K : PySem.W.Frag) (mg : Str → Option Value) (O0 : Ow) (H0 : Hp) (J : It) (items : List D) : Prop where
  go : ∀ (i : Nat) (O : Ow) (H : Hp), Mono O0 H0 O H → i < items.length → J.go i H
  yld : ∀ (i : Nat) (O : Ow) (H : Hp) (s : S) (x : V) (H' : Hp), i < items.length → Mono O0 H0 O H → RelS K mg O H s → J.yld i H x H' → ∃ d O', items[i]? = some d ∧ Ext O H O' H' ∧ RelS K mg O' H' s ∧ DV K mg O' H' d x
  stop : ∀ (O : Ow) (H : Hp), Mono O0 H0 O H → J.stop items.length H
def tMIM (K : PySem.W.Frag) (mg : Str → Option Value) (W : WX) (it : Rs → M (List D)) : TI := fun sg H R => ∃ O env s, RelE K mg O H env sg ∧ RelS K mg O H s ∧
  Post K mg O H (it env s) (fun items _ O' H' => ∀ J, WkM K mg O' H' J items → R J H') (XW K mg W sg)
abbrev RIM (X : Cx) (W : WX) (tg iter : Expr) (it : Rs → M (List D)) : Prop := PI X tg iter (tMIM X.K X.mg W it)
theorem wk_tupM {K : PySem.W.Frag} {mg : Str → Option Value} {O : Ow} {H : Hp} {ds : List D} {a : Addr} {vs : List V} (ta : TupAt K H a vs) (t : DVs K mg O H ds vs) : WkM K mg O H (Itt K a) ds where
  go := fun i O1 H1 x h => by
    obtain ⟨v, e⟩ := at_lt (xs := vs) (by rw [← t.length]; exact h)
    exact ⟨vs, v, (ta.mono x).sq, e⟩
  yld := fun i O1 H1 s y H' lt x r h => by
    obtain ⟨rfl, h⟩ := h
    have e := h vs (ta.mono x).sq
    have hlt : i < ds.length := by rw [t.length]; exact (List.getElem?_eq_some_iff.mp e).1
    obtain ⟨d, ed⟩ := at_lt hlt
    obtain ⟨v, ev, dv⟩ := t.at_ ed
    rw [e] at ev
    cases ev
    exact ⟨d, O1, ed, .refl, r, dv.mono x⟩
  stop := fun O1 H1 x => ⟨vs, (ta.mono x).sq, by rw [t.length]; exact Nat.le_refl _⟩
theorem ri_tupM {X : Cx} {W : WX} {tg e : Expr} {fe : Rs → M D} (h : RE X W e fe) : RIM X W tg e (itTup fe) := by
  refine pi_weak (pi_tup h) fun sg H R ⟨O, env, s, hE, hS, hP⟩ => ?_
  refine ⟨O, env, s, hE, hS, hP.split.imp (fun d s1 O1 H1 _ x1 q1 p1 v dv => ?_) fun _ _ _ _ _ _ z => z⟩
  cases dv with
  | tup ta t => exact ⟨_, rfl, ⟨_, ta.sq⟩, Post.ret p1 q1 _ (wk_tupM ta t)⟩
  | _ => exact p1.elim
/-! ### the turns -/
def insX (q : Dot) (acc : List Dot) : List Dot := if q ∈ acc then acc else acc ++ [q]
def dsI (t1 : TgM) (tt1 : Rs → M Bool) (te : Rs → M D) (env : Rs) : List D → List Dot → M (List Dot)
  | [], acc => ret acc
  | d :: ds, acc => bnd (t1 d env) fun e => bnd (tt1 e) fun k => if k = true then bnd (te e) fun y => match dtOf y with
    | some q => if acc.length + 1 < 64 then dsI t1 tt1 te env ds (insX q acc) else bad
    | none => bad
    else dsI t1 tt1 te env ds acc
def dsO (t : TgM) (tt : Rs → M Bool) (it1 : Rs → M (List D)) (t1 : TgM) (tt1 : Rs → M Bool) (te : Rs → M D) (ws1 : List Nat) (env : Rs) : List D → List Dot → M (List Dot)
  | [], acc => ret acc
  | d :: ds, acc => bnd (t d env) fun e => bnd (tt e) fun k => if k = true then bnd (it1 e) fun its => bnd (dsI t1 tt1 te (wipeR e ws1) its acc) fun acc' => dsO t tt it1 t1 tt1 te ws1 env ds acc'
    else dsO t tt it1 t1 tt1 te ws1 env ds acc
def dsF (fin : List D → M D) (acc : List Dot) : M D := fin ((isortB leDot acc).map dtD)
def ds2M (own ws1 : List Nat) (it : Rs → M (List D)) (t : TgM) (tt : Rs → M Bool) (it1 : Rs → M (List D)) (t1 : TgM) (tt1 : Rs → M Bool) (te : Rs → M D) (fin : List D → M D) : Rs → M D := fun env =>
  bnd (it env) fun items => bnd (nox (dsO t tt it1 t1 tt1 te ws1 (wipeR env own) items [])) (dsF fin)
section
variable {K : PySem.W.Frag} {mg : Str → Option Value} {O O' : Ow} {H H' : Hp}
/-- the rows, and what they are -/
structure Rows (K : PySem.W.Frag) (mg : Str → Option Value) (O : Ow) (H : Hp) (acc : List Dot) (L : List DRow) : Prop where
  eq : L.map (·.2) = acc
  dv : ∀ p ∈ L, DV K mg O H (dtD p.2) (.ref p.1)
theorem Rows.len {acc : List Dot} {L : List DRow} (r : Rows K mg O H acc L) : L.length = acc.length := by rw [← r.eq]; exact (List.length_map _).symm
theorem Rows.mono {acc : List Dot} {L : List DRow} (r : Rows K mg O H acc L) (m : Mono O H O' H') : Rows K mg O' H' acc L := ⟨r.eq, fun p hp => (r.dv p hp).mono m⟩
theorem sq_dot {d : Dot} {v : V} (dv : DV K mg O H (dtD d) v) : ∃ a, v = .ref a ∧ SqD K H (a, d) := by
  obtain ⟨p, vs, e, sq, t⟩ := tupD_ok dv rfl
  refine ⟨p, e, ?_⟩
  cases t with
  | cons a t =>
    cases t with
    | cons b t =>
      cases t with
      | cons c t =>
        cases t
        cases a
        cases b
        cases c
        exact sq
theorem Rows.sq {acc : List Dot} {L : List DRow} (r : Rows K mg O H acc L) : ∀ p ∈ L, SqD K H p := fun p hp => by
  obtain ⟨a, e, h⟩ := sq_dot (r.dv p hp)
  cases e
  exact h
theorem Rows.ins {acc : List Dot} {L : List DRow} {q : Dot} {a : Addr} (r : Rows K mg O H acc L) (dv : DV K mg O H (dtD q) (.ref a)) : Rows K mg O H (insX q acc) (insR (a, q) L) := by
  unfold insX insR
  rw [r.eq]
  by_cases h : q ∈ acc
  · rw [if_pos h, if_pos h]
    exact r
  · rw [if_neg h, if_neg h]
    refine ⟨by rw [List.map_append, r.eq]; rfl, fun p hp => ?_⟩
    rcases List.mem_append.mp hp with z | z
    · exact r.dv p z
    · rw [List.mem_singleton.mp z]; exact dv
theorem Rows.out {acc : List Dot} {L : List DRow} (r : Rows K mg O H acc L) : DVs K mg O H ((isortB leDot acc).map dtD) ((sortR L).map fun p => V.ref p.1) := by
  have e : (isortB leDot acc).map dtD = (sortR L).map fun p => dtD p.2 := by
    rw [← r.eq, ← sortR_dots, List.map_map]
    rfl
  rw [e]
  have key : ∀ l : List DRow, (∀ p ∈ l, DV K mg O H (dtD p.2) (.ref p.1)) → DVs K mg O H (l.map fun p => dtD p.2) (l.map fun p => V.ref p.1) := fun l => by
    induction l with
    | nil => exact fun _ => .nil
    | cons p t ih => exact fun h => .cons (h p (by simp)) (ih fun q hq => h q (by simp [hq]))
  exact key _ fun p hp => r.dv p (sortR_mem.mp hp)
end
theorem ds2_ok {X : Cx} {K : PySem.W.Frag} {mg : Str → Option Value} {W : WX} {own ws1 : List Nat} {it it1 : Rs → M (List D)} {t t1 : TgM} {tt tt1 : Rs → M Bool} {te : Rs → M D} {fin : List D → M D} (hf : NewOk K mg fin) {sg : L2.St} {H : Hp} {Q : VK}
    (h : tM K mg W (ds2M own ws1 it t tt it1 t1 tt1 te fin) sg H Q) : tCB (rSortDt X.prog X.w K) (tCons (tSet2 (X := X) (dotSet X.prog X.w) (adT K) (tMI K mg W it) (tMG K mg own t) (tMT K mg W0 tt) (tMIM K mg W0 it1) (tMG K mg ws1 t1) (tMT K mg W0 tt1) (tM K mg W0 te) own ws1) tNil) sg H Q := by
  obtain ⟨O, env, s, hE, hS, hP⟩ := h
  refine ⟨O, env, s, hE, hS, hP.split.imp (fun items s1 O1 H1 _ x1 q1 p1 J wk => ?_) fun _ _ _ _ _ _ z => z⟩
  intro D hD
  obtain ⟨zs, sz, ez, pz⟩ := nox_ok p1
  have b0 := beside (o := (dotSet X.prog X.w).so D []) q1 (.refl : Ext O1 H1 O1 H1) hD (notMu q1 hD) (notFz q1 hD) (fun xs e => by rw [hD] at e; cases e) (fun x y e => by rw [hD] at e; cases e)
  have hE1 : RelE K mg O1 H1 (wipeR env own) (wipe sg own) := (hE.mono x1.toMono).wipe own
  refine ⟨fun i m H => m = items.length - i ∧ i ≤ items.length ∧ ∃ O s acc L, Ext O1 H1 O H ∧ D ∉ O.mu ∧ ¬ O.fz D ∧ H D = some ((dotSet X.prog X.w).so D L) ∧ Rows K mg O H acc L ∧ RelE K mg O H (wipeR env own) (wipe sg own) ∧ RelS K mg O H s ∧
      dsO t tt it1 t1 tt1 te ws1 (wipeR env own) (items.drop i) acc s = .ok zs sz,
    ⟨items.length, by simp, Nat.zero_le _, O1, s1, [], [], b0.2.1, notMu q1 hD, notFz q1 hD, upd_same, ⟨rfl, fun p hp => by cases hp⟩, hE1.mono b0.1, b0.2.2, ez⟩, ?_⟩
  rintro i m H2 ⟨rfl, hi, O2, s2, acc, L, x2, nm, nf, eD, rw2, hE2, hS2, er⟩
  by_cases hlt : i < items.length
  · refine .inr ⟨wk.go i O2 H2 x2 hlt, fun H => i + 1 ≤ items.length ∧ ∃ O s acc L, Ext O1 H1 O H ∧ D ∉ O.mu ∧ ¬ O.fz D ∧ H D = some ((dotSet X.prog X.w).so D L) ∧ Rows K mg O H acc L ∧ RelE K mg O H (wipeR env own) (wipe sg own) ∧ RelS K mg O H s ∧
      dsO t tt it1 t1 tt1 te ws1 (wipeR env own) (items.drop (i + 1)) acc s = .ok zs sz, fun H' ⟨a, b⟩ => ⟨items.length - (i + 1), by omega, rfl, a, b⟩, fun y H3 hy => ?_⟩
    obtain ⟨d, O3, ed, x3, q3, dv⟩ := wk.yld i O2 H2 s2 y H3 hlt x2 hS2 hy
    have edr : items.drop i = d :: items.drop (i + 1) := by
      rw [List.drop_eq_getElem_cons (h := hlt)]
      rw [List.getElem?_eq_getElem hlt] at ed
      rw [Option.some.inj ed]
    rw [edr] at er
    obtain ⟨e4, s4, h4, er⟩ := bnd_ok er
    obtain ⟨k, s5, h5, er⟩ := bnd_ok er
    obtain ⟨nm3, nf3, eD3⟩ := x3.beside nm nf eD
    have x13 := x2.trans hS2 x3
    refine ⟨O3, wipeR env own, s2, d, hE2.mono x3.toMono, q3, dv, ?_⟩
    rw [h4]
    intro O4 H4 sg4 x4 q4 r4 w4
    refine ⟨w4.trans (wipe_twice own sg), O4, e4, s4, r4, q4, ?_⟩
    rw [h5]
    intro O5 H5 x5 q5
    have x14 := x13.trans q3 x4
    have x15 := x14.trans q4 x5
    obtain ⟨nm4, nf4, eD4⟩ := x4.beside nm3 nf3 eD3
    obtain ⟨nm5, nf5, eD5⟩ := x5.beside nm4 nf4 eD4
    have m25 := ((x3.toMono.trans x4.toMono).trans x5.toMono)
    cases k with
    | false =>
      rw [if_neg Bool.false_ne_true] at er
      exact iteFF ⟨hlt, O5, s5, acc, L, x15, nm5, nf5, eD5, rw2.mono m25, hE2.mono m25, q5, er⟩
    | true =>
      rw [if_pos rfl] at er
      refine iteTT ?_
      obtain ⟨its, s6, h6, er⟩ := bnd_ok er
      obtain ⟨acc', s7, h7, er⟩ := bnd_ok er
      refine ⟨O5, e4, s5, r4.mono x5.toMono, q5, ?_⟩
      rw [h6]
      intro O6 H6 x6 q6 J1 wk1
      have x16 := x15.trans q5 x6
      obtain ⟨nm6, nf6, eD6⟩ := x6.beside nm5 nf5 eD5
      have m26 := m25.trans x6.toMono
      have rE6 : RelE K mg O6 H6 (wipeR e4 ws1) (wipe sg4 ws1) := ((r4.mono x5.toMono).mono x6.toMono).wipe ws1
      refine ⟨fun j k H => k = its.length - j ∧ j ≤ its.length ∧ ∃ O s acc L, Ext O1 H1 O H ∧ Mono O6 H6 O H ∧ D ∉ O.mu ∧ ¬ O.fz D ∧ H D = some ((dotSet X.prog X.w).so D L) ∧ Rows K mg O H acc L ∧ RelE K mg O H (wipeR env own) (wipe sg own) ∧ RelE K mg O H (wipeR e4 ws1) (wipe sg4 ws1) ∧ RelS K mg O H s ∧
          dsI t1 tt1 te (wipeR e4 ws1) (its.drop j) acc s = .ok acc' s7,
        ⟨its.length, by simp, Nat.zero_le _, O6, s6, acc, L, x16, ⟨⟨[], by simp⟩, fun _ h => h, fun _ _ _ e => e, fun _ _ e => e, fun _ _ _ e => e⟩, nm6, nf6, eD6, rw2.mono m26, hE2.mono m26, rE6, q6, h7⟩, ?_⟩
      rintro j k H7 ⟨rfl, hj, O7, s7', acc7, L7, x17, m67, nm7, nf7, eD7, rw7, hE7, rE7, hS7, er7⟩
      by_cases hlt7 : j < its.length
      · refine .inr ⟨wk1.go j O7 H7 m67 hlt7, fun H => j + 1 ≤ its.length ∧ ∃ O s acc L, Ext O1 H1 O H ∧ Mono O6 H6 O H ∧ D ∉ O.mu ∧ ¬ O.fz D ∧ H D = some ((dotSet X.prog X.w).so D L) ∧ Rows K mg O H acc L ∧ RelE K mg O H (wipeR env own) (wipe sg own) ∧ RelE K mg O H (wipeR e4 ws1) (wipe sg4 ws1) ∧ RelS K mg O H s ∧
          dsI t1 tt1 te (wipeR e4 ws1) (its.drop (j + 1)) acc s = .ok acc' s7, fun H' ⟨a, b⟩ => ⟨its.length - (j + 1), by omega, rfl, a, b⟩, fun y1 H8 hy1 => ?_⟩
        obtain ⟨d1, O8, ed1, x8, q8, dv1⟩ := wk1.yld j O7 H7 s7' y1 H8 hlt7 m67 hS7 hy1
        have edr1 : its.drop j = d1 :: its.drop (j + 1) := by
          rw [List.drop_eq_getElem_cons (h := hlt7)]
          rw [List.getElem?_eq_getElem hlt7] at ed1
          rw [Option.some.inj ed1]
        rw [edr1] at er7
        obtain ⟨e9, s9, h9, er7⟩ := bnd_ok er7
        obtain ⟨k1, s10, h10, er7⟩ := bnd_ok er7
        obtain ⟨nm8, nf8, eD8⟩ := x8.beside nm7 nf7 eD7
        have x18 := x17.trans hS7 x8
        refine ⟨O8, wipeR e4 ws1, s7', d1, rE7.mono x8.toMono, q8, dv1, ?_⟩
        rw [h9]
        intro O9 H9 sg9 x9 q9 r9 w9
        refine ⟨w9.trans (wipe_twice ws1 sg4), O9, e9, s9, r9, q9, ?_⟩
        rw [h10]
        intro O10 H10 x10 q10
        have x19 := x18.trans q8 x9
        have x110 := x19.trans q9 x10
        obtain ⟨nm9, nf9, eD9⟩ := x9.beside nm8 nf8 eD8
        obtain ⟨nm10, nf10, eD10⟩ := x10.beside nm9 nf9 eD9
        have m710 := ((x8.toMono.trans x9.toMono).trans x10.toMono)
        cases k1 with
        | false =>
          rw [if_neg Bool.false_ne_true] at er7
          exact iteFF ⟨hlt7, O10, s10, acc7, L7, x110, m67.trans m710, nm10, nf10, eD10, rw7.mono m710, hE7.mono m710, rE7.mono m710, q10, er7⟩
        | true =>
          rw [if_pos rfl] at er7
          refine iteTT ?_
          obtain ⟨z11, s11, h11, er7⟩ := bnd_ok er7
          refine ⟨O10, e9, s10, r9.mono x10.toMono, q10, ?_⟩
          rw [h11]
          intro O11 H11 x11 q11 v11 dv11
          obtain ⟨nm11, nf11, eD11⟩ := x11.beside nm10 nf10 eD10
          have x111 := x110.trans q10 x11
          have m711 := m710.trans x11.toMono
          cases ek : dtOf z11 with
          | none => rw [ek] at er7; cases er7
          | some q =>
            rw [ek] at er7
            dsimp only at er7
            by_cases hl : acc7.length + 1 < 64
            · rw [if_pos hl] at er7
              have ez11 := dtOf_eq ek
              subst ez11
              obtain ⟨a11, rfl, sq11⟩ := sq_dot dv11
              have rows11 := rw7.mono m711
              have b7 := beside (o := (dotSet X.prog X.w).so D (insR (a11, q) L7)) q11 x111 hD nm11 nf11 (fun xs e => by rw [eD11] at e; cases e) (fun x y e => by rw [eD11] at e; cases e)
              have ln : List.length (α := DRow) L7 = acc7.length := rw7.len
              exact ⟨L7, insR (a11, q) L7, eD11, ⟨(a11, q), rfl, sq11, rows11.sq, by omega, rfl⟩, hlt7, O11, s11, _, _, b7.2.1, (m67.trans m711).trans b7.1, nm11, nf11, upd_same, (rows11.ins dv11).mono b7.1, (hE7.mono m711).mono b7.1, (rE7.mono m711).mono b7.1, b7.2.2, er7⟩
            · rw [if_neg hl] at er7; cases er7
      · have e : j = its.length := by omega
        subst e
        rw [List.drop_length] at er7
        have erq : (Res.ok acc7 s7' : Res (List Dot)) = .ok acc' s7 := er7
        injection erq with e8 e9
        subst e8
        subst e9
        exact .inl ⟨wk1.stop O7 H7 m67, hlt, O7, s7', acc7, L7, x17, nm7, nf7, eD7, rw7, hE7, hS7, er⟩
  · have e : i = items.length := by omega
    subst e
    rw [List.drop_length] at er
    have erq : (Res.ok acc s2 : Res (List Dot)) = .ok zs sz := er
    injection erq with e8 e9
    subst e8
    subst e9
    refine .inl ⟨wk.stop O2 H2 x2, ?_⟩
    exact ⟨D, L, rfl, eD, rw2.sq, fun l hl' => hf O2 H2 s2 l _ _ Q _ hS2 hl' rw2.out (Post.ext pz x2 hS2)⟩
section
variable {X : Cx} {W : WX}
theorem re_sortDots2 {fin : List D → M D} (hf : NewOk X.K X.mg fin) {elt tg iter tg1 iter1 : Expr} {ifs ifs1 : List Expr} {scope : Scope} (own : List (Str × Nat)) (ws1 : List Nat) {p pos pos2 : Pos} {it it1 : Rs → M (List D)} {t t1 : TgM} {tt tt1 : Rs → M Bool} {te : Rs → M D} (hc : X.calm = true) (hu : X.A.units + 100 < cLine) (hm : X.mg "sorted" = none) (hN : X.N.Nodup) (ok : blkC X.N X.env.scope scope own = true) (hv : ∀ i ∈ ws1, i ∈ own.map (·.2)) (hi : RI X W tg iter it)
    (hg : ∀ (s : Shared) (H : Hp) (C : Addr) (cl : List (Str × Addr)) (fp : List Addr), RG (X.blk s H scope (compEnvC scope cl C X.env) fp) (own.map (·.2)) tg t)
    (ht : ∀ (s : Shared) (H : Hp) (C : Addr) (cl : List (Str × Addr)) (fp : List Addr), RTs (X.blk s H scope (compEnvC scope cl C X.env) fp) W0 ifs tt)
    (hi1 : ∀ (s : Shared) (H : Hp) (C : Addr) (cl : List (Str × Addr)) (fp : List Addr), RIM (X.blk s H scope (compEnvC scope cl C X.env) fp) W0 tg1 iter1 it1)
    (hg1 : ∀ (s : Shared) (H : Hp) (C : Addr) (cl : List (Str × Addr)) (fp : List Addr), RG (X.blk s H scope (compEnvC scope cl C X.env) fp) ws1 tg1 t1)
    (ht1 : ∀ (s : Shared) (H : Hp) (C : Addr) (cl : List (Str × Addr)) (fp : List Addr), RTs (X.blk s H scope (compEnvC scope cl C X.env) fp) W0 ifs1 tt1)
    (he : ∀ (s : Shared) (H : Hp) (C : Addr) (cl : List (Str × Addr)) (fp : List Addr), RE (X.blk s H scope (compEnvC scope cl C X.env) fp) W0 elt te) (hgl : Gl X "sorted" := by rfl) (hs : ∀ x, foldedSetIterable iter X.env x = pure x := by intro _; rfl) (hs1 : ∀ env x, foldedSetIterable iter1 env x = pure x := by intro _ _; rfl)
    (hst : starEach [.SetComp elt [⟨tg, iter, ifs, 0⟩, ⟨tg1, iter1, ifs1, 0⟩] scope pos] X.env = (false, eval (.SetComp elt [⟨tg, iter, ifs, 0⟩, ⟨tg1, iter1, ifs1, 0⟩] scope pos) X.env) :: starEach [] X.env := by rfl) :
    RE X W (.Call (.Name "sorted" p) [.SetComp elt [⟨tg, iter, ifs, 0⟩, ⟨tg1, iter1, ifs1, 0⟩] scope pos] [] pos2) (ds2M (own.map (·.2)) ws1 it t tt it1 t1 tt1 te fin) := by
  have z : PE X (.SetComp elt [⟨tg, iter, ifs, 0⟩, ⟨tg1, iter1, ifs1, 0⟩] scope pos) (tSet2 (dotSet X.prog X.w) (adT X.K) (tMI X.K X.mg W it) (tMG X.K X.mg (own.map (·.2)) t) (tMT X.K X.mg W0 tt) (tMIM X.K X.mg W0 it1) (tMG X.K X.mg ws1 t1) (tMT X.K X.mg W0 tt1) (tM X.K X.mg W0 te) (own.map (·.2)) ws1) :=
    pe_setC2 (dotSet X.prog X.w) (adT X.K) hc hN hi (blkOk_by ok) hv hg ht hi1 hg1 ht1 he (fun s H C cl fp => dotSet_add (X := X.blk s H scope (compEnvC scope cl C X.env) fp) hu) hs hs1
  exact pe_weak (pe_callB (call_sortDt hc (by omega)) hgl hm (by with_unfolding_all rfl) (pa_cons z pa_nil hst) (by decide) (by decide) hst rfl) fun _ _ _ h => ds2_ok hf h
end
end Md

set_option Elab.async false
set_option linter.all false
set_option maxRecDepth 100000
set_option maxHeartbeats 2000000
/-! Md36: sorted(set(xs)) of keys, of dots. -/
namespace Md
open PySem PySem.Spec PyProof.Rows L2

def insRs (L : List DRow) : List DRow := L.foldl (fun acc p => insR p acc) []
def insXs (qs : List Dot) : List Dot := qs.foldl (fun acc q => insX q acc) []
def dtsD : List D → Option (List Dot)
  | [] => some []
  | d :: r => match dtOf d, dtsD r with
    | some q, some qs => some (q :: qs)
    | _, _ => none
theorem insR_len (p : DRow) (L : List DRow) : (insR p L).length ≤ L.length + 1 := by
  unfold insR
  split
  · omega
  · simp
theorem insRs_len (L : List DRow) : ∀ i, (insRs (L.take i)).length ≤ i := by
  intro i
  have key : ∀ (l acc : List DRow), (l.foldl (fun acc p => insR p acc) acc).length ≤ acc.length + l.length := by
    intro l
    induction l with
    | nil => intro acc; simp
    | cons x t ih =>
      intro acc
      have a := ih (insR x acc)
      have b := insR_len x acc
      rw [List.foldl_cons, List.length_cons]
      omega
  have := key (L.take i) []
  have l := List.length_take_le i L
  unfold insRs
  simp at this l
  omega
theorem insRs_next {L : List DRow} {i : Nat} {p : DRow} (h : L[i]? = some p) : insRs (L.take (i + 1)) = insR p (insRs (L.take i)) := by
  unfold insRs
  rw [List.take_add_one, h, List.foldl_append]
  rfl
theorem insR_sub {p q : DRow} {L : List DRow} (h : q ∈ insR p L) : q = p ∨ q ∈ L := by
  unfold insR at h
  split at h
  · exact .inr h
  · rcases List.mem_append.mp h with z | z
    · exact .inr z
    · exact .inl (List.mem_singleton.mp z)
theorem insRs_sub {L : List DRow} {q : DRow} (h : q ∈ insRs L) : q ∈ L := by
  have key : ∀ (l acc : List DRow), q ∈ l.foldl (fun acc p => insR p acc) acc → q ∈ acc ∨ q ∈ l := by
    intro l
    induction l with
    | nil => intro acc h; exact .inl h
    | cons x t ih =>
      intro acc h
      rcases ih _ h with z | z
      · rcases insR_sub z with z | z
        · exact .inr (by rw [z]; exact List.mem_cons_self)
        · exact .inl z
      · exact .inr (List.mem_cons_of_mem _ z)
  rcases key L [] h with z | z
  · cases z
  · exact z
theorem insR_dots (p : DRow) (L : List DRow) : (insR p L).map (·.2) = insX p.2 (L.map (·.2)) := by
  unfold insR insX
  split
  · rfl
  · rw [List.map_append]; rfl
theorem insRs_dots (L : List DRow) : (insRs L).map (·.2) = insXs (L.map (·.2)) := by
  have key : ∀ (l acc : List DRow), (l.foldl (fun acc p => insR p acc) acc).map (·.2) = (l.map (·.2)).foldl (fun acc q => insX q acc) (acc.map (·.2)) := by
    intro l
    induction l with
    | nil => intro acc; rfl
    | cons x t ih =>
      intro acc
      rw [List.foldl_cons, ih, insR_dots]
      rfl
  exact key L []
def rSetDt (P : Program) (w : World) (K : PySem.W.Frag) : List V → Hp → VK → Prop := fun xs H Q => ∃ (l : Addr) (L : List DRow), xs = [.ref l] ∧ (SqL K H l (L.map fun p => V.ref p.1) ∨ SqT K H l (L.map fun p => V.ref p.1)) ∧ (∀ p ∈ L, SqD K H p) ∧ L.length + 1 < 64 ∧ ∀ a, H a = none → Q (.ref a) (upd H a ((dotSet P w).so a (insRs L)))
theorem vals_row : ∀ {L : List DRow} {us : List Value}, Vals (L.map fun p => V.ref p.1) us → ∀ {i : Nat} {v : Value}, us[i]? = some v → ∃ p, L[i]? = some p ∧ v = .ref p.1
  | [], _, .nil, i, v, h => by simp at h
  | p :: L, _, .cons a b, i, v, h => by
    cases i with
    | zero =>
      simp at h
      subst h
      exact ⟨p, rfl, a⟩
    | succ i => exact vals_row b (by simpa using h)
theorem isTk_keep {P : Program} {w : World} {h h' : Heap} {k : Tk} {b : Addr} (kp : ∀ b o, h.get? b = some o → h'.get? b = some o) (t : isTk P w h k b) : isTk P w h' k b := by
  obtain ⟨o, its, n, ho, r⟩ := t
  exact ⟨o, its, n, kp _ _ ho, r⟩
theorem cr_setDt {X : Cx} (hc : X.calm = true) (hu : X.A.units + 64 < cLine) : CallR X (.type "set") (rSetDt X.prog X.w X.K) := by
  intro pins s sg H xs us Q I r ⟨l, L, ex, hs, hL, room, q⟩
  subst ex
  obtain ⟨u, rfl, ru⟩ := r.one
  obtain rfl : u = .ref l := ru
  have step : ∀ (A : Around), A.units < cLine → ∀ (us : List Value), Vals (L.map fun p => V.ref p.1) us → ∀ i v E, us[i]? = some v → StepOk A (dotSet X.prog X.w) E s.heap.objs.size s.heap v (insRs (L.take i)) (insRs (L.take (i + 1))) := by
    intro A hA us rv i v E hv s' Q' kp hS hQ
    obtain ⟨p, hp, rfl⟩ := vals_row rv hv
    have lt := (List.getElem?_eq_some_iff.mp hp).1
    have := insRs_len L i
    have mem : p ∈ L := List.mem_of_getElem? hp
    refine dts_sadd (P := X.prog) (w := X.w) (d := p.2) hS (fun z hz => isTk_keep kp (inv_tk I (hL z (List.mem_of_mem_take (insRs_sub hz))))) (isTk_keep kp (inv_tk I (hL p mem))) hA (by omega) fun b h' tk le sb R => hQ b h' tk le sb ?_
    rw [insRs_next hp]
    exact R
  have fin : ∀ (us : List Value), Vals (L.map fun p => V.ref p.1) us → ∀ (h' : Heap) (tk : Nat), (dotSet X.prog X.w).pr h' s.heap.objs.size (insRs (L.take us.length)) → (∀ b o, s.heap.get? b = some o → h'.get? b = some o) → EP X pins sg Q (.ref s.heap.objs.size) { s with heap := h', toks := tk } := by
    intro us rv h' tk hS kp
    have len : us.length = L.length := by rw [← rv.length, List.length_map]
    rw [len, List.take_length] at hS
    exact ⟨.ref s.heap.objs.size, upd H s.heap.objs.size ((dotSet X.prog X.w).so s.heap.objs.size (insRs L)), I.laid kp (Nat.le_refl _) ((dotSet X.prog X.w).ok hS), rfl, q _ (I.hok.fresh (Nat.le_refl _))⟩
  rcases hs with hs | hs
  · obtain ⟨its, rv, ⟨⟨cls, dd, data, sl⟩, n, ho, hcc, hdn, hd⟩, hlen⟩ := I.list hs
    simp only at hcc hd
    subst hcc hd
    refine call_set_list (dotSet X.prog X.w) (fun i => insRs (L.take i)) rfl (I.ok.hd hc) ⟨_, ho, rfl, n, rfl⟩ (fun i v E hv => step _ (by simp; omega) its rv i v E (by simpa using hv)) fun h' tk hS kp => ?_
    exact fin its rv h' tk (by simpa using hS) kp
  · obtain ⟨its, rv, ht, hlen⟩ := I.tuple hs
    refine call_set_tuple (dotSet X.prog X.w) (fun i => insRs (L.take i)) rfl (I.ok.hd hc) ht (fun i v E hv => step _ (by simp; omega) its rv i v E (by simpa using hv)) fun h' tk hS kp => ?_
    exact fin its rv h' tk (by simpa using hS) kp
section
variable {K : PySem.W.Frag} {mg : Str → Option Value} {O : Ow} {H : Hp}
theorem dvs_rows : ∀ {ds : List Md.D} {vs : List V} {qs : List Dot}, DVs K mg O H ds vs → dtsD ds = some qs → ∃ L : List DRow, vs = L.map (fun p => V.ref p.1) ∧ Rows K mg O H qs L
  | [], _, qs, .nil, e => by
    cases e
    exact ⟨[], rfl, ⟨rfl, fun p hp => by cases hp⟩⟩
  | d :: r, _, qs, .cons a t, e => by
    unfold dtsD at e
    cases e1 : dtOf d with
    | none => rw [e1] at e; cases e
    | some q =>
      cases e2 : dtsD r with
      | none => rw [e1, e2] at e; cases e
      | some qs' =>
        rw [e1, e2] at e
        cases e
        obtain rfl := dtOf_eq e1
        obtain ⟨L, rfl, rw⟩ := dvs_rows t e2
        obtain ⟨b, rfl, sq⟩ := sq_dot a
        refine ⟨(b, q) :: L, rfl, ⟨by rw [List.map_cons, rw.eq], fun p hp => ?_⟩⟩
        rcases List.mem_cons.mp hp with z | z
        · rw [z]; exact a
        · exact rw.dv p z
theorem rows_insRs {qs : List Dot} {L : List DRow} (r : Rows K mg O H qs L) : Rows K mg O H (insXs qs) (insRs L) := ⟨by rw [insRs_dots, r.eq], fun p hp => r.dv p (insRs_sub hp)⟩
end
def stOf (fin : List D → M D) : D → M D := fun d s => match seqD s d with
  | some ds => (match kysD ds with
    | some ks => if ks.length + 1 < scanBound then ksF fin (insAll ks) s else .bad
    | none => (match dtsD ds with
      | some qs => if qs.length + 1 < 64 then dsF fin (insXs qs) s else .bad
      | none => .bad))
  | none => .bad
def rSetE (P : Program) (w : World) (K : PySem.W.Frag) : List V → Hp → VK → Prop := fun xs H Q => rSetKs P w K xs H Q ∨ rSetDt P w K xs H Q
def rSortE (P : Program) (w : World) (K : PySem.W.Frag) : List V → Hp → VK → Prop := fun xs H Q => rSortSet P w xs H Q ∨ rSortDt P w K xs H Q
theorem stOf_ok {P : Program} {w : World} {K : PySem.W.Frag} {mg : Str → Option Value} {fin : List D → M D} (hf : NewOk K mg fin) : CallOk K mg (fun xs H Q => rSetE P w K xs H fun x H2 => rSortE P w K [x] H2 Q) (arg1 (stOf fin)) := call1 fun O H s d v Q X' r dv h => by
  unfold stOf at h
  cases e : seqD s d with
  | none => rw [e] at h; exact h.elim
  | some ds =>
    rw [e] at h
    dsimp only at h
    obtain ⟨p, vs, rfl, sq, t⟩ := seqD_ok r dv e
    cases e2 : kysD ds with
    | some ks =>
      rw [e2] at h
      dsimp only at h
      rw [keysV t e2] at sq
      by_cases hl : ks.length + 1 < scanBound
      · rw [if_pos hl] at h
        refine .inl ⟨p, ks, rfl, sq, hl, fun a ha => .inl ?_⟩
        unfold ksF at h
        cases e3 : sortKey (insAll ks) with
        | none => rw [e3] at h; exact h.elim
        | some zs =>
          rw [e3] at h
          dsimp only at h
          by_cases h3 : zs.length ≤ sizeLine
          · rw [if_pos h3] at h
            have b0 := beside (o := (keySet P w).so a (insAll ks)) r (.refl : Ext O H O H) ha (notMu r ha) (notFz r ha) (fun xs e => by rw [ha] at e; cases e) (fun x y e => by rw [ha] at e; cases e)
            exact ⟨a, insAll ks, zs, rfl, upd_same, e3, h3, fun l hl' => hf O _ s l _ _ Q _ b0.2.2 hl' (qD_kV zs) (Post.ext h b0.2.1 b0.2.2)⟩
          · rw [if_neg h3] at h; exact h.elim
      · rw [if_neg hl] at h; exact h.elim
    | none =>
      rw [e2] at h
      dsimp only at h
      cases e4 : dtsD ds with
      | none => rw [e4] at h; exact h.elim
      | some qs =>
        rw [e4] at h
        dsimp only at h
        by_cases hl : qs.length + 1 < 64
        · rw [if_pos hl] at h
          obtain ⟨L, rfl, rw1⟩ := dvs_rows t e4
          refine .inr ⟨p, L, rfl, sq, rw1.sq, by rw [rw1.len]; exact hl, fun a ha => .inr ?_⟩
          have b0 := beside (o := (dotSet P w).so a (insRs L)) r (.refl : Ext O H O H) ha (notMu r ha) (notFz r ha) (fun xs e => by rw [ha] at e; cases e) (fun x y e => by rw [ha] at e; cases e)
          have rw2 := (rows_insRs rw1).mono b0.1
          exact ⟨a, insRs L, rfl, upd_same, rw2.sq, fun l hl' => hf O _ s l _ _ Q _ b0.2.2 hl' rw2.out (Post.ext h b0.2.1 b0.2.2)⟩
        · rw [if_neg hl] at h; exact h.elim
section
variable {X : Cx} {W : WX} {e : Expr} {fa : Rs → M (List D)} {p p2 q pos : Pos}
theorem cr_setE (hc : X.calm = true) (hu : X.A.units + 64 < cLine) : CallR X (.type "set") (rSetE X.prog X.w X.K) := by
  intro pins s sg H xs us Q I r h
  rcases h with h | h
  · exact cr_setKs hc pins s sg H xs us Q I r h
  · exact cr_setDt hc hu pins s sg H xs us Q I r h
theorem call_sortE (hc : X.calm = true) (hu : X.A.units + 64 < cLine) : CallR X (.builtin "sorted") (rSortE X.prog X.w X.K) := by
  intro pins s sg H xs us Q I r h
  rcases h with h | h
  · exact call_sortSet hc hu pins s sg H xs us Q I r h
  · exact call_sortDt hc hu pins s sg H xs us Q I r h
theorem re_sortOfSet2 {fin : List D → M D} (hf : NewOk X.K X.mg fin) (hc : X.calm = true) (hu : X.A.units + 64 < cLine) (hm : X.mg "sorted" = none) (hm2 : X.mg "set" = none) (ha : RA X W [e] fa) (hg : Gl X "sorted" := by rfl) (hg2 : Gl X "set" := by rfl)
    (he : starEach [e] X.env = (false, eval e X.env) :: starEach [] X.env := by rfl)
    (hst : starEach [.Call (.Name "set" p2) [e] [] q] X.env = (false, eval (.Call (.Name "set" p2) [e] [] q) X.env) :: starEach [] X.env := by rfl) :
    RE X W (.Call (.Name "sorted" p) [.Call (.Name "set" p2) [e] [] q] [] pos) (callM (arg1 (stOf fin)) [] fa) := by
  have z := pe_callTy (p := p2) (pos := q) (cr_setE hc hu) hg2 hm2 (by with_unfolding_all rfl) ha (by decide) (by decide) he rfl
  refine pe_weak (pe_callB (call_sortE hc hu) hg hm (by with_unfolding_all rfl) (pa_cons z pa_nil hst) (by decide) (by decide) hst rfl) fun sg H Q ⟨O, env, s, hE, hS, hP⟩ => ?_
  refine ⟨O, env, s, hE, hS, hP.split.imp (fun ds s1 O1 H1 _ x1 q1 p1 vs dv => ?_) fun _ _ _ _ _ _ z => z⟩
  rw [List.append_nil] at p1
  exact stOf_ok hf O1 H1 s1 ds vs Q _ q1 dv p1
end
end Md

set_option Elab.async false
set_option linter.all false
set_option maxRecDepth 100000
set_option maxHeartbeats 1000000
/-! Md37: a, b = x, y of plain names (stored from the right). -/
namespace Md
open PySem PySem.Spec PyProof.Rows L2

section
variable {K : PySem.W.Frag} {mg : Str → Option Value} {O : Ow} {H : Hp}
theorem dvs_two : ∀ {ds : List Md.D} {vs : List V}, DVs K mg O H ds vs → ds.length = 2 → ∃ d1 d2 v1 v2, ds = [d1, d2] ∧ vs = [v1, v2] ∧ DV K mg O H d1 v1 ∧ DV K mg O H d2 v2
  | _, _, .cons a (.cons b .nil), _ => ⟨_, _, _, _, rfl, rfl, a, b⟩
theorem dvs_three : ∀ {ds : List Md.D} {vs : List V}, DVs K mg O H ds vs → ds.length = 3 → ∃ d1 d2 d3 v1 v2 v3, ds = [d1, d2, d3] ∧ vs = [v1, v2, v3] ∧ DV K mg O H d1 v1 ∧ DV K mg O H d2 v2 ∧ DV K mg O H d3 v3
  | _, _, .cons a (.cons b (.cons c .nil)), _ => ⟨_, _, _, _, _, _, rfl, rfl, a, b, c⟩
end
section
variable {X : Cx} {W : WX} {a b c : Expr} {fa : Rs → M (List D)} {pos px py pz pt : Pos} {x y z : Str}
theorem par_thn (fa : Rs → M (List D)) (t : TgM) (env : Rs) (s : S) : asg (tupE fa) t env s = thn fa (fun ds => if ds.length ≤ sizeLine then tgS t (.tup ds) else badS) env s := by
  unfold asg tupE thn bnd
  cases e : fa env s with
  | ok ds s1 =>
    by_cases h : ds.length ≤ sizeLine
    · simp only [e, h, if_true]; rfl
    · simp only [e, h, if_false]; rfl
  | exc d s1 => simp only [e]
  | bad => simp only [e]
theorem rs_par {kt k2 : Nat} {pt2 : Pos} (i j : Nat) (hc : X.calm = true) (hN : X.N.Nodup) (ha : RA X W [a, b] fa) (hij : i ≠ j := by decide) (hi : X.N[i]? = some x := by rfl) (hj : X.N[j]? = some y := by rfl)
    (hx : X.env.scope.names.lookup x = some .local := by rfl) (hy : X.env.scope.names.lookup y = some .local := by rfl)
    (hw : swappedStores [.Tuple [.Name x px, .Name y py] kt pt] (.Tuple [a, b] k2 pt2) X.env = pure (some [x, y]) := by rfl)
    (hs : swapsWithSole [.Tuple [.Name x px, .Name y py] kt pt] (.Tuple [a, b] k2 pt2) pos.line X.env = pure false := by rfl) :
    RS X W (.Assign [.Tuple [.Name x px, .Name y py] kt pt] (.Tuple [a, b] k2 pt2) pos) (asg (tupE fa) (toSeq 2 (toCons (toN i) (toCons (toN j) toNil)))) := by
  refine ps_weak (ps_par hc hN hi hj hij hx hy ha hw hs) fun E sg H ⟨O, env, s, hE, hS, hP⟩ => ?_
  rw [par_thn] at hP
  refine ⟨O, env, s, hE, hS, (hP.thn hE).imp (fun ds s1 O1 H1 _ x1 q p vs dv => ?_) fun _ _ _ _ _ _ z => z⟩
  by_cases h1 : ds.length ≤ sizeLine
  · rw [if_pos h1] at p
    by_cases h2 : ds.length = 2
    · obtain ⟨d1, d2, v1, v2, rfl, rfl, a1, a2⟩ := dvs_two dv h2
      refine ⟨v1, v2, rfl, ?_⟩
      exact p O1 H1 _ .refl q (((hE.mono x1.toMono).set a1 i).set a2 j)
    · have e : tgS (toSeq 2 (toCons (toN i) (toCons (toN j) toNil))) (.tup ds) env s1 = .bad := by
        unfold tgS toSeq
        show (match (if ds.length = 2 then _ else Res.bad : Res Rs) with | .ok e s' => SR.nx e s' | _ => .bad) = _
        rw [if_neg h2]
      rw [e] at p
      exact p.elim
  · rw [if_neg h1] at p
    exact p.elim
theorem rs_par3 {kt k2 : Nat} {pt2 : Pos} (i j l : Nat) (hc : X.calm = true) (hN : X.N.Nodup) (ha : RA X W [a, b, c] fa) (hij : i ≠ j := by decide) (hil : i ≠ l := by decide) (hjl : j ≠ l := by decide) (hi : X.N[i]? = some x := by rfl) (hj : X.N[j]? = some y := by rfl) (hl : X.N[l]? = some z := by rfl)
    (hx : X.env.scope.names.lookup x = some .local := by rfl) (hy : X.env.scope.names.lookup y = some .local := by rfl) (hz : X.env.scope.names.lookup z = some .local := by rfl)
    (hw : swappedStores [.Tuple [.Name x px, .Name y py, .Name z pz] kt pt] (.Tuple [a, b, c] k2 pt2) X.env = pure (some [x, y, z]) := by rfl)
    (hs : swapsWithSole [.Tuple [.Name x px, .Name y py, .Name z pz] kt pt] (.Tuple [a, b, c] k2 pt2) pos.line X.env = pure false := by rfl) :
    RS X W (.Assign [.Tuple [.Name x px, .Name y py, .Name z pz] kt pt] (.Tuple [a, b, c] k2 pt2) pos) (asg (tupE fa) (toSeq 3 (toCons (toN i) (toCons (toN j) (toCons (toN l) toNil))))) := by
  refine ps_weak (ps_par3 hc hN hi hj hl hij hil hjl hx hy hz ha hw hs) fun E sg H ⟨O, env, s, hE, hS, hP⟩ => ?_
  rw [par_thn] at hP
  refine ⟨O, env, s, hE, hS, (hP.thn hE).imp (fun ds s1 O1 H1 _ x1 q p vs dv => ?_) fun _ _ _ _ _ _ z => z⟩
  by_cases h1 : ds.length ≤ sizeLine
  · rw [if_pos h1] at p
    by_cases h2 : ds.length = 3
    · obtain ⟨d1, d2, d3, v1, v2, v3, rfl, rfl, a1, a2, a3⟩ := dvs_three dv h2
      refine ⟨v1, v2, v3, rfl, ?_⟩
      exact p O1 H1 _ .refl q ((((hE.mono x1.toMono).set a1 i).set a2 j).set a3 l)
    · have e : tgS (toSeq 3 (toCons (toN i) (toCons (toN j) (toCons (toN l) toNil)))) (.tup ds) env s1 = .bad := by
        unfold tgS toSeq
        show (match (if ds.length = 3 then _ else Res.bad : Res Rs) with | .ok e s' => SR.nx e s' | _ => .bad) = _
        rw [if_neg h2]
      rw [e] at p
      exact p.elim
  · rw [if_neg h1] at p
    exact p.elim
end
end Md

set_option Elab.async false
set_option linter.all false
set_option maxRecDepth 100000
set_option maxHeartbeats 1000000
/-! Md38: len(x) by an own __len__. -/
namespace Md
open PySem PySem.Spec PyProof.Rows L2

def lenO (c : Str) (G : List D → M D) : D → M D := fun a => bnd (insOf c a) fun _ s => match G [a] s with
  | .ok (.int n) s' => if 0 ≤ n ∧ n < 2 ^ 63 then .ok (.int n) s' else .bad
  | _ => .bad
def lenB (c : Str) (G : List D → M D) : List D → M D := fun ds s => match ds with
  | [d] => if isInsO c s d = true then lenO c G d s else lenA ds s
  | _ => .bad
def rLenO (X : Cx) (c : Str) (G : List D → M D) : List V → Hp → VK → Prop := fun xs H Q => ∃ x O s a, xs = [x] ∧ RelS X.K X.mg O H s ∧ DV X.K X.mg O H a x ∧ Post X.K X.mg O H (lenO c G a s) (fun d _ O' H' => ∀ v, DV X.K X.mg O' H' d v → Q v H') (fun _ _ _ _ => False)
theorem lenO_exc {c : Str} {G : List D → M D} {d a : D} {s s' : S} (e : lenO c G d s = .exc a s') : False := by
  unfold lenO bnd at e
  cases e1 : insOf c d s with
  | ok q s1 =>
    rw [e1] at e
    dsimp only at e
    split at e
    · split at e <;> cases e
    · cases e
  | bad => rw [e1] at e; cases e
  | exc q s1 =>
    unfold insOf at e1
    cases d with
    | ref n =>
      dsimp only at e1
      unfold bnd get? at e1
      cases e2 : s[n]? with
      | none => rw [e2] at e1; cases e1
      | some ob =>
        rw [e2] at e1
        cases ob with
        | ins c' fs =>
          dsimp only at e1
          split at e1 <;> cases e1
        | _ => cases e1
    | _ => cases e1
theorem special_K {M : Model} {A : Around} {E : Value → Shared → Prop} {s : Shared} {K : PySem.W.Frag} {x C f : Addr} {ox : Obj} {od : Option Obj} {name : Str} {args : List Value} {Q : Option Value → Shared → Prop} (X : K.In s.heap) (I : PySem.W.InstAt s.heap x ox C od) (hs : PySem.W.findIn K (.ref C) name = some (some (.ref f))) (hf : PySem.W.isFn K (.ref f) = true)
    (h : wpAny M A (call (.ref f) (.ref x :: args)) (fun v => Q (some v)) E s) : wpAny M A (callSpecial? (.ref x) name args) Q E s := by
  have fin : wpAny M A (call (.ref f) ([.ref x] ++ args) >>= fun v => pure (some v)) Q E s := wpAny_bind (wpAny_mono h (fun v s' h' => wpAny_pure h') fun _ _ h' => h')
  unfold callSpecial? specialOf
  refine wpAny_bind (wpAny_bind (I.type.here ((PySem.W.looks_findIn X hs).here ?_)))
  refine wpAny_holding (wpAny_bind ((PySem.W.bind_fn X _ (beq_iff_eq.mp hf)).here ?_))
  exact fin
section
variable {X : Cx} {W : WX} {k : Nat} {c : Str} {G : List D → M D} {pins : List (Addr × Obj)} {sg : L2.St} {H : Hp} {s : Shared} {Q : VK} {x : V} {v : Value}
theorem lenO_core (F : Mt X.prog X.w X.K X.mg X.base k c "__len__" [] G) (I : L2.Inv X pins sg H s) (rx : RelV x v) (h : rLenO X c G [x] H Q) :
    ∃ (a C fo : Addr) (ox : Obj) (od : Option Obj), v = .ref a ∧ PySem.W.InstAt s.heap a ox C od ∧ PySem.W.findIn X.K (.ref C) "__len__" = some (some (.ref fo)) ∧ PySem.W.isFn X.K (.ref fo) = true ∧
      ∀ A : Around, A.frames = X.A.frames → RmG k A → wpAny (model X.prog X.w) A (call (.ref fo) [.ref a]) (fun w s' => ∃ n u, w = .int n u ∧ 0 ≤ n ∧ n < 2 ^ 63 ∧ ∃ H', L2.Inv X pins sg H' s' ∧ Q (.int n) H') X.xe s := by
  obtain ⟨x', O, st, d, e1, hS, dd, hP⟩ := h
  cases e1
  obtain ⟨C2, fo, fd, ps, ds, dvs, n, hC2, cl2, hm, FG, hb, hd, hD, ar⟩ := F.ex
  have hv : dvs = [] := by
    have z := hD O H
    cases z
    rfl
  subst hv
  cases hd
  have hP : Post X.K X.mg O H (bnd (insOf c d) (fun _ s => match G [d] s with
    | .ok (.int n) s' => if 0 ≤ n ∧ n < 2 ^ 63 then .ok (.int n) s' else .bad
    | _ => .bad) st) (fun d _ O' H' => ∀ v, DV X.K X.mg O' H' d v → Q v H') (fun _ _ _ _ => False) := hP
  obtain ⟨nn, fs, a, dx, ws, rfl, rfl, ha, es, eH, fl, p2⟩ := insOf_ok hC2 hS dd hP
  cases rx
  obtain ⟨mA, J, _⟩ := ins_get I.hok eH
  obtain ⟨od, J, _⟩ := J.look
  refine ⟨a, C2, fo, _, od, rfl, J, hm.at_, hm.fn, fun A hA hr => ?_⟩
  have hsp : spM X.K X.mg n G [.ref a] H (fun w H' => ∃ b, w = .int b ∧ 0 ≤ b ∧ b < 2 ^ 63 ∧ Q (.int b) H') (fun _ _ _ => False) := by
    have dv2 : DVs X.K X.mg O H [.ref nn] [.ref a] := .cons dd .nil
    refine ⟨?_, O, _, st, dv2, hS, ?_⟩
    · by_cases hl : ([.ref nn] : List Md.D).length = n
      · exact hl
      · rw [ar _ _ hl] at p2; exact p2.elim
    · cases eg : G [.ref nn] st with
      | bad => rw [eg] at p2; exact p2.elim
      | exc q s' => rw [eg] at p2; exact p2.elim
      | ok q s' =>
        rw [eg] at p2
        cases q with
        | int kk =>
          dsimp only at p2
          by_cases hk : 0 ≤ kk ∧ kk < 2 ^ 63
          · rw [if_pos hk] at p2
            intro O' H' x2 q2 w dw
            cases dw
            exact ⟨kk, rfl, hk.1, hk.2, p2 O' H' x2 q2 _ (.int _)⟩
          · rw [if_neg hk] at p2; exact p2.elim
        | _ => exact p2.elim
  refine wpAny_mono (runGA (vs := [.ref a]) (us := [.ref a]) FG hA hr hb (pass_none sg) I (.cons rfl .nil) hsp) (fun w s' ⟨z, H', I', rz, b, ez, b0, b1, q⟩ => ?_) fun _ _ z => z
  subst ez
  obtain ⟨t, rfl⟩ := (show ∃ t, w = Value.int b t from rz)
  exact ⟨b, t, rfl, b0, b1, H', I', q⟩
theorem call_lenO (F : Mt X.prog X.w X.K X.mg X.base k c "__len__" [] G) (hr : RmG (k + 1) X.A) : CallR X (.builtin "len") (rLenO X c G) := by
  intro pins s sg H xs us Q I r h
  have h2 := h
  obtain ⟨x, _, _, _, e1, _⟩ := h2
  subst e1
  obtain ⟨v, rfl, rv⟩ := r.one
  obtain ⟨a, C, fo, ox, od, rfl, J, hs, hf, go⟩ := lenO_core F I rv h
  have hr1 : RmG k X.A.in1 := ⟨hr.rm.in1, hr.gd⟩
  refine Calls.call_function_entry kind_len plain_len entry_len (args_len1 _) ?_
  unfold Builtin.«len»
  refine wpAny_bind (wpAny_pure ?_)
  refine wpAny_bind (m := callSpecial? (.ref a) (Str.ofString "__len__")) (special_K I.kIn J hs hf (wpAny_mono (go X.A.in1 rfl hr1) (fun r s' ⟨n, u, e, h0, h1, H', I', q⟩ => ?_) fun _ _ y => y))
  subst e
  refine wpAny_bind (wpAny_holding (wpAny_pure ?_))
  refine wpAny_bind (wpAny_letGo ?_)
  show wpAny _ _ (if n < 0 then _ else _) _ _ _
  rw [if_neg (by omega)]
  show wpAny _ _ (if n ≥ 2 ^ 63 then _ else _) _ _ _
  rw [if_neg (by omega)]
  exact wpAny_bind (wpAny_mkInt (wpAny_pure ⟨_, rfl, .int n, H', I'.tok _, ⟨_, rfl⟩, q⟩))
theorem lenO_ok : CallOk X.K X.mg (rLenO X c G) (fun ds s => match ds with
    | [d] => lenO c G d s
    | _ => .bad) := by
  intro O H s ds vs Q X' r dv h
  match ds, vs, dv with
  | [d], [v], .cons dv .nil =>
    refine ⟨v, O, s, d, rfl, r, dv, ?_⟩
    have h : Post X.K X.mg O H (lenO c G d s) (fun d _ O' H' => ∀ u, DV X.K X.mg O' H' d u → Q u H') X' := h
    cases e : lenO c G d s with
    | ok a s' => rw [e] at h; exact h
    | bad => rw [e] at h; exact h.elim
    | exc a s' => exact (lenO_exc e).elim
  | [], _, _ => exact h.elim
  | _ :: _ :: _, _, _ => exact h.elim
theorem lenB_ok : CallOk X.K X.mg (fun x H Q => rLenO X c G x H Q ∨ (rLenK x H Q ∨ ((∃ p ys, x = [.ref p] ∧ (SqL X.K H p ys ∨ SqT X.K H p ys) ∧ Q (.int ys.length) H) ∨ ∃ z, x = [.str z] ∧ z.length ≤ sizeLine ∧ Q (.int z.length) H))) (lenB c G) :=
  CallOk.or (g1 := fun ds s => match ds with
    | [d] => lenO c G d s
    | _ => .bad) (g2 := lenA) lenO_ok lenA_ok fun ds s => by
      unfold lenB
      split
      · split
        · exact .inl rfl
        · exact .inr rfl
      · exact .inl rfl
theorem re_lenB {e : Expr} {fa : Rs → M (List D)} {p pos : Pos} (F : Mt X.prog X.w X.K X.mg X.base k c "__len__" [] G) (hr : RmG (k + 1) X.A) (hm : X.mg "len" = none) (ha : RA X W [e] fa) (hg : Gl X "len" := by rfl) (he : starEach [e] X.env = (false, eval e X.env) :: starEach [] X.env := by rfl) (hpl : (backTo pos (starEach [] X.env)).any (·.1) = false := by rfl) :
    RE X W (.Call (.Name "len" p) [e] [] pos) (callM (lenB c G) [] fa) := re_cB ((call_lenO F hr).or (call_lenK.or (call_len_seq.or call_len_str))) lenB_ok hm boot_len ha hg (by decide) (by decide) he hpl
end
end Md

set_option Elab.async false
set_option linter.all false
set_option maxRecDepth 100000
set_option maxHeartbeats 1000000
/-! Md39: a list that is not written any more (for walks over what a call has just told). -/
namespace Md
open PySem PySem.Spec PyProof.Rows L2

def frzD (d : D) : M D := fun s => match d with
  | .ref n => match s[n]? with
    | some (.lst xs) => .ok d (s.set n (.lok xs))
    | _ => .ok d s
  | _ => .ok d s
def frzE (fe : Rs → M D) : Rs → M D := fun env => bnd (fe env) frzD
section
variable {X : Cx} {W : WX} {e : Expr} {fe : Rs → M D}
theorem re_frz (h : RE X W e fe) : RE X W e (frzE fe) := by
  refine ⟨fun pins s sg H Q I ⟨O, env, st, hE, hS, hP⟩ => ?_⟩
  refine L2.thn (h.run pins s sg H (fun v H1 => Q v H1 ∨ ∃ a u, H1 a = some u ∧ Mut (some u) ∧ ∀ od, Q v (upd H1 a (.frz od u))) I ⟨O, env, st, hE, hS, hP.split.imp (fun d s1 O1 H1 _ x1 q1 p1 v dv => ?_) fun _ _ _ _ _ _ z => z⟩) fun v s1 ⟨x, H1, I1, r, q⟩ => ?_
  · have keep : frzD d s1 = .ok d s1 → (Q v H1 ∨ ∃ a u, H1 a = some u ∧ Mut (some u) ∧ ∀ od, Q v (upd H1 a (.frz od u))) := fun e => by
      rw [e] at p1
      exact .inl (Post.ret (show Post X.K X.mg O1 H1 (ret d s1) _ _ from p1) q1 v dv)
    cases d with
    | ref n =>
      cases e2 : s1[n]? with
      | none => exact keep (by unfold frzD; simp only [e2])
      | some o =>
        cases o with
        | lst xs =>
          have hn : n < O1.mu.length := by rw [q1.len]; exact (List.getElem?_eq_some_iff.mp e2).1
          have ha : O1.mu[n]? = some O1.mu[n] := List.getElem?_eq_getElem hn
          obtain ⟨u, hu, mu, nf, nt, hl⟩ := lock_in q1 ha e2 (ob' := .lok xs) rfl
          have ef : frzD (.ref n) s1 = .ok (.ref n) (s1.set n (.lok xs)) := by unfold frzD; simp only [e2]
          rw [ef] at p1
          refine .inr ⟨O1.mu[n], u, hu, mu, fun od => ?_⟩
          obtain ⟨x2, r2⟩ := hl od
          exact p1 O1 _ x2 r2 v (dv.mono x2.toMono)
        | _ => exact keep (by unfold frzD; simp only [e2])
    | _ => exact keep rfl
  · rcases q with q | ⟨a, u, hu, mu, q⟩
    · exact ⟨x, H1, I1, r, q⟩
    · obtain ⟨od, I2⟩ := I1.lock hu mu
      exact ⟨x, _, I2, r, q od⟩
end
end Md

set_option Elab.async false
set_option linter.all false
set_option maxRecDepth 100000
set_option maxHeartbeats 2000000
namespace Md
namespace K51
open PySem PySem.Spec PyProof.Rows L2
def top (i : Nat) : Stmt := PySem.Challenge.pw_heldhints_k51_askers_told.main.body.getD i (.Pass ⟨0, 0, 0, 0⟩)
abbrev st_is_word : Stmt := top 3
def d_is_word : He.DefD := ⟨("is_word", none), "is_word", "is_word", defArgs st_is_word, defBody st_is_word, defScope st_is_word, [], []⟩
abbrev st_Asker_init : Stmt := (clsB (top 17)).getD 0 (.Pass ⟨0, 0, 0, 0⟩)
def d_Asker_init : He.DefD := ⟨("Asker", some "__init__"), "__init__", "Asker.__init__", defArgs st_Asker_init, defBody st_Asker_init, defScope st_Asker_init, [], []⟩
abbrev st_is_key : Stmt := top 15
def d_is_key : He.DefD := ⟨("is_key", none), "is_key", "is_key", defArgs st_is_key, defBody st_is_key, defScope st_is_key, [], []⟩
abbrev st_Asker_known : Stmt := (clsB (top 17)).getD 2 (.Pass ⟨0, 0, 0, 0⟩)
def d_Asker_known : He.DefD := ⟨("Asker", some "known"), "known", "Asker.known", defArgs st_Asker_known, defBody st_Asker_known, defScope st_Asker_known, [], []⟩
abbrev st_Asker_words : Stmt := (clsB (top 17)).getD 9 (.Pass ⟨0, 0, 0, 0⟩)
def d_Asker_words : He.DefD := ⟨("Asker", some "words"), "words", "Asker.words", defArgs st_Asker_words, defBody st_Asker_words, defScope st_Asker_words, [], []⟩
abbrev st_Asker_tellings : Stmt := (clsB (top 17)).getD 8 (.Pass ⟨0, 0, 0, 0⟩)
def d_Asker_tellings : He.DefD := ⟨("Asker", some "tellings"), "tellings", "Asker.tellings", defArgs st_Asker_tellings, defBody st_Asker_tellings, defScope st_Asker_tellings, [], []⟩
abbrev st_Asker_called : Stmt := (clsB (top 17)).getD 1 (.Pass ⟨0, 0, 0, 0⟩)
def d_Asker_called : He.DefD := ⟨("Asker", some "called"), "called", "Asker.called", defArgs st_Asker_called, defBody st_Asker_called, defScope st_Asker_called, [], []⟩
abbrev st_Asker_len : Stmt := (clsB (top 17)).getD 13 (.Pass ⟨0, 0, 0, 0⟩)
def d_Asker_len : He.DefD := ⟨("Asker", some "__len__"), "__len__", "Asker.__len__", defArgs st_Asker_len, defBody st_Asker_len, defScope st_Asker_len, [], []⟩
abbrev st_Asker_busy : Stmt := (clsB (top 17)).getD 5 (.Pass ⟨0, 0, 0, 0⟩)
def d_Asker_busy : He.DefD := ⟨("Asker", some "busy"), "busy", "Asker.busy", defArgs st_Asker_busy, defBody st_Asker_busy, defScope st_Asker_busy, [], []⟩
abbrev st_l_law_right : Stmt := top 23
def d_l_law_right : He.DefD := ⟨("_law_right", none), "_law_right", "_law_right", defArgs st_l_law_right, defBody st_l_law_right, defScope st_l_law_right, [], []⟩
abbrev st_l_law_pool : Stmt := top 19
def d_l_law_pool : He.DefD := ⟨("_law_pool", none), "_law_pool", "_law_pool", defArgs st_l_law_pool, defBody st_l_law_pool, defScope st_l_law_pool, [], []⟩
abbrev st_l_law_copied : Stmt := top 24
def d_l_law_copied : He.DefD := ⟨("_law_copied", none), "_law_copied", "_law_copied", defArgs st_l_law_copied, defBody st_l_law_copied, defScope st_l_law_copied, [], []⟩
abbrev st_Asker_twin : Stmt := (clsB (top 17)).getD 10 (.Pass ⟨0, 0, 0, 0⟩)
def d_Asker_twin : He.DefD := ⟨("Asker", some "twin"), "twin", "Asker.twin", defArgs st_Asker_twin, defBody st_Asker_twin, defScope st_Asker_twin, [], []⟩
abbrev st_l_law_take : Stmt := top 20
def d_l_law_take : He.DefD := ⟨("_law_take", none), "_law_take", "_law_take", defArgs st_l_law_take, defBody st_l_law_take, defScope st_l_law_take, [], []⟩
abbrev st_l_law_known : Stmt := top 21
def d_l_law_known : He.DefD := ⟨("_law_known", none), "_law_known", "_law_known", defArgs st_l_law_known, defBody st_l_law_known, defScope st_l_law_known, [], []⟩
abbrev st_is_whole : Stmt := top 2
def d_is_whole : He.DefD := ⟨("is_whole", none), "is_whole", "is_whole", defArgs st_is_whole, defBody st_is_whole, defScope st_is_whole, [], []⟩
abbrev st_is_dot : Stmt := top 4
def d_is_dot : He.DefD := ⟨("is_dot", none), "is_dot", "is_dot", defArgs st_is_dot, defBody st_is_dot, defScope st_is_dot, [], []⟩
abbrev st_is_known : Stmt := top 5
def d_is_known : He.DefD := ⟨("is_known", none), "is_known", "is_known", defArgs st_is_known, defBody st_is_known, defScope st_is_known, [], []⟩
abbrev st_together : Stmt := top 6
def d_together : He.DefD := ⟨("together", none), "together", "together", defArgs st_together, defBody st_together, defScope st_together, [], []⟩
abbrev st_Asker_learn : Stmt := (clsB (top 17)).getD 3 (.Pass ⟨0, 0, 0, 0⟩)
def d_Asker_learn : He.DefD := ⟨("Asker", some "learn"), "learn", "Asker.learn", defArgs st_Asker_learn, defBody st_Asker_learn, defScope st_Asker_learn, [], []⟩
abbrev st_l_law_learnt : Stmt := top 22
def d_l_law_learnt : He.DefD := ⟨("_law_learnt", none), "_law_learnt", "_law_learnt", defArgs st_l_law_learnt, defBody st_l_law_learnt, defScope st_l_law_learnt, [], []⟩
abbrev st_Asker_begin : Stmt := (clsB (top 17)).getD 4 (.Pass ⟨0, 0, 0, 0⟩)
def d_Asker_begin : He.DefD := ⟨("Asker", some "begin"), "begin", "Asker.begin", defArgs st_Asker_begin, defBody st_Asker_begin, defScope st_Asker_begin, [], []⟩
abbrev st_Asker_leave_off : Stmt := (clsB (top 17)).getD 6 (.Pass ⟨0, 0, 0, 0⟩)
def d_Asker_leave_off : He.DefD := ⟨("Asker", some "leave_off"), "leave_off", "Asker.leave_off", defArgs st_Asker_leave_off, defBody st_Asker_leave_off, defScope st_Asker_leave_off, [], []⟩
abbrev st_Asker_hear : Stmt := (clsB (top 17)).getD 7 (.Pass ⟨0, 0, 0, 0⟩)
def d_Asker_hear : He.DefD := ⟨("Asker", some "hear"), "hear", "Asker.hear", defArgs st_Asker_hear, defBody st_Asker_hear, defScope st_Asker_hear, [], []⟩
abbrev st_l_law_step : Stmt := top 25
def d_l_law_step : He.DefD := ⟨("_law_step", none), "_law_step", "_law_step", defArgs st_l_law_step, defBody st_l_law_step, defScope st_l_law_step, [], []⟩
abbrev st_Asker_state : Stmt := (clsB (top 17)).getD 11 (.Pass ⟨0, 0, 0, 0⟩)
def d_Asker_state : He.DefD := ⟨("Asker", some "state"), "state", "Asker.state", defArgs st_Asker_state, defBody st_Asker_state, defScope st_Asker_state, [], []⟩
abbrev st_Asker_eq : Stmt := (clsB (top 17)).getD 12 (.Pass ⟨0, 0, 0, 0⟩)
def d_Asker_eq : He.DefD := ⟨("Asker", some "__eq__"), "__eq__", "Asker.__eq__", defArgs st_Asker_eq, defBody st_Asker_eq, defScope st_Asker_eq, [], []⟩
abbrev st_law : Stmt := top 26
def d_law : He.DefD := ⟨("law", none), "law", "law", defArgs st_law, defBody st_law, defScope st_law, [], []⟩
def fn : List He.DefD := [d_is_word, d_Asker_init, d_is_key, d_Asker_known, d_Asker_words, d_Asker_tellings, d_Asker_called, d_Asker_len, d_Asker_busy, d_l_law_right, d_l_law_pool, d_l_law_copied, d_Asker_twin, d_l_law_take, d_l_law_known, d_is_whole, d_is_dot, d_is_known, d_together, d_Asker_learn, d_l_law_learnt, d_Asker_begin, d_Asker_leave_off, d_Asker_hear, d_l_law_step, d_Asker_state, d_Asker_eq, d_law]
def fa : List He.Fa := [.mkr "Asker", .glo "Asker", .glo "_law_right", .free "len", .free "tuple", .free "int", .free "abs", .free "dict", .free "repr", .free "list", .free "sorted", .free "all", .free "any", .free "max", .free "min", .free "range", .glo "_law_pool", .glo "_law_copied", .cls "Asker", .meth "Asker" "twin", .glo "_law_step", .meth "Asker" "__eq__", .meth "Asker" "learn", .glo "is_word", .noat "Asker" "own_name", .noat "Asker" "known_of", .noat "Asker" "under_way", .noat "Asker" "own_tellings", .free "isinstance", .free "str", .meth "Asker" "known", .meth "Asker" "words", .meth "Asker" "tellings", .meth "Asker" "called", .meth "Asker" "__len__", .meth "Asker" "busy", .glo "is_key", .glo "_law_take", .glo "_law_known", .glo "_law_learnt", .meth "Asker" "begin", .meth "Asker" "leave_off", .meth "Asker" "hear", .glo "is_known", .glo "together", .glo "is_dot", .free "zip", .glo "is_whole", .int "MOST_NUMBER" 1000000000000, .free "bool", .free "set", .meth "Asker" "state", .glo "law"]
def fb : List Fb := [.kc "Asker"]
structure Fx (K : PySem.W.Frag) (mg : Str → Option Value) : Prop where
  ex : ∃ h : Heap, K.In h ∧ h.Ns mainGlobals mg ∧ SaysX fa fb fn K
section
variable {P : Program} {w : World} {K : PySem.W.Frag} {mg : Str → Option Value} {base : Heap}
theorem gk_Asker (x : Fx K mg) : Mk K (He.ga K "Asker") (He.ma K (He.ga K "Asker") "__init__") := let ⟨_, a, b, c0⟩ := x.ex; have c := c0.d; He.mkr_ok (c.fact 0 (f := .mkr "Asker") rfl)
theorem gg_Asker (x : Fx K mg) : mg "Asker" = some (.ref (He.ga K "Asker")) := let ⟨_, a, b, c0⟩ := x.ex; have c := c0.d; He.glo_ok a b (c.fact 1 (f := .glo "Asker") rfl)
theorem gg__law_right (x : Fx K mg) : mg "_law_right" = some (.ref (He.ga K "_law_right")) := let ⟨_, a, b, c0⟩ := x.ex; have c := c0.d; He.glo_ok a b (c.fact 2 (f := .glo "_law_right") rfl)
theorem gf_len (x : Fx K mg) : mg "len" = none := let ⟨_, a, b, c0⟩ := x.ex; have c := c0.d; He.free_ok a b (c.fact 3 (f := .free "len") rfl)
theorem gf_tuple (x : Fx K mg) : mg "tuple" = none := let ⟨_, a, b, c0⟩ := x.ex; have c := c0.d; He.free_ok a b (c.fact 4 (f := .free "tuple") rfl)
theorem gf_int (x : Fx K mg) : mg "int" = none := let ⟨_, a, b, c0⟩ := x.ex; have c := c0.d; He.free_ok a b (c.fact 5 (f := .free "int") rfl)
theorem gf_abs (x : Fx K mg) : mg "abs" = none := let ⟨_, a, b, c0⟩ := x.ex; have c := c0.d; He.free_ok a b (c.fact 6 (f := .free "abs") rfl)
theorem gf_dict (x : Fx K mg) : mg "dict" = none := let ⟨_, a, b, c0⟩ := x.ex; have c := c0.d; He.free_ok a b (c.fact 7 (f := .free "dict") rfl)
theorem gf_repr (x : Fx K mg) : mg "repr" = none := let ⟨_, a, b, c0⟩ := x.ex; have c := c0.d; He.free_ok a b (c.fact 8 (f := .free "repr") rfl)
theorem gf_list (x : Fx K mg) : mg "list" = none := let ⟨_, a, b, c0⟩ := x.ex; have c := c0.d; He.free_ok a b (c.fact 9 (f := .free "list") rfl)
theorem gf_sorted (x : Fx K mg) : mg "sorted" = none := let ⟨_, a, b, c0⟩ := x.ex; have c := c0.d; He.free_ok a b (c.fact 10 (f := .free "sorted") rfl)
theorem gf_all (x : Fx K mg) : mg "all" = none := let ⟨_, a, b, c0⟩ := x.ex; have c := c0.d; He.free_ok a b (c.fact 11 (f := .free "all") rfl)
theorem gf_any (x : Fx K mg) : mg "any" = none := let ⟨_, a, b, c0⟩ := x.ex; have c := c0.d; He.free_ok a b (c.fact 12 (f := .free "any") rfl)
theorem gf_max (x : Fx K mg) : mg "max" = none := let ⟨_, a, b, c0⟩ := x.ex; have c := c0.d; He.free_ok a b (c.fact 13 (f := .free "max") rfl)
theorem gf_min (x : Fx K mg) : mg "min" = none := let ⟨_, a, b, c0⟩ := x.ex; have c := c0.d; He.free_ok a b (c.fact 14 (f := .free "min") rfl)
theorem gf_range (x : Fx K mg) : mg "range" = none := let ⟨_, a, b, c0⟩ := x.ex; have c := c0.d; He.free_ok a b (c.fact 15 (f := .free "range") rfl)
theorem gg__law_pool (x : Fx K mg) : mg "_law_pool" = some (.ref (He.ga K "_law_pool")) := let ⟨_, a, b, c0⟩ := x.ex; have c := c0.d; He.glo_ok a b (c.fact 16 (f := .glo "_law_pool") rfl)
theorem gg__law_copied (x : Fx K mg) : mg "_law_copied" = some (.ref (He.ga K "_law_copied")) := let ⟨_, a, b, c0⟩ := x.ex; have c := c0.d; He.glo_ok a b (c.fact 17 (f := .glo "_law_copied") rfl)
theorem gc_Asker (x : Fx K mg) : Cls K (He.ga K "Asker") := let ⟨_, a, b, c0⟩ := x.ex; have c := c0.d; He.cls_ok (c.fact 18 (f := .cls "Asker") rfl)
theorem gm_Asker_twin (x : Fx K mg) : Meth K (He.ga K "Asker") "twin" (He.ma K (He.ga K "Asker") "twin") := let ⟨_, a, b, c0⟩ := x.ex; have c := c0.d; He.meth_ok (c.fact 19 (f := .meth "Asker" "twin") rfl)
theorem gg__law_step (x : Fx K mg) : mg "_law_step" = some (.ref (He.ga K "_law_step")) := let ⟨_, a, b, c0⟩ := x.ex; have c := c0.d; He.glo_ok a b (c.fact 20 (f := .glo "_law_step") rfl)
theorem gm_Asker___eq__ (x : Fx K mg) : Meth K (He.ga K "Asker") "__eq__" (He.ma K (He.ga K "Asker") "__eq__") := let ⟨_, a, b, c0⟩ := x.ex; have c := c0.d; He.meth_ok (c.fact 21 (f := .meth "Asker" "__eq__") rfl)
theorem gm_Asker_learn (x : Fx K mg) : Meth K (He.ga K "Asker") "learn" (He.ma K (He.ga K "Asker") "learn") := let ⟨_, a, b, c0⟩ := x.ex; have c := c0.d; He.meth_ok (c.fact 22 (f := .meth "Asker" "learn") rfl)
theorem gg_is_word (x : Fx K mg) : mg "is_word" = some (.ref (He.ga K "is_word")) := let ⟨_, a, b, c0⟩ := x.ex; have c := c0.d; He.glo_ok a b (c.fact 23 (f := .glo "is_word") rfl)
theorem gn_Asker_own_name (x : Fx K mg) : NoAttr K (He.ga K "Asker") "own_name" := let ⟨_, a, b, c0⟩ := x.ex; have c := c0.d; He.noat_ok (c.fact 24 (f := .noat "Asker" "own_name") rfl)
theorem gn_Asker_known_of (x : Fx K mg) : NoAttr K (He.ga K "Asker") "known_of" := let ⟨_, a, b, c0⟩ := x.ex; have c := c0.d; He.noat_ok (c.fact 25 (f := .noat "Asker" "known_of") rfl)
theorem gn_Asker_under_way (x : Fx K mg) : NoAttr K (He.ga K "Asker") "under_way" := let ⟨_, a, b, c0⟩ := x.ex; have c := c0.d; He.noat_ok (c.fact 26 (f := .noat "Asker" "under_way") rfl)
theorem gn_Asker_own_tellings (x : Fx K mg) : NoAttr K (He.ga K "Asker") "own_tellings" := let ⟨_, a, b, c0⟩ := x.ex; have c := c0.d; He.noat_ok (c.fact 27 (f := .noat "Asker" "own_tellings") rfl)
theorem gf_isinstance (x : Fx K mg) : mg "isinstance" = none := let ⟨_, a, b, c0⟩ := x.ex; have c := c0.d; He.free_ok a b (c.fact 28 (f := .free "isinstance") rfl)
theorem gf_str (x : Fx K mg) : mg "str" = none := let ⟨_, a, b, c0⟩ := x.ex; have c := c0.d; He.free_ok a b (c.fact 29 (f := .free "str") rfl)
theorem gm_Asker_known (x : Fx K mg) : Meth K (He.ga K "Asker") "known" (He.ma K (He.ga K "Asker") "known") := let ⟨_, a, b, c0⟩ := x.ex; have c := c0.d; He.meth_ok (c.fact 30 (f := .meth "Asker" "known") rfl)
theorem gm_Asker_words (x : Fx K mg) : Meth K (He.ga K "Asker") "words" (He.ma K (He.ga K "Asker") "words") := let ⟨_, a, b, c0⟩ := x.ex; have c := c0.d; He.meth_ok (c.fact 31 (f := .meth "Asker" "words") rfl)
theorem gm_Asker_tellings (x : Fx K mg) : Meth K (He.ga K "Asker") "tellings" (He.ma K (He.ga K "Asker") "tellings") := let ⟨_, a, b, c0⟩ := x.ex; have c := c0.d; He.meth_ok (c.fact 32 (f := .meth "Asker" "tellings") rfl)
theorem gm_Asker_called (x : Fx K mg) : Meth K (He.ga K "Asker") "called" (He.ma K (He.ga K "Asker") "called") := let ⟨_, a, b, c0⟩ := x.ex; have c := c0.d; He.meth_ok (c.fact 33 (f := .meth "Asker" "called") rfl)
theorem gm_Asker___len__ (x : Fx K mg) : Meth K (He.ga K "Asker") "__len__" (He.ma K (He.ga K "Asker") "__len__") := let ⟨_, a, b, c0⟩ := x.ex; have c := c0.d; He.meth_ok (c.fact 34 (f := .meth "Asker" "__len__") rfl)
theorem gm_Asker_busy (x : Fx K mg) : Meth K (He.ga K "Asker") "busy" (He.ma K (He.ga K "Asker") "busy") := let ⟨_, a, b, c0⟩ := x.ex; have c := c0.d; He.meth_ok (c.fact 35 (f := .meth "Asker" "busy") rfl)
theorem gg_is_key (x : Fx K mg) : mg "is_key" = some (.ref (He.ga K "is_key")) := let ⟨_, a, b, c0⟩ := x.ex; have c := c0.d; He.glo_ok a b (c.fact 36 (f := .glo "is_key") rfl)
theorem gg__law_take (x : Fx K mg) : mg "_law_take" = some (.ref (He.ga K "_law_take")) := let ⟨_, a, b, c0⟩ := x.ex; have c := c0.d; He.glo_ok a b (c.fact 37 (f := .glo "_law_take") rfl)
theorem gg__law_known (x : Fx K mg) : mg "_law_known" = some (.ref (He.ga K "_law_known")) := let ⟨_, a, b, c0⟩ := x.ex; have c := c0.d; He.glo_ok a b (c.fact 38 (f := .glo "_law_known") rfl)
theorem gg__law_learnt (x : Fx K mg) : mg "_law_learnt" = some (.ref (He.ga K "_law_learnt")) := let ⟨_, a, b, c0⟩ := x.ex; have c := c0.d; He.glo_ok a b (c.fact 39 (f := .glo "_law_learnt") rfl)
theorem gm_Asker_begin (x : Fx K mg) : Meth K (He.ga K "Asker") "begin" (He.ma K (He.ga K "Asker") "begin") := let ⟨_, a, b, c0⟩ := x.ex; have c := c0.d; He.meth_ok (c.fact 40 (f := .meth "Asker" "begin") rfl)
theorem gm_Asker_leave_off (x : Fx K mg) : Meth K (He.ga K "Asker") "leave_off" (He.ma K (He.ga K "Asker") "leave_off") := let ⟨_, a, b, c0⟩ := x.ex; have c := c0.d; He.meth_ok (c.fact 41 (f := .meth "Asker" "leave_off") rfl)
theorem gm_Asker_hear (x : Fx K mg) : Meth K (He.ga K "Asker") "hear" (He.ma K (He.ga K "Asker") "hear") := let ⟨_, a, b, c0⟩ := x.ex; have c := c0.d; He.meth_ok (c.fact 42 (f := .meth "Asker" "hear") rfl)
theorem gg_is_known (x : Fx K mg) : mg "is_known" = some (.ref (He.ga K "is_known")) := let ⟨_, a, b, c0⟩ := x.ex; have c := c0.d; He.glo_ok a b (c.fact 43 (f := .glo "is_known") rfl)
theorem gg_together (x : Fx K mg) : mg "together" = some (.ref (He.ga K "together")) := let ⟨_, a, b, c0⟩ := x.ex; have c := c0.d; He.glo_ok a b (c.fact 44 (f := .glo "together") rfl)
theorem gg_is_dot (x : Fx K mg) : mg "is_dot" = some (.ref (He.ga K "is_dot")) := let ⟨_, a, b, c0⟩ := x.ex; have c := c0.d; He.glo_ok a b (c.fact 45 (f := .glo "is_dot") rfl)
theorem gf_zip (x : Fx K mg) : mg "zip" = none := let ⟨_, a, b, c0⟩ := x.ex; have c := c0.d; He.free_ok a b (c.fact 46 (f := .free "zip") rfl)
theorem gg_is_whole (x : Fx K mg) : mg "is_whole" = some (.ref (He.ga K "is_whole")) := let ⟨_, a, b, c0⟩ := x.ex; have c := c0.d; He.glo_ok a b (c.fact 47 (f := .glo "is_whole") rfl)
theorem gi_MOST_NUMBER (x : Fx K mg) : ∃ t, mg "MOST_NUMBER" = some (.int 1000000000000 t) := let ⟨_, a, b, c0⟩ := x.ex; have c := c0.d; He.int_ok a b (c.fact 48 (f := .int "MOST_NUMBER" 1000000000000) rfl)
theorem gf_bool (x : Fx K mg) : mg "bool" = none := let ⟨_, a, b, c0⟩ := x.ex; have c := c0.d; He.free_ok a b (c.fact 49 (f := .free "bool") rfl)
theorem gf_set (x : Fx K mg) : mg "set" = none := let ⟨_, a, b, c0⟩ := x.ex; have c := c0.d; He.free_ok a b (c.fact 50 (f := .free "set") rfl)
theorem gm_Asker_state (x : Fx K mg) : Meth K (He.ga K "Asker") "state" (He.ma K (He.ga K "Asker") "state") := let ⟨_, a, b, c0⟩ := x.ex; have c := c0.d; He.meth_ok (c.fact 51 (f := .meth "Asker" "state") rfl)
theorem gg_law (x : Fx K mg) : mg "law" = some (.ref (He.ga K "law")) := let ⟨_, a, b, c0⟩ := x.ex; have c := c0.d; He.glo_ok a b (c.fact 52 (f := .glo "law") rfl)
theorem fd_Asker_own_name (x : Fx K mg) : Fd K mg "Asker" "own_name" := ⟨_, gg_Asker x, gc_Asker x, gn_Asker_own_name x⟩
theorem fd_Asker_known_of (x : Fx K mg) : Fd K mg "Asker" "known_of" := ⟨_, gg_Asker x, gc_Asker x, gn_Asker_known_of x⟩
theorem fd_Asker_under_way (x : Fx K mg) : Fd K mg "Asker" "under_way" := ⟨_, gg_Asker x, gc_Asker x, gn_Asker_under_way x⟩
theorem fd_Asker_own_tellings (x : Fx K mg) : Fd K mg "Asker" "own_tellings" := ⟨_, gg_Asker x, gc_Asker x, gn_Asker_own_tellings x⟩
theorem kc_Asker (x : Fx K mg) : Kc K mg "Asker" := ⟨_, gg_Asker x, gc_Asker x, let ⟨_, _, _, c0⟩ := x.ex; c0.b 0 (f := .kc "Asker") rfl⟩
/-! is_word -/
def b_is_word : SM := seq (ifS (orB (notB (toB (isiM .str (vr 0)))) (notB (toB (chn leI leI (cst (.int 1)) (callM (lenA) [] (aCons (vr 0) (aNil))) (cst (.int 6)))))) (rtn (cst (.bl false))) (skp))
  (rtn (callM (arg1 (blsF fun bs => bs.all id)) [] (aCons (lockE (pkV 0) (lcM [1] (itAny (vr 0)) (toN 1) (yesB) (op2 (inA id) (vr 1) (cst (.str "abcdefghijklmnopqrstuvwxyz"))) finL)) (aNil))))
def p_is_word : List D → M D := run b_is_word 1 2
theorem s_is_word : FnScope ["thing", "sign"] ["thing"] (defScope st_is_word) := ⟨rfl, rfl, rfl, by decide +kernel, rfl, by decide +kernel, by decide +kernel⟩
theorem r_is_word (x : Fx K mg) : Bd P w K mg base ["thing", "sign"] "is_word" (defScope st_is_word) (He.ga K "is_word") (defBody st_is_word) 0 b_is_word := fun cdv A outer s H E cf =>
  rss_cons (rs_if (rt_bop (rw_or (rt_not (rt_val (re_isi .str (by decide) (gf_isinstance x) (gf_str x) (by with_unfolding_all rfl) (re_var 0)))) (rw_or1 (rt_not (rt_cLeLe (re_int) (re_lenA (gf_len x) (ra_cons (re_var 0) (ra_nil))) (re_int)))))) (rss_one (rs_ret (re_bl))) (rss_nil))
  (rss_one (rs_ret (re_all cf.c (gf_all x) (ra_cons (re_lock (pkV 0) (re_lc finL_ok [("sign", 1)] cf.c cf.N (by rfl) (ri_any (re_var 0)) (fun _ _ _ _ _ => rg_name 1 (by exact cf.N)) (fun _ _ _ _ _ => rts_nil) (fun _ _ _ _ _ => re_inA cf.u (re_var 1) (re_str)))) (ra_nil)))))
theorem o_is_word (x : Fx K mg) : Fn P w K mg base 1 "is_word" [] p_is_word :=
  let ⟨_, F⟩ := (let ⟨_, _, _, c⟩ := x.ex; c.d.def_ 0 (d := d_is_word) rfl); fn_mk F s_is_word (gg_is_word x) (fun _ _ _ _ _ _ us hl => match us, hl with | [_], _ => rfl) (r_is_word x)
/-! Asker.__init__ -/
def b_Asker_init : SM := seq (ifS (notB (toB (callM p_is_word [] (aCons (vr 1) (aNil))))) (badS) (skp))
  (seq (stF "Asker" "own_name" (vr 1) (vr 0))
  (seq (stF "Asker" "known_of" (dnewM) (vr 0))
  (seq (stF "Asker" "under_way" (cst .non) (vr 0))
  (stF "Asker" "own_tellings" (lstE finM (aNil)) (vr 0)))))
def p_Asker_init : List D → M D := run b_Asker_init 2 2
theorem s_Asker_init : FnScope ["self", "called"] ["self", "called"] (defScope st_Asker_init) := ⟨rfl, rfl, rfl, by decide +kernel, rfl, by decide +kernel, by decide +kernel⟩
theorem r_Asker_init (x : Fx K mg) : Bd P w K mg base ["self", "called"] "Asker.__init__" (defScope st_Asker_init) (He.ma K (He.ga K "Asker") "__init__") (defBody st_Asker_init) 1 b_Asker_init := fun cdv A outer s H E cf =>
  rss_cons (rs_if (rt_not (rt_val (re_call (o_is_word x) (cf.at (by decide)) cf.t (ra_cons (re_var 1) (ra_nil))))) (rss_one (rs_bad)) (rss_nil))
  (rss_cons (rs_fld (fd_Asker_own_name x) (re_var 0) (re_var 1))
  (rss_cons (rs_fld (fd_Asker_known_of x) (re_var 0) (re_dnew))
  (rss_cons (rs_fld (fd_Asker_under_way x) (re_var 0) (re_non))
  (rss_one (rs_fld (fd_Asker_own_tellings x) (re_var 0) (re_lst newM (ra_nil)))))))
theorem o_Asker_init (x : Fx K mg) : Mc P w K mg base 2 "Asker" [] p_Asker_init :=
  let ⟨_, F⟩ := (let ⟨_, _, _, c⟩ := x.ex; c.d.def_ 1 (d := d_Asker_init) rfl); mc_mk F s_Asker_init (gg_Asker x) (gk_Asker x) (fun _ _ _ _ _ _ us hl => match us, hl with | [_, _], _ => rfl) (r_Asker_init x)
/-! is_key -/
def b_is_key : SM := rtn (callM p_is_word [] (aCons (vr 0) (aNil)))
def p_is_key : List D → M D := run b_is_key 1 1
theorem s_is_key : FnScope ["thing"] ["thing"] (defScope st_is_key) := ⟨rfl, rfl, rfl, by decide +kernel, rfl, by decide +kernel, by decide +kernel⟩
theorem r_is_key (x : Fx K mg) : Bd P w K mg base ["thing"] "is_key" (defScope st_is_key) (He.ga K "is_key") (defBody st_is_key) 1 b_is_key := fun cdv A outer s H E cf =>
  rss_one (rs_ret (re_call (o_is_word x) (cf.at (by decide)) cf.t (ra_cons (re_var 0) (ra_nil))))
theorem o_is_key (x : Fx K mg) : Fn P w K mg base 2 "is_key" [] p_is_key :=
  let ⟨_, F⟩ := (let ⟨_, _, _, c⟩ := x.ex; c.d.def_ 2 (d := d_is_key) rfl); fn_mk F s_is_key (gg_is_key x) (fun _ _ _ _ _ _ us hl => match us, hl with | [_], _ => rfl) (r_is_key x)
/-! Asker.known -/
def b_Asker_known : SM := seq (ifS (notB (toB (callM p_is_key [] (aCons (vr 1) (aNil))))) (badS) (skp))
  (rtn (mthM tbGet (fldM "Asker" "known_of" (vr 0)) (aCons (vr 1) (aCons (tupE (aNil)) (aNil)))))
def p_Asker_known : List D → M D := run b_Asker_known 2 2
theorem s_Asker_known : FnScope ["self", "word"] ["self", "word"] (defScope st_Asker_known) := ⟨rfl, rfl, rfl, by decide +kernel, rfl, by decide +kernel, by decide +kernel⟩
theorem r_Asker_known (x : Fx K mg) : Bd P w K mg base ["self", "word"] "Asker.known" (defScope st_Asker_known) (He.ma K (He.ga K "Asker") "known") (defBody st_Asker_known) 2 b_Asker_known := fun cdv A outer s H E cf =>
  rss_cons (rs_if (rt_not (rt_val (re_call (o_is_key x) (cf.at (by decide)) cf.t (ra_cons (re_var 1) (ra_nil))))) (rss_one (rs_bad)) (rss_nil))
  (rss_one (rs_ret (re_mth (tb := tbGet) (fun _ _ => at_get cf.u) (re_fld (fd_Asker_known_of x) (re_var 0)) (ra_cons (re_var 1) (ra_cons (re_tup (ra_nil)) (ra_nil))))))
theorem o_Asker_known (x : Fx K mg) : Mt P w K mg base 3 "Asker" "known" [] p_Asker_known :=
  let ⟨_, F⟩ := (let ⟨_, _, _, c⟩ := x.ex; c.d.def_ 3 (d := d_Asker_known) rfl); mt_mk F s_Asker_known (gg_Asker x) (gc_Asker x) (gm_Asker_known x) (fun _ _ _ _ _ _ us hl => match us, hl with | [_, _], _ => rfl) (r_Asker_known x)
/-! Asker.words -/
def b_Asker_words : SM := rtn (callM (arg1 (sortAF finM)) [] (aCons (lockE (pkF "known_of" (pkV 0)) (lcM [1] (itAny (fldM "Asker" "known_of" (vr 0))) (toN 1) (toB (op2 (eqX not) (op2 ixA (fldM "Asker" "known_of" (vr 0)) (vr 1)) (tupE (aNil)))) (vr 1) finL)) (aNil)))
def p_Asker_words : List D → M D := run b_Asker_words 1 2
theorem s_Asker_words : FnScope ["self", "word"] ["self"] (defScope st_Asker_words) := ⟨rfl, rfl, rfl, by decide +kernel, rfl, by decide +kernel, by decide +kernel⟩
theorem r_Asker_words (x : Fx K mg) : Bd P w K mg base ["self", "word"] "Asker.words" (defScope st_Asker_words) (He.ma K (He.ga K "Asker") "words") (defBody st_Asker_words) 0 b_Asker_words := fun cdv A outer s H E cf =>
  rss_one (rs_ret (re_sortA newM cf.c cf.u (gf_sorted x) (ra_cons (re_lock (pkF "known_of" (pkV 0)) (re_lc finL_ok [("word", 1)] cf.c cf.N (by rfl) (ri_any (re_fld (fd_Asker_known_of x) (re_var 0))) (fun _ _ _ _ _ => rg_name 1 (by exact cf.N)) (fun _ _ _ _ _ => rts_one (rt_neX cf.u1 (re_itemA cf.u (re_fld (fd_Asker_known_of x) (re_var 0)) (re_var 1)) (re_tup (ra_nil)))) (fun _ _ _ _ _ => re_var 1))) (ra_nil))))
theorem o_Asker_words (x : Fx K mg) : Mt P w K mg base 1 "Asker" "words" [] p_Asker_words :=
  let ⟨_, F⟩ := (let ⟨_, _, _, c⟩ := x.ex; c.d.def_ 4 (d := d_Asker_words) rfl); mt_mk F s_Asker_words (gg_Asker x) (gc_Asker x) (gm_Asker_words x) (fun _ _ _ _ _ _ us hl => match us, hl with | [_], _ => rfl) (r_Asker_words x)
/-! Asker.tellings -/
def b_Asker_tellings : SM := rtn (callM (arg1 (listAF finM)) [] (aCons (fldM "Asker" "own_tellings" (vr 0)) (aNil)))
def p_Asker_tellings : List D → M D := run b_Asker_tellings 1 1
theorem s_Asker_tellings : FnScope ["self"] ["self"] (defScope st_Asker_tellings) := ⟨rfl, rfl, rfl, by decide +kernel, rfl, by decide +kernel, by decide +kernel⟩
theorem r_Asker_tellings (x : Fx K mg) : Bd P w K mg base ["self"] "Asker.tellings" (defScope st_Asker_tellings) (He.ma K (He.ga K "Asker") "tellings") (defBody st_Asker_tellings) 0 b_Asker_tellings := fun cdv A outer s H E cf =>
  rss_one (rs_ret (re_listA newM cf.c (gf_list x) (ra_cons (re_fld (fd_Asker_own_tellings x) (re_var 0)) (ra_nil))))
theorem o_Asker_tellings (x : Fx K mg) : Mt P w K mg base 1 "Asker" "tellings" [] p_Asker_tellings :=
  let ⟨_, F⟩ := (let ⟨_, _, _, c⟩ := x.ex; c.d.def_ 5 (d := d_Asker_tellings) rfl); mt_mk F s_Asker_tellings (gg_Asker x) (gc_Asker x) (gm_Asker_tellings x) (fun _ _ _ _ _ _ us hl => match us, hl with | [_], _ => rfl) (r_Asker_tellings x)
/-! Asker.called -/
def b_Asker_called : SM := rtn (fldM "Asker" "own_name" (vr 0))
def p_Asker_called : List D → M D := run b_Asker_called 1 1
theorem s_Asker_called : FnScope ["self"] ["self"] (defScope st_Asker_called) := ⟨rfl, rfl, rfl, by decide +kernel, rfl, by decide +kernel, by decide +kernel⟩
theorem r_Asker_called (x : Fx K mg) : Bd P w K mg base ["self"] "Asker.called" (defScope st_Asker_called) (He.ma K (He.ga K "Asker") "called") (defBody st_Asker_called) 0 b_Asker_called := fun cdv A outer s H E cf =>
  rss_one (rs_ret (re_fld (fd_Asker_own_name x) (re_var 0)))
theorem o_Asker_called (x : Fx K mg) : Mt P w K mg base 1 "Asker" "called" [] p_Asker_called :=
  let ⟨_, F⟩ := (let ⟨_, _, _, c⟩ := x.ex; c.d.def_ 6 (d := d_Asker_called) rfl); mt_mk F s_Asker_called (gg_Asker x) (gc_Asker x) (gm_Asker_called x) (fun _ _ _ _ _ _ us hl => match us, hl with | [_], _ => rfl) (r_Asker_called x)
/-! Asker.__len__ -/
def b_Asker_len : SM := rtn (callM (lenA) [] (aCons (fldM "Asker" "own_tellings" (vr 0)) (aNil)))
def p_Asker_len : List D → M D := run b_Asker_len 1 1
theorem s_Asker_len : FnScope ["self"] ["self"] (defScope st_Asker_len) := ⟨rfl, rfl, rfl, by decide +kernel, rfl, by decide +kernel, by decide +kernel⟩
theorem r_Asker_len (x : Fx K mg) : Bd P w K mg base ["self"] "Asker.__len__" (defScope st_Asker_len) (He.ma K (He.ga K "Asker") "__len__") (defBody st_Asker_len) 0 b_Asker_len := fun cdv A outer s H E cf =>
  rss_one (rs_ret (re_lenA (gf_len x) (ra_cons (re_fld (fd_Asker_own_tellings x) (re_var 0)) (ra_nil))))
theorem o_Asker_len (x : Fx K mg) : Mt P w K mg base 1 "Asker" "__len__" [] p_Asker_len :=
  let ⟨_, F⟩ := (let ⟨_, _, _, c⟩ := x.ex; c.d.def_ 7 (d := d_Asker_len) rfl); mt_mk F s_Asker_len (gg_Asker x) (gc_Asker x) (gm_Asker___len__ x) (fun _ _ _ _ _ _ us hl => match us, hl with | [_], _ => rfl) (r_Asker_len x)
/-! Asker.busy -/
def b_Asker_busy : SM := rtn (fldM "Asker" "under_way" (vr 0))
def p_Asker_busy : List D → M D := run b_Asker_busy 1 1
theorem s_Asker_busy : FnScope ["self"] ["self"] (defScope st_Asker_busy) := ⟨rfl, rfl, rfl, by decide +kernel, rfl, by decide +kernel, by decide +kernel⟩
theorem r_Asker_busy (x : Fx K mg) : Bd P w K mg base ["self"] "Asker.busy" (defScope st_Asker_busy) (He.ma K (He.ga K "Asker") "busy") (defBody st_Asker_busy) 0 b_Asker_busy := fun cdv A outer s H E cf =>
  rss_one (rs_ret (re_fld (fd_Asker_under_way x) (re_var 0)))
theorem o_Asker_busy (x : Fx K mg) : Mt P w K mg base 1 "Asker" "busy" [] p_Asker_busy :=
  let ⟨_, F⟩ := (let ⟨_, _, _, c⟩ := x.ex; c.d.def_ 8 (d := d_Asker_busy) rfl); mt_mk F s_Asker_busy (gg_Asker x) (gc_Asker x) (gm_Asker_busy x) (fun _ _ _ _ _ _ us hl => match us, hl with | [_], _ => rfl) (r_Asker_busy x)
/-! _law_right -/
def b_l_law_right : SM := seq (forS (itAny (tupE (aCons (cst (.str "a")) (aCons (cst (.str "b")) (aCons (cst (.str "c")) (aCons (cst (.str "dd")) (aCons (cst (.str "eeeeee")) (aNil)))))))) (toN 2) (ifS (toB (op2 (eqX not) (mtM "Asker" "known" p_Asker_known [] (vr 0) (aCons (vr 2) (aNil))) (mthM tbGet (op2 ixA (vr 1) (cst (.str "known"))) (aCons (vr 2) (aCons (tupE (aNil)) (aNil)))))) (rtn (cst (.bl false))) (skp)))
  (seq (asg (tupE (aCons (mtM "Asker" "tellings" p_Asker_tellings [] (vr 0) aNil) (aCons (mtM "Asker" "words" p_Asker_words [] (vr 0) aNil) (aNil)))) (toSeq 2 (toCons (toN 3) (toCons (toN 4) (toNil)))))
  (seq (asg (lcM [2] (itAny (callM (arg1 (sortAF finL)) [] (aCons (op2 ixA (vr 1) (cst (.str "known"))) (aNil)))) (toN 2) (toB (op2 (eqX not) (op2 ixA (op2 ixA (vr 1) (cst (.str "known"))) (vr 2)) (tupE (aNil)))) (vr 2) finL) (toN 5))
  (seq (ifS (orB (toB (op2 (eqX not) (vr 3) (op2 ixA (vr 1) (cst (.str "told"))))) (toB (op2 (eqX not) (vr 4) (vr 5)))) (rtn (cst (.bl false))) (skp))
  (seq (drp (mthM tbAppend (vr 3) (aCons (cst .non) (aNil))))
  (seq (drp (mthM tbClear (vr 4) aNil))
  (rtn (andV (op2 (eqX id) (mtM "Asker" "busy" p_Asker_busy [] (vr 0) aNil) (op2 ixA (vr 1) (cst (.str "busy")))) (andV (op2 (eqX id) (callM (lenB "Asker" p_Asker_len) [] (aCons (vr 0) (aNil))) (callM (lenA) [] (aCons (op2 ixA (vr 1) (cst (.str "told"))) (aNil)))) (op2 (eqX id) (mtM "Asker" "called" p_Asker_called [] (vr 0) aNil) (cst (.str "who")))))))))))
def p_l_law_right : List D → M D := run b_l_law_right 2 6
theorem s_l_law_right : FnScope ["_law_asker", "_law_book", "_law_word", "_law_told", "_law_keys", "_law_due"] ["_law_asker", "_law_book"] (defScope st_l_law_right) := ⟨rfl, rfl, rfl, by decide +kernel, rfl, by decide +kernel, by decide +kernel⟩
theorem r_l_law_right (x : Fx K mg) : Bd P w K mg base ["_law_asker", "_law_book", "_law_word", "_law_told", "_law_keys", "_law_due"] "_law_right" (defScope st_l_law_right) (He.ga K "_law_right") (defBody st_l_law_right) 3 b_l_law_right := fun cdv A outer s H E cf =>
  rss_cons (rs_for (ws := [2]) cf.p cf.c (ri_any (re_tup (ra_cons (re_str) (ra_cons (re_str) (ra_cons (re_str) (ra_cons (re_str) (ra_cons (re_str) (ra_nil)))))))) (rg_name 2 (by exact cf.N)) (rss_one (rs_if (rt_neX cf.u1 (re_meth (o_Asker_known x) (cf.at (by decide)) cf.t (re_var 0) (ra_cons (re_var 2) (ra_nil))) (re_mth (tb := tbGet) (fun _ _ => at_get cf.u) (re_itemA cf.u (re_var 1) (re_str)) (ra_cons (re_var 2) (ra_cons (re_tup (ra_nil)) (ra_nil))))) (rss_one (rs_ret (re_bl))) (rss_nil))))
  (rss_cons (rs_par 3 4 cf.c cf.N (ra_cons (re_meth0 (o_Asker_tellings x) (cf.at (by decide)) cf.t (re_var 0)) (ra_cons (re_meth0 (o_Asker_words x) (cf.at (by decide)) cf.t (re_var 0)) (ra_nil))))
  (rss_cons (rs_setLc 5 finL_ok [("_law_word", 2)] cf.c cf.N (by rfl) (by rfl) (ri_any (re_sortA newL cf.c cf.u (gf_sorted x) (ra_cons (re_itemA cf.u (re_var 1) (re_str)) (ra_nil)))) (fun _ _ _ _ _ => rg_name 2 (by exact cf.N)) (fun _ _ _ _ _ => rts_one (rt_neX cf.u1 (re_itemA cf.u (re_itemA cf.u (re_var 1) (re_str)) (re_var 2)) (re_tup (ra_nil)))) (fun _ _ _ _ _ => re_var 2))
  (rss_cons (rs_if (rt_bop (rw_or (rt_neX cf.u1 (re_var 3) (re_itemA cf.u (re_var 1) (re_str))) (rw_or1 (rt_neX cf.u1 (re_var 4) (re_var 5))))) (rss_one (rs_ret (re_bl))) (rss_nil))
  (rss_cons (rs_expr (re_mth (tb := tbAppend) (fun _ _ => at_append) (re_var 3) (ra_cons (re_non) (ra_nil))))
  (rss_cons (rs_expr (re_mth0 (tb := tbClear) (fun _ _ => at_clear) (re_var 4)))
  (rss_one (rs_ret (re_and (re_eqX cf.u1 (re_meth0 (o_Asker_busy x) (cf.at (by decide)) cf.t (re_var 0)) (re_itemA cf.u (re_var 1) (re_str))) (re_and (re_eqX cf.u1 (re_lenB (o_Asker_len x) (cf.at (by decide)) (gf_len x) (ra_cons (re_var 0) (ra_nil))) (re_lenA (gf_len x) (ra_cons (re_itemA cf.u (re_var 1) (re_str)) (ra_nil)))) (re_one (re_eqX cf.u1 (re_meth0 (o_Asker_called x) (cf.at (by decide)) cf.t (re_var 0)) (re_str))))))))))))
theorem o_l_law_right (x : Fx K mg) : Fn P w K mg base 4 "_law_right" [] p_l_law_right :=
  let ⟨_, F⟩ := (let ⟨_, _, _, c⟩ := x.ex; c.d.def_ 9 (d := d_l_law_right) rfl); fn_mk F s_l_law_right (gg__law_right x) (fun _ _ _ _ _ _ us hl => match us, hl with | [_, _], _ => rfl) (r_l_law_right x)
/-! _law_pool -/
def b_l_law_pool : SM := seq (asg (cst (.int 0)) (toN 2))
  (seq (ifS (toB (op2 (eqX not) (vr 0) (lstE finL (aNil)))) (asg (op2 ixA (vr 0) (op2 modI (vr 1) (callM (lenA) [] (aCons (vr 0) (aNil))))) (toN 2)) (skp))
  (seq (ifS (toB (op2 (geI) (vr 1) (callM (lenA) [] (aCons (vr 0) (aNil))))) (asg (op2 ixA (lstE finL (aCons (op2 modI (vr 2) (cst (.int 1000003))) (aCons (op2 fdivI (vr 2) (op2 powI (cst (.int 10)) (cst (.int 18)))) (aNil)))) (callM (arg1 intF) [] (aCons (op2 (geI) (vr 2) (op2 powI (cst (.int 10)) (cst (.int 36)))) (aNil)))) (toN 2)) (skp))
  (seq (asg (op2 modI (op2 (mulA finL) (op2 (addD finL) (op2 (addD finL) (op2 modI (vr 2) (cst (.int 2147483629))) (op2 (mulA finL) (cst (.int 104729)) (vr 1))) (cst (.int 11))) (cst (.int 48271))) (cst (.int 2147483647))) (toN 3))
  (rtn (lstE finM (aCons (op2 (mulA finL) (vr 2) (callM (arg1 intF) [] (aCons (op2 (geI) (vr 2) (op2 powI (cst (.int 10)) (cst (.int 18)))) (aNil)))) (aCons (vr 3) (aNil))))))))
def p_l_law_pool : List D → M D := run b_l_law_pool 2 4
theorem s_l_law_pool : FnScope ["_law_script", "_law_k", "_law_cell", "_law_seed"] ["_law_script", "_law_k"] (defScope st_l_law_pool) := ⟨rfl, rfl, rfl, by decide +kernel, rfl, by decide +kernel, by decide +kernel⟩
theorem r_l_law_pool (x : Fx K mg) : Bd P w K mg base ["_law_script", "_law_k", "_law_cell", "_law_seed"] "_law_pool" (defScope st_l_law_pool) (He.ga K "_law_pool") (defBody st_l_law_pool) 0 b_l_law_pool := fun cdv A outer s H E cf =>
  rss_cons (rs_set 2 cf.N (re_int))
  (rss_cons (rs_if (rt_neX cf.u1 (re_var 0) (re_lst newL (ra_nil))) (rss_one (rs_set 2 cf.N (re_itemA cf.u (re_var 0) (re_mod (re_var 1) (re_lenA (gf_len x) (ra_cons (re_var 0) (ra_nil))))))) (rss_nil))
  (rss_cons (rs_if (rt_ge (re_var 1) (re_lenA (gf_len x) (ra_cons (re_var 0) (ra_nil)))) (rss_one (rs_set 2 cf.N (re_itemA cf.u (re_lst newL (ra_cons (re_mod (re_var 2) (re_int)) (ra_cons (re_fdiv (re_var 2) (re_pow (re_int) (re_int))) (ra_nil)))) (re_toint (gf_int x) (ra_cons (re_ge (re_var 2) (re_pow (re_int) (re_int))) (ra_nil)))))) (rss_nil))
  (rss_cons (rs_set 3 cf.N (re_mod (re_mulA newL (re_plus newL (re_plus newL (re_mod (re_var 2) (re_int)) (re_mulA newL (re_int) (re_var 1))) (re_int)) (re_int)) (re_int)))
  (rss_one (rs_ret (re_lst newM (ra_cons (re_mulA newL (re_var 2) (re_toint (gf_int x) (ra_cons (re_ge (re_var 2) (re_pow (re_int) (re_int))) (ra_nil)))) (ra_cons (re_var 3) (ra_nil)))))))))
theorem o_l_law_pool (x : Fx K mg) : Fn P w K mg base 1 "_law_pool" [] p_l_law_pool :=
  let ⟨_, F⟩ := (let ⟨_, _, _, c⟩ := x.ex; c.d.def_ 10 (d := d_l_law_pool) rfl); fn_mk F s_l_law_pool (gg__law_pool x) (fun _ _ _ _ _ _ us hl => match us, hl with | [_, _], _ => rfl) (r_l_law_pool x)
/-! _law_copied -/
def b_l_law_copied : SM := rtn (dispM ((cst (.str "known"), callM (arg1 dictF) [] (aCons (op2 ixA (vr 0) (cst (.str "known"))) (aNil))) :: ((cst (.str "busy"), op2 ixA (vr 0) (cst (.str "busy"))) :: ((cst (.str "told"), callM (arg1 (listAF finL)) [] (aCons (op2 ixA (vr 0) (cst (.str "told"))) (aNil))) :: ([])))))
def p_l_law_copied : List D → M D := run b_l_law_copied 1 1
theorem s_l_law_copied : FnScope ["_law_book"] ["_law_book"] (defScope st_l_law_copied) := ⟨rfl, rfl, rfl, by decide +kernel, rfl, by decide +kernel, by decide +kernel⟩
theorem r_l_law_copied (x : Fx K mg) : Bd P w K mg base ["_law_book"] "_law_copied" (defScope st_l_law_copied) (He.ga K "_law_copied") (defBody st_l_law_copied) 0 b_l_law_copied := fun cdv A outer s H E cf =>
  rss_one (rs_ret (re_disp (rps_cons (re_str) (re_dict cf.c (gf_dict x) (ra_cons (re_itemA cf.u (re_var 0) (re_str)) (ra_nil))) (rps_cons (re_str) (re_itemA cf.u (re_var 0) (re_str)) (rps_cons (re_str) (re_listA newL cf.c (gf_list x) (ra_cons (re_itemA cf.u (re_var 0) (re_str)) (ra_nil))) (rps_nil))))))
theorem o_l_law_copied (x : Fx K mg) : Fn P w K mg base 1 "_law_copied" [] p_l_law_copied :=
  let ⟨_, F⟩ := (let ⟨_, _, _, c⟩ := x.ex; c.d.def_ 11 (d := d_l_law_copied) rfl); fn_mk F s_l_law_copied (gg__law_copied x) (fun _ _ _ _ _ _ us hl => match us, hl with | [_], _ => rfl) (r_l_law_copied x)
/-! Asker.twin -/
def b_Asker_twin : SM := seq (asg (mkM "Asker" p_Asker_init [] (aCons (fldM "Asker" "own_name" (vr 0)) (aNil))) (toN 1))
  (seq (stF "Asker" "known_of" (callM (arg1 dictF) [] (aCons (fldM "Asker" "known_of" (vr 0)) (aNil))) (vr 1))
  (seq (stF "Asker" "under_way" (fldM "Asker" "under_way" (vr 0)) (vr 1))
  (seq (stF "Asker" "own_tellings" (callM (arg1 (listAF finM)) [] (aCons (fldM "Asker" "own_tellings" (vr 0)) (aNil))) (vr 1))
  (rtn (vr 1)))))
def p_Asker_twin : List D → M D := run b_Asker_twin 1 2
theorem s_Asker_twin : FnScope ["self", "found"] ["self"] (defScope st_Asker_twin) := ⟨rfl, rfl, rfl, by decide +kernel, rfl, by decide +kernel, by decide +kernel⟩
theorem r_Asker_twin (x : Fx K mg) : Bd P w K mg base ["self", "found"] "Asker.twin" (defScope st_Asker_twin) (He.ma K (He.ga K "Asker") "twin") (defBody st_Asker_twin) 3 b_Asker_twin := fun cdv A outer s H E cf =>
  rss_cons (rs_set 1 cf.N (re_make (o_Asker_init x) (cf.at (by decide)) cf.t (ra_cons (re_fld (fd_Asker_own_name x) (re_var 0)) (ra_nil))))
  (rss_cons (rs_fld (fd_Asker_known_of x) (re_var 1) (re_dict cf.c (gf_dict x) (ra_cons (re_fld (fd_Asker_known_of x) (re_var 0)) (ra_nil))))
  (rss_cons (rs_fld (fd_Asker_under_way x) (re_var 1) (re_fld (fd_Asker_under_way x) (re_var 0)))
  (rss_cons (rs_fld (fd_Asker_own_tellings x) (re_var 1) (re_listA newM cf.c (gf_list x) (ra_cons (re_fld (fd_Asker_own_tellings x) (re_var 0)) (ra_nil))))
  (rss_one (rs_ret (re_var 1))))))
theorem o_Asker_twin (x : Fx K mg) : Mt P w K mg base 4 "Asker" "twin" [] p_Asker_twin :=
  let ⟨_, F⟩ := (let ⟨_, _, _, c⟩ := x.ex; c.d.def_ 12 (d := d_Asker_twin) rfl); mt_mk F s_Asker_twin (gg_Asker x) (gc_Asker x) (gm_Asker_twin x) (fun _ _ _ _ _ _ us hl => match us, hl with | [_], _ => rfl) (r_Asker_twin x)
/-! _law_take -/
def b_l_law_take : SM := seq (ifS (toB (op2 (gtI) (op2 ixA (vr 0) (cst (.int 0))) (cst (.int 0)))) (seq (asg (op2 modI (op2 ixA (vr 0) (cst (.int 0))) (vr 1)) (toN 2))
  (seq (asg (op2 fdivI (op2 ixA (vr 0) (cst (.int 0))) (vr 1)) (toSub (vr 0) (cst (.int 0))))
  (rtn (vr 2)))) (skp))
  (seq (asg (op2 modI (op2 (addD finL) (op2 (mulA finL) (op2 ixA (vr 0) (cst (.int 1))) (cst (.int 48271))) (cst (.int 11))) (cst (.int 2147483647))) (toSub (vr 0) (cst (.int 1))))
  (rtn (op2 modI (op2 fdivI (op2 modI (op2 (mulA finL) (op2 ixA (vr 0) (cst (.int 1))) (op2 ixA (vr 0) (cst (.int 1)))) (cst (.int 2147483629))) (cst (.int 64))) (vr 1))))
def p_l_law_take : List D → M D := run b_l_law_take 2 3
theorem s_l_law_take : FnScope ["_law_pool_here", "_law_many", "_law_digit"] ["_law_pool_here", "_law_many"] (defScope st_l_law_take) := ⟨rfl, rfl, rfl, by decide +kernel, rfl, by decide +kernel, by decide +kernel⟩
theorem r_l_law_take (x : Fx K mg) : Bd P w K mg base ["_law_pool_here", "_law_many", "_law_digit"] "_law_take" (defScope st_l_law_take) (He.ga K "_law_take") (defBody st_l_law_take) 0 b_l_law_take := fun cdv A outer s H E cf =>
  rss_cons (rs_if (rt_gt (re_itemA cf.u (re_var 0) (re_int)) (re_int)) (rss_cons (rs_set 2 cf.N (re_mod (re_itemA cf.u (re_var 0) (re_int)) (re_var 1)))
  (rss_cons (rs_asg (ws := []) (re_fdiv (re_itemA cf.u (re_var 0) (re_int)) (re_var 1)) (rg_sub (by exact cf.u) (re_var 0) (re_int)))
  (rss_one (rs_ret (re_var 2))))) (rss_nil))
  (rss_cons (rs_asg (ws := []) (re_mod (re_plus newL (re_mulA newL (re_itemA cf.u (re_var 0) (re_int)) (re_int)) (re_int)) (re_int)) (rg_sub (by exact cf.u) (re_var 0) (re_int)))
  (rss_one (rs_ret (re_mod (re_fdiv (re_mod (re_mulA newL (re_itemA cf.u (re_var 0) (re_int)) (re_itemA cf.u (re_var 0) (re_int))) (re_int)) (re_int)) (re_var 1)))))
theorem o_l_law_take (x : Fx K mg) : Fn P w K mg base 1 "_law_take" [] p_l_law_take :=
  let ⟨_, F⟩ := (let ⟨_, _, _, c⟩ := x.ex; c.d.def_ 13 (d := d_l_law_take) rfl); fn_mk F s_l_law_take (gg__law_take x) (fun _ _ _ _ _ _ us hl => match us, hl with | [_, _], _ => rfl) (r_l_law_take x)
/-! _law_known -/
def b_l_law_known : SM := seq (asg (lstE finL (aNil)) (toN 1))
  (seq (forS (itRng1 (aCons (callM p_l_law_take [] (aCons (vr 0) (aCons (cst (.int 5)) (aNil)))) (aNil))) (toN 2) (seq (asg (tupE (aCons (op2 (addD finL) (cst (.int 1)) (callM p_l_law_take [] (aCons (vr 0) (aCons (cst (.int 9)) (aNil))))) (aCons (op2 ixA (cst (.str "abc")) (callM p_l_law_take [] (aCons (vr 0) (aCons (cst (.int 3)) (aNil))))) (aCons (op2 (addD finL) (cst (.int 1)) (callM p_l_law_take [] (aCons (vr 0) (aCons (cst (.int 2)) (aNil))))) (aNil))))) (toN 3))
  (asg (op2 (addD finL) (vr 1) (op2 (mulA finL) (lstE finL (aCons (vr 3) (aNil))) (callM (arg1 intF) [] (aCons (op2 (inA not) (vr 3) (vr 1)) (aNil))))) (toN 1))))
  (rtn (callM (arg1 tupF) [] (aCons (callM (arg1 (sortAF finL)) [] (aCons (vr 1) (aNil))) (aNil)))))
def p_l_law_known : List D → M D := run b_l_law_known 1 4
theorem s_l_law_known : FnScope ["_law_pool_here", "_law_found", "_law_turn", "_law_dot"] ["_law_pool_here"] (defScope st_l_law_known) := ⟨rfl, rfl, rfl, by decide +kernel, rfl, by decide +kernel, by decide +kernel⟩
theorem r_l_law_known (x : Fx K mg) : Bd P w K mg base ["_law_pool_here", "_law_found", "_law_turn", "_law_dot"] "_law_known" (defScope st_l_law_known) (He.ga K "_law_known") (defBody st_l_law_known) 1 b_l_law_known := fun cdv A outer s H E cf =>
  rss_cons (rs_set 1 cf.N (re_lst newL (ra_nil)))
  (rss_cons (rs_for (ws := [2]) cf.p cf.c (ri_rng1 (gf_range x) (ra_cons (re_call (o_l_law_take x) (cf.at (by decide)) cf.t (ra_cons (re_var 0) (ra_cons (re_int) (ra_nil)))) (ra_nil))) (rg_name 2 (by exact cf.N)) (rss_cons (rs_set 3 cf.N (re_tup (ra_cons (re_plus newL (re_int) (re_call (o_l_law_take x) (cf.at (by decide)) cf.t (ra_cons (re_var 0) (ra_cons (re_int) (ra_nil))))) (ra_cons (re_itemA cf.u (re_str) (re_call (o_l_law_take x) (cf.at (by decide)) cf.t (ra_cons (re_var 0) (ra_cons (re_int) (ra_nil))))) (ra_cons (re_plus newL (re_int) (re_call (o_l_law_take x) (cf.at (by decide)) cf.t (ra_cons (re_var 0) (ra_cons (re_int) (ra_nil))))) (ra_nil))))))
  (rss_one (rs_set 1 cf.N (re_plus newL (re_var 1) (re_mulA newL (re_lst newL (ra_cons (re_var 3) (ra_nil))) (re_toint (gf_int x) (ra_cons (re_ninA cf.u (re_var 3) (re_var 1)) (ra_nil)))))))))
  (rss_one (rs_ret (re_tuple (gf_tuple x) (ra_cons (re_sortA newL cf.c cf.u (gf_sorted x) (ra_cons (re_var 1) (ra_nil))) (ra_nil))))))
theorem o_l_law_known (x : Fx K mg) : Fn P w K mg base 2 "_law_known" [] p_l_law_known :=
  let ⟨_, F⟩ := (let ⟨_, _, _, c⟩ := x.ex; c.d.def_ 14 (d := d_l_law_known) rfl); fn_mk F s_l_law_known (gg__law_known x) (fun _ _ _ _ _ _ us hl => match us, hl with | [_], _ => rfl) (r_l_law_known x)
/-! is_whole -/
def b_is_whole : SM := rtn (andV (isiM .int (vr 0)) (notV (isiM .bl (vr 0))))
def p_is_whole : List D → M D := run b_is_whole 1 1
theorem s_is_whole : FnScope ["thing"] ["thing"] (defScope st_is_whole) := ⟨rfl, rfl, rfl, by decide +kernel, rfl, by decide +kernel, by decide +kernel⟩
theorem r_is_whole (x : Fx K mg) : Bd P w K mg base ["thing"] "is_whole" (defScope st_is_whole) (He.ga K "is_whole") (defBody st_is_whole) 0 b_is_whole := fun cdv A outer s H E cf =>
  rss_one (rs_ret (re_and (re_isi .int (by decide) (gf_isinstance x) (gf_int x) (by with_unfolding_all rfl) (re_var 0)) (re_one (re_not (re_isi .bl (by decide) (gf_isinstance x) (gf_bool x) (by with_unfolding_all rfl) (re_var 0))))))
theorem o_is_whole (x : Fx K mg) : Fn P w K mg base 1 "is_whole" [] p_is_whole :=
  let ⟨_, F⟩ := (let ⟨_, _, _, c⟩ := x.ex; c.d.def_ 15 (d := d_is_whole) rfl); fn_mk F s_is_whole (gg_is_whole x) (fun _ _ _ _ _ _ us hl => match us, hl with | [_], _ => rfl) (r_is_whole x)
/-! is_dot -/
def b_is_dot : SM := seq (ifS (orB (notB (toB (isiM .tup (vr 0)))) (toB (op2 (eqX not) (callM (lenA) [] (aCons (vr 0) (aNil))) (cst (.int 3))))) (rtn (cst (.bl false))) (skp))
  (seq (asg (vr 0) (toSeq 3 (toCons (toN 1) (toCons (toN 2) (toCons (toN 3) (toNil))))))
  (rtn (andV (callM p_is_whole [] (aCons (vr 1) (aNil))) (andV (chn leI leI (cst (.int 1)) (vr 1) (cst (.int 1000000000000))) (andV (callM p_is_word [] (aCons (vr 2) (aNil))) (andV (callM p_is_whole [] (aCons (vr 3) (aNil))) (op2 (geI) (vr 3) (cst (.int 1)))))))))
def p_is_dot : List D → M D := run b_is_dot 1 4
theorem s_is_dot : FnScope ["thing", "number", "house", "life"] ["thing"] (defScope st_is_dot) := ⟨rfl, rfl, rfl, by decide +kernel, rfl, by decide +kernel, by decide +kernel⟩
theorem r_is_dot (x : Fx K mg) : Bd P w K mg base ["thing", "number", "house", "life"] "is_dot" (defScope st_is_dot) (He.ga K "is_dot") (defBody st_is_dot) 1 b_is_dot := fun cdv A outer s H E cf =>
  rss_cons (rs_if (rt_bop (rw_or (rt_not (rt_val (re_isi .tup (by decide) (gf_isinstance x) (gf_tuple x) (by with_unfolding_all rfl) (re_var 0)))) (rw_or1 (rt_neX cf.u1 (re_lenA (gf_len x) (ra_cons (re_var 0) (ra_nil))) (re_int))))) (rss_one (rs_ret (re_bl))) (rss_nil))
  (rss_cons (rs_asg (ws := [1, 2, 3]) (re_var 0) (rg_seq (by exact cf.c) (rgs_cons (rg_name 1 (by exact cf.N)) (rgs_cons (rg_name 2 (by exact cf.N)) (rgs_cons (rg_name 3 (by exact cf.N)) (rgs_nil))))))
  (rss_one (rs_ret (re_and (re_call (o_is_whole x) (cf.at (by decide)) cf.t (ra_cons (re_var 1) (ra_nil))) (re_and (re_cLeLe (re_int) (re_var 1) (re_gI (gi_MOST_NUMBER x))) (re_and (re_call (o_is_word x) (cf.at (by decide)) cf.t (ra_cons (re_var 2) (ra_nil))) (re_and (re_call (o_is_whole x) (cf.at (by decide)) cf.t (ra_cons (re_var 3) (ra_nil))) (re_one (re_ge (re_var 3) (re_int))))))))))
theorem o_is_dot (x : Fx K mg) : Fn P w K mg base 2 "is_dot" [] p_is_dot :=
  let ⟨_, F⟩ := (let ⟨_, _, _, c⟩ := x.ex; c.d.def_ 16 (d := d_is_dot) rfl); fn_mk F s_is_dot (gg_is_dot x) (fun _ _ _ _ _ _ us hl => match us, hl with | [_], _ => rfl) (r_is_dot x)
/-! is_known -/
def b_is_known : SM := seq (ifS (orB (notB (toB (isiM .tup (vr 0)))) (notB (toB (callM (arg1 (blsF fun bs => bs.all id)) [] (aCons (lockE (pkV 0) (lcM [1] (itAny (vr 0)) (toN 1) (yesB) (callM p_is_dot [] (aCons (vr 1) (aNil))) finL)) (aNil)))))) (rtn (cst (.bl false))) (skp))
  (rtn (callM (arg1 (blsF fun bs => bs.all id)) [] (aCons (lockE (pkV 0) (lcM [1, 2] (itZip (aCons (vr 0) (aCons (slM (slD finL) (vr 0) (ptP (cst (.int 1))) (noP)) (aNil)))) (toSeq 2 (toCons (toN 1) (toCons (toN 2) (toNil)))) (yesB) (op2 (ltD) (vr 1) (vr 2)) finL)) (aNil))))
def p_is_known : List D → M D := run b_is_known 1 3
theorem s_is_known : FnScope ["thing", "one", "other"] ["thing"] (defScope st_is_known) := ⟨rfl, rfl, rfl, by decide +kernel, rfl, by decide +kernel, by decide +kernel⟩
theorem r_is_known (x : Fx K mg) : Bd P w K mg base ["thing", "one", "other"] "is_known" (defScope st_is_known) (He.ga K "is_known") (defBody st_is_known) 2 b_is_known := fun cdv A outer s H E cf =>
  rss_cons (rs_if (rt_bop (rw_or (rt_not (rt_val (re_isi .tup (by decide) (gf_isinstance x) (gf_tuple x) (by with_unfolding_all rfl) (re_var 0)))) (rw_or1 (rt_not (rt_val (re_all cf.c (gf_all x) (ra_cons (re_lock (pkV 0) (re_lc finL_ok [("one", 1)] cf.c cf.N (by rfl) (ri_any (re_var 0)) (fun _ _ _ _ _ => rg_name 1 (by exact cf.N)) (fun _ _ _ _ _ => rts_nil) (fun _ _ _ _ _ => re_call (o_is_dot x) (cf.at (by decide)) tk0 (ra_cons (re_var 1) (ra_nil))))) (ra_nil)))))))) (rss_one (rs_ret (re_bl))) (rss_nil))
  (rss_one (rs_ret (re_all cf.c (gf_all x) (ra_cons (re_lock (pkV 0) (re_lc finL_ok [("one", 1), ("other", 2)] cf.c cf.N (by rfl) (ri_zip (gf_zip x) (ra_cons (re_var 0) (ra_cons (re_slice newL (re_var 0) (ro_some (re_int)) (ro_none)) (ra_nil)))) (fun _ _ _ _ _ => rg_seq (by exact cf.c) (rgs_cons (rg_name 1 (by exact cf.N)) (rgs_cons (rg_name 2 (by exact cf.N)) (rgs_nil)))) (fun _ _ _ _ _ => rts_nil) (fun _ _ _ _ _ => re_lt cf.u (re_var 1) (re_var 2)))) (ra_nil)))))
theorem o_is_known (x : Fx K mg) : Fn P w K mg base 3 "is_known" [] p_is_known :=
  let ⟨_, F⟩ := (let ⟨_, _, _, c⟩ := x.ex; c.d.def_ 17 (d := d_is_known) rfl); fn_mk F s_is_known (gg_is_known x) (fun _ _ _ _ _ _ us hl => match us, hl with | [_], _ => rfl) (r_is_known x)
/-! together -/
def b_together : SM := rtn (callM (arg1 tupF) [] (aCons (ds2M [1, 2] [2] (itAny (vr 0)) (toN 1) (yesB) (itTup (vr 1)) (toN 2) (yesB) (vr 2) finL) (aNil)))
def p_together : List D → M D := run b_together 1 3
theorem s_together : FnScope ["some", "known", "dot"] ["some"] (defScope st_together) := ⟨rfl, rfl, rfl, by decide +kernel, rfl, by decide +kernel, by decide +kernel⟩
theorem r_together (x : Fx K mg) : Bd P w K mg base ["some", "known", "dot"] "together" (defScope st_together) (He.ga K "together") (defBody st_together) 0 b_together := fun cdv A outer s H E cf =>
  rss_one (rs_ret (re_tuple (gf_tuple x) (ra_cons (re_sortDots2 newL [("known", 1), ("dot", 2)] [2] cf.c cf.u1 (gf_sorted x) cf.N (by rfl) (by decide) (ri_any (re_var 0)) (fun _ _ _ _ _ => rg_name 1 (by exact cf.N)) (fun _ _ _ _ _ => rts_nil) (fun _ _ _ _ _ => ri_tupM (re_var 1)) (fun _ _ _ _ _ => rg_name 2 (by exact cf.N)) (fun _ _ _ _ _ => rts_nil) (fun _ _ _ _ _ => re_var 2)) (ra_nil))))
theorem o_together (x : Fx K mg) : Fn P w K mg base 1 "together" [] p_together :=
  let ⟨_, F⟩ := (let ⟨_, _, _, c⟩ := x.ex; c.d.def_ 18 (d := d_together) rfl); fn_mk F s_together (gg_together x) (fun _ _ _ _ _ _ us hl => match us, hl with | [_], _ => rfl) (r_together x)
/-! Asker.learn -/
def b_Asker_learn : SM := seq (asg (mtM "Asker" "known" p_Asker_known [] (vr 0) (aCons (vr 1) (aNil))) (toN 3))
  (seq (ifS (notB (toB (callM p_is_known [] (aCons (vr 2) (aNil))))) (badS) (skp))
  (seq (asg (callM p_together [] (aCons (lstE finL (aCons (vr 3) (aCons (vr 2) (aNil)))) (aNil))) (toSub (fldM "Asker" "known_of" (vr 0)) (vr 1)))
  (rtn (op2 (eqX not) (op2 ixA (fldM "Asker" "known_of" (vr 0)) (vr 1)) (vr 3)))))
def p_Asker_learn : List D → M D := run b_Asker_learn 3 4
theorem s_Asker_learn : FnScope ["self", "word", "known", "ahead"] ["self", "word", "known"] (defScope st_Asker_learn) := ⟨rfl, rfl, rfl, by decide +kernel, rfl, by decide +kernel, by decide +kernel⟩
theorem r_Asker_learn (x : Fx K mg) : Bd P w K mg base ["self", "word", "known", "ahead"] "Asker.learn" (defScope st_Asker_learn) (He.ma K (He.ga K "Asker") "learn") (defBody st_Asker_learn) 3 b_Asker_learn := fun cdv A outer s H E cf =>
  rss_cons (rs_set 3 cf.N (re_meth (o_Asker_known x) (cf.at (by decide)) cf.t (re_var 0) (ra_cons (re_var 1) (ra_nil))))
  (rss_cons (rs_if (rt_not (rt_val (re_call (o_is_known x) (cf.at (by decide)) cf.t (ra_cons (re_var 2) (ra_nil))))) (rss_one (rs_bad)) (rss_nil))
  (rss_cons (rs_asg (ws := []) (re_call (o_together x) (cf.at (by decide)) cf.t (ra_cons (re_lst newL (ra_cons (re_var 3) (ra_cons (re_var 2) (ra_nil)))) (ra_nil))) (rg_sub (by exact cf.u) (re_fld (fd_Asker_known_of x) (re_var 0)) (re_var 1)))
  (rss_one (rs_ret (re_neX cf.u1 (re_itemA cf.u (re_fld (fd_Asker_known_of x) (re_var 0)) (re_var 1)) (re_var 3))))))
theorem o_Asker_learn (x : Fx K mg) : Mt P w K mg base 4 "Asker" "learn" [] p_Asker_learn :=
  let ⟨_, F⟩ := (let ⟨_, _, _, c⟩ := x.ex; c.d.def_ 19 (d := d_Asker_learn) rfl); mt_mk F s_Asker_learn (gg_Asker x) (gc_Asker x) (gm_Asker_learn x) (fun _ _ _ _ _ _ us hl => match us, hl with | [_, _, _], _ => rfl) (r_Asker_learn x)
/-! _law_learnt -/
def b_l_law_learnt : SM := seq (asg (mthM tbGet (op2 ixA (vr 0) (cst (.str "known"))) (aCons (vr 1) (aCons (tupE (aNil)) (aNil)))) (toN 3))
  (seq (asg (callM (arg1 tupF) [] (aCons (callM (arg1 (stOf finL)) [] (aCons (op2 (addD finL) (vr 3) (vr 2)) (aNil))) (aNil))) (toSub (op2 ixA (vr 0) (cst (.str "known"))) (vr 1)))
  (rtn (op2 (eqX not) (op2 ixA (op2 ixA (vr 0) (cst (.str "known"))) (vr 1)) (vr 3))))
def p_l_law_learnt : List D → M D := run b_l_law_learnt 3 4
theorem s_l_law_learnt : FnScope ["_law_book", "_law_word", "_law_known_here", "_law_ahead"] ["_law_book", "_law_word", "_law_known_here"] (defScope st_l_law_learnt) := ⟨rfl, rfl, rfl, by decide +kernel, rfl, by decide +kernel, by decide +kernel⟩
theorem r_l_law_learnt (x : Fx K mg) : Bd P w K mg base ["_law_book", "_law_word", "_law_known_here", "_law_ahead"] "_law_learnt" (defScope st_l_law_learnt) (He.ga K "_law_learnt") (defBody st_l_law_learnt) 0 b_l_law_learnt := fun cdv A outer s H E cf =>
  rss_cons (rs_set 3 cf.N (re_mth (tb := tbGet) (fun _ _ => at_get cf.u) (re_itemA cf.u (re_var 0) (re_str)) (ra_cons (re_var 1) (ra_cons (re_tup (ra_nil)) (ra_nil)))))
  (rss_cons (rs_asg (ws := []) (re_tuple (gf_tuple x) (ra_cons (re_sortOfSet2 newL cf.c cf.u (gf_sorted x) (gf_set x) (ra_cons (re_plus newL (re_var 3) (re_var 2)) (ra_nil))) (ra_nil))) (rg_sub (by exact cf.u) (re_itemA cf.u (re_var 0) (re_str)) (re_var 1)))
  (rss_one (rs_ret (re_neX cf.u1 (re_itemA cf.u (re_itemA cf.u (re_var 0) (re_str)) (re_var 1)) (re_var 3)))))
theorem o_l_law_learnt (x : Fx K mg) : Fn P w K mg base 1 "_law_learnt" [] p_l_law_learnt :=
  let ⟨_, F⟩ := (let ⟨_, _, _, c⟩ := x.ex; c.d.def_ 20 (d := d_l_law_learnt) rfl); fn_mk F s_l_law_learnt (gg__law_learnt x) (fun _ _ _ _ _ _ us hl => match us, hl with | [_, _, _], _ => rfl) (r_l_law_learnt x)
/-! Asker.begin -/
def b_Asker_begin : SM := seq (ifS (toB (op2 (isN not) (fldM "Asker" "under_way" (vr 0)) (cst .non))) (badS) (skp))
  (stF "Asker" "under_way" (vr 1) (vr 0))
def p_Asker_begin : List D → M D := run b_Asker_begin 2 2
theorem s_Asker_begin : FnScope ["self", "number"] ["self", "number"] (defScope st_Asker_begin) := ⟨rfl, rfl, rfl, by decide +kernel, rfl, by decide +kernel, by decide +kernel⟩
theorem r_Asker_begin (x : Fx K mg) : Bd P w K mg base ["self", "number"] "Asker.begin" (defScope st_Asker_begin) (He.ma K (He.ga K "Asker") "begin") (defBody st_Asker_begin) 0 b_Asker_begin := fun cdv A outer s H E cf =>
  rss_cons (rs_if (rt_notN (re_fld (fd_Asker_under_way x) (re_var 0)) (re_non)) (rss_one (rs_bad)) (rss_nil))
  (rss_one (rs_fld (fd_Asker_under_way x) (re_var 0) (re_var 1)))
theorem o_Asker_begin (x : Fx K mg) : Mt P w K mg base 1 "Asker" "begin" [] p_Asker_begin :=
  let ⟨_, F⟩ := (let ⟨_, _, _, c⟩ := x.ex; c.d.def_ 21 (d := d_Asker_begin) rfl); mt_mk F s_Asker_begin (gg_Asker x) (gc_Asker x) (gm_Asker_begin x) (fun _ _ _ _ _ _ us hl => match us, hl with | [_, _], _ => rfl) (r_Asker_begin x)
/-! Asker.leave_off -/
def b_Asker_leave_off : SM := seq (ifS (toB (op2 (isN id) (fldM "Asker" "under_way" (vr 0)) (cst .non))) (badS) (skp))
  (seq (asg (fldM "Asker" "under_way" (vr 0)) (toN 1))
  (seq (stF "Asker" "under_way" (cst .non) (vr 0))
  (rtn (vr 1))))
def p_Asker_leave_off : List D → M D := run b_Asker_leave_off 1 2
theorem s_Asker_leave_off : FnScope ["self", "found"] ["self"] (defScope st_Asker_leave_off) := ⟨rfl, rfl, rfl, by decide +kernel, rfl, by decide +kernel, by decide +kernel⟩
theorem r_Asker_leave_off (x : Fx K mg) : Bd P w K mg base ["self", "found"] "Asker.leave_off" (defScope st_Asker_leave_off) (He.ma K (He.ga K "Asker") "leave_off") (defBody st_Asker_leave_off) 0 b_Asker_leave_off := fun cdv A outer s H E cf =>
  rss_cons (rs_if (rt_isN (re_fld (fd_Asker_under_way x) (re_var 0)) (re_non)) (rss_one (rs_bad)) (rss_nil))
  (rss_cons (rs_set 1 cf.N (re_fld (fd_Asker_under_way x) (re_var 0)))
  (rss_cons (rs_fld (fd_Asker_under_way x) (re_var 0) (re_non))
  (rss_one (rs_ret (re_var 1)))))
theorem o_Asker_leave_off (x : Fx K mg) : Mt P w K mg base 1 "Asker" "leave_off" [] p_Asker_leave_off :=
  let ⟨_, F⟩ := (let ⟨_, _, _, c⟩ := x.ex; c.d.def_ 22 (d := d_Asker_leave_off) rfl); mt_mk F s_Asker_leave_off (gg_Asker x) (gc_Asker x) (gm_Asker_leave_off x) (fun _ _ _ _ _ _ us hl => match us, hl with | [_], _ => rfl) (r_Asker_leave_off x)
/-! Asker.hear -/
def b_Asker_hear : SM := seq (ifS (toB (op2 (eqX not) (fldM "Asker" "under_way" (vr 0)) (vr 1))) (rtn (cst (.bl false))) (skp))
  (seq (drp (mtM "Asker" "learn" p_Asker_learn [] (vr 0) (aCons (vr 2) (aCons (vr 4) (aNil)))))
  (seq (stF "Asker" "under_way" (cst .non) (vr 0))
  (seq (drp (mthM tbAppend (fldM "Asker" "own_tellings" (vr 0)) (aCons (tupE (aCons (vr 1) (aCons (vr 2) (aCons (ifV (toB (op2 (isN id) (vr 3) (cst .non))) (cst .non) (callM (arg1 tupF) [] (aCons (vr 3) (aNil)))) (aNil))))) (aNil))))
  (rtn (cst (.bl true))))))
def p_Asker_hear : List D → M D := run b_Asker_hear 5 5
theorem s_Asker_hear : FnScope ["self", "number", "word", "worths", "known"] ["self", "number", "word", "worths", "known"] (defScope st_Asker_hear) := ⟨rfl, rfl, rfl, by decide +kernel, rfl, by decide +kernel, by decide +kernel⟩
theorem r_Asker_hear (x : Fx K mg) : Bd P w K mg base ["self", "number", "word", "worths", "known"] "Asker.hear" (defScope st_Asker_hear) (He.ma K (He.ga K "Asker") "hear") (defBody st_Asker_hear) 4 b_Asker_hear := fun cdv A outer s H E cf =>
  rss_cons (rs_if (rt_neX cf.u1 (re_fld (fd_Asker_under_way x) (re_var 0)) (re_var 1)) (rss_one (rs_ret (re_bl))) (rss_nil))
  (rss_cons (rs_expr (re_meth (o_Asker_learn x) (cf.at (by decide)) cf.t (re_var 0) (ra_cons (re_var 2) (ra_cons (re_var 4) (ra_nil)))))
  (rss_cons (rs_fld (fd_Asker_under_way x) (re_var 0) (re_non))
  (rss_cons (rs_expr (re_mth (tb := tbAppend) (fun _ _ => at_append) (re_fld (fd_Asker_own_tellings x) (re_var 0)) (ra_cons (re_tup (ra_cons (re_var 1) (ra_cons (re_var 2) (ra_cons (re_if (rt_isN (re_var 3) (re_non)) (re_non) (re_tuple (gf_tuple x) (ra_cons (re_var 3) (ra_nil)))) (ra_nil))))) (ra_nil))))
  (rss_one (rs_ret (re_bl))))))
theorem o_Asker_hear (x : Fx K mg) : Mt P w K mg base 5 "Asker" "hear" [] p_Asker_hear :=
  let ⟨_, F⟩ := (let ⟨_, _, _, c⟩ := x.ex; c.d.def_ 23 (d := d_Asker_hear) rfl); mt_mk F s_Asker_hear (gg_Asker x) (gc_Asker x) (gm_Asker_hear x) (fun _ _ _ _ _ _ us hl => match us, hl with | [_, _, _, _, _], _ => rfl) (r_Asker_hear x)
/-! _law_step -/
def b_l_law_step : SM := seq (asg (callM p_l_law_take [] (aCons (vr 0) (aCons (cst (.int 7)) (aNil)))) (toN 3))
  (seq (asg (tupE (aCons (op2 ixA (lstE finL (aCons (cst (.str "a")) (aCons (cst (.str "b")) (aCons (cst (.str "c")) (aCons (cst (.str "dd")) (aCons (cst (.str "eeeeee")) (aNil))))))) (callM p_l_law_take [] (aCons (vr 0) (aCons (cst (.int 5)) (aNil))))) (aCons (callM p_l_law_known [] (aCons (vr 0) (aNil))) (aNil)))) (toSeq 2 (toCons (toN 4) (toCons (toN 5) (toNil)))))
  (seq (ifS (toB (op2 (ltD) (vr 3) (cst (.int 2)))) (rtn (op2 (eqX id) (callM (arg1 reprF) [] (aCons (mtM "Asker" "learn" p_Asker_learn [] (vr 1) (aCons (vr 4) (aCons (vr 5) (aNil)))) (aNil))) (callM (arg1 reprF) [] (aCons (callM p_l_law_learnt [] (aCons (vr 2) (aCons (vr 4) (aCons (vr 5) (aNil))))) (aNil))))) (skp))
  (seq (ifS (andB (toB (op2 (ltD) (vr 3) (cst (.int 4)))) (toB (op2 (isN id) (op2 ixA (vr 2) (cst (.str "busy"))) (cst .non)))) (seq (asg (callM p_l_law_take [] (aCons (vr 0) (aCons (cst (.int 9)) (aNil)))) (toSub (vr 2) (cst (.str "busy"))))
  (rtn (op2 (isN id) (mtM "Asker" "begin" p_Asker_begin [] (vr 1) (aCons (op2 ixA (vr 2) (cst (.str "busy"))) (aNil))) (cst .non)))) (skp))
  (seq (ifS (andB (toB (op2 (eqX id) (vr 3) (cst (.int 4)))) (toB (op2 (isN not) (op2 ixA (vr 2) (cst (.str "busy"))) (cst .non)))) (seq (asg (op2 ixA (vr 2) (cst (.str "busy"))) (toN 6))
  (seq (asg (cst .non) (toSub (vr 2) (cst (.str "busy"))))
  (rtn (op2 (eqX id) (mtM "Asker" "leave_off" p_Asker_leave_off [] (vr 1) aNil) (vr 6))))) (skp))
  (seq (asg (callM p_l_law_take [] (aCons (vr 0) (aCons (cst (.int 9)) (aNil)))) (toN 7))
  (seq (ifS (andB (toB (op2 (isN not) (op2 ixA (vr 2) (cst (.str "busy"))) (cst .non))) (toB (op2 (gtI) (callM p_l_law_take [] (aCons (vr 0) (aCons (cst (.int 3)) (aNil)))) (cst (.int 0))))) (asg (op2 ixA (vr 2) (cst (.str "busy"))) (toN 7)) (skp))
  (seq (asg (op2 ixA (lstE finL (aCons (cst .non) (aCons (lstE finM (aNil)) (aCons (lstE finM (aCons (callM p_l_law_take [] (aCons (vr 0) (aCons (cst (.int 9)) (aNil)))) (aNil))) (aCons (lstE finM (aCons (cst (.int 1)) (aCons (callM p_l_law_take [] (aCons (vr 0) (aCons (cst (.int 9)) (aNil)))) (aNil)))) (aNil)))))) (callM p_l_law_take [] (aCons (vr 0) (aCons (cst (.int 4)) (aNil))))) (toN 8))
  (seq (asg (op2 (eqX id) (op2 ixA (vr 2) (cst (.str "busy"))) (vr 7)) (toN 6))
  (seq (ifS (toB (vr 6)) (seq (drp (callM p_l_law_learnt [] (aCons (vr 2) (aCons (vr 4) (aCons (vr 5) (aNil))))))
  (seq (asg (cst .non) (toSub (vr 2) (cst (.str "busy"))))
  (drp (mthM tbAppend (op2 ixA (vr 2) (cst (.str "told"))) (aCons (tupE (aCons (vr 7) (aCons (vr 4) (aCons (ifV (toB (op2 (isN id) (vr 8) (cst .non))) (cst .non) (callM (arg1 tupF) [] (aCons (vr 8) (aNil)))) (aNil))))) (aNil)))))) (skp))
  (seq (asg (mtM "Asker" "hear" p_Asker_hear [] (vr 1) (aCons (vr 7) (aCons (vr 4) (aCons (vr 8) (aCons (vr 5) (aNil)))))) (toN 9))
  (seq (ifS (toB (op2 (isN not) (vr 8) (cst .non))) (drp (mthM tbAppend (vr 8) (aCons (cst (.int 99)) (aNil)))) (skp))
  (rtn (op2 (eqX id) (callM (arg1 reprF) [] (aCons (vr 9) (aNil))) (callM (arg1 reprF) [] (aCons (vr 6) (aNil))))))))))))))))
def p_l_law_step : List D → M D := run b_l_law_step 3 10
theorem s_l_law_step : FnScope ["_law_pool_here", "_law_asker", "_law_book", "_law_road", "_law_word", "_law_known_here", "_law_due", "_law_at", "_law_worths", "_law_found"] ["_law_pool_here", "_law_asker", "_law_book"] (defScope st_l_law_step) := ⟨rfl, rfl, rfl, by decide +kernel, rfl, by decide +kernel, by decide +kernel⟩
theorem r_l_law_step (x : Fx K mg) : Bd P w K mg base ["_law_pool_here", "_law_asker", "_law_book", "_law_road", "_law_word", "_law_known_here", "_law_due", "_law_at", "_law_worths", "_law_found"] "_law_step" (defScope st_l_law_step) (He.ga K "_law_step") (defBody st_l_law_step) 5 b_l_law_step := fun cdv A outer s H E cf =>
  rss_cons (rs_set 3 cf.N (re_call (o_l_law_take x) (cf.at (by decide)) cf.t (ra_cons (re_var 0) (ra_cons (re_int) (ra_nil)))))
  (rss_cons (rs_par 4 5 cf.c cf.N (ra_cons (re_itemA cf.u (re_lst newL (ra_cons (re_str) (ra_cons (re_str) (ra_cons (re_str) (ra_cons (re_str) (ra_cons (re_str) (ra_nil))))))) (re_call (o_l_law_take x) (cf.at (by decide)) cf.t (ra_cons (re_var 0) (ra_cons (re_int) (ra_nil))))) (ra_cons (re_call (o_l_law_known x) (cf.at (by decide)) cf.t (ra_cons (re_var 0) (ra_nil))) (ra_nil))))
  (rss_cons (rs_if (rt_lt cf.u (re_var 3) (re_int)) (rss_one (rs_ret (re_eqX cf.u1 (re_repr cf.g cf.u1 (gf_repr x) (ra_cons (re_meth (o_Asker_learn x) (cf.at (by decide)) cf.t (re_var 1) (ra_cons (re_var 4) (ra_cons (re_var 5) (ra_nil)))) (ra_nil))) (re_repr cf.g cf.u1 (gf_repr x) (ra_cons (re_call (o_l_law_learnt x) (cf.at (by decide)) cf.t (ra_cons (re_var 2) (ra_cons (re_var 4) (ra_cons (re_var 5) (ra_nil))))) (ra_nil)))))) (rss_nil))
  (rss_cons (rs_if (rt_bop (rw_and (rt_lt cf.u (re_var 3) (re_int)) (rw_and1 (rt_isN (re_itemA cf.u (re_var 2) (re_str)) (re_non))))) (rss_cons (rs_asg (ws := []) (re_call (o_l_law_take x) (cf.at (by decide)) cf.t (ra_cons (re_var 0) (ra_cons (re_int) (ra_nil)))) (rg_sub (by exact cf.u) (re_var 2) (re_str)))
  (rss_one (rs_ret (re_isN (re_meth (o_Asker_begin x) (cf.at (by decide)) cf.t (re_var 1) (ra_cons (re_itemA cf.u (re_var 2) (re_str)) (ra_nil))) (re_non))))) (rss_nil))
  (rss_cons (rs_if (rt_bop (rw_and (rt_eqX cf.u1 (re_var 3) (re_int)) (rw_and1 (rt_notN (re_itemA cf.u (re_var 2) (re_str)) (re_non))))) (rss_cons (rs_set 6 cf.N (re_itemA cf.u (re_var 2) (re_str)))
  (rss_cons (rs_asg (ws := []) (re_non) (rg_sub (by exact cf.u) (re_var 2) (re_str)))
  (rss_one (rs_ret (re_eqX cf.u1 (re_meth0 (o_Asker_leave_off x) (cf.at (by decide)) cf.t (re_var 1)) (re_var 6)))))) (rss_nil))
  (rss_cons (rs_set 7 cf.N (re_call (o_l_law_take x) (cf.at (by decide)) cf.t (ra_cons (re_var 0) (ra_cons (re_int) (ra_nil)))))
  (rss_cons (rs_if (rt_bop (rw_and (rt_notN (re_itemA cf.u (re_var 2) (re_str)) (re_non)) (rw_and1 (rt_gt (re_call (o_l_law_take x) (cf.at (by decide)) cf.t (ra_cons (re_var 0) (ra_cons (re_int) (ra_nil)))) (re_int))))) (rss_one (rs_set 7 cf.N (re_itemA cf.u (re_var 2) (re_str)))) (rss_nil))
  (rss_cons (rs_set 8 cf.N (re_itemA cf.u (re_lst newL (ra_cons (re_non) (ra_cons (re_lst newM (ra_nil)) (ra_cons (re_lst newM (ra_cons (re_call (o_l_law_take x) (cf.at (by decide)) cf.t (ra_cons (re_var 0) (ra_cons (re_int) (ra_nil)))) (ra_nil))) (ra_cons (re_lst newM (ra_cons (re_int) (ra_cons (re_call (o_l_law_take x) (cf.at (by decide)) cf.t (ra_cons (re_var 0) (ra_cons (re_int) (ra_nil)))) (ra_nil)))) (ra_nil)))))) (re_call (o_l_law_take x) (cf.at (by decide)) cf.t (ra_cons (re_var 0) (ra_cons (re_int) (ra_nil))))))
  (rss_cons (rs_set 6 cf.N (re_eqX cf.u1 (re_itemA cf.u (re_var 2) (re_str)) (re_var 7)))
  (rss_cons (rs_if (rt_val (re_var 6)) (rss_cons (rs_expr (re_call (o_l_law_learnt x) (cf.at (by decide)) cf.t (ra_cons (re_var 2) (ra_cons (re_var 4) (ra_cons (re_var 5) (ra_nil))))))
  (rss_cons (rs_asg (ws := []) (re_non) (rg_sub (by exact cf.u) (re_var 2) (re_str)))
  (rss_one (rs_expr (re_mth (tb := tbAppend) (fun _ _ => at_append) (re_itemA cf.u (re_var 2) (re_str)) (ra_cons (re_tup (ra_cons (re_var 7) (ra_cons (re_var 4) (ra_cons (re_if (rt_isN (re_var 8) (re_non)) (re_non) (re_tuple (gf_tuple x) (ra_cons (re_var 8) (ra_nil)))) (ra_nil))))) (ra_nil))))))) (rss_nil))
  (rss_cons (rs_set 9 cf.N (re_meth (o_Asker_hear x) (cf.at (by decide)) cf.t (re_var 1) (ra_cons (re_var 7) (ra_cons (re_var 4) (ra_cons (re_var 8) (ra_cons (re_var 5) (ra_nil)))))))
  (rss_cons (rs_if (rt_notN (re_var 8) (re_non)) (rss_one (rs_expr (re_mth (tb := tbAppend) (fun _ _ => at_append) (re_var 8) (ra_cons (re_int) (ra_nil))))) (rss_nil))
  (rss_one (rs_ret (re_eqX cf.u1 (re_repr cf.g cf.u1 (gf_repr x) (ra_cons (re_var 9) (ra_nil))) (re_repr cf.g cf.u1 (gf_repr x) (ra_cons (re_var 6) (ra_nil)))))))))))))))))
theorem o_l_law_step (x : Fx K mg) : Fn P w K mg base 6 "_law_step" [] p_l_law_step :=
  let ⟨_, F⟩ := (let ⟨_, _, _, c⟩ := x.ex; c.d.def_ 24 (d := d_l_law_step) rfl); fn_mk F s_l_law_step (gg__law_step x) (fun _ _ _ _ _ _ us hl => match us, hl with | [_, _, _], _ => rfl) (r_l_law_step x)
/-! Asker.state -/
def b_Asker_state : SM := seq (asg (callM (arg1 tupF) [] (aCons (lcM [2] (itAny (frzE (mtM "Asker" "words" p_Asker_words [] (vr 0) aNil))) (toN 2) (yesB) (tupE (aCons (vr 2) (aCons (op2 ixA (fldM "Asker" "known_of" (vr 0)) (vr 2)) (aNil)))) finL) (aNil))) (toN 1))
  (rtn (tupE (aCons (fldM "Asker" "own_name" (vr 0)) (aCons (vr 1) (aCons (fldM "Asker" "under_way" (vr 0)) (aCons (callM (arg1 tupF) [] (aCons (fldM "Asker" "own_tellings" (vr 0)) (aNil))) (aNil)))))))
def p_Asker_state : List D → M D := run b_Asker_state 1 3
theorem s_Asker_state : FnScope ["self", "some", "word"] ["self"] (defScope st_Asker_state) := ⟨rfl, rfl, rfl, by decide +kernel, rfl, by decide +kernel, by decide +kernel⟩
theorem r_Asker_state (x : Fx K mg) : Bd P w K mg base ["self", "some", "word"] "Asker.state" (defScope st_Asker_state) (He.ma K (He.ga K "Asker") "state") (defBody st_Asker_state) 1 b_Asker_state := fun cdv A outer s H E cf =>
  rss_cons (rs_set 1 cf.N (re_tuple (gf_tuple x) (ra_cons (re_lc finL_ok [("word", 2)] cf.c cf.N (by rfl) (ri_any (re_frz (re_meth0 (o_Asker_words x) (cf.at (by decide)) cf.t (re_var 0)))) (fun _ _ _ _ _ => rg_name 2 (by exact cf.N)) (fun _ _ _ _ _ => rts_nil) (fun _ _ _ _ _ => re_tup (ra_cons (re_var 2) (ra_cons (re_itemA cf.u (re_fld (fd_Asker_known_of x) (re_var 0)) (re_var 2)) (ra_nil))))) (ra_nil))))
  (rss_one (rs_ret (re_tup (ra_cons (re_fld (fd_Asker_own_name x) (re_var 0)) (ra_cons (re_var 1) (ra_cons (re_fld (fd_Asker_under_way x) (re_var 0)) (ra_cons (re_tuple (gf_tuple x) (ra_cons (re_fld (fd_Asker_own_tellings x) (re_var 0)) (ra_nil))) (ra_nil))))))))
theorem o_Asker_state (x : Fx K mg) : Mt P w K mg base 2 "Asker" "state" [] p_Asker_state :=
  let ⟨_, F⟩ := (let ⟨_, _, _, c⟩ := x.ex; c.d.def_ 25 (d := d_Asker_state) rfl); mt_mk F s_Asker_state (gg_Asker x) (gc_Asker x) (gm_Asker_state x) (fun _ _ _ _ _ _ us hl => match us, hl with | [_], _ => rfl) (r_Asker_state x)
/-! Asker.__eq__ -/
def b_Asker_eq : SM := rtn (andV (isiO "Asker" (vr 1)) (op2 (eqX id) (mtM "Asker" "state" p_Asker_state [] (vr 0) aNil) (mtM "Asker" "state" p_Asker_state [] (vr 1) aNil)))
def p_Asker_eq : List D → M D := run b_Asker_eq 2 2
theorem s_Asker_eq : FnScope ["self", "other"] ["self", "other"] (defScope st_Asker_eq) := ⟨rfl, rfl, rfl, by decide +kernel, rfl, by decide +kernel, by decide +kernel⟩
theorem r_Asker_eq (x : Fx K mg) : Bd P w K mg base ["self", "other"] "Asker.__eq__" (defScope st_Asker_eq) (He.ma K (He.ga K "Asker") "__eq__") (defBody st_Asker_eq) 2 b_Asker_eq := fun cdv A outer s H E cf =>
  rss_one (rs_ret (re_and (re_isiO (kc_Asker x) (gf_isinstance x) (re_var 1)) (re_one (re_eqX cf.u1 (re_meth0 (o_Asker_state x) (cf.at (by decide)) cf.t (re_var 0)) (re_meth0 (o_Asker_state x) (cf.at (by decide)) cf.t (re_var 1))))))
theorem o_Asker_eq (x : Fx K mg) : Mt P w K mg base 3 "Asker" "__eq__" [] p_Asker_eq :=
  let ⟨_, F⟩ := (let ⟨_, _, _, c⟩ := x.ex; c.d.def_ 26 (d := d_Asker_eq) rfl); mt_mk F s_Asker_eq (gg_Asker x) (gc_Asker x) (gm_Asker___eq__ x) (fun _ _ _ _ _ _ us hl => match us, hl with | [_, _], _ => rfl) (r_Asker_eq x)
/-! law -/
def b_law : SM := seq (asg (mkM "Asker" p_Asker_init [] (aCons (cst (.str "who")) (aNil))) (toN 1))
  (seq (asg (dispM ((cst (.str "known"), dnewM) :: ((cst (.str "busy"), cst .non) :: ((cst (.str "told"), lstE finM (aNil)) :: ([]))))) (toN 2))
  (seq (ifS (notB (toB (callM p_l_law_right [] (aCons (vr 1) (aCons (vr 2) (aNil)))))) (rtn (cst (.bl false))) (skp))
  (seq (forS (itRng2 (aCons (cst (.int 1)) (aCons (callM (maxA) [] (aCons (cst (.int 9)) (aCons (callM (minI) [] (aCons (callM (lenA) [] (aCons (vr 0) (aNil))) (aCons (cst (.int 41)) (aNil)))) (aNil)))) (aNil)))) (toN 3) (seq (asg (callM p_l_law_pool [] (aCons (vr 0) (aCons (vr 3) (aNil)))) (toN 4))
  (seq (asg (tupE (aCons (mtM "Asker" "twin" p_Asker_twin [] (vr 1) aNil) (aCons (callM p_l_law_copied [] (aCons (vr 2) (aNil))) (aNil)))) (toSeq 2 (toCons (toN 5) (toCons (toN 6) (toNil)))))
  (seq (ifS (orB (notB (toB (callM p_l_law_step [] (aCons (vr 4) (aCons (vr 1) (aCons (vr 2) (aNil))))))) (orB (notB (toB (callM p_l_law_right [] (aCons (vr 1) (aCons (vr 2) (aNil)))))) (notB (toB (callM p_l_law_right [] (aCons (vr 5) (aCons (vr 6) (aNil)))))))) (rtn (cst (.bl false))) (skp))
  (seq (ifS (orB (andB (toB (op2 (eqA "Asker" p_Asker_eq not) (vr 5) (vr 1))) (toB (op2 (eqX id) (callM p_l_law_copied [] (aCons (vr 2) (aNil))) (vr 6)))) (orB (toB (op2 (eqA "Asker" p_Asker_eq id) (vr 1) (vr 2))) (orB (toB (op2 (eqA "Asker" p_Asker_eq id) (vr 1) (cst (.str "who")))) (toB (op2 (eqA "Asker" p_Asker_eq id) (vr 1) (cst .non)))))) (rtn (cst (.bl false))) (skp))
  (seq (drp (mtM "Asker" "learn" p_Asker_learn [] (vr 5) (aCons (cst (.str "a")) (aCons (tupE (aCons (tupE (aCons (cst (.int 9)) (aCons (cst (.str "zz")) (aCons (cst (.int 9)) (aNil))))) (aNil))) (aNil)))))
  (ifS (orB (toB (op2 (eqA "Asker" p_Asker_eq id) (vr 5) (vr 1))) (orB (notB (toB (callM p_l_law_right [] (aCons (vr 1) (aCons (vr 2) (aNil)))))) (toB (op2 (eqA "Asker" p_Asker_eq id) (mkM "Asker" p_Asker_init [] (aCons (cst (.str "whom")) (aNil))) (mkM "Asker" p_Asker_init [] (aCons (cst (.str "who")) (aNil))))))) (rtn (cst (.bl false))) (skp))))))))
  (rtn (cst (.bl true))))))
def p_law : List D → M D := run b_law 1 7
theorem s_law : FnScope ["_law_script", "_law_asker", "_law_book", "_law_k", "_law_pool_here", "_law_other", "_law_old"] ["_law_script"] (defScope st_law) := ⟨rfl, rfl, rfl, by decide +kernel, rfl, by decide +kernel, by decide +kernel⟩
theorem r_law (x : Fx K mg) : Bd P w K mg base ["_law_script", "_law_asker", "_law_book", "_law_k", "_law_pool_here", "_law_other", "_law_old"] "law" (defScope st_law) (He.ga K "law") (defBody st_law) 6 b_law := fun cdv A outer s H E cf =>
  rss_cons (rs_set 1 cf.N (re_make (o_Asker_init x) (cf.at (by decide)) cf.t (ra_cons (re_str) (ra_nil))))
  (rss_cons (rs_set 2 cf.N (re_disp (rps_cons (re_str) (re_dnew) (rps_cons (re_str) (re_non) (rps_cons (re_str) (re_lst newM (ra_nil)) (rps_nil))))))
  (rss_cons (rs_if (rt_not (rt_val (re_call (o_l_law_right x) (cf.at (by decide)) cf.t (ra_cons (re_var 1) (ra_cons (re_var 2) (ra_nil)))))) (rss_one (rs_ret (re_bl))) (rss_nil))
  (rss_cons (rs_for (ws := [3]) cf.p cf.c (ri_rng2 (gf_range x) (ra_cons (re_int) (ra_cons (re_maxA cf.c cf.u (gf_max x) (ra_cons (re_int) (ra_cons (re_min2 cf.c (gf_min x) (ra_cons (re_lenA (gf_len x) (ra_cons (re_var 0) (ra_nil))) (ra_cons (re_int) (ra_nil)))) (ra_nil)))) (ra_nil)))) (rg_name 3 (by exact cf.N)) (rss_cons (rs_set 4 cf.N (re_call (o_l_law_pool x) (cf.at (by decide)) cf.t (ra_cons (re_var 0) (ra_cons (re_var 3) (ra_nil)))))
  (rss_cons (rs_par 5 6 cf.c cf.N (ra_cons (re_meth0 (o_Asker_twin x) (cf.at (by decide)) cf.t (re_var 1)) (ra_cons (re_call (o_l_law_copied x) (cf.at (by decide)) cf.t (ra_cons (re_var 2) (ra_nil))) (ra_nil))))
  (rss_cons (rs_if (rt_bop (rw_or (rt_not (rt_val (re_call (o_l_law_step x) (cf.at (by decide)) cf.t (ra_cons (re_var 4) (ra_cons (re_var 1) (ra_cons (re_var 2) (ra_nil))))))) (rw_or (rt_not (rt_val (re_call (o_l_law_right x) (cf.at (by decide)) cf.t (ra_cons (re_var 1) (ra_cons (re_var 2) (ra_nil)))))) (rw_or1 (rt_not (rt_val (re_call (o_l_law_right x) (cf.at (by decide)) cf.t (ra_cons (re_var 5) (ra_cons (re_var 6) (ra_nil)))))))))) (rss_one (rs_ret (re_bl))) (rss_nil))
  (rss_cons (rs_if (rt_bop (rw_or (rt_bop (rw_and (rt_neA (o_Asker_eq x) (kc_Asker x) (cf.at (by decide)) cf.u1 (re_var 5) (re_var 1)) (rw_and1 (rt_eqX cf.u1 (re_call (o_l_law_copied x) (cf.at (by decide)) cf.t (ra_cons (re_var 2) (ra_nil))) (re_var 6))))) (rw_or (rt_eqA (o_Asker_eq x) (kc_Asker x) (cf.at (by decide)) cf.u1 (re_var 1) (re_var 2)) (rw_or (rt_eqA (o_Asker_eq x) (kc_Asker x) (cf.at (by decide)) cf.u1 (re_var 1) (re_str)) (rw_or1 (rt_eqA (o_Asker_eq x) (kc_Asker x) (cf.at (by decide)) cf.u1 (re_var 1) (re_non))))))) (rss_one (rs_ret (re_bl))) (rss_nil))
  (rss_cons (rs_expr (re_meth (o_Asker_learn x) (cf.at (by decide)) cf.t (re_var 5) (ra_cons (re_str) (ra_cons (re_tup (ra_cons (re_tup (ra_cons (re_int) (ra_cons (re_str) (ra_cons (re_int) (ra_nil))))) (ra_nil))) (ra_nil)))))
  (rss_one (rs_if (rt_bop (rw_or (rt_eqA (o_Asker_eq x) (kc_Asker x) (cf.at (by decide)) cf.u1 (re_var 5) (re_var 1)) (rw_or (rt_not (rt_val (re_call (o_l_law_right x) (cf.at (by decide)) cf.t (ra_cons (re_var 1) (ra_cons (re_var 2) (ra_nil)))))) (rw_or1 (rt_eqA (o_Asker_eq x) (kc_Asker x) (cf.at (by decide)) cf.u1 (re_make (o_Asker_init x) (cf.at (by decide)) cf.t (ra_cons (re_str) (ra_nil))) (re_make (o_Asker_init x) (cf.at (by decide)) cf.t (ra_cons (re_str) (ra_nil)))))))) (rss_one (rs_ret (re_bl))) (rss_nil)))))))))
  (rss_one (rs_ret (re_bl))))))
theorem o_law (x : Fx K mg) : Fn P w K mg base 7 "law" [] p_law :=
  let ⟨_, F⟩ := (let ⟨_, _, _, c⟩ := x.ex; c.d.def_ 27 (d := d_law) rfl); fn_mk F s_law (gg_law x) (fun _ _ _ _ _ _ us hl => match us, hl with | [_], _ => rfl) (r_law x)
end
end K51
end Md

set_option Elab.async false
set_option linter.all false
set_option maxRecDepth 1000000
set_option maxHeartbeats 2000000
namespace Md
namespace K51
--L lu_none
open PySem PySem.Spec PyProof.Rows L2
/-! ### == of what is plain -/
mutual
def simP : PyData → Bool
  | .none => true
  | .int _ => true
  | .str _ => true
  | .list xs => simA xs
  | .tuple xs => simA xs
  | _ => false
def simA : List PyData → Bool
  | [] => true
  | x :: r => simP x && simA r
end
mutual
theorem eqv_eq : ∀ a b : PyData, simP a = true → simP b = true → PyData.eqv a b = true → a = b
  | .none, b, _, hb, h => by cases b <;> simp_all [simP, PyData.eqv]
  | .int i, b, _, hb, h => by cases b <;> simp_all [simP, PyData.eqv]
  | .str x, b, _, hb, h => by cases b <;> simp_all [simP, PyData.eqv]
  | .list xs, .list ys, ha, hb, h => by
    rw [PyData.eqv] at h
    rw [eqvA_eq xs ys (by simpa [simP] using ha) (by simpa [simP] using hb) h]
  | .tuple xs, .tuple ys, ha, hb, h => by
    rw [PyData.eqv] at h
    rw [eqvA_eq xs ys (by simpa [simP] using ha) (by simpa [simP] using hb) h]
  | .list xs, .none, _, _, h => by simp [PyData.eqv] at h
  | .list xs, .int _, _, _, h => by simp [PyData.eqv] at h
  | .list xs, .str _, _, _, h => by simp [PyData.eqv] at h
  | .list xs, .tuple _, _, _, h => by simp [PyData.eqv] at h
  | .tuple xs, .none, _, _, h => by simp [PyData.eqv] at h
  | .tuple xs, .int _, _, _, h => by simp [PyData.eqv] at h
  | .tuple xs, .str _, _, _, h => by simp [PyData.eqv] at h
  | .tuple xs, .list _, _, _, h => by simp [PyData.eqv] at h
  | .bool _, _, ha, _, _ => by simp [simP] at ha
  | .dict _, _, ha, _, _ => by simp [simP] at ha
  | .list _, .bool _, _, hb, _ => by simp [simP] at hb
  | .list _, .dict _, _, hb, _ => by simp [simP] at hb
  | .tuple _, .bool _, _, hb, _ => by simp [simP] at hb
  | .tuple _, .dict _, _, hb, _ => by simp [simP] at hb
theorem eqvA_eq : ∀ xs ys : List PyData, simA xs = true → simA ys = true → PyData.eqvAll xs ys = true → xs = ys
  | [], [], _, _, _ => rfl
  | [], _ :: _, _, _, h => by simp [PyData.eqvAll] at h
  | _ :: _, [], _, _, h => by simp [PyData.eqvAll] at h
  | x :: xs, y :: ys, ha, hb, h => by
    rw [simA, Bool.and_eq_true] at ha hb
    rw [PyData.eqvAll, Bool.and_eq_true] at h
    rw [eqv_eq x y ha.1 hb.1 h.1, eqvA_eq xs ys ha.2 hb.2 h.2]
end
theorem simA_map {α : Type} {f : α → PyData} : ∀ {l : List α}, (∀ x ∈ l, simP (f x) = true) → simA (l.map f) = true
  | [], _ => rfl
  | x :: r, h => by
    rw [List.map_cons, simA, h x (by simp), simA_map fun y hy => h y (by simp [hy])]
    rfl
/-! ### words -/
structure okW (x : Str) : Prop where
  w : ∀ s : S, p_is_word [.str x] s = .ok (.bl true) s
  k : PyData.strOk x = true
theorem okW_a : okW "a" := ⟨fun s => by kernel_rfl, by decide +kernel⟩
theorem okW_b : okW "b" := ⟨fun s => by kernel_rfl, by decide +kernel⟩
theorem okW_c : okW "c" := ⟨fun s => by kernel_rfl, by decide +kernel⟩
theorem okW_dd : okW "dd" := ⟨fun s => by kernel_rfl, by decide +kernel⟩
theorem okW_e6 : okW "eeeeee" := ⟨fun s => by kernel_rfl, by decide +kernel⟩
theorem okW_zz : okW "zz" := ⟨fun s => by kernel_rfl, by decide +kernel⟩
theorem okW_who : okW "who" := ⟨fun s => by kernel_rfl, by decide +kernel⟩
theorem okW_whom : okW "whom" := ⟨fun s => by kernel_rfl, by decide +kernel⟩
abbrev W5 : List Str := ["a", "b", "c", "dd", "eeeeee"]
theorem okW_5 : ∀ x ∈ W5, okW x := by
  intro x hx
  have h : x = "a" ∨ x = "b" ∨ x = "c" ∨ x = "dd" ∨ x = "eeeeee" := by simpa [W5] using hx
  rcases h with h | h | h | h | h <;> subst h
  · exact okW_a
  · exact okW_b
  · exact okW_c
  · exact okW_dd
  · exact okW_e6
theorem key_ok {x : Str} (h : okW x) (s : S) : p_is_key [.str x] s = .ok (.bl true) s := by
  have w := h.w s
  simp [p_is_key, b_is_key, w, run, endS, seq, asg, drp, rtn, rtN, skp, badS, ifS, Md.thn, cst, Md.ret, Md.bad, tgS, toN, op2, vr, lstE, tupE, aNil, aCons, bnd, toB, andB, orB, notB, andV, orV, notV, callM, mtM, fldM, stF, insOf, get?, opt, arg1, finL, int2, gtI, geI, leI, addD, addI, modI, isiM, tyD, Ty.sub, isiO, isInsO, isN, nonD, ixA, ixD, ixL, ixT, atI, ixN, dctD, lstD, tupD, toSub, setA, keyD, toSeq, toCons, toNil, mthM, kdD, upK, lenA, lenD, lenL, lenKF]
/-! ### dots -/
structure nD (d : Dot) : Prop where
  n0 : 1 ≤ d.1
  n1 : d.1 ≤ 9
  h : d.2.1 = "a" ∨ d.2.1 = "b" ∨ d.2.1 = "c"
  l0 : 1 ≤ d.2.2
  l1 : d.2.2 ≤ 2
def zD : Dot := (9, "zz", 9)
def okD (d : Dot) : Prop := nD d ∨ d = zD
theorem okD.w {d : Dot} (h : okD d) : okW d.2.1 := by
  rcases h with h | h
  · rcases h.h with e | e | e <;> rw [e]
    · exact okW_a
    · exact okW_b
    · exact okW_c
  · subst h; exact okW_zz
theorem okD.b {d : Dot} (h : okD d) : 1 ≤ d.1 ∧ d.1 ≤ 9 ∧ 1 ≤ d.2.2 := by
  rcases h with h | h
  · exact ⟨h.n0, h.n1, h.l0⟩
  · subst h; decide
theorem zD_not : ¬ nD zD := fun h => by
  have := h.l1
  simp [zD] at this
def dts (l : List Dot) : Md.D := .tup (l.map dtD)
def dtsP (l : List Dot) : PyData := .tuple (l.map dtP)
theorem toPy_str (s : S) (n : Nat) {x : Str} (h : PyData.strOk x = true) : toPy s (n + 1) (.str x) = some (.str x) := by
  show (if PyData.strOk x = true then some (PyData.str x) else none) = _
  rw [if_pos h]
theorem toPyL_map {α : Type} {f : Md.D → Option PyData} {g : α → Md.D} {h : α → PyData} : ∀ {xs : List α}, (∀ y ∈ xs, f (g y) = some (h y)) → toPyL f (xs.map g) = some (xs.map h)
  | [], _ => rfl
  | y :: r, q => by
    show (match f (g y), toPyL f (r.map g) with
      | some x, some xs => some (x :: xs)
      | _, _ => none) = _
    rw [q y (by simp), toPyL_map fun z hz => q z (by simp [hz])]
    rfl
theorem toPy_lst {α : Type} (s : S) {n : Nat} {g : α → Md.D} {h : α → PyData} {xs : List α} (q : ∀ y ∈ xs, toPy s n (g y) = some (h y)) : toPy s (n + 1) (.lst (xs.map g)) = some (.list (xs.map h)) := by
  show (toPyL (toPy s n) (xs.map g)).map PyData.list = _
  rw [toPyL_map q]
  rfl
theorem toPy_ref {α : Type} (s : S) {n p : Nat} {g : α → Md.D} {h : α → PyData} {xs : List α} (e : s[p]? = some (.lst (xs.map g))) (q : ∀ y ∈ xs, toPy s n (g y) = some (h y)) : toPy s (n + 1) (.ref p) = some (.list (xs.map h)) := by
  show (match s[p]? with
    | some (.lst ds) => (toPyL (toPy s n) ds).map PyData.list
    | some (.lok ds) => (toPyL (toPy s n) ds).map PyData.list
    | _ => none) = _
  rw [e]
  show (toPyL (toPy s n) (xs.map g)).map PyData.list = _
  rw [toPyL_map q]
  rfl
theorem toPy_tup {α : Type} (s : S) {n : Nat} {g : α → Md.D} {h : α → PyData} {xs : List α} (q : ∀ y ∈ xs, toPy s n (g y) = some (h y)) : toPy s (n + 1) (.tup (xs.map g)) = some (.tuple (xs.map h)) := by
  show (toPyL (toPy s n) (xs.map g)).map PyData.tuple = _
  rw [toPyL_map q]
  rfl
theorem toPy_dt (s : S) (n : Nat) {d : Dot} (h : PyData.strOk d.2.1 = true) : toPy s (n + 2) (dtD d) = some (dtP d) := by
  show (match some (PyData.int d.1), (match toPy s (n + 1) (.str d.2.1), (match some (PyData.int d.2.2), (some [] : Option (List PyData)) with
    | some x, some xs => some (x :: xs)
    | _, _ => none) with
    | some x, some xs => some (x :: xs)
    | _, _ => none) with
    | some x, some xs => some (x :: xs)
    | _, _ => none).map PyData.tuple = _
  rw [toPy_str s n h]
  rfl
theorem toPy_dts (s : S) (n : Nat) {l : List Dot} (h : ∀ d ∈ l, okD d) : toPy s (n + 3) (dts l) = some (dtsP l) := toPy_tup s fun d hd => toPy_dt s n (h d hd).w.k
theorem sim_dts (l : List Dot) : simP (dtsP l) = true := by
  rw [dtsP, simP]
  exact simA_map fun d _ => rfl
theorem dtP_inj {a b : Dot} (h : dtP a = dtP b) : a = b := by
  obtain ⟨a1, a2, a3⟩ := a
  obtain ⟨b1, b2, b3⟩ := b
  simp [dtP] at h
  obtain ⟨rfl, rfl, rfl⟩ := h
  rfl
theorem map_inj {α β : Type} {f : α → β} (h : ∀ a b, f a = f b → a = b) : ∀ {l m : List α}, l.map f = m.map f → l = m
  | [], [], _ => rfl
  | [], _ :: _, e => by simp at e
  | _ :: _, [], e => by simp at e
  | x :: l, y :: m, e => by
    rw [List.map_cons, List.map_cons] at e
    injection e with e1 e2
    rw [h x y e1, map_inj h e2]
theorem dtsP_inj {l m : List Dot} (h : dtsP l = dtsP m) : l = m := by
  unfold dtsP at h
  injection h with h
  exact map_inj (fun a b => dtP_inj) h
theorem eqv_dts {l m : List Dot} : PyData.eqv (dtsP l) (dtsP m) = decide (l = m) := by
  by_cases h : l = m
  · subst h
    rw [decide_eq_true rfl, dtsP, PyData.eqv]
    have : ∀ l : List Dot, PyData.eqvAll (l.map dtP) (l.map dtP) = true := fun l => by
      induction l with
      | nil => rfl
      | cons d r ih =>
        rw [List.map_cons, PyData.eqvAll, ih]
        simp [dtP, PyData.eqv, PyData.eqvAll]
    exact this l
  · rw [decide_eq_false h]
    cases e : PyData.eqv (dtsP l) (dtsP m) with
    | false => rfl
    | true => exact absurd (dtsP_inj (eqv_eq _ _ (sim_dts l) (sim_dts m) e)) h
section
variable {s : S}
theorem eqX_py {a b : Md.D} {x y : PyData} (f : Bool → Bool) (ha : toPy s 20 a = some x) (hb : toPy s 20 b = some y) : eqX f a b s = .ok (.bl (f (PyData.eqv x y))) s := by
  unfold eqX eqTop
  rw [ha, hb]
theorem eqX_same {a b : Md.D} {x : PyData} (f : Bool → Bool) (ha : toPy s 20 a = some x) (hb : toPy s 20 b = some x) : eqX f a b s = .ok (.bl (f true)) s := by
  rw [eqX_py f ha hb, PySem.SeqAt.eqv_refl x (toPy_shape s 20 a x ha).1]
theorem eqX_dts {l m : List Dot} (f : Bool → Bool) (hl : ∀ d ∈ l, okD d) (hm : ∀ d ∈ m, okD d) : eqX f (dts l) (dts m) s = .ok (.bl (f (decide (l = m)))) s := by
  rw [eqX_py f (toPy_dts s 17 hl) (toPy_dts s 17 hm), eqv_dts]
theorem eqX_int (i j : Int) (f : Bool → Bool) : eqX f (.int i) (.int j) s = .ok (.bl (f (decide (i = j)))) s := by
  show Res.ok (Md.D.bl (f (i == j))) s = _
  rw [show (i == j) = decide (i = j) from rfl]
theorem whole_ok (i : Int) : p_is_whole [.int i] s = .ok (.bl true) s := by
  simp [p_is_whole, b_is_whole, run, endS, seq, asg, drp, rtn, rtN, skp, badS, ifS, Md.thn, cst, Md.ret, Md.bad, tgS, toN, op2, vr, lstE, tupE, aNil, aCons, bnd, toB, andB, orB, notB, andV, orV, notV, callM, mtM, fldM, stF, insOf, get?, opt, arg1, finL, int2, gtI, geI, leI, addD, addI, modI, isiM, tyD, Ty.sub, isiO, isInsO, isN, nonD, ixA, ixD, ixL, ixT, atI, ixN, dctD, lstD, tupD, toSub, setA, keyD, toSeq, toCons, toNil, mthM, kdD, upK, lenA, lenD, lenL, lenKF]
theorem dot_ok {d : Dot} (h : okD d) : p_is_dot [dtD d] s = .ok (.bl true) s := by
  have w := h.w.w s
  obtain ⟨b0, b1, b2⟩ := h.b
  have e := eqX_int (s := s) 3 3 not
  have w1 := whole_ok (s := s) d.1
  have w2 := whole_ok (s := s) d.2.2
  have c1 : d.1 ≤ 1000000000000 := by omega
  simp [p_is_dot, b_is_dot, dtD, w, w1, w2, e, b0, c1, b2, chn, run, endS, seq, asg, drp, rtn, rtN, skp, badS, ifS, Md.thn, cst, Md.ret, Md.bad, tgS, toN, op2, vr, lstE, tupE, aNil, aCons, bnd, toB, andB, orB, notB, andV, orV, notV, callM, mtM, fldM, stF, insOf, get?, opt, arg1, finL, int2, gtI, geI, leI, addD, addI, modI, isiM, tyD, Ty.sub, isiO, isInsO, isN, nonD, ixA, ixD, ixL, ixT, atI, ixN, dctD, lstD, tupD, toSub, setA, keyD, toSeq, toCons, toNil, mthM, kdD, upK, lenA, lenD, lenL, lenKF]
end
end K51
end Md

set_option Elab.async false
set_option linter.all false
set_option maxRecDepth 1000000
set_option maxHeartbeats 2000000
namespace Md
namespace K51
--L lu_none
open PySem PySem.Spec PyProof.Rows L2
/-! ### sorted -/
theorem insB_mem {α : Type} {le : α → α → Bool} {a b : α} : ∀ {xs : List α}, b ∈ insB le a xs ↔ b = a ∨ b ∈ xs
  | [] => by simp [insB]
  | c :: r => by
    show b ∈ (if le a c = true then a :: c :: r else c :: insB le a r) ↔ _
    split
    · simp
    · rw [List.mem_cons, insB_mem, List.mem_cons]
      constructor
      · rintro (h | h | h) <;> simp [h]
      · rintro (h | h | h) <;> simp [h]
theorem isortB_mem {α : Type} {le : α → α → Bool} {b : α} : ∀ {xs : List α}, b ∈ isortB le xs ↔ b ∈ xs
  | [] => by simp [isortB]
  | c :: r => by
    show b ∈ insB le c (isortB le r) ↔ _
    rw [insB_mem, isortB_mem, List.mem_cons]
theorem insB_perm {α : Type} {le : α → α → Bool} {a : α} : ∀ {xs : List α}, (insB le a xs).Perm (a :: xs)
  | [] => .refl _
  | c :: r => by
    show (if le a c = true then a :: c :: r else c :: insB le a r).Perm _
    split
    · exact .refl _
    · exact (insB_perm.cons c).trans (List.Perm.swap a c r)
theorem isortB_perm {α : Type} {le : α → α → Bool} : ∀ {xs : List α}, (isortB le xs).Perm xs
  | [] => .refl _
  | c :: r => insB_perm.trans (isortB_perm.cons c)
theorem isortB_len {α : Type} {le : α → α → Bool} {xs : List α} : (isortB le xs).length = xs.length := isortB_perm.length_eq
theorem isortB_pw {α : Type} {le : α → α → Bool} (t : PySem.W.TotalLe le) (xs : List α) : (isortB le xs).Pairwise fun a b => le a b = true := by
  rw [← isortB_eq t]
  exact List.pairwise_mergeSort (le := le) (fun a b c => t.1 a b c) (fun a b => by rw [Bool.or_eq_true]; exact t.2 a b) xs
theorem isortB_mapG {α β : Type} {le : α → α → Bool} {le' : β → β → Bool} {f : α → β} (h : ∀ a b, le' (f a) (f b) = le a b) (xs : List α) : isortB le' (xs.map f) = (isortB le xs).map f := isortB_mapW h xs
/-! ### few -/
theorem nodup_len {α : Type} [BEq α] [LawfulBEq α] : ∀ {l L : List α}, l.Nodup → (∀ x ∈ l, x ∈ L) → l.length ≤ L.length
  | [], _, _, _ => by simp
  | x :: r, L, nd, h => by
    obtain ⟨n1, n2⟩ := List.nodup_cons.mp nd
    have hx := h x (by simp)
    have := nodup_len (l := r) (L := L.erase x) n2 fun y hy => (List.mem_erase_of_ne (fun z : y = x => n1 (z ▸ hy))).mpr (h y (by simp [hy]))
    rw [List.length_erase_of_mem hx] at this
    have : 0 < L.length := List.length_pos_of_mem hx
    simp
    omega
def univ : List Dot := zD :: ([1, 2, 3, 4, 5, 6, 7, 8, 9] : List Int).flatMap fun n => (["a", "b", "c"] : List Str).flatMap fun h => ([1, 2] : List Int).map fun l => (n, h, l)
theorem univ_len : univ.length = 55 := by decide +kernel
theorem okD.mem {d : Dot} (h : okD d) : d ∈ univ := by
  rcases h with h | h
  · refine List.mem_cons_of_mem _ (List.mem_flatMap.mpr ⟨d.1, ?_, List.mem_flatMap.mpr ⟨d.2.1, ?_, List.mem_map.mpr ⟨d.2.2, ?_, rfl⟩⟩⟩)
    · have a := h.n0
      have b := h.n1
      have : d.1 = 1 ∨ d.1 = 2 ∨ d.1 = 3 ∨ d.1 = 4 ∨ d.1 = 5 ∨ d.1 = 6 ∨ d.1 = 7 ∨ d.1 = 8 ∨ d.1 = 9 := by omega
      rcases this with e | e | e | e | e | e | e | e | e <;> rw [e] <;> decide
    · rcases h.h with e | e | e <;> rw [e] <;> decide +kernel
    · have a := h.l0
      have b := h.l1
      have : d.2.2 = 1 ∨ d.2.2 = 2 := by omega
      rcases this with e | e <;> rw [e] <;> decide
  · subst h
    exact List.mem_cons_self
theorem few_dots {l : List Dot} (nd : l.Nodup) (h : ∀ d ∈ l, okD d) : l.length ≤ 55 := by
  rw [← univ_len]
  exact nodup_len nd fun d hd => (h d hd).mem
/-! ### what is known -/
structure Kno (l : List Dot) : Prop where
  ok : ∀ d ∈ l, okD d
  nd : l.Nodup
  up : l.Pairwise fun a b => leDot a b = true
theorem Kno.nil : Kno [] := ⟨(fun d h => nomatch h), List.nodup_nil, List.Pairwise.nil⟩
theorem Kno.few {l : List Dot} (h : Kno l) : l.length ≤ 55 := few_dots h.nd h.ok
theorem kno_sort {l : List Dot} (h : ∀ d ∈ l, okD d) (nd : l.Nodup) : Kno (isortB leDot l) := ⟨fun d hd => h d (isortB_mem.mp hd), isortB_perm.nodup_iff.mpr nd, isortB_pw leDot_tot l⟩
section
variable {s : S}
theorem lt_dt {a b : Dot} (ha : okD a) (hb : okD b) : ltD (dtD a) (dtD b) s = .ok (.bl (!leDot b a)) s := by
  show ltG (dtD a) (dtD b) s = _
  unfold ltG py2
  rw [toPy_dt s 18 ha.w.k, toPy_dt s 18 hb.w.k]
  have al : PySem.W.alike (dtP a) (dtP b) = true := by simp [dtP, PySem.W.alike, PySem.W.alikeAll]
  have e := dot_le b a
  have e2 : PySem.W.dataLt (dtP a) (dtP b) = !leDot b a := by
    rw [← e, PySem.W.dataLe_eq]
    simp
  simp only []
  rw [if_pos al]
  show opt (some (Md.D.bl (PySem.W.dataLt (dtP a) (dtP b)))) s = _
  rw [e2]
  rfl
theorem zip_walk {env : Rs} (he : env.length = 3) : ∀ {l : List Dot}, (∀ d ∈ l, okD d) → l.Nodup → l.Pairwise (fun a b => leDot a b = true) →
    ∃ bs : List Md.D, lcR (toSeq 2 (toCons (toN 1) (toCons (toN 2) (toNil)))) (yesB) (op2 (ltD) (vr 1) (vr 2)) env (zpD (l.map dtD) ((l.drop 1).map dtD)) s = .ok bs s ∧ ∃ xs, blsD bs = some xs ∧ xs.all id = true
  | [], _, _, _ => ⟨[], rfl, [], rfl, rfl⟩
  | [x], _, _, _ => ⟨[], rfl, [], rfl, rfl⟩
  | x :: y :: r, h, nd, up => by
    obtain ⟨n1, n2⟩ := List.nodup_cons.mp nd
    obtain ⟨u1, u2⟩ := List.pairwise_cons.mp up
    obtain ⟨bs, e, xs, e2, e3⟩ := zip_walk he (l := y :: r) (fun d hd => h d (by simp [hd])) n2 u2
    have lt := lt_dt (s := s) (h x (by simp)) (h y (by simp))
    have nl : leDot y x = false := by
      cases q : leDot y x with
      | false => rfl
      | true => exact absurd (leDot_anti (u1 y (by simp)) q) (fun z => n1 (by rw [z]; simp))
    rw [nl] at lt
    refine ⟨.bl true :: bs, ?_, true :: xs, by unfold blsD; rw [e2]; rfl, by simpa using e3⟩
    have ez : zpD ((x :: y :: r).map dtD) (((x :: y :: r).drop 1).map dtD) = .tup [dtD x, dtD y] :: zpD ((y :: r).map dtD) (((y :: r).drop 1).map dtD) := rfl
    rw [ez]
    unfold lcR
    match env, he with
    | [a0, a1, a2], _ =>
      have t : toSeq 2 (toCons (toN 1) (toCons (toN 2) (toNil))) (.tup [dtD x, dtD y]) [a0, a1, a2] s = .ok [a0, some (dtD x), some (dtD y)] s := rfl
      have c : op2 (ltD) (vr 1) (vr 2) [a0, some (dtD x), some (dtD y)] s = .ok (.bl true) s := by
        generalize ltD = L at *
        simp [op2, vr, bnd, Md.ret, lt]
      simp only [bnd, t, yesB, Md.ret, if_true, c, e]
theorem all_true {n : Nat} : blsD (List.replicate n (Md.D.bl true)) = some (List.replicate n true) := by
  induction n with
  | zero => rfl
  | succ n ih =>
    rw [List.replicate_succ]
    unfold blsD
    rw [ih]
    rfl
theorem dots_walk {env : Rs} (he : env.length = 3) : ∀ {l : List Dot}, (∀ d ∈ l, okD d) → lcR (toN 1) (yesB) (callM p_is_dot [] (aCons (vr 1) (aNil))) env (l.map dtD) s = .ok (List.replicate l.length (.bl true)) s
  | [], _ => rfl
  | x :: r, h => by
    have ih := dots_walk he (l := r) fun d hd => h d (by simp [hd])
    have dk := dot_ok (s := s) (h x (by simp))
    match env, he with
    | [a0, a1, a2], _ =>
      have c : callM p_is_dot [] (aCons (vr 1) (aNil)) [a0, some (dtD x), a2] s = .ok (.bl true) s := by
        simp [callM, aCons, aNil, vr, bnd, Md.ret, dk]
      have t : toN 1 (dtD x) [a0, a1, a2] s = .ok [a0, some (dtD x), a2] s := rfl
      rw [List.map_cons]
      unfold lcR
      simp only [bnd, t, yesB, Md.ret, if_true, c, ih]
      rfl
theorem sl_of (n : Nat) (h : n ≤ 1000) : n < sizeLine := Nat.lt_of_le_of_lt h (by decide)
theorem known_is {l : List Dot} (h : Kno l) : p_is_known [dts l] s = .ok (.bl true) s := by
  have few := h.few
  have l1 : (l.map dtD).length ≤ sizeLine := by rw [List.length_map]; exact Nat.le_of_lt (sl_of _ (by omega))
  have w1 := dots_walk (s := s) (env := [some (dts l), none, none]) rfl h.ok
  obtain ⟨bs, w2, xs, e2, e3⟩ := zip_walk (s := s) (env := [some (dts l), none, none]) rfl h.ok h.nd h.up
  have cut : cutD (l.map dtD) (some 1) none = (l.drop 1).map dtD := by
    unfold cutD
    rw [List.map_drop]
    cases l with
    | nil => rfl
    | cons x r =>
      have a : HT.sIx ((x :: r).map dtD).length 0 (some 1) = 1 := by
        show HT.sIx (((x :: r).map dtD).length) 0 (some ((1 : Nat) : Int)) = 1
        simp [HT.sIx]
      have b : HT.sIx ((x :: r).map dtD).length ((x :: r).map dtD).length none = ((x :: r).map dtD).length := by simp [HT.sIx]
      rw [a, b]
      simp
      exact List.take_of_length_le (by simp)
  have zl : (zpD (l.map dtD) ((l.drop 1).map dtD)).length ≤ sizeLine := by
    have : ∀ (a b : List Md.D), (zpD a b).length ≤ a.length := fun a => by
      induction a with
      | nil => intro b; simp [zpD]
      | cons x r ih =>
        intro b
        cases b with
        | nil => simp [zpD]
        | cons y t =>
          have := ih t
          simp [zpD]
          omega
    exact Nat.le_trans (this _ _) l1
  have c1 : lockE (pkV 0) (lcM [1] (itAny (vr 0)) (toN 1) (yesB) (callM p_is_dot [] (aCons (vr 1) (aNil))) finL) [some (dts l), none, none] s = .ok (.lst (List.replicate l.length (.bl true))) s := by
    have pk : pkV 0 [some (dts l), none, none] s = none := rfl
    unfold lockE
    rw [pk]
    have it : itAny (vr 0) [some (dts l), none, none] s = .ok (l.map dtD) s := rfl
    have ew : wipeR [some (dts l), none, none] [1] = [some (dts l), none, none] := rfl
    simp only [lcM, bnd, it, l1, if_true, nox, ew, w1, finL, Md.ret]
  have c2 : lockE (pkV 0) (lcM [1, 2] (itZip (aCons (vr 0) (aCons (slM (slD finL) (vr 0) (ptP (cst (.int 1))) (noP)) (aNil)))) (toSeq 2 (toCons (toN 1) (toCons (toN 2) (toNil)))) (yesB) (op2 (ltD) (vr 1) (vr 2)) finL) [some (dts l), none, none] s = .ok (.lst bs) s := by
    have pk : pkV 0 [some (dts l), none, none] s = none := rfl
    unfold lockE
    rw [pk]
    have sl : slM (slD finL) (vr 0) (ptP (cst (.int 1))) (noP) [some (dts l), none, none] s = .ok (dts (l.drop 1)) s := by
      show Res.ok (Md.D.tup (cutD (l.map dtD) (some 1) none)) s = _
      rw [cut]
      rfl
    have it : itZip (aCons (vr 0) (aCons (slM (slD finL) (vr 0) (ptP (cst (.int 1))) (noP)) (aNil))) [some (dts l), none, none] s = .ok (zpD (l.map dtD) ((l.drop 1).map dtD)) s := by
      generalize slM (slD finL) (vr 0) (ptP (cst (.int 1))) (noP) = F at *
      have v : vr 0 [some (dts l), none, none] s = .ok (dts l) s := rfl
      have a : aCons (vr 0) (aCons F (aNil)) [some (dts l), none, none] s = .ok [dts l, dts (l.drop 1)] s := by
        simp only [bnd, aCons, aNil, v, sl, Md.ret]
      unfold itZip
      simp only [bnd, a]
      rfl
    have ew : wipeR [some (dts l), none, none] [1, 2] = [some (dts l), none, none] := rfl
    simp only [lcM, bnd, it, zl, if_true, nox, ew, w2, finL, Md.ret]
  have at1 := all_true (n := l.length)
  have al : (List.replicate l.length true).all id = true := by simp
  unfold p_is_known run b_is_known
  generalize lockE (pkV 0) (lcM [1] (itAny (vr 0)) (toN 1) (yesB) (callM p_is_dot [] (aCons (vr 1) (aNil))) finL) = C1 at *
  generalize lockE (pkV 0) (lcM [1, 2] (itZip (aCons (vr 0) (aCons (slM (slD finL) (vr 0) (ptP (cst (.int 1))) (noP)) (aNil)))) (toSeq 2 (toCons (toN 1) (toCons (toN 2) (toNil)))) (yesB) (op2 (ltD) (vr 1) (vr 2)) finL) = C2 at *
  have c1' : C1 [some (.tup (l.map dtD)), none, none] s = .ok (.lst (List.replicate l.length (.bl true))) s := c1
  have c2' : C2 [some (.tup (l.map dtD)), none, none] s = .ok (.lst bs) s := c2
  simp [dts, c1', c2', blsF, lstD, at1, e2, e3, al, run, endS, seq, asg, drp, rtn, rtN, skp, badS, ifS, Md.thn, cst, Md.ret, Md.bad, tgS, toN, op2, vr, lstE, tupE, aNil, aCons, bnd, toB, andB, orB, notB, andV, orV, notV, callM, mtM, fldM, stF, insOf, get?, opt, arg1, finL, int2, gtI, geI, leI, addD, addI, modI, isiM, tyD, Ty.sub, isiO, isInsO, isN, nonD, ixA, ixD, ixL, ixT, atI, ixN, dctD, lstD, tupD, toSub, setA, keyD, toSeq, toCons, toNil, mthM, kdD, upK, lenA, lenD, lenL, lenKF]
end
end K51
end Md

set_option Elab.async false
set_option linter.all false
set_option maxRecDepth 1000000
set_option maxHeartbeats 2000000
namespace Md
namespace K51
--L lu_none
open PySem PySem.Spec PyProof.Rows L2
/-! ### joined -/
def jn (a b : List Dot) : List Dot := isortB leDot (insXs (a ++ b))
theorem insX_mem {q d : Dot} {l : List Dot} : d ∈ insX q l ↔ d = q ∨ d ∈ l := by
  unfold insX
  by_cases h : q ∈ l
  · rw [if_pos h]
    constructor
    · exact .inr
    · rintro (e | e)
      · rw [e]; exact h
      · exact e
  · rw [if_neg h, List.mem_append, List.mem_singleton]
    exact or_comm
theorem insX_nd {q : Dot} {l : List Dot} (nd : l.Nodup) : (insX q l).Nodup := by
  unfold insX
  by_cases h : q ∈ l
  · rw [if_pos h]; exact nd
  · rw [if_neg h]
    exact List.nodup_append.mpr ⟨nd, by simp, fun a ha b hb z => h (by rw [List.mem_singleton.mp hb] at z; exact z ▸ ha)⟩
theorem fold_mem {d : Dot} : ∀ {l acc : List Dot}, d ∈ l.foldl (fun acc q => insX q acc) acc ↔ d ∈ acc ∨ d ∈ l
  | [], acc => by simp
  | q :: r, acc => by
    rw [List.foldl_cons, fold_mem, insX_mem, List.mem_cons]
    constructor
    · rintro ((e | e) | e) <;> simp [e]
    · rintro (e | e | e) <;> simp [e]
theorem fold_nd : ∀ {l acc : List Dot}, acc.Nodup → (l.foldl (fun acc q => insX q acc) acc).Nodup
  | [], acc, h => h
  | q :: r, acc, h => by
    rw [List.foldl_cons]
    exact fold_nd (insX_nd h)
theorem insXs_mem {d : Dot} {l : List Dot} : d ∈ insXs l ↔ d ∈ l := by
  unfold insXs
  rw [fold_mem]
  simp
theorem jn_mem {d : Dot} {a b : List Dot} : d ∈ jn a b ↔ d ∈ a ∨ d ∈ b := by
  unfold jn
  rw [isortB_mem, insXs_mem, List.mem_append]
theorem jn_kno {a b : List Dot} (ha : ∀ d ∈ a, okD d) (hb : ∀ d ∈ b, okD d) : Kno (jn a b) := kno_sort (fun d hd => by
  rcases List.mem_append.mp (insXs_mem.mp hd) with h | h
  · exact ha d h
  · exact hb d h) (fold_nd List.nodup_nil)
section
variable {s : S}
theorem dsI_ok {e0 : Rs} (he : e0.length = 3) : ∀ {l acc : List Dot}, (∀ d ∈ l, okD d) → (∀ d ∈ acc, okD d) → acc.Nodup → dsI (toN 2) yesB (vr 2) e0 (l.map dtD) acc s = .ok (l.foldl (fun acc q => insX q acc) acc) s
  | [], acc, _, _, _ => rfl
  | q :: r, acc, hl, ha, nd => by
    have few := few_dots nd ha
    have ih := dsI_ok he (l := r) (acc := insX q acc) (fun d hd => hl d (by simp [hd])) (fun d hd => by
      rcases insX_mem.mp hd with h | h
      · rw [h]; exact hl q (by simp)
      · exact ha d h) (insX_nd nd)
    match e0, he with
    | [a0, a1, a2], _ =>
      have t : toN 2 (dtD q) [a0, a1, a2] s = .ok [a0, a1, some (dtD q)] s := rfl
      have v : vr 2 [a0, a1, some (dtD q)] s = .ok (dtD q) s := rfl
      have eq : dtOf (dtD q) = some q := rfl
      rw [List.map_cons]
      unfold dsI
      simp only [bnd, t, yesB, Md.ret, if_true, v, eq]
      rw [if_pos (by omega)]
      exact ih
theorem together_ok {a b : List Dot} (ha : ∀ d ∈ a, okD d) (hb : ∀ d ∈ b, okD d) : p_together [.lst [dts a, dts b]] s = .ok (dts (jn a b)) s := by
  have k1 := dsI_ok (s := s) (e0 := [some (.lst [dts a, dts b]), some (dts a), none]) rfl (l := a) (acc := []) ha (fun d h => nomatch h) List.nodup_nil
  have m1 : ∀ d ∈ a.foldl (fun acc q => insX q acc) [], okD d := fun d hd => by
    rcases fold_mem.mp hd with h | h
    · cases h
    · exact ha d h
  have k2 := dsI_ok (s := s) (e0 := [some (.lst [dts a, dts b]), some (dts b), none]) rfl (l := b) (acc := a.foldl (fun acc q => insX q acc) []) hb m1 (fold_nd List.nodup_nil)
  have ej : (isortB leDot (b.foldl (fun acc q => insX q acc) (a.foldl (fun acc q => insX q acc) []))) = jn a b := by
    unfold jn insXs
    rw [List.foldl_append]
  have dso : dsO (toN 1) yesB (itTup (vr 1)) (toN 2) yesB (vr 2) [2] [some (.lst [dts a, dts b]), none, none] [dts a, dts b] [] s = .ok (b.foldl (fun acc q => insX q acc) (a.foldl (fun acc q => insX q acc) [])) s := by
    have t1 : toN 1 (dts a) [some (.lst [dts a, dts b]), none, none] s = .ok [some (.lst [dts a, dts b]), some (dts a), none] s := rfl
    have t2 : toN 1 (dts b) [some (.lst [dts a, dts b]), none, none] s = .ok [some (.lst [dts a, dts b]), some (dts b), none] s := rfl
    have i1 : itTup (vr 1) [some (.lst [dts a, dts b]), some (dts a), none] s = .ok (a.map dtD) s := rfl
    have i2 : itTup (vr 1) [some (.lst [dts a, dts b]), some (dts b), none] s = .ok (b.map dtD) s := rfl
    have w1 : wipeR [some (.lst [dts a, dts b]), some (dts a), none] [2] = [some (.lst [dts a, dts b]), some (dts a), none] := rfl
    have w2 : wipeR [some (.lst [dts a, dts b]), some (dts b), none] [2] = [some (.lst [dts a, dts b]), some (dts b), none] := rfl
    unfold dsO
    simp only [bnd, t1, yesB, Md.ret, if_true, i1, w1, k1]
    unfold dsO
    simp only [bnd, t2, yesB, Md.ret, if_true, i2, w2, k2]
    unfold dsO
    rfl
  have ew : wipeR [some (.lst [dts a, dts b]), none, none] [1, 2] = [some (.lst [dts a, dts b]), none, none] := rfl
  have it : itAny (vr 0) [some (.lst [dts a, dts b]), none, none] s = .ok [dts a, dts b] s := rfl
  have d2 : ds2M [1, 2] [2] (itAny (vr 0)) (toN 1) (yesB) (itTup (vr 1)) (toN 2) (yesB) (vr 2) finL [some (.lst [dts a, dts b]), none, none] s = .ok (.lst ((jn a b).map dtD)) s := by
    simp only [ds2M, bnd, it, nox, ew, dso, dsF, ej]
    rfl
  unfold p_together run b_together
  show endS (rtn (callM (arg1 tupF) [] (aCons (ds2M [1, 2] [2] (itAny (vr 0)) (toN 1) (yesB) (itTup (vr 1)) (toN 2) (yesB) (vr 2) finL) (aNil))) [some (.lst [dts a, dts b]), none, none] s) = _
  generalize ds2M [1, 2] [2] (itAny (vr 0)) (toN 1) (yesB) (itTup (vr 1)) (toN 2) (yesB) (vr 2) finL = F at *
  simp only [rtn, Md.thn, callM, aCons, aNil, bnd, Md.ret, d2, arg1, tupF, seqD, lstD, endS, List.append_nil]
  rfl
theorem dtsD_map : ∀ l : List Dot, dtsD (l.map dtD) = some l
  | [] => rfl
  | d :: r => by
    rw [List.map_cons]
    unfold dtsD
    rw [dtsD_map r]
    rfl
theorem set_ok {a b : List Dot} (ka : a.length ≤ 55) (kb : b.length ≤ 4) : stOf finL (.tup (a.map dtD ++ b.map dtD)) s = .ok (.lst ((jn a b).map dtD)) s := by
  rw [← List.map_append]
  unfold jn
  have hl : (a ++ b).length ≤ 59 := by rw [List.length_append]; omega
  generalize a ++ b = l at *
  cases l with
  | nil => rfl
  | cons d r =>
    have e1 : kysD ((d :: r).map dtD) = none := rfl
    unfold stOf
    show (match kysD ((d :: r).map dtD) with
      | some ks => if ks.length + 1 < scanBound then ksF finL (insAll ks) s else .bad
      | none => match dtsD ((d :: r).map dtD) with
        | some qs => if qs.length + 1 < 64 then dsF finL (insXs qs) s else .bad
        | none => .bad) = _
    rw [e1, dtsD_map]
    simp only []
    rw [if_pos (by omega)]
    rfl
end
end K51
end Md

set_option Elab.async false
set_option linter.all false
set_option maxRecDepth 1000000
set_option maxHeartbeats 2000000
namespace Md
namespace K51
--L lu_own, lu_kn, lu_uw, lu_te, ln_known, ln_learn, ln_begin, ln_busy, ln_leave, ln_hear, ln_tell, ln_words, ln_called, ln_twin, ln_state, ln_len, line0, line1, line2, line3, line4, line5,
open PySem PySem.Spec PyProof.Rows L2
/-! ### keys, and what is known of them -/
abbrev Kn := List (Str × List Dot)
def kv (e : Kn) : List (Md.D × Md.D) := e.map fun x => (.str x.1, dts x.2)
def lk : Kn → Str → Option (List Dot)
  | [], _ => none
  | y :: r, x => if y.1 = x then some y.2 else lk r x
def rp (x : Str) (v : List Dot) : Kn → Kn
  | [] => []
  | y :: r => (if y.1 = x then (y.1, v) else y) :: rp x v r
def pt (e : Kn) (x : Str) (v : List Dot) : Kn := if (lk e x).isSome = true then rp x v e else e ++ [(x, v)]
def gt (e : Kn) (x : Str) : List Dot := (lk e x).getD []
theorem look_kv (x : Str) : ∀ e : Kn, lookD (kv e) (.inr x) = (lk e x).map dts
  | [] => rfl
  | y :: r => by
    show (if (some (Sum.inr y.1) : Option Key) = some (Sum.inr x) then some (dts y.2) else lookD (kv r) (.inr x)) = (if y.1 = x then some y.2 else lk r x).map dts
    by_cases h : y.1 = x
    · rw [if_pos h, if_pos (by rw [h])]
      rfl
    · rw [if_neg h, if_neg (fun z => h (Sum.inr.inj (Option.some.inj z))), look_kv x r]
theorem repl_kv (x : Str) (v : List Dot) : ∀ e : Kn, replD (.inr x) (dts v) (kv e) = kv (rp x v e)
  | [] => rfl
  | y :: r => by
    show (if (some (Sum.inr y.1) : Option Key) = some (Sum.inr x) then (Md.D.str y.1, dts v) else (Md.D.str y.1, dts y.2)) :: replD (.inr x) (dts v) (kv r) = kv (rp x v (y :: r))
    rw [repl_kv x v r]
    by_cases h : y.1 = x
    · rw [if_pos (by rw [h])]
      show _ = kv ((if y.1 = x then (y.1, v) else y) :: rp x v r)
      rw [if_pos h]
      rfl
    · rw [if_neg (fun z => h (Sum.inr.inj (Option.some.inj z)))]
      show _ = kv ((if y.1 = x then (y.1, v) else y) :: rp x v r)
      rw [if_neg h]
      rfl
theorem put_kv (e : Kn) (x : Str) (v : List Dot) : putD (kv e) (.str x) (.inr x) (dts v) = kv (pt e x v) := by
  unfold putD pt
  rw [look_kv, Option.isSome_map, repl_kv]
  split
  · rfl
  · simp [kv]
theorem kv_length (e : Kn) : (kv e).length = e.length := by simp [kv]
theorem lk_rp_self {x : Str} {v : List Dot} : ∀ {e : Kn}, (lk e x).isSome = true → lk (rp x v e) x = some v
  | y :: r, h => by
    by_cases hy : y.1 = x
    · simp [rp, lk, hy]
    · have h' : (lk r x).isSome = true := by simpa [lk, hy] using h
      simp [rp, lk, hy, lk_rp_self h']
theorem lk_app {x : Str} {v : List Dot} {z : Str} : ∀ {e : Kn}, lk (e ++ [(x, v)]) z = (lk e z).or (if x = z then some v else none)
  | [] => by simp [lk]
  | y :: r => by
    by_cases hy : y.1 = z
    · simp [lk, hy]
    · simp [lk, hy, lk_app (e := r)]
theorem lk_pt_self {e : Kn} {x : Str} {v : List Dot} : lk (pt e x v) x = some v := by
  unfold pt
  split
  · exact lk_rp_self (by assumption)
  · rename_i h
    have : lk e x = none := by simpa using h
    rw [lk_app, this]
    simp
theorem keys_rp (x : Str) (v : List Dot) : ∀ e : Kn, (rp x v e).map (·.1) = e.map (·.1)
  | [] => rfl
  | y :: r => by
    show ((if y.1 = x then (y.1, v) else y) :: rp x v r).map (·.1) = _
    rw [List.map_cons, keys_rp x v r]
    split <;> rfl
theorem lk_some {x : Str} {v : List Dot} : ∀ {e : Kn}, lk e x = some v → (x, v) ∈ e
  | y :: r, h => by
    by_cases hy : y.1 = x
    · have : y.2 = v := by simpa [lk, hy] using h
      rw [← hy, ← this]
      exact List.mem_cons_self
    · exact List.mem_cons_of_mem _ (lk_some (e := r) (by simpa [lk, hy] using h))
theorem lk_mem {e : Kn} (nd : (e.map (·.1)).Nodup) {y : Str × List Dot} (h : y ∈ e) : lk e y.1 = some y.2 := by
  induction e with
  | nil => cases h
  | cons z r ih =>
    rw [List.map_cons, List.nodup_cons] at nd
    rcases List.mem_cons.mp h with h | h
    · subst h; simp [lk]
    · have : z.1 ≠ y.1 := fun q => nd.1 (q ▸ List.mem_map.mpr ⟨y, h, rfl⟩)
      simp [lk, this, ih nd.2 h]
theorem lk_of_mem {e : Kn} {x : Str} (h : x ∈ e.map (·.1)) : (lk e x).isSome = true := by
  induction e with
  | nil => cases h
  | cons z r ih =>
    by_cases q : z.1 = x
    · simp [lk, q]
    · rw [List.map_cons, List.mem_cons] at h
      rcases h with h | h
      · exact absurd h.symm q
      · simp [lk, q, ih h]
theorem rp_mem {x : Str} {v : List Dot} {y : Str × List Dot} : ∀ {e : Kn}, y ∈ rp x v e → y ∈ e ∨ (y = (x, v))
  | z :: r, h => by
    have h : y ∈ (if z.1 = x then (z.1, v) else z) :: rp x v r := h
    rcases List.mem_cons.mp h with h | h
    · by_cases q : z.1 = x
      · rw [if_pos q] at h
        exact .inr (by rw [h, q])
      · rw [if_neg q] at h
        exact .inl (by rw [h]; exact List.mem_cons_self)
    · rcases rp_mem h with h | h
      · exact .inl (List.mem_cons_of_mem _ h)
      · exact .inr h
theorem pt_mem {x : Str} {v : List Dot} {y : Str × List Dot} {e : Kn} (h : y ∈ pt e x v) : y ∈ e ∨ y = (x, v) := by
  unfold pt at h
  split at h
  · exact rp_mem h
  · rcases List.mem_append.mp h with h | h
    · exact .inl h
    · exact .inr (List.mem_singleton.mp h)
structure WK (e : Kn) : Prop where
  nd : (e.map (·.1)).Nodup
  ok : ∀ y ∈ e, y.1 ∈ W5 ∧ Kno y.2
theorem WK.nil : WK [] := ⟨List.nodup_nil, fun y h => nomatch h⟩
theorem WK.few {e : Kn} (w : WK e) : e.length ≤ 5 := by
  have := nodup_len (L := W5) w.nd fun x hx => by
    obtain ⟨y, hy, rfl⟩ := List.mem_map.mp hx
    exact (w.ok y hy).1
  rw [List.length_map] at this
  exact this
theorem WK.gt {e : Kn} (w : WK e) (x : Str) : Kno (gt e x) := by
  unfold K51.gt
  cases h : lk e x with
  | none => exact Kno.nil
  | some v => exact (w.ok _ (lk_some h)).2
theorem WK.pt {e : Kn} (w : WK e) {x : Str} {v : List Dot} (hx : x ∈ W5) (hv : Kno v) : WK (pt e x v) := by
  refine ⟨?_, fun y hy => ?_⟩
  · unfold K51.pt
    split
    · rw [keys_rp]; exact w.nd
    · rename_i h
      rw [List.map_append, List.nodup_append]
      refine ⟨w.nd, by simp, fun a ha b hb q => ?_⟩
      have hb' : b = x := by simpa using hb
      subst q
      rw [hb'] at ha
      exact h (lk_of_mem ha)
  · rcases pt_mem hy with h | h
    · exact w.ok y h
    · rw [h]; exact ⟨hx, hv⟩
/-! ### an asker -/
abbrev Tel := Int × Str × Option (List Int)
def wsD : Option (List Int) → Md.D
  | none => .non
  | some l => .tup (l.map .int)
def telD (t : Tel) : Md.D := .tup [.int t.1, .str t.2.1, wsD t.2.2]
def bzD : Option Int → Md.D
  | none => .non
  | some i => .int i
abbrev flds (o : Str) (m t : Nat) (z : Md.D) : List (Str × Md.D) := [("own_name", .str o), ("known_of", .ref m), ("under_way", z), ("own_tellings", .ref t)]
structure AskAt (s : S) (o : Str) (p m t : Nat) (e : Kn) (bz : Option Int) (tl : List Tel) : Prop where
  at_ : s[p]? = some (.ins "Asker" (flds o m t (bzD bz)))
  dct : s[m]? = some (.dct false (kv e))
  lst : s[t]? = some (.lst (tl.map telD))
theorem lu_own (a b c d : Md.D) : List.lookup ("own_name" : Str) [("own_name", a), ("known_of", b), ("under_way", c), ("own_tellings", d)] = some a := by rfl
theorem lu_kn (a b c d : Md.D) : List.lookup ("known_of" : Str) [("own_name", a), ("known_of", b), ("under_way", c), ("own_tellings", d)] = some b := by rfl
theorem lu_uw (a b c d : Md.D) : List.lookup ("under_way" : Str) [("own_name", a), ("known_of", b), ("under_way", c), ("own_tellings", d)] = some c := by rfl
theorem lu_te (a b c d : Md.D) : List.lookup ("own_tellings" : Str) [("own_name", a), ("known_of", b), ("under_way", c), ("own_tellings", d)] = some d := by rfl
theorem ln_known (a b c d : Md.D) : List.lookup ("known" : Str) [("own_name", a), ("known_of", b), ("under_way", c), ("own_tellings", d)] = none := by rfl
theorem ln_learn (a b c d : Md.D) : List.lookup ("learn" : Str) [("own_name", a), ("known_of", b), ("under_way", c), ("own_tellings", d)] = none := by rfl
theorem ln_begin (a b c d : Md.D) : List.lookup ("begin" : Str) [("own_name", a), ("known_of", b), ("under_way", c), ("own_tellings", d)] = none := by rfl
theorem ln_busy (a b c d : Md.D) : List.lookup ("busy" : Str) [("own_name", a), ("known_of", b), ("under_way", c), ("own_tellings", d)] = none := by rfl
theorem ln_leave (a b c d : Md.D) : List.lookup ("leave_off" : Str) [("own_name", a), ("known_of", b), ("under_way", c), ("own_tellings", d)] = none := by rfl
theorem ln_hear (a b c d : Md.D) : List.lookup ("hear" : Str) [("own_name", a), ("known_of", b), ("under_way", c), ("own_tellings", d)] = none := by rfl
theorem ln_tell (a b c d : Md.D) : List.lookup ("tellings" : Str) [("own_name", a), ("known_of", b), ("under_way", c), ("own_tellings", d)] = none := by rfl
theorem ln_words (a b c d : Md.D) : List.lookup ("words" : Str) [("own_name", a), ("known_of", b), ("under_way", c), ("own_tellings", d)] = none := by rfl
theorem ln_called (a b c d : Md.D) : List.lookup ("called" : Str) [("own_name", a), ("known_of", b), ("under_way", c), ("own_tellings", d)] = none := by rfl
theorem ln_twin (a b c d : Md.D) : List.lookup ("twin" : Str) [("own_name", a), ("known_of", b), ("under_way", c), ("own_tellings", d)] = none := by rfl
theorem ln_state (a b c d : Md.D) : List.lookup ("state" : Str) [("own_name", a), ("known_of", b), ("under_way", c), ("own_tellings", d)] = none := by rfl
theorem ln_len (a b c d : Md.D) : List.lookup ("__len__" : Str) [("own_name", a), ("known_of", b), ("under_way", c), ("own_tellings", d)] = none := by rfl
theorem pf_uw (o : Str) (m t : Nat) (z z2 : Md.D) : putFD "under_way" z (flds o m t z2) = flds o m t z := by rfl
section
variable {s : S} {o : Str} {p m t : Nat} {e : Kn} {bz : Option Int} {tl : List Tel} {x : Str}
theorem known_ok (h : AskAt s o p m t e bz tl) (wx : okW x) : p_Asker_known [.ref p, .str x] s = .ok (dts (gt e x)) s := by
  have h1 := h.at_
  have h2 := h.dct
  have k := key_ok wx s
  have lv := look_kv x e
  have g : (Option.map dts (lk e x)).getD (.tup []) = dts (gt e x) := by
    unfold gt
    cases lk e x <;> rfl
  simp [p_Asker_known, b_Asker_known, h1, h2, k, lv, g, getG, tbGet, lu_own, lu_kn, lu_uw, lu_te, ln_known, ln_learn, ln_begin, ln_busy, ln_leave, ln_hear, ln_tell, ln_words, ln_called, ln_twin, ln_state, ln_len, line0, line1, line2, line3, line4, line5, run, endS, seq, asg, drp, rtn, rtN, skp, badS, ifS, Md.thn, cst, Md.ret, Md.bad, tgS, toN, op2, vr, lstE, tupE, aNil, aCons, bnd, toB, andB, orB, notB, andV, orV, notV, callM, mtM, fldM, stF, insOf, get?, opt, arg1, finL, int2, gtI, geI, leI, addD, addI, modI, isiM, tyD, Ty.sub, isiO, isInsO, isN, nonD, ixA, ixD, ixL, ixT, atI, ixN, dctD, lstD, tupD, toSub, setA, keyD, toSeq, toCons, toNil, mthM, kdD, upK, lenA, lenD, lenL, lenKF]
theorem tellings_ok (h : AskAt s o p m t e bz tl) : p_Asker_tellings [.ref p] s = .ok (.ref s.length) (s ++ [.lst (tl.map telD)]) := by
  have h1 := h.at_
  have h3 := h.lst
  simp [p_Asker_tellings, b_Asker_tellings, h1, h3, listAF, listF, seqD, finM, new, lu_own, lu_kn, lu_uw, lu_te, ln_known, ln_learn, ln_begin, ln_busy, ln_leave, ln_hear, ln_tell, ln_words, ln_called, ln_twin, ln_state, ln_len, line0, line1, line2, line3, line4, line5, run, endS, seq, asg, drp, rtn, rtN, skp, badS, ifS, Md.thn, cst, Md.ret, Md.bad, tgS, toN, op2, vr, lstE, tupE, aNil, aCons, bnd, toB, andB, orB, notB, andV, orV, notV, callM, mtM, fldM, stF, insOf, get?, opt, arg1, finL, int2, gtI, geI, leI, addD, addI, modI, isiM, tyD, Ty.sub, isiO, isInsO, isN, nonD, ixA, ixD, ixL, ixT, atI, ixN, dctD, lstD, tupD, toSub, setA, keyD, toSeq, toCons, toNil, mthM, kdD, upK, lenA, lenD, lenL, lenKF]
theorem called_ok (h : AskAt s o p m t e bz tl) : p_Asker_called [.ref p] s = .ok (.str o) s := by
  have h1 := h.at_
  simp [p_Asker_called, b_Asker_called, h1, lu_own, lu_kn, lu_uw, lu_te, ln_known, ln_learn, ln_begin, ln_busy, ln_leave, ln_hear, ln_tell, ln_words, ln_called, ln_twin, ln_state, ln_len, line0, line1, line2, line3, line4, line5, run, endS, seq, asg, drp, rtn, rtN, skp, badS, ifS, Md.thn, cst, Md.ret, Md.bad, tgS, toN, op2, vr, lstE, tupE, aNil, aCons, bnd, toB, andB, orB, notB, andV, orV, notV, callM, mtM, fldM, stF, insOf, get?, opt, arg1, finL, int2, gtI, geI, leI, addD, addI, modI, isiM, tyD, Ty.sub, isiO, isInsO, isN, nonD, ixA, ixD, ixL, ixT, atI, ixN, dctD, lstD, tupD, toSub, setA, keyD, toSeq, toCons, toNil, mthM, kdD, upK, lenA, lenD, lenL, lenKF]
theorem busy_ok (h : AskAt s o p m t e bz tl) : p_Asker_busy [.ref p] s = .ok (bzD bz) s := by
  have h1 := h.at_
  simp [p_Asker_busy, b_Asker_busy, h1, lu_own, lu_kn, lu_uw, lu_te, ln_known, ln_learn, ln_begin, ln_busy, ln_leave, ln_hear, ln_tell, ln_words, ln_called, ln_twin, ln_state, ln_len, line0, line1, line2, line3, line4, line5, run, endS, seq, asg, drp, rtn, rtN, skp, badS, ifS, Md.thn, cst, Md.ret, Md.bad, tgS, toN, op2, vr, lstE, tupE, aNil, aCons, bnd, toB, andB, orB, notB, andV, orV, notV, callM, mtM, fldM, stF, insOf, get?, opt, arg1, finL, int2, gtI, geI, leI, addD, addI, modI, isiM, tyD, Ty.sub, isiO, isInsO, isN, nonD, ixA, ixD, ixL, ixT, atI, ixN, dctD, lstD, tupD, toSub, setA, keyD, toSeq, toCons, toNil, mthM, kdD, upK, lenA, lenD, lenL, lenKF]
theorem len_ok (h : AskAt s o p m t e bz tl) : p_Asker_len [.ref p] s = .ok (.int tl.length) s := by
  have h1 := h.at_
  have h3 := h.lst
  simp [p_Asker_len, b_Asker_len, h1, h3, lu_own, lu_kn, lu_uw, lu_te, ln_known, ln_learn, ln_begin, ln_busy, ln_leave, ln_hear, ln_tell, ln_words, ln_called, ln_twin, ln_state, ln_len, line0, line1, line2, line3, line4, line5, run, endS, seq, asg, drp, rtn, rtN, skp, badS, ifS, Md.thn, cst, Md.ret, Md.bad, tgS, toN, op2, vr, lstE, tupE, aNil, aCons, bnd, toB, andB, orB, notB, andV, orV, notV, callM, mtM, fldM, stF, insOf, get?, opt, arg1, finL, int2, gtI, geI, leI, addD, addI, modI, isiM, tyD, Ty.sub, isiO, isInsO, isN, nonD, ixA, ixD, ixL, ixT, atI, ixN, dctD, lstD, tupD, toSub, setA, keyD, toSeq, toCons, toNil, mthM, kdD, upK, lenA, lenD, lenL, lenKF]
theorem begin_ok (h : AskAt s o p m t e none tl) (i : Int) : p_Asker_begin [.ref p, .int i] s = .ok .non (s.set p (.ins "Asker" (flds o m t (.int i)))) := by
  have h1 := h.at_
  simp [p_Asker_begin, b_Asker_begin, h1, bzD, pf_uw, lu_own, lu_kn, lu_uw, lu_te, ln_known, ln_learn, ln_begin, ln_busy, ln_leave, ln_hear, ln_tell, ln_words, ln_called, ln_twin, ln_state, ln_len, line0, line1, line2, line3, line4, line5, run, endS, seq, asg, drp, rtn, rtN, skp, badS, ifS, Md.thn, cst, Md.ret, Md.bad, tgS, toN, op2, vr, lstE, tupE, aNil, aCons, bnd, toB, andB, orB, notB, andV, orV, notV, callM, mtM, fldM, stF, insOf, get?, opt, arg1, finL, int2, gtI, geI, leI, addD, addI, modI, isiM, tyD, Ty.sub, isiO, isInsO, isN, nonD, ixA, ixD, ixL, ixT, atI, ixN, dctD, lstD, tupD, toSub, setA, keyD, toSeq, toCons, toNil, mthM, kdD, upK, lenA, lenD, lenL, lenKF]
theorem leave_ok {i : Int} (h : AskAt s o p m t e (some i) tl) : p_Asker_leave_off [.ref p] s = .ok (.int i) (s.set p (.ins "Asker" (flds o m t .non))) := by
  have h1 := h.at_
  simp [p_Asker_leave_off, b_Asker_leave_off, h1, bzD, pf_uw, lu_own, lu_kn, lu_uw, lu_te, ln_known, ln_learn, ln_begin, ln_busy, ln_leave, ln_hear, ln_tell, ln_words, ln_called, ln_twin, ln_state, ln_len, line0, line1, line2, line3, line4, line5, run, endS, seq, asg, drp, rtn, rtN, skp, badS, ifS, Md.thn, cst, Md.ret, Md.bad, tgS, toN, op2, vr, lstE, tupE, aNil, aCons, bnd, toB, andB, orB, notB, andV, orV, notV, callM, mtM, fldM, stF, insOf, get?, opt, arg1, finL, int2, gtI, geI, leI, addD, addI, modI, isiM, tyD, Ty.sub, isiO, isInsO, isN, nonD, ixA, ixD, ixL, ixT, atI, ixN, dctD, lstD, tupD, toSub, setA, keyD, toSeq, toCons, toNil, mthM, kdD, upK, lenA, lenD, lenL, lenKF]
theorem learn_ok (h : AskAt s o p m t e bz tl) (w : WK e) (wx : okW x) {k : List Dot} (hk : Kno k) :
    p_Asker_learn [.ref p, .str x, dts k] s = .ok (.bl (!decide (jn (gt e x) k = gt e x))) (s.set m (.dct false (kv (pt e x (jn (gt e x) k))))) := by
  have h1 := h.at_
  have h2 := h.dct
  have lt : m < s.length := (List.getElem?_eq_some_iff.mp h2).1
  have mp : m ≠ p := fun z => by rw [z, h1] at h2; cases h2
  have k1 := known_ok h wx
  have k2 := known_is (s := s) hk
  have k3 := together_ok (s := s) (w.gt x).ok hk.ok
  have few : (kv e).length < sizeLine := by rw [kv_length]; exact sl_of _ (by have := w.few; omega)
  have pk := put_kv e x (jn (gt e x) k)
  have h1' : (s.set m (.dct false (kv (pt e x (jn (gt e x) k)))))[p]? = some (.ins "Asker" (flds o m t (bzD bz))) := by rw [List.getElem?_set_ne mp]; exact h1
  have h2' : (s.set m (.dct false (kv (pt e x (jn (gt e x) k)))))[m]? = some (.dct false (kv (pt e x (jn (gt e x) k)))) := List.getElem?_set_self lt
  have lv := look_kv x (pt e x (jn (gt e x) k))
  rw [lk_pt_self] at lv
  have q := eqX_dts (s := s.set m (.dct false (kv (pt e x (jn (gt e x) k))))) not (jn_kno (w.gt x).ok hk.ok).ok (w.gt x).ok
  generalize pt e x (jn (gt e x) k) = e' at *
  generalize hj : jn (gt e x) k = j at *
  have l2 : (2 ≤ sizeLine) = True := line2
  unfold p_Asker_learn b_Asker_learn
  generalize eqX not = Q at *
  simp [h1, h2, k1, k2, k3, few, pk, h1', h2', lv, q, ixK, lu_own, lu_kn, lu_uw, lu_te, ln_known, ln_learn, ln_begin, ln_busy, ln_leave, ln_hear, ln_tell, ln_words, ln_called, ln_twin, ln_state, ln_len, line0, line1, line2, line3, line4, line5, run, endS, seq, asg, drp, rtn, rtN, skp, badS, ifS, Md.thn, cst, Md.ret, Md.bad, tgS, toN, op2, vr, lstE, tupE, aNil, aCons, bnd, toB, andB, orB, notB, andV, orV, notV, callM, mtM, fldM, stF, insOf, get?, opt, arg1, finL, int2, gtI, geI, leI, addD, addI, modI, isiM, tyD, Ty.sub, isiO, isInsO, isN, nonD, ixA, ixD, ixL, ixT, atI, ixN, dctD, lstD, tupD, toSub, setA, keyD, toSeq, toCons, toNil, mthM, kdD, upK, lenA, lenD, lenL, lenKF]
end
end K51
end Md

set_option Elab.async false
set_option linter.all false
set_option maxRecDepth 1000000
set_option maxHeartbeats 2000000
namespace Md
namespace K51
--L lu_own, lu_kn, lu_uw, lu_te, ln_known, ln_learn, ln_begin, ln_busy, ln_leave, ln_hear, ln_tell, ln_words, ln_called, ln_twin, ln_state, ln_len, line0, line1, line2, line3, line4, line5,
open PySem PySem.Spec PyProof.Rows L2
theorem get_app {s t : S} {p : Nat} {o : Ob} (h : s[p]? = some o) : (s ++ t)[p]? = some o := by
  rw [List.getElem?_append_left (List.getElem?_eq_some_iff.mp h).1]
  exact h
/-! ### the words -/
def full (y : Str × List Dot) : Bool := !decide (y.2 = [])
def wd (e : Kn) : List Str := isortB leS ((e.filter full).map (·.1))
def txs (xs : List Str) : List Md.D := xs.map .str
theorem pysD_strs (s : S) : ∀ {xs : List Str}, (∀ x ∈ xs, PyData.strOk x = true) → pysD s (txs xs) = some (xs.map fun x => (.str x, .str x))
  | [], _ => rfl
  | x :: r, h => by
    show (match toPy s 20 (.str x), pysD s (txs r) with
      | some a, some b => some ((Md.D.str x, a) :: b)
      | _, _ => none) = _
    rw [toPy_str s 19 (h x (by simp)), pysD_strs s fun z hz => h z (by simp [hz])]
    rfl
theorem sortF_strs {s : S} {fin : List Md.D → Md.M Md.D} {xs : List Str} (h : ∀ x ∈ xs, PyData.strOk x = true) : sortAF fin (.lst (txs xs)) s = fin (txs (isortB leS xs)) s := by
  show sortF fin (.lst (txs xs)) s = _
  unfold sortF
  have e1 : (lstD s (.lst (txs xs))).bind (pysD s) = some (xs.map fun x => (.str x, .str x)) := pysD_strs s h
  rw [e1]
  simp only []
  have a1 : alikesB ((xs.map fun x => (Md.D.str x, PyData.str x)).map (·.2)) = true := by
    unfold alikesB
    simp only [List.map_map, List.all_map, List.all_eq_true, Function.comp_apply]
    exact fun y _ z _ => rfl
  have a2 : sortB ((xs.map fun x => (Md.D.str x, PyData.str x)).map (·.2)) = true := by
    unfold sortB
    simp only [List.map_map, Bool.or_eq_true, List.all_map, List.all_eq_true, Function.comp_apply]
    exact .inr fun y _ => trivial
  rw [if_pos ⟨a1, a2⟩]
  have e2 : sortP (xs.map fun x => (Md.D.str x, PyData.str x)) = txs (isortB leS xs) := by
    unfold sortP
    have e3 := isortB_mapG (le := leS) (le' := PySem.W.dataLe false (fun x : Md.D × PyData => x.2)) (f := fun x : Str => (Md.D.str x, PyData.str x)) (fun a b => congrFun (congrFun (PySem.W.dataLe_str (β := Str) id) a) b) xs
    rw [e3, List.map_map]
    rfl
  rw [e2]
theorem lock_okF {p q : Nat} {c f : Str} {fs : List (Str × Md.D)} {env : Rs} {s : S} {kvs : List (Md.D × Md.D)} {g : Rs → Md.M Md.D} {d : Md.D} (he : env[0]? = some (some (.ref p))) (hp : s[p]? = some (.ins c fs)) (hf : fs.lookup f = some (.ref q)) (h : s[q]? = some (.dct false kvs)) (hg : g env (s.set q (.dct true kvs)) = .ok d (s.set q (.dct true kvs))) : lockE (pkF f (pkV 0)) g env s = .ok d s := by
  have lt : q < s.length := (List.getElem?_eq_some_iff.mp h).1
  have e1 : pkF f (pkV 0) env s = some q := by
    unfold pkF pkV
    rw [he]
    simp only [hp, hf]
  unfold lockE
  rw [e1]
  simp only [h]
  show unlE q (g env (s.set q (.dct true kvs))) = _
  rw [hg]
  show Res.ok d (unl q (s.set q (.dct true kvs))) = _
  unfold unl
  rw [List.getElem?_set_self lt]
  show Res.ok d ((s.set q (.dct true kvs)).set q (.dct false kvs)) = _
  rw [List.set_set]
  obtain ⟨h1, h2⟩ := List.getElem?_eq_some_iff.mp h
  rw [← h2, List.set_getElem_self]
theorem dctD_at {s : S} {q : Nat} {lk : Bool} {kvs : List (Md.D × Md.D)} (h : s[q]? = some (.dct lk kvs)) : dctD s (.ref q) = some (q, lk, kvs) := by
  show (match s[q]? with
    | some (.dct lk kvs) => some (q, lk, kvs)
    | _ => none) = _
  rw [h]
def nms (e : Kn) : List Md.D := e.map fun y => .str y.1
theorem keys_kv (e : Kn) : (kv e).map (·.1) = nms e := by simp [kv, nms]
/-- a walk over the keys that keeps those of which something is known -/
theorem full_walk {s : S} {tt : Rs → Md.M Bool} {i : Nat} {env : Rs} (hi : i < env.length) : ∀ {f : Kn}, (∀ y ∈ f, tt (env.set i (some (.str y.1))) s = .ok (full y) s) → lcR (toN i) tt (vr i) env (nms f) s = .ok (txs ((f.filter full).map (·.1))) s
  | [], _ => rfl
  | y :: r, h => by
    have ih := full_walk hi (f := r) fun z hz => h z (by simp [hz])
    have h0 := h y (by simp)
    have en : nms (y :: r) = .str y.1 :: nms r := rfl
    have v : vr i (env.set i (some (.str y.1))) s = .ok (.str y.1) s := by
      simp [vr, List.getElem?_set_self hi, Md.ret]
    rw [en]
    unfold lcR
    by_cases q : full y = true
    · rw [q] at h0
      have ef : (y :: r).filter full = y :: r.filter full := by simp [q]
      rw [ef]
      simp only [bnd, toN, Md.ret, h0, if_true, v, ih]
      rfl
    · have q' : full y = false := by simpa using q
      rw [q'] at h0
      have ef : (y :: r).filter full = r.filter full := by simp [q']
      rw [ef]
      simp only [bnd, toN, Md.ret, h0, Bool.false_eq_true, if_false]
      exact ih
theorem wd_ok {e : Kn} (w : WK e) : ∀ x ∈ wd e, x ∈ W5 := fun x hx => by
  obtain ⟨y, hy, rfl⟩ := List.mem_map.mp (isortB_mem.mp hx)
  exact (w.ok y (List.mem_filter.mp hy).1).1
theorem wd_len {e : Kn} (w : WK e) : (wd e).length ≤ 5 := by
  unfold wd
  rw [isortB_len, List.length_map]
  exact Nat.le_trans (List.length_filter_le _ _) w.few
def cW : Rs → Md.M Md.D := lockE (pkF "known_of" (pkV 0)) (lcM [1] (itAny (fldM "Asker" "known_of" (vr 0))) (toN 1) (toB (op2 (eqX not) (op2 ixA (fldM "Asker" "known_of" (vr 0)) (vr 1)) (tupE (aNil)))) (vr 1) finL)
section
variable {s : S} {o : Str} {p m t : Nat} {e : Kn} {bz : Option Int} {tl : List Tel} {x : Str}
theorem cW_ok (h : AskAt s o p m t e bz tl) (w : WK e) : cW [some (.ref p), none] s = .ok (.lst (txs ((e.filter full).map (·.1)))) s := by
  have h1 := h.at_
  have h2 := h.dct
  have lt : m < s.length := (List.getElem?_eq_some_iff.mp h2).1
  have mp : m ≠ p := fun z => by rw [z, h1] at h2; cases h2
  refine lock_okF rfl h1 (lu_kn _ _ _ _) h2 ?_
  have g1 : (s.set m (.dct true (kv e)))[p]? = some (.ins "Asker" (flds o m t (bzD bz))) := by rw [List.getElem?_set_ne mp]; exact h1
  have g2 : (s.set m (.dct true (kv e)))[m]? = some (.dct true (kv e)) := List.getElem?_set_self lt
  generalize s.set m (.dct true (kv e)) = s1 at *
  have e1 := dctD_at g2
  have ew : wipeR [some (.ref p), none] [1] = [some (.ref p), none] := rfl
  have fl : fldM "Asker" "known_of" (vr 0) [some (.ref p), none] s1 = .ok (.ref m) s1 := by
    simp [g1, lu_own, lu_kn, lu_uw, lu_te, ln_known, ln_learn, ln_begin, ln_busy, ln_leave, ln_hear, ln_tell, ln_words, ln_called, ln_twin, ln_state, ln_len, line0, line1, line2, line3, line4, line5, run, endS, seq, asg, drp, rtn, rtN, skp, badS, ifS, Md.thn, cst, Md.ret, Md.bad, tgS, toN, op2, vr, lstE, tupE, aNil, aCons, bnd, toB, andB, orB, notB, andV, orV, notV, callM, mtM, fldM, stF, insOf, get?, opt, arg1, finL, int2, gtI, geI, leI, addD, addI, modI, isiM, tyD, Ty.sub, isiO, isInsO, isN, nonD, ixA, ixD, ixL, ixT, atI, ixN, dctD, lstD, tupD, toSub, setA, keyD, toSeq, toCons, toNil, mthM, kdD, upK, lenA, lenD, lenL, lenKF]
  have few : (nms e).length ≤ sizeLine := by
    have := w.few
    simp [nms]
    exact Nat.le_of_lt (sl_of _ (by omega))
  have it : itAny (fldM "Asker" "known_of" (vr 0)) [some (.ref p), none] s1 = .ok (nms e) s1 := by
    simp only [itAny, bnd, fl, e1, keys_kv]
  have wk := full_walk (s := s1) (tt := toB (op2 (eqX not) (op2 ixA (fldM "Asker" "known_of" (vr 0)) (vr 1)) (tupE (aNil)))) (i := 1) (env := [some (.ref p), none]) (by simp) (f := e) fun y hy => by
    have fl2 : fldM "Asker" "known_of" (vr 0) [some (.ref p), some (.str y.1)] s1 = .ok (.ref m) s1 := by
      simp [g1, lu_own, lu_kn, lu_uw, lu_te, ln_known, ln_learn, ln_begin, ln_busy, ln_leave, ln_hear, ln_tell, ln_words, ln_called, ln_twin, ln_state, ln_len, line0, line1, line2, line3, line4, line5, run, endS, seq, asg, drp, rtn, rtN, skp, badS, ifS, Md.thn, cst, Md.ret, Md.bad, tgS, toN, op2, vr, lstE, tupE, aNil, aCons, bnd, toB, andB, orB, notB, andV, orV, notV, callM, mtM, fldM, stF, insOf, get?, opt, arg1, finL, int2, gtI, geI, leI, addD, addI, modI, isiM, tyD, Ty.sub, isiO, isInsO, isN, nonD, ixA, ixD, ixL, ixT, atI, ixN, dctD, lstD, tupD, toSub, setA, keyD, toSeq, toCons, toNil, mthM, kdD, upK, lenA, lenD, lenL, lenKF]
    have ix : ixA (.ref m) (.str y.1) s1 = .ok (dts y.2) s1 := by
      unfold ixA ixK
      rw [e1]
      show opt (lookD (kv e) (.inr y.1)) s1 = _
      rw [look_kv, lk_mem w.nd hy]
      rfl
    have q := eqX_dts (s := s1) (m := []) not (w.ok y hy).2.ok (fun d z => nomatch z)
    have q' : eqX not (dts y.2) (.tup []) s1 = .ok (.bl (full y)) s1 := q
    show toB (op2 (eqX not) (op2 ixA (fldM "Asker" "known_of" (vr 0)) (vr 1)) (tupE (aNil))) [some (.ref p), some (.str y.1)] s1 = _
    generalize eqX not = Q at *
    generalize fldM "Asker" "known_of" (vr 0) = F at *
    generalize ixA = I at *
    simp [toB, op2, bnd, fl2, vr, Md.ret, ix, tupE, aNil, line0, q']
  simp only [lcM, bnd, it, few, if_true, nox, ew, wk, finL, Md.ret]
theorem words_ok (h : AskAt s o p m t e bz tl) (w : WK e) : p_Asker_words [.ref p] s = .ok (.ref s.length) (s ++ [.lst (txs (wd e))]) := by
  have c := cW_ok h w
  have so := sortF_strs (s := s) (fin := finM) (xs := (e.filter full).map (·.1)) fun x hx => by
    obtain ⟨y, hy, rfl⟩ := List.mem_map.mp hx
    exact (okW_5 _ (w.ok y (List.mem_filter.mp hy).1).1).k
  have body : b_Asker_words = rtn (callM (arg1 (sortAF finM)) [] (aCons cW (aNil))) := rfl
  unfold p_Asker_words
  rw [body]
  generalize cW = C at *
  show endS (rtn (callM (arg1 (sortAF finM)) [] (aCons C (aNil))) [some (.ref p), none] s) = _
  simp only [rtn, Md.thn, callM, bnd, aCons, aNil, c, Md.ret, List.append_nil, arg1, so]
  rfl
/-! ### the state -/
def prD (e : Kn) (x : Str) : Md.D := .tup [.str x, dts (gt e x)]
def prP (e : Kn) (x : Str) : PyData := .tuple [.str x, dtsP (gt e x)]
def stD (o : Str) (e : Kn) (bz : Option Int) (tl : List Tel) : Md.D := .tup [.str o, .tup ((wd e).map (prD e)), bzD bz, .tup (tl.map telD)]
theorem AskAt.app {s u : S} (h : AskAt s o p m t e bz tl) : AskAt (s ++ u) o p m t e bz tl := ⟨get_app h.at_, get_app h.dct, get_app h.lst⟩
def cS : Rs → Md.M Md.D := lcM [2] (itAny (frzE (mtM "Asker" "words" p_Asker_words [] (vr 0) aNil))) (toN 2) (yesB) (tupE (aCons (vr 2) (aCons (op2 ixA (fldM "Asker" "known_of" (vr 0)) (vr 2)) (aNil)))) finL
theorem lc_map {α : Type} {i : Nat} {te : Rs → Md.M Md.D} {env : Rs} {f : α → Md.D} {g : α → Md.D} : ∀ {xs : List α}, (∀ x ∈ xs, te (env.set i (some (f x))) s = .ok (g x) s) → lcR (toN i) yesB te env (xs.map f) s = .ok (xs.map g) s
  | [], _ => rfl
  | x :: r, h => by
    have ih := lc_map (xs := r) fun z hz => h z (by simp [hz])
    have h0 := h x (by simp)
    rw [List.map_cons]
    unfold lcR
    simp only [bnd, toN, yesB, Md.ret, if_true, h0, ih]
    rfl
theorem cS_ok (h : AskAt s o p m t e bz tl) (w : WK e) : cS [some (.ref p), none, none] s = .ok (.lst ((wd e).map (prD e))) (s ++ [.lok (txs (wd e))]) := by
  have wo := words_ok h w
  have h1 := h.at_
  have hm : mtM "Asker" "words" p_Asker_words [] (vr 0) aNil [some (.ref p), none, none] s = .ok (.ref s.length) (s ++ [.lst (txs (wd e))]) := by
    simp [h1, wo, lu_own, lu_kn, lu_uw, lu_te, ln_known, ln_learn, ln_begin, ln_busy, ln_leave, ln_hear, ln_tell, ln_words, ln_called, ln_twin, ln_state, ln_len, line0, line1, line2, line3, line4, line5, run, endS, seq, asg, drp, rtn, rtN, skp, badS, ifS, Md.thn, cst, Md.ret, Md.bad, tgS, toN, op2, vr, lstE, tupE, aNil, aCons, bnd, toB, andB, orB, notB, andV, orV, notV, callM, mtM, fldM, stF, insOf, get?, opt, arg1, finL, int2, gtI, geI, leI, addD, addI, modI, isiM, tyD, Ty.sub, isiO, isInsO, isN, nonD, ixA, ixD, ixL, ixT, atI, ixN, dctD, lstD, tupD, toSub, setA, keyD, toSeq, toCons, toNil, mthM, kdD, upK, lenA, lenD, lenL, lenKF]
  have hf : frzE (mtM "Asker" "words" p_Asker_words [] (vr 0) aNil) [some (.ref p), none, none] s = .ok (.ref s.length) (s ++ [.lok (txs (wd e))]) := by
    unfold frzE
    simp only [bnd, hm, frzD]
    simp
  have ha : AskAt (s ++ [.lok (txs (wd e))]) o p m t e bz tl := h.app
  have g3 : (s ++ [Ob.lok (txs (wd e))])[s.length]? = some (.lok (txs (wd e))) := by simp
  have few : (txs (wd e)).length ≤ sizeLine := by
    have := wd_len w
    simp [txs]
    exact Nat.le_of_lt (sl_of _ (by omega))
  generalize s ++ [Ob.lok (txs (wd e))] = s1 at *
  have it : itAny (frzE (mtM "Asker" "words" p_Asker_words [] (vr 0) aNil)) [some (.ref p), none, none] s = .ok (txs (wd e)) s1 := by
    have d : dctD s1 (.ref s.length) = none := by
      show (match s1[s.length]? with
        | some (.dct lk kvs) => some (s.length, lk, kvs)
        | _ => none) = _
      rw [g3]
    have st : stayD s1 (.ref s.length) = some (txs (wd e)) := by
      show (match s1[s.length]? with
        | some (.lok xs) => some xs
        | _ => none) = _
      rw [g3]
    unfold itAny
    simp only [bnd, hf, d, st]
  have a1 := ha.at_
  have e1 := dctD_at ha.dct
  have ew : wipeR [some (.ref p), none, none] [2] = [some (.ref p), none, none] := rfl
  have wk := lc_map (s := s1) (i := 2) (te := tupE (aCons (vr 2) (aCons (op2 ixA (fldM "Asker" "known_of" (vr 0)) (vr 2)) (aNil)))) (env := [some (.ref p), none, none]) (f := Md.D.str) (g := prD e) (xs := wd e) fun x hx => by
    have fl2 : fldM "Asker" "known_of" (vr 0) [some (.ref p), none, some (.str x)] s1 = .ok (.ref m) s1 := by
      simp [a1, lu_own, lu_kn, lu_uw, lu_te, ln_known, ln_learn, ln_begin, ln_busy, ln_leave, ln_hear, ln_tell, ln_words, ln_called, ln_twin, ln_state, ln_len, line0, line1, line2, line3, line4, line5, run, endS, seq, asg, drp, rtn, rtN, skp, badS, ifS, Md.thn, cst, Md.ret, Md.bad, tgS, toN, op2, vr, lstE, tupE, aNil, aCons, bnd, toB, andB, orB, notB, andV, orV, notV, callM, mtM, fldM, stF, insOf, get?, opt, arg1, finL, int2, gtI, geI, leI, addD, addI, modI, isiM, tyD, Ty.sub, isiO, isInsO, isN, nonD, ixA, ixD, ixL, ixT, atI, ixN, dctD, lstD, tupD, toSub, setA, keyD, toSeq, toCons, toNil, mthM, kdD, upK, lenA, lenD, lenL, lenKF]
    have ix : ixA (.ref m) (.str x) s1 = .ok (dts (gt e x)) s1 := by
      obtain ⟨y, hy, rfl⟩ := List.mem_map.mp (isortB_mem.mp hx)
      have lm := lk_mem w.nd (List.mem_filter.mp hy).1
      unfold ixA ixK
      rw [e1]
      show opt (lookD (kv e) (.inr y.1)) s1 = _
      unfold gt
      rw [look_kv, lm]
      rfl
    show tupE (aCons (vr 2) (aCons (op2 ixA (fldM "Asker" "known_of" (vr 0)) (vr 2)) (aNil))) [some (.ref p), none, some (.str x)] s1 = _
    generalize fldM "Asker" "known_of" (vr 0) = F at *
    generalize ixA = I at *
    simp [op2, bnd, fl2, vr, Md.ret, ix, tupE, aCons, aNil, line2, prD]
  have wk' : lcR (toN 2) yesB (tupE (aCons (vr 2) (aCons (op2 ixA (fldM "Asker" "known_of" (vr 0)) (vr 2)) (aNil)))) [some (.ref p), none, none] (txs (wd e)) s1 = .ok ((wd e).map (prD e)) s1 := wk
  unfold cS
  simp only [lcM, bnd, it, few, if_true, nox, ew, wk', finL, Md.ret]
theorem state_ok (h : AskAt s o p m t e bz tl) (w : WK e) : p_Asker_state [.ref p] s = .ok (stD o e bz tl) (s ++ [.lok (txs (wd e))]) := by
  have c := cS_ok h w
  have ha : AskAt (s ++ [.lok (txs (wd e))]) o p m t e bz tl := h.app
  have a1 := ha.at_
  have a3 := ha.lst
  have body : b_Asker_state = seq (asg (callM (arg1 tupF) [] (aCons cS (aNil))) (toN 1)) (rtn (tupE (aCons (fldM "Asker" "own_name" (vr 0)) (aCons (vr 1) (aCons (fldM "Asker" "under_way" (vr 0)) (aCons (callM (arg1 tupF) [] (aCons (fldM "Asker" "own_tellings" (vr 0)) (aNil))) (aNil))))))) := rfl
  unfold p_Asker_state
  rw [body]
  generalize cS = C at *
  generalize s ++ [Ob.lok (txs (wd e))] = s1 at *
  simp [c, a1, a3, tupF, seqD, stD, lu_own, lu_kn, lu_uw, lu_te, ln_known, ln_learn, ln_begin, ln_busy, ln_leave, ln_hear, ln_tell, ln_words, ln_called, ln_twin, ln_state, ln_len, line0, line1, line2, line3, line4, line5, run, endS, seq, asg, drp, rtn, rtN, skp, badS, ifS, Md.thn, cst, Md.ret, Md.bad, tgS, toN, op2, vr, lstE, tupE, aNil, aCons, bnd, toB, andB, orB, notB, andV, orV, notV, callM, mtM, fldM, stF, insOf, get?, opt, arg1, finL, int2, gtI, geI, leI, addD, addI, modI, isiM, tyD, Ty.sub, isiO, isInsO, isN, nonD, ixA, ixD, ixL, ixT, atI, ixN, dctD, lstD, tupD, toSub, setA, keyD, toSeq, toCons, toNil, mthM, kdD, upK, lenA, lenD, lenL, lenKF]
end
end K51
end Md

set_option Elab.async false
set_option linter.all false
set_option maxRecDepth 1000000
set_option maxHeartbeats 2000000
namespace Md
namespace K51
--L lu_own, lu_kn, lu_uw, lu_te, ln_known, ln_learn, ln_begin, ln_busy, ln_leave, ln_hear, ln_tell, ln_words, ln_called, ln_twin, ln_state, ln_len, line0, line1, line2, line3, line4, line5,
open PySem PySem.Spec PyProof.Rows L2
/-! ### made -/
abbrev insA (o : Str) (m t : Nat) (z : Md.D) : Ob := .ins "Asker" (flds o m t z)
theorem pf_0 (v : Md.D) : putFD "own_name" v [] = ([("own_name", v)] : List (Str × Md.D)) := by rfl
theorem pf_1 (a v : Md.D) : putFD "known_of" v [("own_name", a)] = ([("own_name", a), ("known_of", v)] : List (Str × Md.D)) := by rfl
theorem pf_2 (a b v : Md.D) : putFD "under_way" v [("own_name", a), ("known_of", b)] = ([("own_name", a), ("known_of", b), ("under_way", v)] : List (Str × Md.D)) := by rfl
theorem pf_3 (a b c v : Md.D) : putFD "own_tellings" v [("own_name", a), ("known_of", b), ("under_way", c)] = ([("own_name", a), ("known_of", b), ("under_way", c), ("own_tellings", v)] : List (Str × Md.D)) := by rfl
theorem pf_kn (o : Str) (m m2 t : Nat) (z : Md.D) : putFD "known_of" (.ref m2) (flds o m t z) = flds o m2 t z := by rfl
theorem pf_te (o : Str) (m t t2 : Nat) (z : Md.D) : putFD "own_tellings" (.ref t2) (flds o m t z) = flds o m t2 z := by rfl
section
variable {s : S} {o : Str} {p m t : Nat} {e : Kn} {bz : Option Int} {tl : List Tel} {x : Str}
theorem mk_ok {env : Rs} {fa : Rs → M (List Md.D)} (h : fa env s = .ok [.str o] s) (wo : okW o) : mkM "Asker" p_Asker_init [] fa env s = .ok (.ref s.length) (s ++ [insA o (s.length + 1) (s.length + 2) .non, .dct false [], .lst []]) := by
  have w := wo.w
  have i0 : p_Asker_init [.ref s.length, .str o] (s ++ [.ins "Asker" []]) = .ok .non (s ++ [insA o (s.length + 1) (s.length + 2) .non, .dct false [], .lst []]) := by
    simp [p_Asker_init, b_Asker_init, w, pf_0, pf_1, pf_2, pf_3, dnewM, newD, new, finM, flds, lu_own, lu_kn, lu_uw, lu_te, ln_known, ln_learn, ln_begin, ln_busy, ln_leave, ln_hear, ln_tell, ln_words, ln_called, ln_twin, ln_state, ln_len, line0, line1, line2, line3, line4, line5, run, endS, seq, asg, drp, rtn, rtN, skp, badS, ifS, Md.thn, cst, Md.ret, Md.bad, tgS, toN, op2, vr, lstE, tupE, aNil, aCons, bnd, toB, andB, orB, notB, andV, orV, notV, callM, mtM, fldM, stF, insOf, get?, opt, arg1, finL, int2, gtI, geI, leI, addD, addI, modI, isiM, tyD, Ty.sub, isiO, isInsO, isN, nonD, ixA, ixD, ixL, ixT, atI, ixN, dctD, lstD, tupD, toSub, setA, keyD, toSeq, toCons, toNil, mthM, kdD, upK, lenA, lenD, lenL, lenKF]
  simp [mkM, bnd, h, new, i0, Md.ret]
theorem twin_ok (h : AskAt s o p m t e bz tl) (wo : okW o) : p_Asker_twin [.ref p] s = .ok (.ref s.length) (s ++ [insA o (s.length + 3) (s.length + 4) (bzD bz), .dct false [], .lst [], .dct false (kv e), .lst (tl.map telD)]) := by
  have h1 := h.at_
  have hk := mk_ok (s := s) (o := o) (env := [some (.ref p), none]) (fa := aCons (fldM "Asker" "own_name" (vr 0)) (aNil)) (by simp [h1, lu_own, lu_kn, lu_uw, lu_te, ln_known, ln_learn, ln_begin, ln_busy, ln_leave, ln_hear, ln_tell, ln_words, ln_called, ln_twin, ln_state, ln_len, line0, line1, line2, line3, line4, line5, run, endS, seq, asg, drp, rtn, rtN, skp, badS, ifS, Md.thn, cst, Md.ret, Md.bad, tgS, toN, op2, vr, lstE, tupE, aNil, aCons, bnd, toB, andB, orB, notB, andV, orV, notV, callM, mtM, fldM, stF, insOf, get?, opt, arg1, finL, int2, gtI, geI, leI, addD, addI, modI, isiM, tyD, Ty.sub, isiO, isInsO, isN, nonD, ixA, ixD, ixL, ixT, atI, ixN, dctD, lstD, tupD, toSub, setA, keyD, toSeq, toCons, toNil, mthM, kdD, upK, lenA, lenD, lenL, lenKF]) wo
  have n1 : AskAt (s ++ [insA o (s.length + 1) (s.length + 2) .non, .dct false [], .lst []]) o p m t e bz tl := h.app
  have body : b_Asker_twin = seq (asg (mkM "Asker" p_Asker_init [] (aCons (fldM "Asker" "own_name" (vr 0)) (aNil))) (toN 1))
    (seq (stF "Asker" "known_of" (callM (arg1 dictF) [] (aCons (fldM "Asker" "known_of" (vr 0)) (aNil))) (vr 1))
    (seq (stF "Asker" "under_way" (fldM "Asker" "under_way" (vr 0)) (vr 1))
    (seq (stF "Asker" "own_tellings" (callM (arg1 (listAF finM)) [] (aCons (fldM "Asker" "own_tellings" (vr 0)) (aNil))) (vr 1))
    (rtn (vr 1))))) := rfl
  unfold p_Asker_twin
  rw [body]
  have m0 : asg (mkM "Asker" p_Asker_init [] (aCons (fldM "Asker" "own_name" (vr 0)) (aNil))) (toN 1) [some (.ref p), none] s = .nx [some (.ref p), some (.ref s.length)] (s ++ [insA o (s.length + 1) (s.length + 2) .non, .dct false [], .lst []]) := by
    unfold asg Md.thn
    rw [hk]
    rfl
  have c1 : stF "Asker" "known_of" (callM (arg1 dictF) [] (aCons (fldM "Asker" "known_of" (vr 0)) (aNil))) (vr 1) [some (.ref p), some (.ref s.length)] (s ++ [insA o (s.length + 1) (s.length + 2) .non, .dct false [], .lst []]) = .nx [some (.ref p), some (.ref s.length)] (s ++ [insA o (s.length + 3) (s.length + 2) .non, .dct false [], .lst [], .dct false (kv e)]) := by
    have a1 := n1.at_
    have a2 := dctD_at n1.dct
    have z : (s ++ [insA o (s.length + 1) (s.length + 2) .non, Ob.dct false [], .lst []]).length = s.length + 3 := by simp
    have fl : fldM "Asker" "known_of" (vr 0) [some (.ref p), some (.ref s.length)] (s ++ [insA o (s.length + 1) (s.length + 2) .non, .dct false [], .lst []]) = .ok (.ref m) (s ++ [insA o (s.length + 1) (s.length + 2) .non, .dct false [], .lst []]) := by
      simp [a1, lu_own, lu_kn, lu_uw, lu_te, ln_known, ln_learn, ln_begin, ln_busy, ln_leave, ln_hear, ln_tell, ln_words, ln_called, ln_twin, ln_state, ln_len, line0, line1, line2, line3, line4, line5, run, endS, seq, asg, drp, rtn, rtN, skp, badS, ifS, Md.thn, cst, Md.ret, Md.bad, tgS, toN, op2, vr, lstE, tupE, aNil, aCons, bnd, toB, andB, orB, notB, andV, orV, notV, callM, mtM, fldM, stF, insOf, get?, opt, arg1, finL, int2, gtI, geI, leI, addD, addI, modI, isiM, tyD, Ty.sub, isiO, isInsO, isN, nonD, ixA, ixD, ixL, ixT, atI, ixN, dctD, lstD, tupD, toSub, setA, keyD, toSeq, toCons, toNil, mthM, kdD, upK, lenA, lenD, lenL, lenKF]
    have dn : dictF (.ref m) (s ++ [insA o (s.length + 1) (s.length + 2) .non, .dct false [], .lst []]) = .ok (.ref (s.length + 3)) (s ++ [insA o (s.length + 1) (s.length + 2) .non, .dct false [], .lst [], .dct false (kv e)]) := by
      unfold dictF
      rw [a2]
      show Res.ok (Md.D.ref (s ++ [insA o (s.length + 1) (s.length + 2) .non, Ob.dct false [], .lst []]).length) _ = _
      rw [z]
      simp
    generalize fldM "Asker" "known_of" (vr 0) = F at *
    simp [stF, Md.thn, callM, bnd, aCons, aNil, fl, Md.ret, arg1, dn, vr, insOf, get?, pf_kn]
  have n2 : AskAt (s ++ [insA o (s.length + 3) (s.length + 2) .non, .dct false [], .lst [], .dct false (kv e)]) o p m t e bz tl := h.app
  have c2 : stF "Asker" "under_way" (fldM "Asker" "under_way" (vr 0)) (vr 1) [some (.ref p), some (.ref s.length)] (s ++ [insA o (s.length + 3) (s.length + 2) .non, .dct false [], .lst [], .dct false (kv e)]) = .nx [some (.ref p), some (.ref s.length)] (s ++ [insA o (s.length + 3) (s.length + 2) (bzD bz), .dct false [], .lst [], .dct false (kv e)]) := by
    have a1 := n2.at_
    have fl : fldM "Asker" "under_way" (vr 0) [some (.ref p), some (.ref s.length)] (s ++ [insA o (s.length + 3) (s.length + 2) .non, .dct false [], .lst [], .dct false (kv e)]) = .ok (bzD bz) (s ++ [insA o (s.length + 3) (s.length + 2) .non, .dct false [], .lst [], .dct false (kv e)]) := by
      simp [a1, lu_own, lu_kn, lu_uw, lu_te, ln_known, ln_learn, ln_begin, ln_busy, ln_leave, ln_hear, ln_tell, ln_words, ln_called, ln_twin, ln_state, ln_len, line0, line1, line2, line3, line4, line5, run, endS, seq, asg, drp, rtn, rtN, skp, badS, ifS, Md.thn, cst, Md.ret, Md.bad, tgS, toN, op2, vr, lstE, tupE, aNil, aCons, bnd, toB, andB, orB, notB, andV, orV, notV, callM, mtM, fldM, stF, insOf, get?, opt, arg1, finL, int2, gtI, geI, leI, addD, addI, modI, isiM, tyD, Ty.sub, isiO, isInsO, isN, nonD, ixA, ixD, ixL, ixT, atI, ixN, dctD, lstD, tupD, toSub, setA, keyD, toSeq, toCons, toNil, mthM, kdD, upK, lenA, lenD, lenL, lenKF]
    generalize fldM "Asker" "under_way" (vr 0) = F at *
    simp [stF, Md.thn, fl, vr, insOf, get?, bnd, Md.ret, pf_uw]
  have n3 : AskAt (s ++ [insA o (s.length + 3) (s.length + 2) (bzD bz), .dct false [], .lst [], .dct false (kv e)]) o p m t e bz tl := h.app
  have c3 : stF "Asker" "own_tellings" (callM (arg1 (listAF finM)) [] (aCons (fldM "Asker" "own_tellings" (vr 0)) (aNil))) (vr 1) [some (.ref p), some (.ref s.length)] (s ++ [insA o (s.length + 3) (s.length + 2) (bzD bz), .dct false [], .lst [], .dct false (kv e)]) = .nx [some (.ref p), some (.ref s.length)] (s ++ [insA o (s.length + 3) (s.length + 4) (bzD bz), .dct false [], .lst [], .dct false (kv e), .lst (tl.map telD)]) := by
    have a1 := n3.at_
    have a3 := n3.lst
    have z : (s ++ [insA o (s.length + 3) (s.length + 2) (bzD bz), Ob.dct false [], .lst [], .dct false (kv e)]).length = s.length + 4 := by simp
    have fl : fldM "Asker" "own_tellings" (vr 0) [some (.ref p), some (.ref s.length)] (s ++ [insA o (s.length + 3) (s.length + 2) (bzD bz), .dct false [], .lst [], .dct false (kv e)]) = .ok (.ref t) (s ++ [insA o (s.length + 3) (s.length + 2) (bzD bz), .dct false [], .lst [], .dct false (kv e)]) := by
      simp [a1, lu_own, lu_kn, lu_uw, lu_te, ln_known, ln_learn, ln_begin, ln_busy, ln_leave, ln_hear, ln_tell, ln_words, ln_called, ln_twin, ln_state, ln_len, line0, line1, line2, line3, line4, line5, run, endS, seq, asg, drp, rtn, rtN, skp, badS, ifS, Md.thn, cst, Md.ret, Md.bad, tgS, toN, op2, vr, lstE, tupE, aNil, aCons, bnd, toB, andB, orB, notB, andV, orV, notV, callM, mtM, fldM, stF, insOf, get?, opt, arg1, finL, int2, gtI, geI, leI, addD, addI, modI, isiM, tyD, Ty.sub, isiO, isInsO, isN, nonD, ixA, ixD, ixL, ixT, atI, ixN, dctD, lstD, tupD, toSub, setA, keyD, toSeq, toCons, toNil, mthM, kdD, upK, lenA, lenD, lenL, lenKF]
    have dn : listAF finM (.ref t) (s ++ [insA o (s.length + 3) (s.length + 2) (bzD bz), .dct false [], .lst [], .dct false (kv e)]) = .ok (.ref (s.length + 4)) (s ++ [insA o (s.length + 3) (s.length + 2) (bzD bz), .dct false [], .lst [], .dct false (kv e), .lst (tl.map telD)]) := by
      have d : dctD (s ++ [insA o (s.length + 3) (s.length + 2) (bzD bz), .dct false [], .lst [], .dct false (kv e)]) (.ref t) = none := by
        show (match (s ++ [insA o (s.length + 3) (s.length + 2) (bzD bz), .dct false [], .lst [], .dct false (kv e)])[t]? with
          | some (.dct lk kvs) => some (t, lk, kvs)
          | _ => none) = _
        rw [a3]
      have q : seqD (s ++ [insA o (s.length + 3) (s.length + 2) (bzD bz), .dct false [], .lst [], .dct false (kv e)]) (.ref t) = some (tl.map telD) := by
        show (match (s ++ [insA o (s.length + 3) (s.length + 2) (bzD bz), .dct false [], .lst [], .dct false (kv e)])[t]? with
          | some (.lst xs) => some xs
          | some (.lok xs) => some xs
          | _ => none) = _
        rw [a3]
      unfold listAF
      rw [d]
      unfold listF
      rw [q]
      show Res.ok (Md.D.ref (s ++ [insA o (s.length + 3) (s.length + 2) (bzD bz), Ob.dct false [], .lst [], .dct false (kv e)]).length) _ = _
      rw [z]
      simp
    generalize fldM "Asker" "own_tellings" (vr 0) = F at *
    simp [stF, Md.thn, callM, bnd, aCons, aNil, fl, Md.ret, arg1, dn, vr, insOf, get?, pf_te]
  show endS (seq (asg (mkM "Asker" p_Asker_init [] (aCons (fldM "Asker" "own_name" (vr 0)) (aNil))) (toN 1))
    (seq (stF "Asker" "known_of" (callM (arg1 dictF) [] (aCons (fldM "Asker" "known_of" (vr 0)) (aNil))) (vr 1))
    (seq (stF "Asker" "under_way" (fldM "Asker" "under_way" (vr 0)) (vr 1))
    (seq (stF "Asker" "own_tellings" (callM (arg1 (listAF finM)) [] (aCons (fldM "Asker" "own_tellings" (vr 0)) (aNil))) (vr 1))
    (rtn (vr 1))))) [some (.ref p), none] s) = _
  simp only [seq, m0, c1, c2, c3]
  rfl
/-! ### an answer -/
/-- worths, as they are handed in -/
structure Wor (s : S) (wd : Md.D) (ws : Option (List Int)) : Prop where
  ex : (wd = .non ∧ ws = none) ∨ ∃ r l, wd = .ref r ∧ ws = some l ∧ s[r]? = some (.lst (l.map .int))
def tupW : Rs → Md.M Md.D := ifV (toB (op2 (isN id) (vr 3) (cst .non))) (cst .non) (callM (arg1 tupF) [] (aCons (vr 3) (aNil)))
theorem tupW_ok {a b c d : Option Md.D} {w : Md.D} {ws : Option (List Int)} (h : Wor s w ws) : tupW [a, b, c, some w, d] s = .ok (wsD ws) s := by
  rcases h.ex with ⟨rfl, rfl⟩ | ⟨r, l, rfl, rfl, hr⟩
  · simp [tupW, ifV, run, endS, seq, asg, drp, rtn, rtN, skp, badS, ifS, Md.thn, cst, Md.ret, Md.bad, tgS, toN, op2, vr, lstE, tupE, aNil, aCons, bnd, toB, andB, orB, notB, andV, orV, notV, callM, mtM, fldM, stF, insOf, get?, opt, arg1, finL, int2, gtI, geI, leI, addD, addI, modI, isiM, tyD, Ty.sub, isiO, isInsO, isN, nonD, ixA, ixD, ixL, ixT, atI, ixN, dctD, lstD, tupD, toSub, setA, keyD, toSeq, toCons, toNil, mthM, kdD, upK, lenA, lenD, lenL, lenKF, wsD]
  · simp [tupW, ifV, hr, tupF, seqD, wsD, run, endS, seq, asg, drp, rtn, rtN, skp, badS, ifS, Md.thn, cst, Md.ret, Md.bad, tgS, toN, op2, vr, lstE, tupE, aNil, aCons, bnd, toB, andB, orB, notB, andV, orV, notV, callM, mtM, fldM, stF, insOf, get?, opt, arg1, finL, int2, gtI, geI, leI, addD, addI, modI, isiM, tyD, Ty.sub, isiO, isInsO, isN, nonD, ixA, ixD, ixL, ixT, atI, ixN, dctD, lstD, tupD, toSub, setA, keyD, toSeq, toCons, toNil, mthM, kdD, upK, lenA, lenD, lenL, lenKF]
theorem hear_no (h : AskAt s o p m t e bz tl) {i : Int} (ne : bz ≠ some i) {w k : Md.D} : p_Asker_hear [.ref p, .int i, .str x, w, k] s = .ok (.bl false) s := by
  have h1 := h.at_
  have q : eqX not (bzD bz) (.int i) s = .ok (.bl true) s := by
    cases bz with
    | none => rfl
    | some j =>
      show eqX not (.int j) (.int i) s = _
      rw [eqX_int]
      have : j ≠ i := fun z => ne (by rw [z])
      simp [this]
  unfold p_Asker_hear b_Asker_hear
  generalize eqX not = Q at *
  simp [h1, q, lu_own, lu_kn, lu_uw, lu_te, ln_known, ln_learn, ln_begin, ln_busy, ln_leave, ln_hear, ln_tell, ln_words, ln_called, ln_twin, ln_state, ln_len, line0, line1, line2, line3, line4, line5, run, endS, seq, asg, drp, rtn, rtN, skp, badS, ifS, Md.thn, cst, Md.ret, Md.bad, tgS, toN, op2, vr, lstE, tupE, aNil, aCons, bnd, toB, andB, orB, notB, andV, orV, notV, callM, mtM, fldM, stF, insOf, get?, opt, arg1, finL, int2, gtI, geI, leI, addD, addI, modI, isiM, tyD, Ty.sub, isiO, isInsO, isN, nonD, ixA, ixD, ixL, ixT, atI, ixN, dctD, lstD, tupD, toSub, setA, keyD, toSeq, toCons, toNil, mthM, kdD, upK, lenA, lenD, lenL, lenKF]
theorem tp : ∀ {a b : Nat} {x y : Ob}, s[a]? = some x → s[b]? = some y → x ≠ y → a ≠ b := fun e1 e2 n z => by
  rw [z, e2] at e1
  exact n (Option.some.inj e1).symm
theorem hear_yes {i : Int} (h : AskAt s o p m t e (some i) tl) (w : WK e) (wx : okW x) {k : List Dot} (hk : Kno k) {wv : Md.D} {ws : Option (List Int)} (hw : Wor s wv ws) (few : tl.length ≤ 900) :
    p_Asker_hear [.ref p, .int i, .str x, wv, dts k] s = .ok (.bl true) (((s.set m (.dct false (kv (pt e x (jn (gt e x) k))))).set p (insA o m t .non)).set t (.lst ((tl ++ [(i, x, ws)]).map telD))) := by
  have h1 := h.at_
  have h2 := h.dct
  have h3 := h.lst
  have lm : m < s.length := (List.getElem?_eq_some_iff.mp h2).1
  have lp : p < s.length := (List.getElem?_eq_some_iff.mp h1).1
  have mp : m ≠ p := tp h2 h1 (fun z => by cases z)
  have mt : m ≠ t := tp h2 h3 (fun z => by cases z)
  have pt' : p ≠ t := tp h1 h3 (fun z => by cases z)
  have lo := learn_ok h w wx hk
  generalize hE : pt e x (jn (gt e x) k) = e' at *
  have g1 : (s.set m (.dct false (kv e')))[p]? = some (.ins "Asker" (flds o m t (.int i))) := by rw [List.getElem?_set_ne mp]; exact h1
  have g2 : ((s.set m (.dct false (kv e'))).set p (insA o m t .non))[p]? = some (insA o m t .non) := List.getElem?_set_self (by simpa using lp)
  have g3 : ((s.set m (.dct false (kv e'))).set p (insA o m t .non))[t]? = some (.lst (tl.map telD)) := by
    rw [List.getElem?_set_ne pt', List.getElem?_set_ne mt]; exact h3
  have hw2 : Wor ((s.set m (.dct false (kv e'))).set p (insA o m t .non)) wv ws := by
    rcases hw.ex with z | ⟨r, l, e1, e2, hr⟩
    · exact ⟨.inl z⟩
    · refine ⟨.inr ⟨r, l, e1, e2, ?_⟩⟩
      rw [List.getElem?_set_ne (tp h1 hr (fun z => by cases z)), List.getElem?_set_ne (tp h2 hr (fun z => by cases z))]
      exact hr
  have tw := tupW_ok (a := some (.ref p)) (b := some (.int i)) (c := some (.str x)) (d := some (dts k)) hw2
  have q : eqX not (.int i) (.int i) s = .ok (.bl false) s := by rw [eqX_int]; simp
  have l1 : (tl.map telD).length < sizeLine := by rw [List.length_map]; exact sl_of _ (by omega)
  have ap : appG (.ref t) [telD (i, x, ws)] ((s.set m (.dct false (kv e'))).set p (insA o m t .non)) = .ok .non (((s.set m (.dct false (kv e'))).set p (insA o m t .non)).set t (.lst ((tl ++ [(i, x, ws)]).map telD))) := by
    rw [List.map_append, List.map_cons, List.map_nil]
    generalize tl.map telD = tt at *
    simp [appG, upL, appF, g3, l1]
  have kd : kdD ((s.set m (.dct false (kv e'))).set p (insA o m t .non)) (.ref t) = some .lst := by simp [kdD, g3]
  have b : b_Asker_hear = seq (ifS (toB (op2 (eqX not) (fldM "Asker" "under_way" (vr 0)) (vr 1))) (rtn (cst (.bl false))) (skp))
    (seq (drp (mtM "Asker" "learn" p_Asker_learn [] (vr 0) (aCons (vr 2) (aCons (vr 4) (aNil)))))
    (seq (stF "Asker" "under_way" (cst .non) (vr 0))
    (seq (drp (mthM tbAppend (fldM "Asker" "own_tellings" (vr 0)) (aCons (tupE (aCons (vr 1) (aCons (vr 2) (aCons tupW (aNil))))) (aNil))))
    (rtn (cst (.bl true)))))) := rfl
  unfold p_Asker_hear
  rw [b]
  generalize eqX not = Q at *
  generalize hs2 : (s.set m (Ob.dct false (kv e'))).set p (insA o m t .non) = s2 at *
  generalize tupW = T at *
  have tw' : T [some (.ref p), some (.int i), some (.str x), some wv, some (dts k)] s2 = .ok (wsD ws) s2 := tw
  have hd : telD (i, x, ws) = .tup [.int i, .str x, wsD ws] := rfl
  rw [hd] at ap
  simp [h1, bzD, q, lo, g1, pf_uw, hs2, g2, g3, tbAppend, tw', ap, -List.map_append, lu_own, lu_kn, lu_uw, lu_te, ln_known, ln_learn, ln_begin, ln_busy, ln_leave, ln_hear, ln_tell, ln_words, ln_called, ln_twin, ln_state, ln_len, line0, line1, line2, line3, line4, line5, run, endS, seq, asg, drp, rtn, rtN, skp, badS, ifS, Md.thn, cst, Md.ret, Md.bad, tgS, toN, op2, vr, lstE, tupE, aNil, aCons, bnd, toB, andB, orB, notB, andV, orV, notV, callM, mtM, fldM, stF, insOf, get?, opt, arg1, finL, int2, gtI, geI, leI, addD, addI, modI, isiM, tyD, Ty.sub, isiO, isInsO, isN, nonD, ixA, ixD, ixL, ixT, atI, ixN, dctD, lstD, tupD, toSub, setA, keyD, toSeq, toCons, toNil, mthM, kdD, upK, lenA, lenD, lenL, lenKF]
end
end K51
end Md

set_option Elab.async false
set_option linter.all false
set_option maxRecDepth 1000000
set_option maxHeartbeats 4000000
namespace Md
namespace K51
--L lu_own, lu_kn, lu_uw, lu_te, ln_known, ln_learn, ln_begin, ln_busy, ln_leave, ln_hear, ln_tell, ln_words, ln_called, ln_twin, ln_state, ln_len, line0, line1, line2, line3, line4, line5,
open PySem PySem.Spec PyProof.Rows L2
/-! ### the book's keys, sorted -/
def leN (a b : Str × List Dot) : Bool := leS a.1 b.1
def srt (e : Kn) : Kn := isortB leN e
theorem keysD_kv : ∀ e : Kn, keysD (kv e) = some (e.map fun y => Sum.inr y.1)
  | [] => rfl
  | y :: r => by
    show (match (some (Sum.inr y.1) : Option Key), keysD (kv r) with
      | some q, some qs => some (q :: qs)
      | _, _ => none) = _
    rw [keysD_kv r]
    rfl
theorem strsK_kv : ∀ e : Kn, strsK (e.map fun y => Sum.inr y.1) = some (e.map (·.1))
  | [] => rfl
  | y :: r => by
    show (strsK (r.map fun y => Sum.inr y.1)).map (y.1 :: ·) = _
    rw [strsK_kv r]
    rfl
theorem srt_keys (e : Kn) : isortB leS (e.map (·.1)) = (srt e).map (·.1) := isortB_mapG (fun _ _ => rfl) e
theorem sortKey_kv (e : Kn) : sortKey (e.map fun y => Sum.inr y.1) = some ((srt e).map fun y => Sum.inr y.1) := by
  have h := srt_keys e
  cases e with
  | nil => rfl
  | cons y r =>
    unfold sortKey
    have e1 : intsK ((y :: r).map fun y => Sum.inr y.1) = none := rfl
    rw [e1]
    simp only []
    rw [strsK_kv]
    simp only []
    rw [h, List.map_map]
    rfl
theorem sortA_kv {s : S} {m : Nat} {e : Kn} {lk : Bool} (h : s[m]? = some (.dct lk (kv e))) : sortAF finL (.ref m) s = .ok (.lst (nms (srt e))) s := by
  unfold sortAF
  rw [dctD_at h]
  simp only []
  rw [keysD_kv]
  simp only [Option.bind_some]
  rw [sortKey_kv]
  simp only []
  rw [List.map_map]
  rfl
theorem srt_perm (e : Kn) : (srt e).Perm e := isortB_perm
theorem due_eq (e : Kn) : ((srt e).filter full).map (·.1) = wd e := by
  have tot : PySem.W.TotalLe leS := ⟨leS_trans, fun a b => by have := leS_total a b; rwa [Bool.or_eq_true] at this⟩
  have totN : PySem.W.TotalLe leN := ⟨fun a b c => leS_trans _ _ _, fun a b => by have := leS_total a.1 b.1; rwa [Bool.or_eq_true] at this⟩
  refine List.Perm.eq_of_pairwise (le := fun a b => leS a b = true) (fun a b _ _ h k => leS_anti h k) ?_ (isortB_pw tot _) ?_
  · exact List.Pairwise.map _ (fun a b h => h) ((isortB_pw totN e).filter _)
  · exact (((srt_perm e).filter _).map _).trans isortB_perm.symm
/-! ### the book -/
abbrev bks (k : Nat) (z td : Md.D) : List (Md.D × Md.D) := [(.str "known", .ref k), (.str "busy", z), (.str "told", td)]
theorem bk_kn (k : Nat) (z td : Md.D) : lookD (bks k z td) (.inr "known") = some (.ref k) := by rfl
theorem bk_bz (k : Nat) (z td : Md.D) : lookD (bks k z td) (.inr "busy") = some z := by rfl
theorem bk_td (k : Nat) (z td : Md.D) : lookD (bks k z td) (.inr "told") = some td := by rfl
theorem bk_put (k : Nat) (z td z2 : Md.D) : putD (bks k z td) (.str "busy") (.inr "busy") z2 = bks k z2 td := by rfl
structure Told (s : S) (td : Md.D) (tl : List Tel) : Prop where
  ex : td = .lst (tl.map telD) ∨ ∃ r, td = .ref r ∧ s[r]? = some (.lst (tl.map telD))
structure BkAt (s : S) (b k : Nat) (td : Md.D) (e : Kn) (bz : Option Int) (tl : List Tel) : Prop where
  at_ : s[b]? = some (.dct false (bks k (bzD bz) td))
  dct : s[k]? = some (.dct false (kv e))
  told : Told s td tl
def wsP : Option (List Int) → PyData
  | none => .none
  | some l => .tuple (l.map .int)
def telP (t : Tel) : PyData := .tuple [.int t.1, .str t.2.1, wsP t.2.2]
def bzP : Option Int → PyData
  | none => .none
  | some i => .int i
structure WT (tl : List Tel) : Prop where
  ok : ∀ t ∈ tl, t.2.1 ∈ W5
  few : tl.length ≤ 100
section
variable {s : S} {o : Str} {p m t b k : Nat} {td : Md.D} {e : Kn} {bz : Option Int} {tl : List Tel} {x : Str}
theorem Told.app {u : S} (h : Told s td tl) : Told (s ++ u) td tl := by
  rcases h.ex with z | ⟨r, e1, hr⟩
  · exact ⟨.inl z⟩
  · exact ⟨.inr ⟨r, e1, get_app hr⟩⟩
theorem BkAt.app {u : S} (h : BkAt s b k td e bz tl) : BkAt (s ++ u) b k td e bz tl := ⟨get_app h.at_, get_app h.dct, h.told.app⟩
theorem toPy_ws (n : Nat) (ws : Option (List Int)) : toPy s (n + 2) (wsD ws) = some (wsP ws) := by
  cases ws with
  | none => rfl
  | some l => exact toPy_tup s fun i _ => rfl
theorem toPy_tel (n : Nat) {t : Tel} (h : t.2.1 ∈ W5) : toPy s (n + 3) (telD t) = some (telP t) := by
  show (match some (PyData.int t.1), (match toPy s (n + 2) (.str t.2.1), (match toPy s (n + 2) (wsD t.2.2), (some [] : Option (List PyData)) with
    | some x, some xs => some (x :: xs)
    | _, _ => none) with
    | some x, some xs => some (x :: xs)
    | _, _ => none) with
    | some x, some xs => some (x :: xs)
    | _, _ => none).map PyData.tuple = _
  rw [toPy_str s (n + 1) (okW_5 _ h).k, toPy_ws]
  rfl
theorem toPy_told (h : Told s td tl) (w : WT tl) : toPy s 20 td = some (.list (tl.map telP)) := by
  rcases h.ex with rfl | ⟨r, rfl, hr⟩
  · exact toPy_lst s fun t ht => toPy_tel 16 (w.ok t ht)
  · exact toPy_ref s hr fun t ht => toPy_tel 16 (w.ok t ht)
theorem toPy_bz (n : Nat) (bz : Option Int) : toPy s (n + 1) (bzD bz) = some (bzP bz) := by cases bz <;> rfl
theorem len_told (h : Told s td tl) : lenA [td] s = .ok (.int tl.length) s := by
  rcases h.ex with rfl | ⟨r, rfl, hr⟩
  · simp [lenA, lenD, lenL, lstD, dctD]
  · simp [lenA, lenD, lenL, lstD, dctD, hr]
theorem bk_known (h : BkAt s b k td e bz tl) {env : Rs} {i : Nat} (he : env[i]? = some (some (.ref b))) : op2 ixA (vr i) (cst (.str "known")) env s = .ok (.ref k) s := by
  have e1 := dctD_at h.at_
  have q : ixA (.ref b) (.str "known") s = .ok (.ref k) s := by
    unfold ixA ixK
    rw [e1]
    rfl
  generalize ixA = I at *
  simp [op2, bnd, vr, he, cst, Md.ret, q]
theorem bk_busy (h : BkAt s b k td e bz tl) {env : Rs} {i : Nat} (he : env[i]? = some (some (.ref b))) : op2 ixA (vr i) (cst (.str "busy")) env s = .ok (bzD bz) s := by
  have e1 := dctD_at h.at_
  have q : ixA (.ref b) (.str "busy") s = .ok (bzD bz) s := by
    unfold ixA ixK
    rw [e1]
    rfl
  generalize ixA = I at *
  simp [op2, bnd, vr, he, cst, Md.ret, q]
theorem bk_told (h : BkAt s b k td e bz tl) {env : Rs} {i : Nat} (he : env[i]? = some (some (.ref b))) : op2 ixA (vr i) (cst (.str "told")) env s = .ok td s := by
  have e1 := dctD_at h.at_
  have q : ixA (.ref b) (.str "told") s = .ok td s := by
    unfold ixA ixK
    rw [e1]
    rfl
  generalize ixA = I at *
  simp [op2, bnd, vr, he, cst, Md.ret, q]
theorem bk_get (h : BkAt s b k td e bz tl) {env : Rs} {i j : Nat} (he : env[i]? = some (some (.ref b))) (hx : env[j]? = some (some (.str x))) : mthM tbGet (op2 ixA (vr i) (cst (.str "known"))) (aCons (vr j) (aCons (tupE (aNil)) (aNil))) env s = .ok (dts (gt e x)) s := by
  have e0 := bk_known h he
  have h2 := h.dct
  have lv := look_kv x e
  have g : (Option.map dts (lk e x)).getD (.tup []) = dts (gt e x) := by
    unfold gt
    cases lk e x <;> rfl
  have kd : kdD s (.ref k) = some .dct := by simp [kdD, h2]
  have gg : getG (.ref k) [.str x, .tup []] s = .ok (dts (gt e x)) s := by
    unfold getG
    rw [dctD_at h2]
    show Res.ok ((lookD (kv e) (.inr x)).getD (.tup [])) s = _
    rw [lv, g]
  generalize op2 ixA (vr i) (cst (.str "known")) = B at *
  simp [mthM, bnd, e0, kd, tbGet, aCons, aNil, vr, hx, Md.ret, tupE, line0, gg]
theorem bk_ix (h : BkAt s b k td e bz tl) {v : List Dot} (hv : lk e x = some v) {env : Rs} {i j : Nat} (he : env[i]? = some (some (.ref b))) (hx : env[j]? = some (some (.str x))) : op2 ixA (op2 ixA (vr i) (cst (.str "known"))) (vr j) env s = .ok (dts v) s := by
  have e0 := bk_known h he
  have q : ixA (.ref k) (.str x) s = .ok (dts v) s := by
    unfold ixA ixK
    rw [dctD_at h.dct]
    show opt (lookD (kv e) (.inr x)) s = _
    rw [look_kv, hv]
    rfl
  generalize hB : op2 ixA (vr i) (cst (.str "known")) = B at *
  generalize ixA = I at *
  simp [op2, bnd, e0, vr, hx, Md.ret, q]
/-! ### all right? -/
def rB : SM := ifS (toB (op2 (eqX not) (mtM "Asker" "known" p_Asker_known [] (vr 0) (aCons (vr 2) (aNil))) (mthM tbGet (op2 ixA (vr 1) (cst (.str "known"))) (aCons (vr 2) (aCons (tupE (aNil)) (aNil)))))) (rtn (cst (.bl false))) (skp)
def r0 : SM := forS (itAny (tupE (aCons (cst (.str "a")) (aCons (cst (.str "b")) (aCons (cst (.str "c")) (aCons (cst (.str "dd")) (aCons (cst (.str "eeeeee")) (aNil)))))))) (toN 2) rB
def r1 : SM := asg (tupE (aCons (mtM "Asker" "tellings" p_Asker_tellings [] (vr 0) aNil) (aCons (mtM "Asker" "words" p_Asker_words [] (vr 0) aNil) (aNil)))) (toSeq 2 (toCons (toN 3) (toCons (toN 4) (toNil))))
def cD : Rs → Md.M Md.D := lcM [2] (itAny (callM (arg1 (sortAF finL)) [] (aCons (op2 ixA (vr 1) (cst (.str "known"))) (aNil)))) (toN 2) (toB (op2 (eqX not) (op2 ixA (op2 ixA (vr 1) (cst (.str "known"))) (vr 2)) (tupE (aNil)))) (vr 2) finL
def r3 : SM := ifS (orB (toB (op2 (eqX not) (vr 3) (op2 ixA (vr 1) (cst (.str "told"))))) (toB (op2 (eqX not) (vr 4) (vr 5)))) (rtn (cst (.bl false))) (skp)
def r4 : SM := drp (mthM tbAppend (vr 3) (aCons (cst .non) (aNil)))
def r5 : SM := drp (mthM tbClear (vr 4) aNil)
def r6 : SM := rtn (andV (op2 (eqX id) (mtM "Asker" "busy" p_Asker_busy [] (vr 0) aNil) (op2 ixA (vr 1) (cst (.str "busy")))) (andV (op2 (eqX id) (callM (lenB "Asker" p_Asker_len) [] (aCons (vr 0) (aNil))) (callM (lenA) [] (aCons (op2 ixA (vr 1) (cst (.str "told"))) (aNil)))) (op2 (eqX id) (mtM "Asker" "called" p_Asker_called [] (vr 0) aNil) (cst (.str "who")))))
theorem right_eq : b_l_law_right = seq r0 (seq r1 (seq (asg cD (toN 5)) (seq r3 (seq r4 (seq r5 r6))))) := rfl
theorem rB_ok (h : AskAt s o p m t e bz tl) (hb : BkAt s b k td e bz tl) (w : WK e) (wx : x ∈ W5) {x3 x4 x5 : Option Md.D} : rB [some (.ref p), some (.ref b), some (.str x), x3, x4, x5] s = .nx [some (.ref p), some (.ref b), some (.str x), x3, x4, x5] s := by
  have h1 := h.at_
  have k1 := known_ok h (okW_5 x wx)
  have g := bk_get hb (env := [some (.ref p), some (.ref b), some (.str x), x3, x4, x5]) (i := 1) (j := 2) rfl rfl
  have q := eqX_dts (s := s) not (w.gt x).ok (w.gt x).ok
  have hm : mtM "Asker" "known" p_Asker_known [] (vr 0) (aCons (vr 2) (aNil)) [some (.ref p), some (.ref b), some (.str x), x3, x4, x5] s = .ok (dts (gt e x)) s := by
    simp [h1, k1, lu_own, lu_kn, lu_uw, lu_te, ln_known, ln_learn, ln_begin, ln_busy, ln_leave, ln_hear, ln_tell, ln_words, ln_called, ln_twin, ln_state, ln_len, line0, line1, line2, line3, line4, line5, run, endS, seq, asg, drp, rtn, rtN, skp, badS, ifS, Md.thn, cst, Md.ret, Md.bad, tgS, toN, op2, vr, lstE, tupE, aNil, aCons, bnd, toB, andB, orB, notB, andV, orV, notV, callM, mtM, fldM, stF, insOf, get?, opt, arg1, finL, int2, gtI, geI, leI, addD, addI, modI, isiM, tyD, Ty.sub, isiO, isInsO, isN, nonD, ixA, ixD, ixL, ixT, atI, ixN, dctD, lstD, tupD, toSub, setA, keyD, toSeq, toCons, toNil, mthM, kdD, upK, lenA, lenD, lenL, lenKF]
  unfold rB
  generalize mthM tbGet (op2 ixA (vr 1) (cst (.str "known"))) (aCons (vr 2) (aCons (tupE (aNil)) (aNil))) = G at *
  generalize mtM "Asker" "known" p_Asker_known [] (vr 0) (aCons (vr 2) (aNil)) = F at *
  generalize eqX not = Q at *
  simp [ifS, Md.thn, toB, op2, bnd, hm, g, q, Md.ret, skp]
theorem r0_walk (h : AskAt s o p m t e bz tl) (hb : BkAt s b k td e bz tl) (w : WK e) {x3 x4 x5 : Option Md.D} : ∀ (ws : List Str) (x2 : Option Md.D), (∀ x ∈ ws, x ∈ W5) → ∃ y2, forL (fun d => seq (tgS (toN 2) d) rB) (txs ws) [some (.ref p), some (.ref b), x2, x3, x4, x5] s = .nx [some (.ref p), some (.ref b), y2, x3, x4, x5] s
  | [], x2, _ => ⟨x2, rfl⟩
  | y :: r, x2, hw => by
    obtain ⟨y2, ih⟩ := r0_walk h hb w r (some (.str y)) fun z hz => hw z (by simp [hz])
    have c := rB_ok h hb w (hw y (by simp)) (x3 := x3) (x4 := x4) (x5 := x5)
    refine ⟨y2, ?_⟩
    have tg : tgS (toN 2) (.str y) [some (.ref p), some (.ref b), x2, x3, x4, x5] s = .nx [some (.ref p), some (.ref b), some (.str y), x3, x4, x5] s := rfl
    show forL _ (.str y :: txs r) _ s = _
    unfold forL
    simp only [seq, tg, c]
    exact ih
theorem cD_ok (hb : BkAt s b k td e bz tl) (w : WK e) {x0 x3 x4 x5 : Option Md.D} {x2 : Option Md.D} : cD [x0, some (.ref b), x2, x3, x4, x5] s = .ok (.lst (txs (wd e))) s := by
  have so := sortA_kv hb.dct
  have kn := bk_known hb (env := [x0, some (.ref b), x2, x3, x4, x5]) (i := 1) rfl
  have it : itAny (callM (arg1 (sortAF finL)) [] (aCons (op2 ixA (vr 1) (cst (.str "known"))) (aNil))) [x0, some (.ref b), x2, x3, x4, x5] s = .ok (nms (srt e)) s := by
    have c : callM (arg1 (sortAF finL)) [] (aCons (op2 ixA (vr 1) (cst (.str "known"))) (aNil)) [x0, some (.ref b), x2, x3, x4, x5] s = .ok (.lst (nms (srt e))) s := by
      generalize op2 ixA (vr 1) (cst (.str "known")) = B at *
      simp only [callM, bnd, aCons, aNil, kn, Md.ret, List.append_nil, arg1, so]
    unfold itAny
    simp only [bnd, c, dctD, stayD]
  have few : (nms (srt e)).length ≤ sizeLine := by
    have := w.few
    simp [nms, (srt_perm e).length_eq]
    exact Nat.le_of_lt (sl_of _ (by omega))
  have wk := full_walk (s := s) (tt := toB (op2 (eqX not) (op2 ixA (op2 ixA (vr 1) (cst (.str "known"))) (vr 2)) (tupE (aNil)))) (i := 2) (env := [x0, some (.ref b), none, x3, x4, x5]) (by simp) (f := srt e) fun y hy => by
    have hy' := (srt_perm e).mem_iff.mp hy
    have ix := bk_ix hb (lk_mem w.nd hy') (env := [x0, some (.ref b), some (.str y.1), x3, x4, x5]) (i := 1) (j := 2) rfl rfl
    have q : eqX not (dts y.2) (.tup []) s = .ok (.bl (full y)) s := eqX_dts (s := s) (m := []) not (w.ok y hy').2.ok (fun d z => nomatch z)
    show toB (op2 (eqX not) (op2 ixA (op2 ixA (vr 1) (cst (.str "known"))) (vr 2)) (tupE (aNil))) [x0, some (.ref b), some (.str y.1), x3, x4, x5] s = _
    generalize op2 ixA (op2 ixA (vr 1) (cst (.str "known"))) (vr 2) = F at *
    generalize eqX not = Q at *
    simp [toB, op2, bnd, ix, Md.ret, tupE, aNil, line0, q]
  have ew : wipeR [x0, some (.ref b), x2, x3, x4, x5] [2] = [x0, some (.ref b), none, x3, x4, x5] := rfl
  unfold cD
  simp only [lcM, bnd, it, few, if_true, nox, ew, wk, finL, Md.ret, due_eq]
theorem toPy_txs {xs : List Str} (h : ∀ x ∈ xs, x ∈ W5) : toPy s 20 (.lst (txs xs)) = some (.list (xs.map .str)) := toPy_lst s fun x hx => toPy_str s 18 (okW_5 _ (h x hx)).k
theorem toPy_txsR {r : Nat} {xs : List Str} (hr : s[r]? = some (.lst (txs xs))) (h : ∀ x ∈ xs, x ∈ W5) : toPy s 20 (.ref r) = some (.list (xs.map .str)) := toPy_ref s hr fun x hx => toPy_str s 18 (okW_5 _ (h x hx)).k
theorem right_ok (h : AskAt s "who" p m t e bz tl) (hb : BkAt s b k td e bz tl) (w : WK e) (wt : WT tl) : p_l_law_right [.ref p, .ref b] s = .ok (.bl true) (s ++ [.lst (tl.map telD ++ [.non]), .lst []]) := by
  obtain ⟨y2, w0⟩ := r0_walk h hb w (x3 := none) (x4 := none) (x5 := none) W5 none fun x hx => hx
  have c0 : r0 [some (.ref p), some (.ref b), none, none, none, none] s = .nx [some (.ref p), some (.ref b), y2, none, none, none] s := by
    have it : itAny (tupE (aCons (cst (.str "a")) (aCons (cst (.str "b")) (aCons (cst (.str "c")) (aCons (cst (.str "dd")) (aCons (cst (.str "eeeeee")) (aNil))))))) [some (.ref p), some (.ref b), none, none, none, none] s = .ok (txs W5) s := by
      simp [itAny, tupE, aCons, aNil, cst, bnd, Md.ret, line5, dctD, txs]
    unfold r0 forS Md.thn
    rw [it]
    exact w0
  -- what is told
  have t1 := tellings_ok h
  have ha : AskAt (s ++ [.lst (tl.map telD)]) "who" p m t e bz tl := h.app
  have t2 := words_ok ha w
  have ln : (s ++ [Ob.lst (tl.map telD)]).length = s.length + 1 := by simp
  have es : (s ++ [Ob.lst (tl.map telD)]) ++ [Ob.lst (txs (wd e))] = s ++ [.lst (tl.map telD), .lst (txs (wd e))] := by simp
  rw [ln, es] at t2
  have h1 := h.at_
  have h1a := ha.at_
  have c1 : r1 [some (.ref p), some (.ref b), y2, none, none, none] s = .nx [some (.ref p), some (.ref b), y2, some (.ref s.length), some (.ref (s.length + 1)), none] (s ++ [.lst (tl.map telD), .lst (txs (wd e))]) := by
    have m1 : mtM "Asker" "tellings" p_Asker_tellings [] (vr 0) aNil [some (.ref p), some (.ref b), y2, none, none, none] s = .ok (.ref s.length) (s ++ [.lst (tl.map telD)]) := by
      simp [h1, t1, lu_own, lu_kn, lu_uw, lu_te, ln_known, ln_learn, ln_begin, ln_busy, ln_leave, ln_hear, ln_tell, ln_words, ln_called, ln_twin, ln_state, ln_len, line0, line1, line2, line3, line4, line5, run, endS, seq, asg, drp, rtn, rtN, skp, badS, ifS, Md.thn, cst, Md.ret, Md.bad, tgS, toN, op2, vr, lstE, tupE, aNil, aCons, bnd, toB, andB, orB, notB, andV, orV, notV, callM, mtM, fldM, stF, insOf, get?, opt, arg1, finL, int2, gtI, geI, leI, addD, addI, modI, isiM, tyD, Ty.sub, isiO, isInsO, isN, nonD, ixA, ixD, ixL, ixT, atI, ixN, dctD, lstD, tupD, toSub, setA, keyD, toSeq, toCons, toNil, mthM, kdD, upK, lenA, lenD, lenL, lenKF]
    have m2 : mtM "Asker" "words" p_Asker_words [] (vr 0) aNil [some (.ref p), some (.ref b), y2, none, none, none] (s ++ [.lst (tl.map telD)]) = .ok (.ref (s.length + 1)) (s ++ [.lst (tl.map telD), .lst (txs (wd e))]) := by
      simp [h1a, t2, lu_own, lu_kn, lu_uw, lu_te, ln_known, ln_learn, ln_begin, ln_busy, ln_leave, ln_hear, ln_tell, ln_words, ln_called, ln_twin, ln_state, ln_len, line0, line1, line2, line3, line4, line5, run, endS, seq, asg, drp, rtn, rtN, skp, badS, ifS, Md.thn, cst, Md.ret, Md.bad, tgS, toN, op2, vr, lstE, tupE, aNil, aCons, bnd, toB, andB, orB, notB, andV, orV, notV, callM, mtM, fldM, stF, insOf, get?, opt, arg1, finL, int2, gtI, geI, leI, addD, addI, modI, isiM, tyD, Ty.sub, isiO, isInsO, isN, nonD, ixA, ixD, ixL, ixT, atI, ixN, dctD, lstD, tupD, toSub, setA, keyD, toSeq, toCons, toNil, mthM, kdD, upK, lenA, lenD, lenL, lenKF]
    unfold r1
    generalize mtM "Asker" "tellings" p_Asker_tellings [] (vr 0) aNil = A at *
    generalize mtM "Asker" "words" p_Asker_words [] (vr 0) aNil = B at *
    simp [asg, Md.thn, tupE, bnd, aCons, aNil, m1, m2, Md.ret, line2, tgS, toSeq, tupD, toCons, toNil, toN]
  have h2 : AskAt (s ++ [.lst (tl.map telD), .lst (txs (wd e))]) "who" p m t e bz tl := h.app
  have hb2 : BkAt (s ++ [.lst (tl.map telD), .lst (txs (wd e))]) b k td e bz tl := hb.app
  have g1 : (s ++ [Ob.lst (tl.map telD), .lst (txs (wd e))])[s.length]? = some (.lst (tl.map telD)) := by simp
  have g2 : (s ++ [Ob.lst (tl.map telD), .lst (txs (wd e))])[s.length + 1]? = some (.lst (txs (wd e))) := by
    rw [List.getElem?_append_right (by omega)]; simp
  have s1' : ∀ a, (s ++ [Ob.lst (tl.map telD), .lst (txs (wd e))]).set s.length a = s ++ [a, .lst (txs (wd e))] := fun a => by simp
  generalize hs2 : s ++ [Ob.lst (tl.map telD), .lst (txs (wd e))] = s2 at *
  have cd := cD_ok hb2 w (x0 := some (.ref p)) (x2 := y2) (x3 := some (.ref s.length)) (x4 := some (.ref (s.length + 1))) (x5 := none)
  have c2 : asg cD (toN 5) [some (.ref p), some (.ref b), y2, some (.ref s.length), some (.ref (s.length + 1)), none] s2 = .nx [some (.ref p), some (.ref b), y2, some (.ref s.length), some (.ref (s.length + 1)), some (.lst (txs (wd e)))] s2 := by
    unfold asg Md.thn
    rw [cd]
    rfl
  have q1 : eqX not (.ref s.length) td s2 = .ok (.bl false) s2 := eqX_same not (toPy_told ⟨.inr ⟨_, rfl, g1⟩⟩ wt) (toPy_told hb2.told wt)
  have q2 : eqX not (.ref (s.length + 1)) (.lst (txs (wd e))) s2 = .ok (.bl false) s2 := eqX_same not (toPy_txsR g2 (wd_ok w)) (toPy_txs (wd_ok w))
  have bt := bk_told hb2 (env := [some (.ref p), some (.ref b), y2, some (.ref s.length), some (.ref (s.length + 1)), some (.lst (txs (wd e)))]) (i := 1) rfl
  have c3 : r3 [some (.ref p), some (.ref b), y2, some (.ref s.length), some (.ref (s.length + 1)), some (.lst (txs (wd e)))] s2 = .nx [some (.ref p), some (.ref b), y2, some (.ref s.length), some (.ref (s.length + 1)), some (.lst (txs (wd e)))] s2 := by
    unfold r3
    generalize op2 ixA (vr 1) (cst (.str "told")) = B at *
    generalize eqX not = Q at *
    simp [ifS, Md.thn, orB, toB, op2, vr, bnd, Md.ret, bt, q1, q2, skp]
  have l1 : (tl.map telD).length < sizeLine := by rw [List.length_map]; exact sl_of _ (by have := wt.few; omega)
  have c4 : r4 [some (.ref p), some (.ref b), y2, some (.ref s.length), some (.ref (s.length + 1)), some (.lst (txs (wd e)))] s2 = .nx [some (.ref p), some (.ref b), y2, some (.ref s.length), some (.ref (s.length + 1)), some (.lst (txs (wd e)))] (s ++ [.lst (tl.map telD ++ [.non]), .lst (txs (wd e))]) := by
    have ap : appG (.ref s.length) [.non] s2 = .ok .non (s ++ [.lst (tl.map telD ++ [.non]), .lst (txs (wd e))]) := by
      rw [← s1']
      generalize tl.map telD = tt at *
      simp [appG, upL, appF, g1, l1]
    have kd : kdD s2 (.ref s.length) = some .lst := by simp [kdD, g1]
    unfold r4
    simp [drp, mthM, vr, kd, tbAppend, aCons, aNil, cst, bnd, Md.ret, Md.thn, ap, skp]
  have g3 : (s ++ [Ob.lst (tl.map telD ++ [.non]), .lst (txs (wd e))])[s.length + 1]? = some (.lst (txs (wd e))) := by
    rw [List.getElem?_append_right (by omega)]; simp
  have s3' : ∀ a, (s ++ [Ob.lst (tl.map telD ++ [.non]), .lst (txs (wd e))]).set (s.length + 1) a = s ++ [.lst (tl.map telD ++ [.non]), a] := fun a => by
    rw [List.set_append_right _ _ (by omega)]; simp
  have c5 : r5 [some (.ref p), some (.ref b), y2, some (.ref s.length), some (.ref (s.length + 1)), some (.lst (txs (wd e)))] (s ++ [.lst (tl.map telD ++ [.non]), .lst (txs (wd e))]) = .nx [some (.ref p), some (.ref b), y2, some (.ref s.length), some (.ref (s.length + 1)), some (.lst (txs (wd e)))] (s ++ [.lst (tl.map telD ++ [.non]), .lst []]) := by
    have e3 := s3' (.lst [])
    rw [← e3]
    clear e3 s3'
    generalize s ++ [Ob.lst (tl.map telD ++ [.non]), .lst (txs (wd e))] = s4 at *
    have cl : clrG (.ref (s.length + 1)) [] s4 = .ok .non (s4.set (s.length + 1) (.lst [])) := by
      simp [clrG, upL, g3]
    have kd : kdD s4 (.ref (s.length + 1)) = some .lst := by simp [kdD, g3]
    unfold r5
    simp [drp, mthM, vr, kd, tbClear, aNil, bnd, Md.ret, Md.thn, cl, skp]
  have h5 : AskAt (s ++ [.lst (tl.map telD ++ [.non]), .lst []]) "who" p m t e bz tl := h.app
  have hb5 : BkAt (s ++ [.lst (tl.map telD ++ [.non]), .lst []]) b k td e bz tl := hb.app
  generalize s ++ [Ob.lst (tl.map telD ++ [.non]), .lst []] = s5 at *
  have a5 := h5.at_
  have u1 := busy_ok h5
  have u2 := len_ok h5
  have u3 := called_ok h5
  have b1 := bk_busy hb5 (env := [some (.ref p), some (.ref b), y2, some (.ref s.length), some (.ref (s.length + 1)), some (.lst (txs (wd e)))]) (i := 1) rfl
  have b2 := bk_told hb5 (env := [some (.ref p), some (.ref b), y2, some (.ref s.length), some (.ref (s.length + 1)), some (.lst (txs (wd e)))]) (i := 1) rfl
  have b3 := len_told hb5.told
  have z1 : eqX id (bzD bz) (bzD bz) s5 = .ok (.bl true) s5 := eqX_same id (toPy_bz 19 bz) (toPy_bz 19 bz)
  have z2 : eqX id (.int tl.length) (.int tl.length) s5 = .ok (.bl true) s5 := by rw [eqX_int]; simp
  have z3 : eqX id (.str "who") (.str "who") s5 = .ok (.bl true) s5 := eqX_same id (toPy_str s5 19 okW_who.k) (toPy_str s5 19 okW_who.k)
  have c6 : r6 [some (.ref p), some (.ref b), y2, some (.ref s.length), some (.ref (s.length + 1)), some (.lst (txs (wd e)))] s5 = .rt (.bl true) s5 := by
    have m1 : mtM "Asker" "busy" p_Asker_busy [] (vr 0) aNil [some (.ref p), some (.ref b), y2, some (.ref s.length), some (.ref (s.length + 1)), some (.lst (txs (wd e)))] s5 = .ok (bzD bz) s5 := by
      simp [a5, u1, lu_own, lu_kn, lu_uw, lu_te, ln_known, ln_learn, ln_begin, ln_busy, ln_leave, ln_hear, ln_tell, ln_words, ln_called, ln_twin, ln_state, ln_len, line0, line1, line2, line3, line4, line5, run, endS, seq, asg, drp, rtn, rtN, skp, badS, ifS, Md.thn, cst, Md.ret, Md.bad, tgS, toN, op2, vr, lstE, tupE, aNil, aCons, bnd, toB, andB, orB, notB, andV, orV, notV, callM, mtM, fldM, stF, insOf, get?, opt, arg1, finL, int2, gtI, geI, leI, addD, addI, modI, isiM, tyD, Ty.sub, isiO, isInsO, isN, nonD, ixA, ixD, ixL, ixT, atI, ixN, dctD, lstD, tupD, toSub, setA, keyD, toSeq, toCons, toNil, mthM, kdD, upK, lenA, lenD, lenL, lenKF]
    have m2 : mtM "Asker" "called" p_Asker_called [] (vr 0) aNil [some (.ref p), some (.ref b), y2, some (.ref s.length), some (.ref (s.length + 1)), some (.lst (txs (wd e)))] s5 = .ok (.str "who") s5 := by
      simp [a5, u3, lu_own, lu_kn, lu_uw, lu_te, ln_known, ln_learn, ln_begin, ln_busy, ln_leave, ln_hear, ln_tell, ln_words, ln_called, ln_twin, ln_state, ln_len, line0, line1, line2, line3, line4, line5, run, endS, seq, asg, drp, rtn, rtN, skp, badS, ifS, Md.thn, cst, Md.ret, Md.bad, tgS, toN, op2, vr, lstE, tupE, aNil, aCons, bnd, toB, andB, orB, notB, andV, orV, notV, callM, mtM, fldM, stF, insOf, get?, opt, arg1, finL, int2, gtI, geI, leI, addD, addI, modI, isiM, tyD, Ty.sub, isiO, isInsO, isN, nonD, ixA, ixD, ixL, ixT, atI, ixN, dctD, lstD, tupD, toSub, setA, keyD, toSeq, toCons, toNil, mthM, kdD, upK, lenA, lenD, lenL, lenKF]
    have m3 : lenB "Asker" p_Asker_len [.ref p] s5 = .ok (.int tl.length) s5 := by
      have i : isInsO "Asker" s5 (.ref p) = true := by simp [isInsO, a5]
      have few := wt.few
      have f2 : (tl.length : Int) < 9223372036854775808 := by omega
      unfold lenB lenO
      simp [i, insOf, get?, a5, bnd, Md.ret, u2, f2]
    unfold r6
    generalize mtM "Asker" "busy" p_Asker_busy [] (vr 0) aNil = A at *
    generalize mtM "Asker" "called" p_Asker_called [] (vr 0) aNil = B at *
    generalize op2 ixA (vr 1) (cst (.str "busy")) = C at *
    generalize op2 ixA (vr 1) (cst (.str "told")) = D at *
    generalize lenB "Asker" p_Asker_len = Lb at *
    generalize lenA = La at *
    generalize eqX id = Q at *
    simp [rtn, Md.thn, andV, op2, bnd, m1, b1, z1, callM, aCons, aNil, vr, Md.ret, m3, b2, b3, z2, m2, cst, z3]
  unfold p_l_law_right run
  rw [right_eq]
  show endS (seq r0 (seq r1 (seq (asg cD (toN 5)) (seq r3 (seq r4 (seq r5 r6))))) [some (.ref p), some (.ref b), none, none, none, none] s) = _
  simp only [seq, c0, c1, c2, c3, c4, c5, c6]
  rfl
end
end K51
end Md

set_option Elab.async false
set_option linter.all false
set_option maxRecDepth 1000000
set_option maxHeartbeats 4000000
namespace Md
namespace K51
--L lu_own, lu_kn, lu_uw, lu_te, ln_known, ln_learn, ln_begin, ln_busy, ln_leave, ln_hear, ln_tell, ln_words, ln_called, ln_twin, ln_state, ln_len, line0, line1, line2, line3, line4, line5,
open PySem PySem.Spec PyProof.Rows L2
section
variable {s : S} {o : Str} {p m t b k : Nat} {td : Md.D} {e : Kn} {bz : Option Int} {tl : List Tel} {x : Str}
/-! ### the book learns -/
def lnE : Rs → Md.M Md.D := callM (arg1 tupF) [] (aCons (callM (arg1 (stOf finL)) [] (aCons (op2 (addD finL) (vr 3) (vr 2)) (aNil))) (aNil))
theorem learnt_ok (h : BkAt s b k td e bz tl) (w : WK e) (hx : x ∈ W5) {kn : List Dot} (hk : Kno kn) (few : kn.length ≤ 4) :
    p_l_law_learnt [.ref b, .str x, dts kn] s = .ok (.bl (!decide (jn (gt e x) kn = gt e x))) (s.set k (.dct false (kv (pt e x (jn (gt e x) kn))))) := by
  have h1 := h.at_
  have h2 := h.dct
  have lt : k < s.length := (List.getElem?_eq_some_iff.mp h2).1
  have kb : k ≠ b := fun z => by
    rw [z, h1] at h2
    injection h2 with h2
    injection h2 with _ h2
    have := congrArg List.length h2
    rw [kv_length] at this
    have w5 := w.ok
    have hm : (Md.D.str "known", Md.D.ref k) ∈ kv e := by rw [← h2]; exact List.mem_cons_self
    obtain ⟨y, hy, ey⟩ := List.mem_map.mp hm
    injection ey with _ ey
    cases ey
  have g := bk_get h (x := x) (env := [some (.ref b), some (.str x), some (dts kn), none]) (i := 0) (j := 1) rfl rfl
  have b1 := bk_known h (env := [some (.ref b), some (.str x), some (dts kn), some (dts (gt e x))]) (i := 0) rfl
  have gf := (w.gt x).few
  have l1 : ((gt e x).map dtD).length + (kn.map dtD).length ≤ sizeLine := by
    rw [List.length_map, List.length_map]
    exact Nat.le_of_lt (sl_of _ (by omega))
  have so := set_ok (s := s) (a := gt e x) (b := kn) gf few
  have ln : lnE [some (.ref b), some (.str x), some (dts kn), some (dts (gt e x))] s = .ok (dts (jn (gt e x) kn)) s := by
    have ad : addD finL (dts (gt e x)) (dts kn) s = .ok (.tup ((gt e x).map dtD ++ kn.map dtD)) s := by
      show (if ((gt e x).map dtD).length + (kn.map dtD).length ≤ sizeLine then Md.ret (Md.D.tup ((gt e x).map dtD ++ kn.map dtD)) else Md.bad) s = _
      rw [if_pos l1]
      rfl
    unfold lnE
    generalize addD finL = A at *
    generalize stOf finL = St at *
    simp only [callM, bnd, aCons, aNil, op2, vr, List.getElem?_cons_succ, List.getElem?_cons_zero, Md.ret, ad, List.append_nil, arg1, so, tupF, seqD, lstD]
    rfl
  have few5 : (kv e).length < sizeLine := by rw [kv_length]; exact sl_of _ (by have := w.few; omega)
  have pk := put_kv e x (jn (gt e x) kn)
  have h' : BkAt (s.set k (.dct false (kv (pt e x (jn (gt e x) kn))))) b k (.lst (tl.map telD)) (pt e x (jn (gt e x) kn)) bz tl ∨ True := .inr trivial
  have g1 : (s.set k (.dct false (kv (pt e x (jn (gt e x) kn)))))[b]? = some (.dct false (bks k (bzD bz) td)) := by rw [List.getElem?_set_ne kb]; exact h1
  have g2 : (s.set k (.dct false (kv (pt e x (jn (gt e x) kn)))))[k]? = some (.dct false (kv (pt e x (jn (gt e x) kn)))) := List.getElem?_set_self lt
  have q := eqX_dts (s := s.set k (.dct false (kv (pt e x (jn (gt e x) kn))))) not (jn_kno (w.gt x).ok hk.ok).ok (w.gt x).ok
  have lv := look_kv x (pt e x (jn (gt e x) kn))
  rw [lk_pt_self] at lv
  generalize pt e x (jn (gt e x) kn) = e' at *
  generalize jn (gt e x) kn = j at *
  have body : b_l_law_learnt = seq (asg (mthM tbGet (op2 ixA (vr 0) (cst (.str "known"))) (aCons (vr 1) (aCons (tupE (aNil)) (aNil)))) (toN 3)) (seq (asg lnE (toSub (op2 ixA (vr 0) (cst (.str "known"))) (vr 1))) (rtn (op2 (eqX not) (op2 ixA (op2 ixA (vr 0) (cst (.str "known"))) (vr 1)) (vr 3)))) := rfl
  have c0 : asg (mthM tbGet (op2 ixA (vr 0) (cst (.str "known"))) (aCons (vr 1) (aCons (tupE (aNil)) (aNil)))) (toN 3) [some (.ref b), some (.str x), some (dts kn), none] s = .nx [some (.ref b), some (.str x), some (dts kn), some (dts (gt e x))] s := by
    unfold asg Md.thn
    rw [g]
    rfl
  have c1 : asg lnE (toSub (op2 ixA (vr 0) (cst (.str "known"))) (vr 1)) [some (.ref b), some (.str x), some (dts kn), some (dts (gt e x))] s = .nx [some (.ref b), some (.str x), some (dts kn), some (dts (gt e x))] (s.set k (.dct false (kv e'))) := by
    have sa : setA (.ref k) (.str x) (dts j) s = .ok () (s.set k (.dct false (kv e'))) := by
      unfold setA
      simp only [h2]
      show (if (kv e).length < sizeLine then Md.Res.ok () (s.set k (.dct false (putD (kv e) (.str x) (.inr x) (dts j)))) else .bad) = _
      rw [if_pos few5, pk]
    unfold asg Md.thn
    rw [ln]
    generalize op2 ixA (vr 0) (cst (.str "known")) = B at *
    simp [tgS, toSub, bnd, b1, vr, Md.ret, sa]
  have c2 : rtn (op2 (eqX not) (op2 ixA (op2 ixA (vr 0) (cst (.str "known"))) (vr 1)) (vr 3)) [some (.ref b), some (.str x), some (dts kn), some (dts (gt e x))] (s.set k (.dct false (kv e'))) = .rt (.bl (!decide (j = gt e x))) (s.set k (.dct false (kv e'))) := by
    have e0 : op2 ixA (vr 0) (cst (.str "known")) [some (.ref b), some (.str x), some (dts kn), some (dts (gt e x))] (s.set k (.dct false (kv e'))) = .ok (.ref k) (s.set k (.dct false (kv e'))) := by
      have r : ixA (.ref b) (.str "known") (s.set k (.dct false (kv e'))) = .ok (.ref k) (s.set k (.dct false (kv e'))) := by
        unfold ixA ixK
        rw [dctD_at g1]
        rfl
      generalize ixA = I at *
      simp [op2, bnd, vr, cst, Md.ret, r]
    have e1 : ixA (.ref k) (.str x) (s.set k (.dct false (kv e'))) = .ok (dts j) (s.set k (.dct false (kv e'))) := by
      unfold ixA ixK
      rw [dctD_at g2]
      show opt (lookD (kv e') (.inr x)) _ = _
      rw [lv]
      rfl
    generalize hB : op2 ixA (vr 0) (cst (.str "known")) = B at *
    generalize ixA = I at *
    generalize eqX not = Q at *
    simp [rtn, Md.thn, op2, bnd, e0, vr, Md.ret, e1, q]
  unfold p_l_law_learnt
  rw [body]
  show endS (seq (asg (mthM tbGet (op2 ixA (vr 0) (cst (.str "known"))) (aCons (vr 1) (aCons (tupE (aNil)) (aNil)))) (toN 3)) (seq (asg lnE (toSub (op2 ixA (vr 0) (cst (.str "known"))) (vr 1))) (rtn (op2 (eqX not) (op2 ixA (op2 ixA (vr 0) (cst (.str "known"))) (vr 1)) (vr 3)))) [some (.ref b), some (.str x), some (dts kn), none] s) = _
  simp only [seq, c0, c1, c2]
  rfl
/-! ### a copy -/
theorem copied_ok (h : BkAt s b k td e bz tl) (w : WT tl) : p_l_law_copied [.ref b] s = .ok (.ref (s.length + 1)) (s ++ [.dct false (kv e), .dct false (bks s.length (bzD bz) (.lst (tl.map telD)))]) := by
  have b0 := bk_known h (env := [some (.ref b)]) (i := 0) rfl
  have hn : BkAt (s ++ [.dct false (kv e)]) b k td e bz tl := h.app
  have b1 := bk_busy hn (env := [some (.ref b)]) (i := 0) rfl
  have b2 := bk_told hn (env := [some (.ref b)]) (i := 0) rfl
  have dn : dictF (.ref k) s = .ok (.ref s.length) (s ++ [.dct false (kv e)]) := by
    unfold dictF
    rw [dctD_at h.dct]
    rfl
  have la : listAF finL td (s ++ [.dct false (kv e)]) = .ok (.lst (tl.map telD)) (s ++ [.dct false (kv e)]) := by
    rcases hn.told.ex with rfl | ⟨r, rfl, hr⟩
    · rfl
    · have d : dctD (s ++ [.dct false (kv e)]) (.ref r) = none := by
        show (match (s ++ [Ob.dct false (kv e)])[r]? with
          | some (.dct lk kvs) => some (r, lk, kvs)
          | _ => none) = _
        rw [hr]
      have q : seqD (s ++ [.dct false (kv e)]) (.ref r) = some (tl.map telD) := by
        show (match (s ++ [Ob.dct false (kv e)])[r]? with
          | some (.lst xs) => some xs
          | some (.lok xs) => some xs
          | _ => none) = _
        rw [hr]
      unfold listAF
      rw [d]
      unfold listF
      rw [q]
      rfl
  have md : mergeD [] [(Md.D.str "known", Md.D.ref s.length), (.str "busy", bzD bz), (.str "told", .lst (tl.map telD))] = some (bks s.length (bzD bz) (.lst (tl.map telD))) := rfl
  have dp : dpM ((cst (.str "known"), callM (arg1 dictF) [] (aCons (op2 ixA (vr 0) (cst (.str "known"))) (aNil))) :: ((cst (.str "busy"), op2 ixA (vr 0) (cst (.str "busy"))) :: ((cst (.str "told"), callM (arg1 (listAF finL)) [] (aCons (op2 ixA (vr 0) (cst (.str "told"))) (aNil))) :: ([])))) [some (.ref b)] s = .ok [(.str "known", .ref s.length), (.str "busy", bzD bz), (.str "told", .lst (tl.map telD))] (s ++ [.dct false (kv e)]) := by
    generalize op2 ixA (vr 0) (cst (.str "known")) = B0 at *
    generalize op2 ixA (vr 0) (cst (.str "busy")) = B1 at *
    generalize op2 ixA (vr 0) (cst (.str "told")) = B2 at *
    simp [dpM, bnd, cst, Md.ret, callM, aCons, aNil, b0, b1, b2, arg1, dn, la]
  unfold p_l_law_copied run b_l_law_copied
  generalize ((cst (.str "known"), callM (arg1 dictF) [] (aCons (op2 ixA (vr 0) (cst (.str "known"))) (aNil))) :: ((cst (.str "busy"), op2 ixA (vr 0) (cst (.str "busy"))) :: ((cst (.str "told"), callM (arg1 (listAF finL)) [] (aCons (op2 ixA (vr 0) (cst (.str "told"))) (aNil))) :: ([])))) = PR at *
  show endS (rtn (dispM PR) [some (.ref b)] s) = _
  simp [rtn, Md.thn, dispM, bnd, nox, dp, dispF, md, newD, new, endS]
/-! ### alike? -/
def stP (o : Str) (e : Kn) (bz : Option Int) (tl : List Tel) : PyData := .tuple [.str o, .tuple ((wd e).map (prP e)), bzP bz, .tuple (tl.map telP)]
theorem toPy_pr (n : Nat) (w : WK e) (hx : x ∈ W5) : toPy s (n + 4) (prD e x) = some (prP e x) := by
  show (match toPy s (n + 3) (.str x), (match toPy s (n + 3) (dts (gt e x)), (some [] : Option (List PyData)) with
    | some x, some xs => some (x :: xs)
    | _, _ => none) with
    | some x, some xs => some (x :: xs)
    | _, _ => none).map PyData.tuple = _
  rw [toPy_str s (n + 2) (okW_5 _ hx).k, toPy_dts s n (w.gt x).ok]
  rfl
theorem toPy_st (wo : okW o) (w : WK e) (wt : WT tl) : toPy s 20 (stD o e bz tl) = some (stP o e bz tl) := by
  have a1 : toPy s 19 (.str o) = some (.str o) := toPy_str s 18 wo.k
  have a2 : toPy s 19 (.tup ((wd e).map (prD e))) = some (.tuple ((wd e).map (prP e))) := toPy_tup s fun y hy => toPy_pr 14 w (wd_ok w y hy)
  have a3 : toPy s 19 (bzD bz) = some (bzP bz) := toPy_bz 18 bz
  have a4 : toPy s 19 (.tup (tl.map telD)) = some (.tuple (tl.map telP)) := toPy_tup s fun y hy => toPy_tel 15 (wt.ok y hy)
  show (match toPy s 19 (.str o), (match toPy s 19 (.tup ((wd e).map (prD e))), (match toPy s 19 (bzD bz), (match toPy s 19 (.tup (tl.map telD)), (some [] : Option (List PyData)) with
    | some x, some xs => some (x :: xs)
    | _, _ => none) with
    | some x, some xs => some (x :: xs)
    | _, _ => none) with
    | some x, some xs => some (x :: xs)
    | _, _ => none) with
    | some x, some xs => some (x :: xs)
    | _, _ => none).map PyData.tuple = _
  rw [a1, a2, a3, a4]
  rfl
theorem sim_bz (bz : Option Int) : simP (bzP bz) = true := by cases bz <;> rfl
theorem sim_tel (t : Tel) : simP (telP t) = true := by
  obtain ⟨i, x, ws⟩ := t
  cases ws with
  | none => rfl
  | some l =>
    show (true && (true && ((simA (l.map .int)) && true))) = true
    rw [simA_map fun _ _ => rfl]
    rfl
theorem sim_st (o : Str) (e : Kn) (bz : Option Int) (tl : List Tel) : simP (stP o e bz tl) = true := by
  show (true && (simA ((wd e).map (prP e)) && (simP (bzP bz) && (simA (tl.map telP) && true)))) = true
  rw [simA_map fun y _ => by
    show (true && (simP (dtsP (gt e y)) && true)) = true
    rw [sim_dts]; rfl, sim_bz, simA_map fun y _ => sim_tel y]
  rfl
theorem eqv_st {o2 : Str} {e2 : Kn} {bz2 : Option Int} {tl2 : List Tel} (h : PyData.eqv (stP o e bz tl) (stP o2 e2 bz2 tl2) = true) : stP o e bz tl = stP o2 e2 bz2 tl2 := eqv_eq _ _ (sim_st ..) (sim_st ..) h
variable {o2 : Str} {p2 m2 t2 : Nat} {e2 : Kn} {bz2 : Option Int} {tl2 : List Tel}
theorem eqAsk_ok (h : AskAt s o p m t e bz tl) (h2 : AskAt s o2 p2 m2 t2 e2 bz2 tl2) (wo : okW o) (wo2 : okW o2) (w : WK e) (w2 : WK e2) (wt : WT tl) (wt2 : WT tl2) :
    p_Asker_eq [.ref p, .ref p2] s = .ok (.bl (PyData.eqv (stP o e bz tl) (stP o2 e2 bz2 tl2))) (s ++ [.lok (txs (wd e)), .lok (txs (wd e2))]) := by
  have s1 := state_ok h w
  have h2' : AskAt (s ++ [.lok (txs (wd e))]) o2 p2 m2 t2 e2 bz2 tl2 := h2.app
  have s2 := state_ok h2' w2
  have es : (s ++ [Ob.lok (txs (wd e))]) ++ [Ob.lok (txs (wd e2))] = s ++ [.lok (txs (wd e)), .lok (txs (wd e2))] := by simp
  rw [es] at s2
  have g1 := h.at_
  have g2 := h2.at_
  have g2' := h2'.at_
  have q : eqX id (stD o e bz tl) (stD o2 e2 bz2 tl2) (s ++ [.lok (txs (wd e)), .lok (txs (wd e2))]) = .ok (.bl (PyData.eqv (stP o e bz tl) (stP o2 e2 bz2 tl2))) (s ++ [.lok (txs (wd e)), .lok (txs (wd e2))]) := eqX_py id (toPy_st wo w wt) (toPy_st wo2 w2 wt2)
  have i2 : isiO "Asker" (vr 1) [some (.ref p), some (.ref p2)] s = .ok (.bl true) s := by
    simp [isiO, bnd, vr, Md.ret, tyD, isInsO, g2]
  have m1 : mtM "Asker" "state" p_Asker_state [] (vr 0) aNil [some (.ref p), some (.ref p2)] s = .ok (stD o e bz tl) (s ++ [.lok (txs (wd e))]) := by
    simp [g1, s1, lu_own, lu_kn, lu_uw, lu_te, ln_known, ln_learn, ln_begin, ln_busy, ln_leave, ln_hear, ln_tell, ln_words, ln_called, ln_twin, ln_state, ln_len, line0, line1, line2, line3, line4, line5, run, endS, seq, asg, drp, rtn, rtN, skp, badS, ifS, Md.thn, cst, Md.ret, Md.bad, tgS, toN, op2, vr, lstE, tupE, aNil, aCons, bnd, toB, andB, orB, notB, andV, orV, notV, callM, mtM, fldM, stF, insOf, get?, opt, arg1, finL, int2, gtI, geI, leI, addD, addI, modI, isiM, tyD, Ty.sub, isiO, isInsO, isN, nonD, ixA, ixD, ixL, ixT, atI, ixN, dctD, lstD, tupD, toSub, setA, keyD, toSeq, toCons, toNil, mthM, kdD, upK, lenA, lenD, lenL, lenKF]
  have m2 : mtM "Asker" "state" p_Asker_state [] (vr 1) aNil [some (.ref p), some (.ref p2)] (s ++ [.lok (txs (wd e))]) = .ok (stD o2 e2 bz2 tl2) (s ++ [.lok (txs (wd e)), .lok (txs (wd e2))]) := by
    simp [g2', s2, lu_own, lu_kn, lu_uw, lu_te, ln_known, ln_learn, ln_begin, ln_busy, ln_leave, ln_hear, ln_tell, ln_words, ln_called, ln_twin, ln_state, ln_len, line0, line1, line2, line3, line4, line5, run, endS, seq, asg, drp, rtn, rtN, skp, badS, ifS, Md.thn, cst, Md.ret, Md.bad, tgS, toN, op2, vr, lstE, tupE, aNil, aCons, bnd, toB, andB, orB, notB, andV, orV, notV, callM, mtM, fldM, stF, insOf, get?, opt, arg1, finL, int2, gtI, geI, leI, addD, addI, modI, isiM, tyD, Ty.sub, isiO, isInsO, isN, nonD, ixA, ixD, ixL, ixT, atI, ixN, dctD, lstD, tupD, toSub, setA, keyD, toSeq, toCons, toNil, mthM, kdD, upK, lenA, lenD, lenL, lenKF]
  unfold p_Asker_eq run b_Asker_eq
  generalize mtM "Asker" "state" p_Asker_state [] (vr 0) aNil = A at *
  generalize mtM "Asker" "state" p_Asker_state [] (vr 1) aNil = B at *
  generalize isiO "Asker" (vr 1) = C at *
  generalize eqX id = Q at *
  generalize PyData.eqv (stP o e bz tl) (stP o2 e2 bz2 tl2) = v at *
  generalize stD o e bz tl = d1 at *
  generalize stD o2 e2 bz2 tl2 = d2 at *
  show endS (rtn (andV C (op2 Q A B)) [some (.ref p), some (.ref p2)] s) = _
  simp only [rtn, Md.thn, andV, bnd, i2, op2, m1, m2, q]
  rfl
end
end K51
end Md

set_option Elab.async false
set_option linter.all false
set_option maxRecDepth 1000000
set_option maxHeartbeats 4000000
namespace Md
namespace K51
--L lu_own, lu_kn, lu_uw, lu_te, ln_known, ln_learn, ln_begin, ln_busy, ln_leave, ln_hear, ln_tell, ln_words, ln_called, ln_twin, ln_state, ln_len, line0, line1, line2, line3, line4, line5,
open PySem PySem.Spec PyProof.Rows L2
section
variable {s : S} {o o2 : Str} {p m t b k p2 m2 t2 b2 k2 : Nat} {td : Md.D} {e e2 : Kn} {bz bz2 : Option Int} {tl tl2 : List Tel} {x : Str}
theorem isins_ok (h : AskAt s o p m t e bz tl) : isInsO "Asker" s (.ref p) = true := by
  have g := h.at_
  simp [isInsO, g]
theorem eqA_ask (h : AskAt s o p m t e bz tl) (h2 : AskAt s o2 p2 m2 t2 e2 bz2 tl2) (wo : okW o) (wo2 : okW o2) (w : WK e) (w2 : WK e2) (wt : WT tl) (wt2 : WT tl2) (f : Bool → Bool) :
    eqA "Asker" p_Asker_eq f (.ref p) (.ref p2) s = .ok (.bl (f (PyData.eqv (stP o e bz tl) (stP o2 e2 bz2 tl2)))) (s ++ [.lok (txs (wd e)), .lok (txs (wd e2))]) := by
  have e1 := eqAsk_ok h h2 wo wo2 w w2 wt wt2
  have i1 := isins_ok h
  have i2 := isins_ok h2
  have g := h.at_
  unfold eqA eqO
  generalize PyData.eqv (stP o e bz tl) (stP o2 e2 bz2 tl2) = v at *
  simp [i1, i2, insOf, get?, g, bnd, Md.ret, e1]
theorem eqA_not (h : AskAt s o p m t e bz tl) {d : Md.D} (hd : (tyD s d).isSome = true) : eqA "Asker" p_Asker_eq id (.ref p) d s = .ok (.bl false) s := by
  have i1 := isins_ok h
  have g := h.at_
  obtain ⟨ty, ht⟩ := Option.isSome_iff_exists.mp hd
  have i2 : isiO "Asker" (vr 1) [some (.ref p), some d] s = .ok (.bl false) s := by
    simp [isiO, bnd, vr, Md.ret, ht]
  have e1 : p_Asker_eq [.ref p, d] s = .ok (.bl false) s := by
    unfold p_Asker_eq run b_Asker_eq
    generalize isiO "Asker" (vr 1) = C at *
    generalize op2 (eqX id) (mtM "Asker" "state" p_Asker_state [] (vr 0) aNil) (mtM "Asker" "state" p_Asker_state [] (vr 1) aNil) = O2 at *
    show endS (rtn (andV C O2) [some (.ref p), some d] s) = _
    simp only [rtn, Md.thn, andV, bnd, i2]
    rfl
  unfold eqA eqO
  simp [i1, hd, insOf, get?, g, bnd, Md.ret, e1]
/-! ### books alike -/
def eqB (ls : Kn) : Kn → Bool
  | [] => true
  | y :: r => match lk ls y.1 with
    | none => false
    | some w => decide (y.2 = w) && eqB ls r
def eqE (a b : Kn) : Bool := decide (a.length = b.length) && eqB b a
theorem eqKv_kv (s : S) (n : Nat) (b : Kn) (hb : WK b) : ∀ a : Kn, (∀ y ∈ a, Kno y.2) → eqKvF (eqN s (n + 1)) (kv b) (kv a) = some (eqB b a)
  | [], _ => rfl
  | y :: r, h => by
    show (match (some (Sum.inr y.1) : Option Key) with
      | none => none
      | some q => match lookD (kv b) q with
        | none => some false
        | some u => match eqN s (n + 1) (dts y.2) u, eqKvF (eqN s (n + 1)) (kv b) (kv r) with
          | some e, some b => some (e && b)
          | _, _ => none) = some (match lk b y.1 with
      | none => false
      | some w => decide (y.2 = w) && eqB b r)
    simp only []
    rw [look_kv]
    cases hl : lk b y.1 with
    | none => rfl
    | some w =>
      have ew : eqN s (n + 1) (dts y.2) (dts w) = some (decide (y.2 = w)) := by
        show (match toPy s 20 (dts y.2), toPy s 20 (dts w) with
          | some x, some y => some (PyData.eqv x y)
          | _, _ => if sameR (dts y.2) (dts w) = true then some true else stepD s (eqN s n) (dts y.2) (dts w)) = _
        rw [toPy_dts s 17 (h y (by simp)).ok, toPy_dts s 17 (hb.ok _ (lk_some hl)).2.ok]
        simp only []
        rw [eqv_dts]
      simp only [Option.map_some]
      rw [ew, eqKv_kv s n b hb r fun z hz => h z (by simp [hz])]
theorem step_kv {n : Nat} {l1 l2 : Bool} (hp : s[p]? = some (.dct l1 (kv e))) (hq : s[p2]? = some (.dct l2 (kv e2))) (w : WK e) (w2 : WK e2) : stepD s (eqN s (n + 1)) (.ref p) (.ref p2) = some (eqE e e2) := by
  unfold stepD
  rw [dctD_at hp, dctD_at hq]
  simp only []
  rw [kv_length, kv_length, eqKv_kv s n e2 w2 e fun y hy => (w.ok y hy).2]
  unfold eqE
  by_cases h : e.length = e2.length
  · rw [if_pos h, decide_eq_true h]
    rfl
  · rw [if_neg h, decide_eq_false h]
    rfl
theorem toPy_dct {n p : Nat} {l : Bool} {kvs : List (Md.D × Md.D)} (hp : s[p]? = some (.dct l kvs)) : toPy s (n + 1) (.ref p) = none := by
  show (match s[p]? with
    | some (.lst ds) => (toPyL (toPy s n) ds).map PyData.list
    | some (.lok ds) => (toPyL (toPy s n) ds).map PyData.list
    | _ => none) = none
  rw [hp]
theorem eqX_bk (h : BkAt s b k td e bz tl) {td2 : Md.D} (h2 : BkAt s b2 k2 td2 e2 bz2 tl2) (w : WK e) (w2 : WK e2) (wt : WT tl) (wt2 : WT tl2) (ne : k ≠ k2) (f : Bool → Bool) :
    eqX f (.ref b) (.ref b2) s = .ok (.bl (f (eqE e e2 && (PyData.eqv (bzP bz) (bzP bz2) && (PyData.eqv (.list (tl.map telP)) (.list (tl2.map telP)) && true))))) s := by
  have n1 : eqN s 30 (.ref k) (.ref k2) = some (eqE e e2) := by
    show (match toPy s 20 (.ref k), toPy s 20 (.ref k2) with
      | some x, some y => some (PyData.eqv x y)
      | _, _ => if (k == k2) = true then some true else stepD s (eqN s 29) (.ref k) (.ref k2)) = _
    rw [toPy_dct h.dct]
    simp only []
    rw [if_neg (by simpa using ne), step_kv (n := 28) h.dct h2.dct w w2]
  have n2 : eqN s 30 (bzD bz) (bzD bz2) = some (PyData.eqv (bzP bz) (bzP bz2)) := by
    show (match toPy s 20 (bzD bz), toPy s 20 (bzD bz2) with
      | some x, some y => some (PyData.eqv x y)
      | _, _ => _) = _
    rw [toPy_bz, toPy_bz]
  have n3 : eqN s 30 td td2 = some (PyData.eqv (.list (tl.map telP)) (.list (tl2.map telP))) := by
    show (match toPy s 20 td, toPy s 20 td2 with
      | some x, some y => some (PyData.eqv x y)
      | _, _ => _) = _
    rw [toPy_told h.told wt, toPy_told h2.told wt2]
  unfold eqX eqTop
  rw [toPy_dct h.at_]
  simp only []
  have st : stepD s (eqN s 30) (.ref b) (.ref b2) = some (eqE e e2 && (PyData.eqv (bzP bz) (bzP bz2) && (PyData.eqv (.list (tl.map telP)) (.list (tl2.map telP)) && true))) := by
    unfold stepD
    rw [dctD_at h.at_, dctD_at h2.at_]
    show (if 3 = 3 then (match eqN s 30 (.ref k) (.ref k2), (match eqN s 30 (bzD bz) (bzD bz2), (match eqN s 30 td td2, (some true : Option Bool) with
      | some e, some b => some (e && b)
      | _, _ => none) with
      | some e, some b => some (e && b)
      | _, _ => none) with
      | some e, some b => some (e && b)
      | _, _ => none) else some false) = _
    rw [if_pos rfl, n1, n2, n3]
  rw [st]
theorem eqB_pt {v : List Dot} (w : WK e) (h : eqE (pt e x v) e = true) : pt e x v = e := by
  unfold eqE at h
  rw [Bool.and_eq_true, decide_eq_true_eq] at h
  obtain ⟨hl, hb⟩ := h
  have key : ∀ {f : Kn}, eqB e f = true → ∀ y ∈ f, lk e y.1 = some y.2 := by
    intro f
    induction f with
    | nil => exact fun _ y hy => nomatch hy
    | cons z r ih =>
      intro hb y hy
      have hb : (match lk e z.1 with
        | none => false
        | some w => decide (z.2 = w) && eqB e r) = true := hb
      cases hz : lk e z.1 with
      | none => rw [hz] at hb; cases hb
      | some u =>
        rw [hz] at hb
        simp only [Bool.and_eq_true, decide_eq_true_eq] at hb
        rcases List.mem_cons.mp hy with q | q
        · rw [q, hz, hb.1]
        · exact ih hb.2 y q
  by_cases hx : (lk e x).isSome = true
  · have hm : (x, v) ∈ pt e x v := lk_some lk_pt_self
    have hv := key hb _ hm
    have ep : pt e x v = rp x v e := by unfold pt; rw [if_pos hx]
    rw [ep]
    have : ∀ f : Kn, (∀ y ∈ f, y.1 = x → y.2 = v) → rp x v f = f := fun f => by
      induction f with
      | nil => exact fun _ => rfl
      | cons z r ih =>
        intro hf
        show (if z.1 = x then (z.1, v) else z) :: rp x v r = z :: r
        rw [ih fun y hy => hf y (by simp [hy])]
        by_cases q : z.1 = x
        · rw [if_pos q, ← hf z (by simp) q]
        · rw [if_neg q]
    refine this e fun y hy q => ?_
    have := lk_mem w.nd hy
    rw [q, hv] at this
    exact (Option.some.inj this).symm
  · unfold pt at hl
    rw [if_neg hx] at hl
    simp at hl
theorem eqv_bz (h : PyData.eqv (bzP bz) (bzP bz2) = true) : bz = bz2 := by
  have z := eqv_eq _ _ (sim_bz bz) (sim_bz bz2) h
  cases bz <;> cases bz2 <;> first | rfl | (simp [bzP] at z) | skip
  rw [z]
end
/-! ### draws -/
structure Pool (s : S) (P : Nat) : Prop where
  ex : ∃ a b : Int, s[P]? = some (.lst [.int a, .int b]) ∧ 0 ≤ b ∧ b < 2147483647
theorem Pool.lt {s : S} {P : Nat} (h : Pool s P) : P < s.length := by
  obtain ⟨a, b, e, _⟩ := h.ex
  exact (List.getElem?_eq_some_iff.mp e).1
/-- but for some, all stays -/
structure Kp (ex : List Nat) (s s' : S) : Prop where
  len : s.length ≤ s'.length
  keep : ∀ (i : Nat) (o : Ob), i ∉ ex → s[i]? = some o → s'[i]? = some o
section
variable {ex : List Nat} {s t u : S} {P : Nat}
theorem Kp.refl : Kp ex s s := ⟨Nat.le_refl _, fun _ _ _ h => h⟩
theorem Kp.trans (a : Kp ex s t) (b : Kp ex t u) : Kp ex s u := ⟨Nat.le_trans a.len b.len, fun i o n h => b.keep i o n (a.keep i o n h)⟩
theorem Kp.app : Kp ex s (s ++ t) := ⟨by simp, fun _ _ _ h => get_app h⟩
theorem Kp.set {i : Nat} {o : Ob} (h : i ∈ ex) : Kp ex s (s.set i o) := ⟨by simp, fun j o' n e => by
  rw [List.getElem?_set_ne (by rintro rfl; exact n h)]; exact e⟩
theorem Kp.mono {ex2 : List Nat} (a : Kp ex s t) (h : ∀ i ∈ ex, i ∈ ex2 ∨ s.length ≤ i) : Kp ex2 s t := ⟨a.len, fun i o n e => a.keep i o (fun z => (h i z).elim n fun l => by
  have := (List.getElem?_eq_some_iff.mp e).1
  omega) e⟩
theorem Kp.at {q : Nat} {o : Ob} (a : Kp [P] s t) (h : s[q]? = some o) (n : q ≠ P) : t[q]? = some o := a.keep q o (by simpa using n) h
theorem take_p (h : Pool s P) {m : Int} (hm : 0 < m) (hm2 : m < 1000000) : ∃ (s' : S) (d : Int), p_l_law_take [.ref P, .int m] s = .ok (.int d) s' ∧ 0 ≤ d ∧ d < m ∧ Pool s' P ∧ Kp [P] s s' := by
  obtain ⟨a, b, e, hb⟩ := h.ex
  obtain ⟨a', b', d, h1, h2, h3⟩ := take_ok s P a b m e hm hm2 hb
  exact ⟨_, d, h1, h2.1, h2.2, ⟨a', b', List.getElem?_set_self h.lt, h3⟩, Kp.set (by simp)⟩
theorem call_take {s s' : S} {env : Rs} {j : Nat} {m d : Int} (he : env[j]? = some (some (.ref P))) (t : p_l_law_take [.ref P, .int m] s = .ok (.int d) s') : callM p_l_law_take [] (aCons (vr j) (aCons (cst (.int m)) (aNil))) env s = .ok (.int d) s' := by
  simp [callM, aCons, aNil, vr, he, cst, bnd, Md.ret, t]
theorem Pool.app (h : Pool s P) : Pool (s ++ t) P := by
  obtain ⟨a, b, e, hb⟩ := h.ex
  exact ⟨a, b, get_app e, hb⟩
theorem Pool.set {i : Nat} {o : Ob} (h : Pool s P) (ne : i ≠ P) : Pool (s.set i o) P := by
  obtain ⟨a, b, e, hb⟩ := h.ex
  exact ⟨a, b, by rw [List.getElem?_set_ne ne]; exact e, hb⟩
end
/-! ### what is known, drawn -/
theorem ix_abc (s : S) {d : Int} (h0 : 0 ≤ d) (h1 : d < 3) : ∃ x : Str, ixA (.str "abc") (.int d) s = .ok (.str x) s ∧ (x = "a" ∨ x = "b" ∨ x = "c") := by
  have : d = 0 ∨ d = 1 ∨ d = 2 := by omega
  rcases this with e | e | e <;> subst e
  · exact ⟨"a", by kernel_rfl, .inl rfl⟩
  · exact ⟨"b", by kernel_rfl, .inr (.inl rfl)⟩
  · exact ⟨"c", by kernel_rfl, .inr (.inr rfl)⟩
theorem in_dts {s : S} {d : Dot} {l : List Dot} (hd : okD d) (hl : ∀ x ∈ l, okD x) (f : Bool → Bool) : inA f (dtD d) (.lst (l.map dtD)) s = .ok (.bl (f (decide (d ∈ l)))) s := by
  have e1 : toPy s 20 (.lst (l.map dtD)) = some (.list (l.map dtP)) := toPy_lst s fun y hy => toPy_dt s 17 (hl y hy).w.k
  have e2 := toPy_dt s 18 hd.w.k
  have e3 : (l.map dtP).any (fun z => PyData.eqv z (dtP d)) = decide (d ∈ l) := by
    clear e1 hl
    induction l with
    | nil => rfl
    | cons y r ih =>
      rw [List.map_cons, List.any_cons, ih]
      by_cases h : y = d
      · subst h
        have : PyData.eqv (dtP y) (dtP y) = true := by simp [dtP, PyData.eqv, PyData.eqvAll]
        rw [this]
        simp
      · have : PyData.eqv (dtP y) (dtP d) = false := by
          cases q : PyData.eqv (dtP y) (dtP d) with
          | false => rfl
          | true => exact absurd (dtP_inj (eqv_eq _ _ rfl rfl q)) h
        have h' : ¬ d = y := fun z => h z.symm
        rw [this]
        simp [h']
  show inG f (dtD d) (.lst (l.map dtD)) s = _
  unfold inG py2
  rw [e1, e2]
  simp only [opt, Md.ret]
  rw [e3]
theorem sort_dts {s : S} {l : List Dot} (hl : ∀ x ∈ l, okD x) : sortAF finL (.lst (l.map dtD)) s = .ok (.lst ((isortB leDot l).map dtD)) s := by
  show sortF finL (.lst (l.map dtD)) s = _
  unfold sortF
  have pys : ∀ m : List Dot, (∀ x ∈ m, okD x) → pysD s (m.map dtD) = some (m.map fun d => (dtD d, dtP d)) := fun m => by
    induction m with
    | nil => exact fun _ => rfl
    | cons d r ih =>
      intro h
      show (match toPy s 20 (dtD d), pysD s (r.map dtD) with
        | some a, some b => some ((dtD d, a) :: b)
        | _, _ => none) = _
      rw [toPy_dt s 18 (h d (by simp)).w.k, ih fun z hz => h z (by simp [hz])]
      rfl
  have e1 : (lstD s (.lst (l.map dtD))).bind (pysD s) = some (l.map fun d => (dtD d, dtP d)) := pys l hl
  rw [e1]
  simp only []
  have a1 : alikesB ((l.map fun d => (dtD d, dtP d)).map (·.2)) = true := by
    unfold alikesB
    simp only [List.map_map, List.all_map, List.all_eq_true, Function.comp_apply]
    exact fun y _ z _ => by simp [dtP, PySem.W.alike, PySem.W.alikeAll]
  have a2 : sortB ((l.map fun d => (dtD d, dtP d)).map (·.2)) = true := by
    unfold sortB
    simp only [List.map_map, Bool.or_eq_true, List.all_map, List.all_eq_true, Function.comp_apply]
    exact .inl fun y _ => rfl
  rw [if_pos ⟨a1, a2⟩]
  have e2 : sortP (l.map fun d => (dtD d, dtP d)) = (isortB leDot l).map dtD := by
    unfold sortP
    have e3 := isortB_mapG (le := leDot) (le' := PySem.W.dataLe false (fun x : Md.D × PyData => x.2)) (f := fun d : Dot => (dtD d, dtP d)) (fun a b => dot_le a b) l
    rw [e3, List.map_map]
    rfl
  rw [e2]
  rfl
def knE : Rs → Md.M Md.D := tupE (aCons (op2 (addD finL) (cst (.int 1)) (callM p_l_law_take [] (aCons (vr 0) (aCons (cst (.int 9)) (aNil))))) (aCons (op2 ixA (cst (.str "abc")) (callM p_l_law_take [] (aCons (vr 0) (aCons (cst (.int 3)) (aNil))))) (aCons (op2 (addD finL) (cst (.int 1)) (callM p_l_law_take [] (aCons (vr 0) (aCons (cst (.int 2)) (aNil))))) (aNil))))
def knF : Rs → Md.M Md.D := op2 (addD finL) (vr 1) (op2 (mulA finL) (lstE finL (aCons (vr 3) (aNil))) (callM (arg1 intF) [] (aCons (op2 (inA not) (vr 3) (vr 1)) (aNil))))
def knB : SM := seq (asg knE (toN 3)) (asg knF (toN 1))
theorem known_eq : b_l_law_known = seq (asg (lstE finL (aNil)) (toN 1)) (seq (forS (itRng1 (aCons (callM p_l_law_take [] (aCons (vr 0) (aCons (cst (.int 5)) (aNil)))) (aNil))) (toN 2) knB) (rtn (callM (arg1 tupF) [] (aCons (callM (arg1 (sortAF finL)) [] (aCons (vr 1) (aNil))) (aNil))))) := rfl
theorem knE_ok {s : S} {P : Nat} (hp : Pool s P) {env : Rs} (he : env[0]? = some (some (.ref P))) : ∃ (s' : S) (d : Dot), knE env s = .ok (dtD d) s' ∧ nD d ∧ Pool s' P ∧ Kp [P] s s' := by
  obtain ⟨s1, d1, t1, a1, b1, p1, k1⟩ := take_p hp (m := 9) (by decide) (by decide)
  obtain ⟨s2, d2, t2, a2, b2, p2, k2⟩ := take_p p1 (m := 3) (by decide) (by decide)
  obtain ⟨s3, d3, t3, a3, b3, p3, k3⟩ := take_p p2 (m := 2) (by decide) (by decide)
  obtain ⟨x, i1, hx⟩ := ix_abc s2 a2 b2
  refine ⟨s3, (1 + d1, x, 1 + d3), ?_, ⟨by show 1 ≤ 1 + d1; omega, by show 1 + d1 ≤ 9; omega, hx, by show 1 ≤ 1 + d3; omega, by show 1 + d3 ≤ 2; omega⟩, p3, (k1.trans k2).trans k3⟩
  have c1 := call_take he t1
  have c2 := call_take he t2
  have c3 := call_take he t3
  unfold knE
  generalize callM p_l_law_take [] (aCons (vr 0) (aCons (cst (.int 9)) (aNil))) = C9 at *
  generalize callM p_l_law_take [] (aCons (vr 0) (aCons (cst (.int 3)) (aNil))) = C3 at *
  generalize callM p_l_law_take [] (aCons (vr 0) (aCons (cst (.int 2)) (aNil))) = C2 at *
  generalize ixA = I at *
  simp [tupE, aCons, aNil, op2, bnd, cst, Md.ret, c1, c2, c3, line3, i1, addD, addI, int2, opt, dtD]
theorem known_walk {P : Nat} : ∀ (ds : List Int) (ms : List Dot) (s : S) (x2 x3 : Option Md.D), Pool s P → (∀ d ∈ ms, nD d) → ms.Nodup → ms.length + ds.length ≤ 4 →
    ∃ (s' : S) (ms' : List Dot) (y2 y3 : Option Md.D), forL (fun d => seq (tgS (toN 2) d) knB) (ds.map .int) [some (.ref P), some (.lst (ms.map dtD)), x2, x3] s = .nx [some (.ref P), some (.lst (ms'.map dtD)), y2, y3] s' ∧
      Pool s' P ∧ (∀ d ∈ ms', nD d) ∧ ms'.Nodup ∧ ms'.length ≤ 4 ∧ Kp [P] s s'
  | [], ms, s, x2, x3, hp, v, nd, few => ⟨s, ms, x2, x3, rfl, hp, v, nd, by simpa using few, Kp.refl⟩
  | i :: r, ms, s, x2, x3, hp, v, nd, few => by
    obtain ⟨s1, d, e1, vd, p1, k1⟩ := knE_ok hp (env := [some (.ref P), some (.lst (ms.map dtD)), some (.int i), x3]) rfl
    have it := in_dts (s := s1) (d := d) (l := ms) (.inl vd) (fun x hx => .inl (v x hx)) not
    have c1 : asg knE (toN 3) [some (.ref P), some (.lst (ms.map dtD)), some (.int i), x3] s = .nx [some (.ref P), some (.lst (ms.map dtD)), some (.int i), some (dtD d)] s1 := by
      simp [asg, Md.thn, e1, tgS, toN, Md.ret]
    have tg : tgS (toN 2) (.int i) [some (.ref P), some (.lst (ms.map dtD)), x2, x3] s = .nx [some (.ref P), some (.lst (ms.map dtD)), some (.int i), x3] s := rfl
    have l4 : (ms.map dtD).length + 1 ≤ sizeLine := by rw [List.length_map]; exact Nat.le_of_lt (sl_of _ (by simp at few; omega))
    have l5 : (ms.map dtD).length ≤ sizeLine := by omega
    by_cases hm : d ∈ ms
    · rw [decide_eq_true hm] at it
      have c2 : asg knF (toN 1) [some (.ref P), some (.lst (ms.map dtD)), some (.int i), some (dtD d)] s1 = .nx [some (.ref P), some (.lst (ms.map dtD)), some (.int i), some (dtD d)] s1 := by
        unfold knF
        generalize inA not = I at *
        generalize ms.map dtD = mm at *
        simp [asg, Md.thn, tgS, toN, op2, vr, bnd, Md.ret, it, lstE, aCons, aNil, line1, finL, callM, arg1, intF, mulA, repG, plnD, addD, catL, l5]
      obtain ⟨s', ms', y2, y3, e2, q1, q2, q3, q4, q5⟩ := known_walk r ms s1 (some (.int i)) (some (dtD d)) p1 v nd (by simp at few; omega)
      refine ⟨s', ms', y2, y3, ?_, q1, q2, q3, q4, k1.trans q5⟩
      rw [List.map_cons]
      unfold forL
      simp only [seq, tg, knB, c1, c2]
      exact e2
    · rw [decide_eq_false hm] at it
      have c2 : asg knF (toN 1) [some (.ref P), some (.lst (ms.map dtD)), some (.int i), some (dtD d)] s1 = .nx [some (.ref P), some (.lst ((ms ++ [d]).map dtD)), some (.int i), some (dtD d)] s1 := by
        unfold knF
        rw [List.map_append, List.map_cons, List.map_nil]
        generalize inA not = I at *
        generalize ms.map dtD = mm at *
        simp [asg, Md.thn, tgS, toN, op2, vr, bnd, Md.ret, it, lstE, aCons, aNil, line1, finL, callM, arg1, intF, mulA, repG, plnD, addD, catL, l4]
      obtain ⟨s', ms', y2, y3, e2, q1, q2, q3, q4, q5⟩ := known_walk r (ms ++ [d]) s1 (some (.int i)) (some (dtD d)) p1 (fun x hx => by
        rcases List.mem_append.mp hx with z | z
        · exact v x z
        · rw [List.mem_singleton.mp z]; exact vd) (List.nodup_append.mpr ⟨nd, by simp, fun a ha b hb z => hm (by rw [List.mem_singleton.mp hb] at z; exact z ▸ ha)⟩) (by simp at few ⊢; omega)
      refine ⟨s', ms', y2, y3, ?_, q1, q2, q3, q4, k1.trans q5⟩
      rw [List.map_cons]
      unfold forL
      simp only [seq, tg, knB, c1, c2]
      exact e2
theorem known_draw {s : S} {P : Nat} (hp : Pool s P) : ∃ (s' : S) (l : List Dot), p_l_law_known [.ref P] s = .ok (dts l) s' ∧ Kno l ∧ (∀ d ∈ l, nD d) ∧ l.length ≤ 4 ∧ Pool s' P ∧ Kp [P] s s' := by
  obtain ⟨s1, d, t1, a1, b1, p1, k1⟩ := take_p hp (m := 5) (by decide) (by decide)
  have ln : ((List.range d.toNat).map fun (n : Nat) => 0 + (n : Int)).length = d.toNat := by simp
  obtain ⟨s2, ms, y2, y3, e2, p2, v, nd, few, k2⟩ := known_walk (P := P) ((List.range d.toNat).map fun (n : Nat) => 0 + (n : Int)) [] s1 none none p1 (fun d h => nomatch h) List.nodup_nil (by rw [ln]; simp; omega)
  refine ⟨s2, isortB leDot ms, ?_, kno_sort (fun d hd => .inl (v d hd)) nd, fun d hd => v d (isortB_mem.mp hd), by rw [isortB_len]; exact few, p2, k1.trans k2⟩
  have so := sort_dts (s := s2) (l := ms) fun d hd => .inl (v d hd)
  have er : rngD 0 d.toNat = ((List.range d.toNat).map fun (n : Nat) => 0 + (n : Int)).map .int := by
    unfold rngD
    rw [List.map_map]
    rfl
  have c0 : asg (lstE finL (aNil)) (toN 1) [some (.ref P), none, none, none] s = .nx [some (.ref P), some (.lst []), none, none] s := by
    simp [asg, Md.thn, lstE, aNil, bnd, Md.ret, finL, line0, tgS, toN]
  have it : itRng1 (aCons (callM p_l_law_take [] (aCons (vr 0) (aCons (cst (.int 5)) (aNil)))) (aNil)) [some (.ref P), some (.lst []), none, none] s = .ok (rngD 0 d.toNat) s1 := by
    have c := call_take (env := [some (.ref P), some (.lst []), none, none]) (j := 0) rfl t1
    have a : aCons (callM p_l_law_take [] (aCons (vr 0) (aCons (cst (.int 5)) (aNil)))) (aNil) [some (.ref P), some (.lst []), none, none] s = .ok [.int d] s1 := by
      generalize callM p_l_law_take [] (aCons (vr 0) (aCons (cst (.int 5)) (aNil))) = C at *
      simp [aCons, aNil, bnd, Md.ret, c]
    unfold itRng1
    simp only [bnd, a]
    rw [if_pos ⟨by omega, by omega⟩]
    rfl
  have c1 : forS (itRng1 (aCons (callM p_l_law_take [] (aCons (vr 0) (aCons (cst (.int 5)) (aNil)))) (aNil))) (toN 2) knB [some (.ref P), some (.lst []), none, none] s = .nx [some (.ref P), some (.lst (ms.map dtD)), y2, y3] s2 := by
    unfold forS Md.thn
    rw [it, er]
    exact e2
  have c2 : rtn (callM (arg1 tupF) [] (aCons (callM (arg1 (sortAF finL)) [] (aCons (vr 1) (aNil))) (aNil))) [some (.ref P), some (.lst (ms.map dtD)), y2, y3] s2 = .rt (dts (isortB leDot ms)) s2 := by
    generalize sortAF finL = Sf at *
    generalize ms.map dtD = mm at *
    simp [rtn, Md.thn, callM, aCons, aNil, vr, bnd, Md.ret, arg1, so, tupF, seqD, lstD]
    rfl
  unfold p_l_law_known run
  rw [known_eq]
  show endS (seq (asg (lstE finL (aNil)) (toN 1)) (seq (forS (itRng1 (aCons (callM p_l_law_take [] (aCons (vr 0) (aCons (cst (.int 5)) (aNil)))) (aNil))) (toN 2) knB) (rtn (callM (arg1 tupF) [] (aCons (callM (arg1 (sortAF finL)) [] (aCons (vr 1) (aNil))) (aNil))))) [some (.ref P), none, none, none] s) = _
  simp only [seq, c0, c1, c2]
  rfl
end K51
end Md

set_option Elab.async false
set_option linter.all false
set_option maxRecDepth 1000000
set_option maxHeartbeats 4000000
namespace Md
namespace K51
--L lu_own, lu_kn, lu_uw, lu_te, ln_known, ln_learn, ln_begin, ln_busy, ln_leave, ln_hear, ln_tell, ln_words, ln_called, ln_twin, ln_state, ln_len, line0, line1, line2, line3, line4, line5,
open PySem PySem.Spec PyProof.Rows L2
def tupV : Rs → Md.M Md.D := ifV (toB (op2 (isN id) (vr 8) (cst .non))) (cst .non) (callM (arg1 tupF) [] (aCons (vr 8) (aNil)))
def sp0 : SM := asg (callM p_l_law_take [] (aCons (vr 0) (aCons (cst (.int 7)) (aNil)))) (toN 3)
def sp1 : SM := asg (tupE (aCons (op2 ixA (lstE finL (aCons (cst (.str "a")) (aCons (cst (.str "b")) (aCons (cst (.str "c")) (aCons (cst (.str "dd")) (aCons (cst (.str "eeeeee")) (aNil))))))) (callM p_l_law_take [] (aCons (vr 0) (aCons (cst (.int 5)) (aNil))))) (aCons (callM p_l_law_known [] (aCons (vr 0) (aNil))) (aNil)))) (toSeq 2 (toCons (toN 4) (toCons (toN 5) (toNil))))
def sp2 : SM := ifS (toB (op2 (ltD) (vr 3) (cst (.int 2)))) (rtn (op2 (eqX id) (callM (arg1 reprF) [] (aCons (mtM "Asker" "learn" p_Asker_learn [] (vr 1) (aCons (vr 4) (aCons (vr 5) (aNil)))) (aNil))) (callM (arg1 reprF) [] (aCons (callM p_l_law_learnt [] (aCons (vr 2) (aCons (vr 4) (aCons (vr 5) (aNil))))) (aNil))))) (skp)
def sp3 : SM := ifS (andB (toB (op2 (ltD) (vr 3) (cst (.int 4)))) (toB (op2 (isN id) (op2 ixA (vr 2) (cst (.str "busy"))) (cst .non)))) (seq (asg (callM p_l_law_take [] (aCons (vr 0) (aCons (cst (.int 9)) (aNil)))) (toSub (vr 2) (cst (.str "busy"))))
  (rtn (op2 (isN id) (mtM "Asker" "begin" p_Asker_begin [] (vr 1) (aCons (op2 ixA (vr 2) (cst (.str "busy"))) (aNil))) (cst .non)))) (skp)
def sp4 : SM := ifS (andB (toB (op2 (eqX id) (vr 3) (cst (.int 4)))) (toB (op2 (isN not) (op2 ixA (vr 2) (cst (.str "busy"))) (cst .non)))) (seq (asg (op2 ixA (vr 2) (cst (.str "busy"))) (toN 6))
  (seq (asg (cst .non) (toSub (vr 2) (cst (.str "busy"))))
  (rtn (op2 (eqX id) (mtM "Asker" "leave_off" p_Asker_leave_off [] (vr 1) aNil) (vr 6))))) (skp)
def sp5 : SM := asg (callM p_l_law_take [] (aCons (vr 0) (aCons (cst (.int 9)) (aNil)))) (toN 7)
def sp6 : SM := ifS (andB (toB (op2 (isN not) (op2 ixA (vr 2) (cst (.str "busy"))) (cst .non))) (toB (op2 (gtI) (callM p_l_law_take [] (aCons (vr 0) (aCons (cst (.int 3)) (aNil)))) (cst (.int 0))))) (asg (op2 ixA (vr 2) (cst (.str "busy"))) (toN 7)) (skp)
def sp7 : SM := asg (op2 ixA (lstE finL (aCons (cst .non) (aCons (lstE finM (aNil)) (aCons (lstE finM (aCons (callM p_l_law_take [] (aCons (vr 0) (aCons (cst (.int 9)) (aNil)))) (aNil))) (aCons (lstE finM (aCons (cst (.int 1)) (aCons (callM p_l_law_take [] (aCons (vr 0) (aCons (cst (.int 9)) (aNil)))) (aNil)))) (aNil)))))) (callM p_l_law_take [] (aCons (vr 0) (aCons (cst (.int 4)) (aNil))))) (toN 8)
def sp8 : SM := asg (op2 (eqX id) (op2 ixA (vr 2) (cst (.str "busy"))) (vr 7)) (toN 6)
def sp9 : SM := ifS (toB (vr 6)) (seq (drp (callM p_l_law_learnt [] (aCons (vr 2) (aCons (vr 4) (aCons (vr 5) (aNil))))))
  (seq (asg (cst .non) (toSub (vr 2) (cst (.str "busy"))))
  (drp (mthM tbAppend (op2 ixA (vr 2) (cst (.str "told"))) (aCons (tupE (aCons (vr 7) (aCons (vr 4) (aCons tupV (aNil))))) (aNil)))))) (skp)
def sp10 : SM := asg (mtM "Asker" "hear" p_Asker_hear [] (vr 1) (aCons (vr 7) (aCons (vr 4) (aCons (vr 8) (aCons (vr 5) (aNil)))))) (toN 9)
def sp11 : SM := ifS (toB (op2 (isN not) (vr 8) (cst .non))) (drp (mthM tbAppend (vr 8) (aCons (cst (.int 99)) (aNil)))) (skp)
def sp12 : SM := rtn (op2 (eqX id) (callM (arg1 reprF) [] (aCons (vr 9) (aNil))) (callM (arg1 reprF) [] (aCons (vr 6) (aNil))))
theorem sp_eq : b_l_law_step = seq sp0 (seq sp1 (seq sp2 (seq sp3 (seq sp4 (seq sp5 (seq sp6 (seq sp7 (seq sp8 (seq sp9 (seq sp10 (seq sp11 (sp12)))))))))))) := rfl
theorem repr_bl (s : S) (b : Bool) : ∃ t, reprF (.bl b) s = .ok (.str t) s ∧ PyData.strOk t = true ∧ ∀ s' : S, reprF (.bl b) s' = .ok (.str t) s' := by
  cases b with
  | true => exact ⟨"True", by kernel_rfl, by decide +kernel, fun s' => by kernel_rfl⟩
  | false => exact ⟨"False", by kernel_rfl, by decide +kernel, fun s' => by kernel_rfl⟩
/-- an asker and its book -/
structure Both (s : S) (p m t b k r : Nat) (e : Kn) (bz : Option Int) (tl : List Tel) : Prop where
  a : AskAt s "who" p m t e bz tl
  bo : BkAt s b k (.ref r) e bz tl
  li : s[r]? = some (.lst (tl.map telD))
  nd : [p, m, t, b, k, r].Nodup
  w : WK e
  nk : ∀ y ∈ e, ∀ d ∈ y.2, nD d
  wt : ∀ t ∈ tl, t.2.1 ∈ W5
structure Ne6 (p m t b k r : Nat) : Prop where
  pm : p ≠ m
  pt : p ≠ t
  pb : p ≠ b
  pk : p ≠ k
  pr : p ≠ r
  mt : m ≠ t
  mb : m ≠ b
  mq : m ≠ k
  mr : m ≠ r
  tb : t ≠ b
  tk : t ≠ k
  tr : t ≠ r
  bk : b ≠ k
  br : b ≠ r
  kr : k ≠ r
theorem ne6 {p m t b k r : Nat} (h : [p, m, t, b, k, r].Nodup) : Ne6 p m t b k r := by
  simp only [List.nodup_cons, List.mem_cons, List.not_mem_nil, or_false, not_or] at h
  obtain ⟨⟨h1, h2, h3, h4, h5⟩, ⟨h6, h7, h8, h9⟩, ⟨h10, h11, h12⟩, ⟨h13, h14⟩, h15, _⟩ := h
  exact ⟨h1, h2, h3, h4, h5, h6, h7, h8, h9, h10, h11, h12, h13, h14, h15⟩
/-- what a turn makes of it -/
def Turn (e : Kn) (bz : Option Int) (tl : List Tel) (e' : Kn) (bz' : Option Int) (tl' : List Tel) : Prop := bz' ≠ bz ∨ (bz' = bz ∧ tl' = tl ∧ (e' = e ∨ ∃ x v, e' = pt e x v))
structure After (s s' : S) (P p m t b k r : Nat) (e : Kn) (bz : Option Int) (tl : List Tel) : Prop where
  ex : ∃ e' bz' tl', Both s' p m t b k r e' bz' tl' ∧ tl'.length ≤ tl.length + 1 ∧ Kp [P, p, m, t, b, k, r] s s' ∧ Turn e bz tl e' bz' tl'
section
variable {s : S} {P p m t b k r : Nat} {e : Kn} {bz : Option Int} {tl : List Tel} {x : Str}
theorem Both.wT (h : Both s p m t b k r e bz tl) (few : tl.length ≤ 100) : WT tl := ⟨h.wt, few⟩
theorem Both.app {u : S} (h : Both s p m t b k r e bz tl) : Both (s ++ u) p m t b k r e bz tl := ⟨h.a.app, h.bo.app, get_app h.li, h.nd, h.w, h.nk, h.wt⟩
theorem Both.keep {ex : List Nat} {u : S} (h : Both s p m t b k r e bz tl) (kp : Kp ex s u) (n : ∀ i ∈ [p, m, t, b, k, r], i ∉ ex) : Both u p m t b k r e bz tl :=
  ⟨⟨kp.keep _ _ (n p (by simp)) h.a.at_, kp.keep _ _ (n m (by simp)) h.a.dct, kp.keep _ _ (n t (by simp)) h.a.lst⟩, ⟨kp.keep _ _ (n b (by simp)) h.bo.at_, kp.keep _ _ (n k (by simp)) h.bo.dct, ⟨.inr ⟨r, rfl, kp.keep _ _ (n r (by simp)) h.li⟩⟩⟩, kp.keep _ _ (n r (by simp)) h.li, h.nd, h.w, h.nk, h.wt⟩
theorem nk_pt (h : Both s p m t b k r e bz tl) {kn : List Dot} (nk : ∀ d ∈ kn, nD d) : ∀ y ∈ pt e x (jn (gt e x) kn), ∀ d ∈ y.2, nD d := by
  intro y hy d hd
  rcases pt_mem hy with z | z
  · exact h.nk y z d hd
  · rw [z] at hd
    rcases jn_mem.mp hd with q | q
    · unfold gt at q
      cases hl : lk e x with
      | none => rw [hl] at q; cases q
      | some v => rw [hl] at q; exact h.nk _ (lk_some hl) d q
    · exact nk d q
theorem wk_pt (h : Both s p m t b k r e bz tl) (hx : x ∈ W5) {kn : List Dot} (hk : Kno kn) : WK (pt e x (jn (gt e x) kn)) := h.w.pt hx (jn_kno (h.w.gt x).ok hk.ok)
theorem set_at {s : S} {i : Nat} {o : Ob} {o' : Ob} (h : s[i]? = some o') : (s.set i o)[i]? = some o := List.getElem?_set_self (List.getElem?_eq_some_iff.mp h).1
theorem set_to {s : S} {i j : Nat} {o o' : Ob} (h : s[j]? = some o') (n : i ≠ j) : (s.set i o)[j]? = some o' := by rw [List.getElem?_set_ne n]; exact h
/-- both learn -/
theorem Both.learn {e' : Kn} (h : Both s p m t b k r e bz tl) (w : WK e') (nk : ∀ y ∈ e', ∀ d ∈ y.2, nD d) : Both ((s.set m (.dct false (kv e'))).set k (.dct false (kv e'))) p m t b k r e' bz tl := by
  have n := ne6 h.nd
  have hr := set_to (i := k) (o := .dct false (kv e')) (set_to (i := m) (o := .dct false (kv e')) h.li n.mr) n.kr
  refine ⟨⟨set_to (set_to h.a.at_ n.pm.symm) n.pk.symm, set_to (set_at h.a.dct) n.mq.symm, set_to (set_to h.a.lst n.mt) n.tk.symm⟩, ⟨set_to (set_to h.bo.at_ n.mb) n.bk.symm, set_at (set_to h.bo.dct n.mq), ⟨.inr ⟨r, rfl, hr⟩⟩⟩, hr, h.nd, w, nk, h.wt⟩
/-- both have another number -/
theorem Both.num (h : Both s p m t b k r e bz tl) (z : Option Int) : Both ((s.set b (.dct false (bks k (bzD z) (.ref r)))).set p (insA "who" m t (bzD z))) p m t b k r e z tl := by
  have n := ne6 h.nd
  have hr := set_to (i := p) (o := insA "who" m t (bzD z)) (set_to (i := b) (o := .dct false (bks k (bzD z) (.ref r))) h.li n.br) n.pr
  refine ⟨⟨set_at (set_to h.a.at_ n.pb.symm), set_to (set_to h.a.dct n.mb.symm) n.pm, set_to (set_to h.a.lst n.tb.symm) n.pt⟩, ⟨set_to (set_at h.bo.at_) n.pb, set_to (set_to h.bo.dct n.bk) n.pk, ⟨.inr ⟨r, rfl, hr⟩⟩⟩, hr, h.nd, h.w, h.nk, h.wt⟩
abbrev env3 (P p b : Nat) (d : Int) (x : Str) (kn : List Dot) (z6 z7 z8 z9 : Option Md.D) : Rs := [some (.ref P), some (.ref p), some (.ref b), some (.int d), some (.str x), some (dts kn), z6, z7, z8, z9]
variable {d : Int} {kn : List Dot} {z6 z7 z8 z9 : Option Md.D}
theorem isN_bz (f : Bool → Bool) (bz : Option Int) : isN f (bzD bz) .non s = .ok (.bl (f bz.isNone)) s := by cases bz <;> rfl
theorem cond2 : toB (op2 (ltD) (vr 3) (cst (.int 2))) (env3 P p b d x kn z6 z7 z8 z9) s = .ok (decide (d < 2)) s := rfl
theorem cond3 (h : BkAt s b k (.ref r) e bz tl) : andB (toB (op2 (ltD) (vr 3) (cst (.int 4)))) (toB (op2 (isN id) (op2 ixA (vr 2) (cst (.str "busy"))) (cst .non))) (env3 P p b d x kn z6 z7 z8 z9) s = .ok (decide (d < 4) && bz.isNone) s := by
  have b0 := bk_busy h (env := env3 P p b d x kn z6 z7 z8 z9) (i := 2) rfl
  have c : toB (op2 (ltD) (vr 3) (cst (.int 4))) (env3 P p b d x kn z6 z7 z8 z9) s = .ok (decide (d < 4)) s := rfl
  have q := isN_bz (s := s) id bz
  generalize op2 ixA (vr 2) (cst (.str "busy")) = B at *
  generalize isN id = N at *
  have c2 : toB (op2 N B (cst .non)) (env3 P p b d x kn z6 z7 z8 z9) s = .ok bz.isNone s := by
    simp [toB, op2, bnd, b0, cst, Md.ret, q]
  generalize toB (op2 N B (cst .non)) = T2 at *
  generalize toB (op2 (ltD) (vr 3) (cst (.int 4))) = T1 at *
  by_cases hd : d < 4
  · simp only [decide_eq_true hd] at c ⊢
    simp [andB, bnd, c, c2]
  · simp only [decide_eq_false hd] at c ⊢
    simp [andB, bnd, c, Md.ret]
theorem cond4 (h : BkAt s b k (.ref r) e bz tl) : andB (toB (op2 (eqX id) (vr 3) (cst (.int 4)))) (toB (op2 (isN not) (op2 ixA (vr 2) (cst (.str "busy"))) (cst .non))) (env3 P p b d x kn z6 z7 z8 z9) s = .ok (decide (d = 4) && !bz.isNone) s := by
  have b0 := bk_busy h (env := env3 P p b d x kn z6 z7 z8 z9) (i := 2) rfl
  have c : toB (op2 (eqX id) (vr 3) (cst (.int 4))) (env3 P p b d x kn z6 z7 z8 z9) s = .ok (decide (d = 4)) s := by
    have q := eqX_int (s := s) d 4 id
    generalize eqX id = Q at *
    simp [toB, op2, bnd, vr, cst, Md.ret, q]
  have q := isN_bz (s := s) not bz
  generalize op2 ixA (vr 2) (cst (.str "busy")) = B at *
  generalize isN not = N at *
  generalize eqX id = Q at *
  have c2 : toB (op2 N B (cst .non)) (env3 P p b d x kn z6 z7 z8 z9) s = .ok (!bz.isNone) s := by
    simp [toB, op2, bnd, b0, cst, Md.ret, q]
  generalize toB (op2 N B (cst .non)) = T2 at *
  generalize toB (op2 Q (vr 3) (cst (.int 4))) = T1 at *
  by_cases hd : d = 4
  · simp only [decide_eq_true hd] at c ⊢
    simp [andB, bnd, c, c2]
  · simp only [decide_eq_false hd] at c ⊢
    simp [andB, bnd, c, Md.ret]
/-! ### the first road: both learn -/
theorem sp2_no (hd : ¬ d < 2) : sp2 (env3 P p b d x kn z6 z7 z8 z9) s = .nx (env3 P p b d x kn z6 z7 z8 z9) s := by
  have c := cond2 (s := s) (P := P) (p := p) (b := b) (d := d) (x := x) (kn := kn) (z6 := z6) (z7 := z7) (z8 := z8) (z9 := z9)
  rw [decide_eq_false hd] at c
  unfold sp2
  generalize toB (op2 (ltD) (vr 3) (cst (.int 2))) = T at *
  simp [ifS, Md.thn, c, skp]
theorem sp2_yes (h : Both s p m t b k r e bz tl) (hd : d < 2) (hx : x ∈ W5) (hk : Kno kn) (nk : ∀ d ∈ kn, nD d) (few : kn.length ≤ 4) :
    ∃ s', sp2 (env3 P p b d x kn z6 z7 z8 z9) s = .rt (.bl true) s' ∧ After s s' P p m t b k r e bz tl := by
  have c := cond2 (s := s) (P := P) (p := p) (b := b) (d := d) (x := x) (kn := kn) (z6 := z6) (z7 := z7) (z8 := z8) (z9 := z9)
  rw [decide_eq_true hd] at c
  have n := ne6 h.nd
  have l1 := learn_ok h.a h.w (okW_5 x hx) hk
  have b1 : BkAt (s.set m (.dct false (kv (pt e x (jn (gt e x) kn))))) b k (.ref r) e bz tl := ⟨set_to h.bo.at_ n.mb, set_to h.bo.dct n.mq, ⟨.inr ⟨r, rfl, set_to h.li n.mr⟩⟩⟩
  have l2 := learnt_ok b1 h.w hx hk few
  have B := h.learn (wk_pt h hx hk) (nk_pt (x := x) h nk)
  have ap := h.a.at_
  refine ⟨_, ?_, ⟨_, bz, tl, B, by omega, (Kp.set (by simp)).trans (Kp.set (by simp)), .inr ⟨rfl, rfl, .inr ⟨x, _, rfl⟩⟩⟩⟩
  generalize pt e x (jn (gt e x) kn) = e' at *
  generalize (!decide (jn (gt e x) kn = gt e x)) = v at *
  obtain ⟨tx, r1, r2, r3⟩ := repr_bl (s.set m (.dct false (kv e'))) v
  have r4 := r3 ((s.set m (.dct false (kv e'))).set k (.dct false (kv e')))
  have q : eqX id (.str tx) (.str tx) ((s.set m (.dct false (kv e'))).set k (.dct false (kv e'))) = .ok (.bl true) ((s.set m (.dct false (kv e'))).set k (.dct false (kv e'))) := eqX_same id (toPy_str _ 19 r2) (toPy_str _ 19 r2)
  have m1 : mtM "Asker" "learn" p_Asker_learn [] (vr 1) (aCons (vr 4) (aCons (vr 5) (aNil))) (env3 P p b d x kn z6 z7 z8 z9) s = .ok (.bl v) (s.set m (.dct false (kv e'))) := by
    simp [ap, l1, lu_own, lu_kn, lu_uw, lu_te, ln_known, ln_learn, ln_begin, ln_busy, ln_leave, ln_hear, ln_tell, ln_words, ln_called, ln_twin, ln_state, ln_len, line0, line1, line2, line3, line4, line5, run, endS, seq, asg, drp, rtn, rtN, skp, badS, ifS, Md.thn, cst, Md.ret, Md.bad, tgS, toN, op2, vr, lstE, tupE, aNil, aCons, bnd, toB, andB, orB, notB, andV, orV, notV, callM, mtM, fldM, stF, insOf, get?, opt, arg1, finL, int2, gtI, geI, leI, addD, addI, modI, isiM, tyD, Ty.sub, isiO, isInsO, isN, nonD, ixA, ixD, ixL, ixT, atI, ixN, dctD, lstD, tupD, toSub, setA, keyD, toSeq, toCons, toNil, mthM, kdD, upK, lenA, lenD, lenL, lenKF]
  have m2 : callM p_l_law_learnt [] (aCons (vr 2) (aCons (vr 4) (aCons (vr 5) (aNil)))) (env3 P p b d x kn z6 z7 z8 z9) (s.set m (.dct false (kv e'))) = .ok (.bl v) ((s.set m (.dct false (kv e'))).set k (.dct false (kv e'))) := by
    simp [callM, bnd, aCons, aNil, vr, Md.ret, l2]
  unfold sp2
  generalize toB (op2 (ltD) (vr 3) (cst (.int 2))) = T at *
  generalize mtM "Asker" "learn" p_Asker_learn [] (vr 1) (aCons (vr 4) (aCons (vr 5) (aNil))) = A at *
  generalize callM p_l_law_learnt [] (aCons (vr 2) (aCons (vr 4) (aCons (vr 5) (aNil)))) = C at *
  generalize reprF = R at *
  generalize eqX id = Q at *
  have f1 : callM (arg1 R) [] (aCons A (aNil)) (env3 P p b d x kn z6 z7 z8 z9) s = .ok (.str tx) (s.set m (.dct false (kv e'))) := by
    simp only [callM, bnd, aCons, aNil, m1, Md.ret, List.append_nil, arg1, r1]
  have f2 : callM (arg1 R) [] (aCons C (aNil)) (env3 P p b d x kn z6 z7 z8 z9) (s.set m (.dct false (kv e'))) = .ok (.str tx) ((s.set m (.dct false (kv e'))).set k (.dct false (kv e'))) := by
    simp only [callM, bnd, aCons, aNil, m2, Md.ret, List.append_nil, arg1, r4]
  simp only [ifS, Md.thn, c, if_true, rtn, op2, bnd, f1, f2, q]
/-! ### the second road: an ask begins -/
theorem sp3_no (h : BkAt s b k (.ref r) e bz tl) (hd : ¬ (d < 4 ∧ bz = none)) : sp3 (env3 P p b d x kn z6 z7 z8 z9) s = .nx (env3 P p b d x kn z6 z7 z8 z9) s := by
  have c := cond3 h (P := P) (p := p) (d := d) (x := x) (kn := kn) (z6 := z6) (z7 := z7) (z8 := z8) (z9 := z9)
  have z : (decide (d < 4) && bz.isNone) = false := by
    by_cases q : d < 4
    · have : bz ≠ none := fun z => hd ⟨q, z⟩
      cases bz with
      | none => exact absurd rfl this
      | some i => simp
    · simp [q]
  rw [z] at c
  unfold sp3
  generalize andB (toB (op2 (ltD) (vr 3) (cst (.int 4)))) (toB (op2 (isN id) (op2 ixA (vr 2) (cst (.str "busy"))) (cst .non))) = T at *
  simp [ifS, Md.thn, c, skp]
theorem set_busy (h : s[b]? = some (.dct false (bks k (bzD bz) (.ref r)))) (z : Md.D) : setA (.ref b) (.str "busy") z s = .ok () (s.set b (.dct false (bks k z (.ref r)))) := by
  unfold setA
  simp only [h]
  show (if 3 < sizeLine then Md.Res.ok () (s.set b (.dct false (putD (bks k (bzD bz) (.ref r)) (.str "busy") (.inr "busy") z))) else .bad) = _
  rw [if_pos (by decide), bk_put]
theorem sp3_yes (h : Both s p m t b k r e none tl) (hp : Pool s P) (hP : P ∉ [p, m, t, b, k, r]) (hd : d < 4) :
    ∃ s', sp3 (env3 P p b d x kn z6 z7 z8 z9) s = .rt (.bl true) s' ∧ After s s' P p m t b k r e none tl := by
  have c := cond3 h.bo (P := P) (p := p) (d := d) (x := x) (kn := kn) (z6 := z6) (z7 := z7) (z8 := z8) (z9 := z9)
  rw [decide_eq_true hd] at c
  have n := ne6 h.nd
  obtain ⟨s1, i, t1, a1, b1, p1, k1⟩ := take_p hp (m := 9) (by decide) (by decide)
  have h1 : Both s1 p m t b k r e none tl := h.keep k1 fun i hi z => hP (by rw [List.mem_singleton.mp z] at hi; exact hi)
  have B := h1.num (some i)
  have sb := set_busy h1.bo.at_ (.int i)
  have a2 : AskAt (s1.set b (.dct false (bks k (.int i) (.ref r)))) "who" p m t e none tl := ⟨set_to h1.a.at_ n.pb.symm, set_to h1.a.dct n.mb.symm, set_to h1.a.lst n.tb.symm⟩
  have bg := begin_ok a2 i
  have bb : BkAt (s1.set b (.dct false (bks k (.int i) (.ref r)))) b k (.ref r) e (some i) tl := ⟨set_at h1.bo.at_, set_to h1.bo.dct n.bk, ⟨.inr ⟨r, rfl, set_to h1.li n.br⟩⟩⟩
  have b3 := bk_busy bb (env := env3 P p b d x kn z6 z7 z8 z9) (i := 2) rfl
  have ap := a2.at_
  refine ⟨_, ?_, ⟨e, some i, tl, B, by omega, ((k1.mono (by simp)).trans (Kp.set (by simp))).trans (Kp.set (by simp)), .inl (by simp)⟩⟩
  have ct := call_take (env := env3 P p b d x kn z6 z7 z8 z9) (j := 0) rfl t1
  have m1 : mtM "Asker" "begin" p_Asker_begin [] (vr 1) (aCons (op2 ixA (vr 2) (cst (.str "busy"))) (aNil)) (env3 P p b d x kn z6 z7 z8 z9) (s1.set b (.dct false (bks k (.int i) (.ref r)))) = .ok .non ((s1.set b (.dct false (bks k (.int i) (.ref r)))).set p (insA "who" m t (.int i))) := by
    generalize op2 ixA (vr 2) (cst (.str "busy")) = B0 at *
    have b3' : B0 (env3 P p b d x kn z6 z7 z8 z9) (s1.set b (.dct false (bks k (.int i) (.ref r)))) = .ok (.int i) (s1.set b (.dct false (bks k (.int i) (.ref r)))) := b3
    generalize s1.set b (.dct false (bks k (.int i) (.ref r))) = s2 at *
    simp [ap, b3', bg, lu_own, lu_kn, lu_uw, lu_te, ln_known, ln_learn, ln_begin, ln_busy, ln_leave, ln_hear, ln_tell, ln_words, ln_called, ln_twin, ln_state, ln_len, line0, line1, line2, line3, line4, line5, run, endS, seq, asg, drp, rtn, rtN, skp, badS, ifS, Md.thn, cst, Md.ret, Md.bad, tgS, toN, op2, vr, lstE, tupE, aNil, aCons, bnd, toB, andB, orB, notB, andV, orV, notV, callM, mtM, fldM, stF, insOf, get?, opt, arg1, finL, int2, gtI, geI, leI, addD, addI, modI, isiM, tyD, Ty.sub, isiO, isInsO, isN, nonD, ixA, ixD, ixL, ixT, atI, ixN, dctD, lstD, tupD, toSub, setA, keyD, toSeq, toCons, toNil, mthM, kdD, upK, lenA, lenD, lenL, lenKF]
  unfold sp3
  generalize andB (toB (op2 (ltD) (vr 3) (cst (.int 4)))) (toB (op2 (isN id) (op2 ixA (vr 2) (cst (.str "busy"))) (cst .non))) = T at *
  generalize mtM "Asker" "begin" p_Asker_begin [] (vr 1) (aCons (op2 ixA (vr 2) (cst (.str "busy"))) (aNil)) = A at *
  generalize callM p_l_law_take [] (aCons (vr 0) (aCons (cst (.int 9)) (aNil))) = C at *
  have as : asg C (toSub (vr 2) (cst (.str "busy"))) (env3 P p b d x kn z6 z7 z8 z9) s = .nx (env3 P p b d x kn z6 z7 z8 z9) (s1.set b (.dct false (bks k (.int i) (.ref r)))) := by
    simp [asg, Md.thn, ct, tgS, toSub, bnd, vr, cst, Md.ret, sb]
  have rt : rtn (op2 (isN id) A (cst .non)) (env3 P p b d x kn z6 z7 z8 z9) (s1.set b (.dct false (bks k (.int i) (.ref r)))) = .rt (.bl true) ((s1.set b (.dct false (bks k (.int i) (.ref r)))).set p (insA "who" m t (.int i))) := by
    simp only [rtn, Md.thn, op2, bnd, m1, cst, Md.ret]
    rfl
  have bzn : bzD (some i) = .int i := rfl
  rw [bzn]
  simp only [ifS, Md.thn, c, Option.isNone_none, Bool.and_true, if_true, seq, as, rt]
/-! ### the third road: it leaves off -/
theorem sp4_no (h : BkAt s b k (.ref r) e bz tl) (hd : ¬ (d = 4 ∧ bz ≠ none)) : sp4 (env3 P p b d x kn z6 z7 z8 z9) s = .nx (env3 P p b d x kn z6 z7 z8 z9) s := by
  have c := cond4 h (P := P) (p := p) (d := d) (x := x) (kn := kn) (z6 := z6) (z7 := z7) (z8 := z8) (z9 := z9)
  have z : (decide (d = 4) && !bz.isNone) = false := by
    by_cases q : d = 4
    · have : bz = none := Classical.byContradiction fun z => hd ⟨q, z⟩
      rw [this]
      simp
    · simp [q]
  rw [z] at c
  unfold sp4
  generalize andB (toB (op2 (eqX id) (vr 3) (cst (.int 4)))) (toB (op2 (isN not) (op2 ixA (vr 2) (cst (.str "busy"))) (cst .non))) = T at *
  simp [ifS, Md.thn, c, skp]
theorem sp4_yes {i : Int} (h : Both s p m t b k r e (some i) tl) :
    ∃ s', sp4 (env3 P p b 4 x kn z6 z7 z8 z9) s = .rt (.bl true) s' ∧ After s s' P p m t b k r e (some i) tl := by
  have c := cond4 h.bo (P := P) (p := p) (d := 4) (x := x) (kn := kn) (z6 := z6) (z7 := z7) (z8 := z8) (z9 := z9)
  have n := ne6 h.nd
  have B := h.num none
  have sb := set_busy h.bo.at_ .non
  have a2 : AskAt (s.set b (.dct false (bks k .non (.ref r)))) "who" p m t e (some i) tl := ⟨set_to h.a.at_ n.pb.symm, set_to h.a.dct n.mb.symm, set_to h.a.lst n.tb.symm⟩
  have lo := leave_ok a2
  have b3 := bk_busy h.bo (env := env3 P p b 4 x kn z6 z7 z8 z9) (i := 2) rfl
  have ap := a2.at_
  refine ⟨_, ?_, ⟨e, none, tl, B, by omega, (Kp.set (by simp)).trans (Kp.set (by simp)), .inl (by simp)⟩⟩
  have bzn : bzD none = .non := rfl
  rw [bzn]
  have b3' : op2 ixA (vr 2) (cst (.str "busy")) (env3 P p b 4 x kn z6 z7 z8 z9) s = .ok (.int i) s := b3
  have q : ∀ s2 : S, eqX id (.int i) (.int i) s2 = .ok (.bl true) s2 := fun s2 => by rw [eqX_int]; simp
  unfold sp4
  generalize andB (toB (op2 (eqX id) (vr 3) (cst (.int 4)))) (toB (op2 (isN not) (op2 ixA (vr 2) (cst (.str "busy"))) (cst .non))) = T at *
  generalize op2 ixA (vr 2) (cst (.str "busy")) = B0 at *
  have as : asg B0 (toN 6) (env3 P p b 4 x kn z6 z7 z8 z9) s = .nx (env3 P p b 4 x kn (some (.int i)) z7 z8 z9) s := by
    simp [asg, Md.thn, b3', tgS, toN, Md.ret]
  have as2 : asg (cst .non) (toSub (vr 2) (cst (.str "busy"))) (env3 P p b 4 x kn (some (.int i)) z7 z8 z9) s = .nx (env3 P p b 4 x kn (some (.int i)) z7 z8 z9) (s.set b (.dct false (bks k .non (.ref r)))) := by
    simp [asg, Md.thn, tgS, toSub, bnd, vr, cst, Md.ret, sb]
  have m1 : mtM "Asker" "leave_off" p_Asker_leave_off [] (vr 1) aNil (env3 P p b 4 x kn (some (.int i)) z7 z8 z9) (s.set b (.dct false (bks k .non (.ref r)))) = .ok (.int i) ((s.set b (.dct false (bks k .non (.ref r)))).set p (insA "who" m t .non)) := by
    generalize s.set b (.dct false (bks k .non (.ref r))) = s2 at *
    simp [ap, lo, lu_own, lu_kn, lu_uw, lu_te, ln_known, ln_learn, ln_begin, ln_busy, ln_leave, ln_hear, ln_tell, ln_words, ln_called, ln_twin, ln_state, ln_len, line0, line1, line2, line3, line4, line5, run, endS, seq, asg, drp, rtn, rtN, skp, badS, ifS, Md.thn, cst, Md.ret, Md.bad, tgS, toN, op2, vr, lstE, tupE, aNil, aCons, bnd, toB, andB, orB, notB, andV, orV, notV, callM, mtM, fldM, stF, insOf, get?, opt, arg1, finL, int2, gtI, geI, leI, addD, addI, modI, isiM, tyD, Ty.sub, isiO, isInsO, isN, nonD, ixA, ixD, ixL, ixT, atI, ixN, dctD, lstD, tupD, toSub, setA, keyD, toSeq, toCons, toNil, mthM, kdD, upK, lenA, lenD, lenL, lenKF]
  have q2 := q ((s.set b (.dct false (bks k .non (.ref r)))).set p (insA "who" m t .non))
  generalize mtM "Asker" "leave_off" p_Asker_leave_off [] (vr 1) aNil = A at *
  generalize eqX id = Q at *
  have rt : rtn (op2 Q A (vr 6)) (env3 P p b 4 x kn (some (.int i)) z7 z8 z9) (s.set b (.dct false (bks k .non (.ref r)))) = .rt (.bl true) ((s.set b (.dct false (bks k .non (.ref r)))).set p (insA "who" m t .non)) := by
    simp [rtn, Md.thn, op2, bnd, m1, vr, Md.ret, q2]
  simp only [ifS, Md.thn, c, Option.isNone_some, Bool.not_false, decide_true, Bool.and_true, if_true, seq, as, as2, rt]
end
end K51
end Md

set_option Elab.async false
set_option linter.all false
set_option maxRecDepth 1000000
set_option maxHeartbeats 4000000
namespace Md
namespace K51
--L lu_own, lu_kn, lu_uw, lu_te, ln_known, ln_learn, ln_begin, ln_busy, ln_leave, ln_hear, ln_tell, ln_words, ln_called, ln_twin, ln_state, ln_len, line0, line1, line2, line3, line4, line5,
open PySem PySem.Spec PyProof.Rows L2
section
variable {s : S} {P p m t b k r : Nat} {e : Kn} {bz : Option Int} {tl : List Tel} {x : Str} {d : Int} {kn : List Dot} {z6 z7 z8 z9 : Option Md.D}
/-! ### the fourth road: an answer -/
theorem sp5_ok (hp : Pool s P) : ∃ s' i, sp5 (env3 P p b d x kn z6 z7 z8 z9) s = .nx (env3 P p b d x kn z6 (some (.int i)) z8 z9) s' ∧ Pool s' P ∧ Kp [P] s s' := by
  obtain ⟨s1, i, t1, a1, b1, p1, k1⟩ := take_p hp (m := 9) (by decide) (by decide)
  have ct := call_take (env := env3 P p b d x kn z6 z7 z8 z9) (j := 0) rfl t1
  refine ⟨s1, i, ?_, p1, k1⟩
  unfold sp5 asg Md.thn
  rw [ct]
  rfl
theorem sp6_ok (hp : Pool s P) (h : BkAt s b k (.ref r) e bz tl) (nb : P ≠ b) (nk : P ≠ k) (nr : P ≠ r) (hr : s[r]? = some (.lst (tl.map telD))) {i : Int} : ∃ s' j, sp6 (env3 P p b d x kn z6 (some (.int i)) z8 z9) s = .nx (env3 P p b d x kn z6 (some (.int j)) z8 z9) s' ∧ Pool s' P ∧ Kp [P] s s' := by
  have b0 := bk_busy h (env := env3 P p b d x kn z6 (some (.int i)) z8 z9) (i := 2) rfl
  have q := isN_bz (s := s) not bz
  cases bz with
  | none =>
    refine ⟨s, i, ?_, hp, Kp.refl⟩
    have c1 : toB (op2 (isN not) (op2 ixA (vr 2) (cst (.str "busy"))) (cst .non)) (env3 P p b d x kn z6 (some (.int i)) z8 z9) s = .ok false s := by
      generalize op2 ixA (vr 2) (cst (.str "busy")) = B at *
      generalize isN not = N at *
      simp [toB, op2, bnd, b0, cst, Md.ret, q]
    unfold sp6
    generalize toB (op2 (isN not) (op2 ixA (vr 2) (cst (.str "busy"))) (cst .non)) = T at *
    simp [ifS, Md.thn, andB, bnd, c1, Md.ret, skp]
  | some j =>
    obtain ⟨s1, y, t1, a1, b1, p1, k1⟩ := take_p hp (m := 3) (by decide) (by decide)
    have c1 : toB (op2 (isN not) (op2 ixA (vr 2) (cst (.str "busy"))) (cst .non)) (env3 P p b d x kn z6 (some (.int i)) z8 z9) s = .ok true s := by
      generalize op2 ixA (vr 2) (cst (.str "busy")) = B at *
      generalize isN not = N at *
      simp [toB, op2, bnd, b0, cst, Md.ret, q]
    have ct := call_take (env := env3 P p b d x kn z6 (some (.int i)) z8 z9) (j := 0) rfl t1
    have c2 : toB (op2 (gtI) (callM p_l_law_take [] (aCons (vr 0) (aCons (cst (.int 3)) (aNil)))) (cst (.int 0))) (env3 P p b d x kn z6 (some (.int i)) z8 z9) s = .ok (decide (0 < y)) s1 := by
      generalize callM p_l_law_take [] (aCons (vr 0) (aCons (cst (.int 3)) (aNil))) = C at *
      simp [toB, op2, bnd, ct, cst, Md.ret, gtI, int2, opt]
    have h1 : BkAt s1 b k (.ref r) e (some j) tl := ⟨k1.at h.at_ nb.symm, k1.at h.dct nk.symm, ⟨.inr ⟨r, rfl, k1.at hr nr.symm⟩⟩⟩
    have b3 := bk_busy h1 (env := env3 P p b d x kn z6 (some (.int i)) z8 z9) (i := 2) rfl
    have b3' : op2 ixA (vr 2) (cst (.str "busy")) (env3 P p b d x kn z6 (some (.int i)) z8 z9) s1 = .ok (.int j) s1 := b3
    by_cases hy : 0 < y
    · rw [decide_eq_true hy] at c2
      refine ⟨s1, j, ?_, p1, k1⟩
      unfold sp6
      generalize toB (op2 (isN not) (op2 ixA (vr 2) (cst (.str "busy"))) (cst .non)) = T at *
      generalize toB (op2 (gtI) (callM p_l_law_take [] (aCons (vr 0) (aCons (cst (.int 3)) (aNil)))) (cst (.int 0))) = T2 at *
      generalize op2 ixA (vr 2) (cst (.str "busy")) = B at *
      simp [ifS, Md.thn, andB, bnd, c1, c2, asg, b3', tgS, toN, Md.ret]
    · rw [decide_eq_false hy] at c2
      refine ⟨s1, i, ?_, p1, k1⟩
      unfold sp6
      generalize toB (op2 (isN not) (op2 ixA (vr 2) (cst (.str "busy"))) (cst .non)) = T at *
      generalize toB (op2 (gtI) (callM p_l_law_take [] (aCons (vr 0) (aCons (cst (.int 3)) (aNil)))) (cst (.int 0))) = T2 at *
      simp [ifS, Md.thn, andB, bnd, c1, c2, skp]
structure WorF (s : S) (n : Nat) (X : List Nat) (wd : Md.D) (ws : Option (List Int)) : Prop where
  ex : (wd = .non ∧ ws = none) ∨ ∃ r l, wd = .ref r ∧ ws = some l ∧ s[r]? = some (.lst (l.map .int)) ∧ r ∉ X ∧ l.length ≤ 2 ∧ n ≤ r
theorem WorF.wor {n : Nat} {X : List Nat} {wd : Md.D} {ws : Option (List Int)} (h : WorF s n X wd ws) : Wor s wd ws := by
  rcases h.ex with z | ⟨r, l, e1, e2, e3, _⟩
  · exact ⟨.inl z⟩
  · exact ⟨.inr ⟨r, l, e1, e2, e3⟩⟩
theorem WorF.keep {n : Nat} {X : List Nat} {wd : Md.D} {ws : Option (List Int)} {u : S} (h : WorF s n X wd ws) (kp : Kp X s u) : WorF u n X wd ws := by
  rcases h.ex with z | ⟨r, l, e1, e2, e3, e4⟩
  · exact ⟨.inl z⟩
  · exact ⟨.inr ⟨r, l, e1, e2, kp.keep _ _ e4.1 e3, e4⟩⟩
def wsE : Rs → Md.M Md.D := lstE finL (aCons (cst .non) (aCons (lstE finM (aNil)) (aCons (lstE finM (aCons (callM p_l_law_take [] (aCons (vr 0) (aCons (cst (.int 9)) (aNil)))) (aNil))) (aCons (lstE finM (aCons (cst (.int 1)) (aCons (callM p_l_law_take [] (aCons (vr 0) (aCons (cst (.int 9)) (aNil)))) (aNil)))) (aNil)))))
theorem ix4 (s : S) (a b c : Md.D) {d : Int} (h0 : 0 ≤ d) (h1 : d < 4) : ∃ y, ixA (.lst [.non, a, b, c]) (.int d) s = .ok y s ∧ (y = .non ∨ y = a ∨ y = b ∨ y = c) := by
  have : d = 0 ∨ d = 1 ∨ d = 2 ∨ d = 3 := by omega
  rcases this with e | e | e | e <;> subst e
  · exact ⟨.non, by kernel_rfl, .inl rfl⟩
  · exact ⟨a, by kernel_rfl, .inr (.inl rfl)⟩
  · exact ⟨b, by kernel_rfl, .inr (.inr (.inl rfl))⟩
  · exact ⟨c, by kernel_rfl, .inr (.inr (.inr rfl))⟩
theorem sp7_ok (hp : Pool s P) {X : List Nat} (hX : ∀ i ∈ X, i < s.length) (hPX : P ∈ X) : ∃ s' wd ws, sp7 (env3 P p b d x kn z6 z7 z8 z9) s = .nx (env3 P p b d x kn z6 z7 (some wd) z9) s' ∧ WorF s' s.length X wd ws ∧ Pool s' P ∧ Kp [P] s s' := by
  have p0 : Pool (s ++ [.lst []]) P := hp.app
  obtain ⟨s1, d1, t1, a1, b1, p1, k1⟩ := take_p p0 (m := 9) (by decide) (by decide)
  have p1' : Pool (s1 ++ [.lst [.int d1]]) P := p1.app
  obtain ⟨s2, d2, t2, a2, b2, p2, k2⟩ := take_p p1' (m := 9) (by decide) (by decide)
  have p2' : Pool (s2 ++ [.lst [.int 1, .int d2]]) P := p2.app
  obtain ⟨s3, d3, t3, a3, b3, p3, k3⟩ := take_p p2' (m := 4) (by decide) (by decide)
  have n1 : s.length < s1.length := by have := k1.len; simp at this; omega
  have n2 : s1.length < s2.length := by have := k2.len; simp at this; omega
  have lP := hp.lt
  have g0 : s3[s.length]? = some (.lst []) := k3.at (get_app (k2.at (get_app (k1.at (by simp) (by omega))) (by omega))) (by omega)
  have g1 : s3[s1.length]? = some (.lst [.int d1]) := k3.at (get_app (k2.at (by simp) (by omega))) (by omega)
  have g2 : s3[s2.length]? = some (.lst [.int 1, .int d2]) := k3.at (by simp) (by omega)
  obtain ⟨y, i1, hy⟩ := ix4 s3 (.ref s.length) (.ref s1.length) (.ref s2.length) a3 b3
  have fr : ∀ i, s.length ≤ i → i ∉ X := fun i hi z => by have := hX i z; omega
  have kp : Kp [P] s s3 := ((((Kp.app.trans k1).trans Kp.app).trans k2).trans Kp.app).trans k3
  have w : ∃ ws, WorF s3 s.length X y ws := by
    rcases hy with e | e | e | e <;> subst e
    · exact ⟨none, ⟨.inl ⟨rfl, rfl⟩⟩⟩
    · exact ⟨some [], ⟨.inr ⟨_, _, rfl, rfl, g0, fr _ (by omega), by simp, by omega⟩⟩⟩
    · exact ⟨some [d1], ⟨.inr ⟨_, _, rfl, rfl, g1, fr _ (by omega), by simp, by omega⟩⟩⟩
    · exact ⟨some [1, d2], ⟨.inr ⟨_, _, rfl, rfl, g2, fr _ (by omega), by simp, by omega⟩⟩⟩
  obtain ⟨ws, w⟩ := w
  refine ⟨s3, y, ws, ?_, w, p3, kp⟩
  have c1 := call_take (env := env3 P p b d x kn z6 z7 z8 z9) (j := 0) rfl t1
  have c2 := call_take (env := env3 P p b d x kn z6 z7 z8 z9) (j := 0) rfl t2
  have c3 := call_take (env := env3 P p b d x kn z6 z7 z8 z9) (j := 0) rfl t3
  have we : wsE (env3 P p b d x kn z6 z7 z8 z9) s = .ok (.lst [.non, .ref s.length, .ref s1.length, .ref s2.length]) (s2 ++ [.lst [.int 1, .int d2]]) := by
    unfold wsE
    generalize callM p_l_law_take [] (aCons (vr 0) (aCons (cst (.int 9)) (aNil))) = C at *
    simp [lstE, aCons, aNil, bnd, cst, Md.ret, finM, new, line0, line1, line2, line4, c1, c2, finL]
  have body : sp7 = asg (op2 ixA wsE (callM p_l_law_take [] (aCons (vr 0) (aCons (cst (.int 4)) (aNil))))) (toN 8) := rfl
  rw [body]
  generalize wsE = W at *
  generalize callM p_l_law_take [] (aCons (vr 0) (aCons (cst (.int 4)) (aNil))) = C at *
  generalize ixA = I at *
  simp [asg, Md.thn, op2, bnd, we, c3, i1, tgS, toN, Md.ret]
theorem sp8_ok (h : BkAt s b k (.ref r) e bz tl) {i : Int} : sp8 (env3 P p b d x kn z6 (some (.int i)) z8 z9) s = .nx (env3 P p b d x kn (some (.bl (decide (bz = some i)))) (some (.int i)) z8 z9) s := by
  have b0 := bk_busy h (env := env3 P p b d x kn z6 (some (.int i)) z8 z9) (i := 2) rfl
  have q : eqX id (bzD bz) (.int i) s = .ok (.bl (decide (bz = some i))) s := by
    cases bz with
    | none => rfl
    | some j =>
      show eqX id (.int j) (.int i) s = _
      rw [eqX_int]
      simp
  unfold sp8
  generalize op2 ixA (vr 2) (cst (.str "busy")) = B at *
  generalize eqX id = Q at *
  simp [asg, Md.thn, op2, bnd, b0, vr, Md.ret, q, tgS, toN]
theorem sp9_no : sp9 (env3 P p b d x kn (some (.bl false)) z7 z8 z9) s = .nx (env3 P p b d x kn (some (.bl false)) z7 z8 z9) s := by
  simp [sp9, ifS, Md.thn, toB, vr, bnd, Md.ret, skp]
theorem sp9_yes {i : Int} (h : Both s p m t b k r e (some i) tl) (hx : x ∈ W5) (hk : Kno kn) (few : kn.length ≤ 4) (ft : tl.length ≤ 100) {wd : Md.D} {ws : Option (List Int)} {n0 : Nat} (hw : WorF s n0 [P, p, m, t, b, k, r] wd ws) :
    sp9 (env3 P p b d x kn (some (.bl true)) (some (.int i)) (some wd) z9) s = .nx (env3 P p b d x kn (some (.bl true)) (some (.int i)) (some wd) z9) (((s.set k (.dct false (kv (pt e x (jn (gt e x) kn))))).set b (.dct false (bks k .non (.ref r)))).set r (.lst ((tl ++ [(i, x, ws)]).map telD))) := by
  have n := ne6 h.nd
  have l2 := learnt_ok h.bo h.w hx hk few
  generalize hE : pt e x (jn (gt e x) kn) = e' at *
  generalize (!decide (jn (gt e x) kn = gt e x)) = v at *
  have b1 : (s.set k (.dct false (kv e')))[b]? = some (.dct false (bks k (bzD (some i)) (.ref r))) := set_to h.bo.at_ n.bk.symm
  have sb := set_busy b1 .non
  have h2 : BkAt ((s.set k (.dct false (kv e'))).set b (.dct false (bks k .non (.ref r)))) b k (.ref r) e' none tl := ⟨set_at b1, set_to (set_at h.bo.dct) n.bk, ⟨.inr ⟨r, rfl, set_to (set_to h.li n.kr) n.br⟩⟩⟩
  have hl : ((s.set k (.dct false (kv e'))).set b (.dct false (bks k .non (.ref r))))[r]? = some (.lst (tl.map telD)) := set_to (set_to h.li n.kr) n.br
  have bt := bk_told h2 (env := env3 P p b d x kn (some (.bl true)) (some (.int i)) (some wd) z9) (i := 2) rfl
  have hw2 : WorF ((s.set k (.dct false (kv e'))).set b (.dct false (bks k .non (.ref r)))) n0 [P, p, m, t, b, k, r] wd ws := hw.keep ((Kp.set (by simp)).trans (Kp.set (by simp)))
  have l1 : (tl.map telD).length < sizeLine := by rw [List.length_map]; exact sl_of _ (by omega)
  have ap : appG (.ref r) [telD (i, x, ws)] ((s.set k (.dct false (kv e'))).set b (.dct false (bks k .non (.ref r)))) = .ok .non (((s.set k (.dct false (kv e'))).set b (.dct false (bks k .non (.ref r)))).set r (.lst ((tl ++ [(i, x, ws)]).map telD))) := by
    rw [List.map_append, List.map_cons, List.map_nil]
    generalize tl.map telD = tt at *
    simp [appG, upL, appF, hl, l1]
  have kd : kdD ((s.set k (.dct false (kv e'))).set b (.dct false (bks k .non (.ref r)))) (.ref r) = some .lst := by simp [kdD, hl]
  have tv : tupV (env3 P p b d x kn (some (.bl true)) (some (.int i)) (some wd) z9) ((s.set k (.dct false (kv e'))).set b (.dct false (bks k .non (.ref r)))) = .ok (wsD ws) ((s.set k (.dct false (kv e'))).set b (.dct false (bks k .non (.ref r)))) := by
    rcases hw2.wor.ex with ⟨rfl, rfl⟩ | ⟨q, l, rfl, rfl, hq⟩
    · simp [tupV, ifV, run, endS, seq, asg, drp, rtn, rtN, skp, badS, ifS, Md.thn, cst, Md.ret, Md.bad, tgS, toN, op2, vr, lstE, tupE, aNil, aCons, bnd, toB, andB, orB, notB, andV, orV, notV, callM, mtM, fldM, stF, insOf, get?, opt, arg1, finL, int2, gtI, geI, leI, addD, addI, modI, isiM, tyD, Ty.sub, isiO, isInsO, isN, nonD, ixA, ixD, ixL, ixT, atI, ixN, dctD, lstD, tupD, toSub, setA, keyD, toSeq, toCons, toNil, mthM, kdD, upK, lenA, lenD, lenL, lenKF, wsD]
    · simp [tupV, ifV, hq, tupF, seqD, wsD, run, endS, seq, asg, drp, rtn, rtN, skp, badS, ifS, Md.thn, cst, Md.ret, Md.bad, tgS, toN, op2, vr, lstE, tupE, aNil, aCons, bnd, toB, andB, orB, notB, andV, orV, notV, callM, mtM, fldM, stF, insOf, get?, opt, arg1, finL, int2, gtI, geI, leI, addD, addI, modI, isiM, tyD, Ty.sub, isiO, isInsO, isN, nonD, ixA, ixD, ixL, ixT, atI, ixN, dctD, lstD, tupD, toSub, setA, keyD, toSeq, toCons, toNil, mthM, kdD, upK, lenA, lenD, lenL, lenKF]
  have cl : callM p_l_law_learnt [] (aCons (vr 2) (aCons (vr 4) (aCons (vr 5) (aNil)))) (env3 P p b d x kn (some (.bl true)) (some (.int i)) (some wd) z9) s = .ok (.bl v) (s.set k (.dct false (kv e'))) := by
    simp [callM, bnd, aCons, aNil, vr, Md.ret, l2]
  have as2 : asg (cst .non) (toSub (vr 2) (cst (.str "busy"))) (env3 P p b d x kn (some (.bl true)) (some (.int i)) (some wd) z9) (s.set k (.dct false (kv e'))) = .nx (env3 P p b d x kn (some (.bl true)) (some (.int i)) (some wd) z9) ((s.set k (.dct false (kv e'))).set b (.dct false (bks k .non (.ref r)))) := by
    simp [asg, Md.thn, tgS, toSub, bnd, vr, cst, Md.ret, sb]
  have hd : telD (i, x, ws) = .tup [.int i, .str x, wsD ws] := rfl
  rw [hd] at ap
  generalize (s.set k (Ob.dct false (kv e'))).set b (Ob.dct false (bks k .non (.ref r))) = s2 at *
  have dr : drp (mthM tbAppend (op2 ixA (vr 2) (cst (.str "told"))) (aCons (tupE (aCons (vr 7) (aCons (vr 4) (aCons tupV (aNil))))) (aNil))) (env3 P p b d x kn (some (.bl true)) (some (.int i)) (some wd) z9) s2 = .nx (env3 P p b d x kn (some (.bl true)) (some (.int i)) (some wd) z9) (s2.set r (.lst ((tl ++ [(i, x, ws)]).map telD))) := by
    generalize op2 ixA (vr 2) (cst (.str "told")) = B at *
    generalize tupV = T at *
    generalize (tl ++ [(i, x, ws)]).map telD = tt at *
    simp [drp, mthM, bnd, bt, kd, tbAppend, aCons, aNil, tupE, vr, Md.ret, tv, line3, ap, Md.thn, skp]
  unfold sp9
  generalize callM p_l_law_learnt [] (aCons (vr 2) (aCons (vr 4) (aCons (vr 5) (aNil)))) = C at *
  generalize asg (cst .non) (toSub (vr 2) (cst (.str "busy"))) = A at *
  generalize drp (mthM tbAppend (op2 ixA (vr 2) (cst (.str "told"))) (aCons (tupE (aCons (vr 7) (aCons (vr 4) (aCons tupV (aNil))))) (aNil))) = D at *
  have c0 : drp C (env3 P p b d x kn (some (.bl true)) (some (.int i)) (some wd) z9) s = .nx (env3 P p b d x kn (some (.bl true)) (some (.int i)) (some wd) z9) (s.set k (.dct false (kv e'))) := by
    simp [drp, Md.thn, cl, skp]
  have tb : toB (vr 6) (env3 P p b d x kn (some (.bl true)) (some (.int i)) (some wd) z9) s = .ok true s := rfl
  simp only [ifS, Md.thn, tb, if_true, seq, c0, as2, dr]
theorem sp11_ok {n : Nat} {X : List Nat} {wd : Md.D} {ws : Option (List Int)} (hw : WorF s n X wd ws) : ∃ s', sp11 (env3 P p b d x kn z6 z7 (some wd) z9) s = .nx (env3 P p b d x kn z6 z7 (some wd) z9) s' ∧ (s' = s ∨ ∃ r' o, r' ∉ X ∧ n ≤ r' ∧ s' = s.set r' o) := by
  rcases hw.ex with ⟨rfl, rfl⟩ | ⟨q, l, rfl, rfl, hq, nq, lq, gq⟩
  · refine ⟨s, ?_, .inl rfl⟩
    simp [sp11, ifS, Md.thn, toB, op2, isN, nonD, vr, cst, bnd, Md.ret, skp]
  · have l1 : (l.map Md.D.int).length < sizeLine := by rw [List.length_map]; exact sl_of _ (by omega)
    refine ⟨s.set q (.lst (l.map .int ++ [.int 99])), ?_, .inr ⟨q, _, nq, gq, rfl⟩⟩
    have ap : appG (.ref q) [.int 99] s = .ok .non (s.set q (.lst (l.map .int ++ [.int 99]))) := by
      generalize l.map Md.D.int = ll at *
      simp [appG, upL, appF, hq, l1]
    have kd : kdD s (.ref q) = some .lst := by simp [kdD, hq]
    simp [sp11, ifS, Md.thn, toB, op2, isN, nonD, vr, cst, bnd, Md.ret, skp, drp, mthM, kd, tbAppend, aCons, aNil, ap]
theorem sp12_ok (v : Bool) : sp12 (env3 P p b d x kn (some (.bl v)) z7 z8 (some (.bl v))) s = .rt (.bl true) s := by
  obtain ⟨tx, r1, r2, r3⟩ := repr_bl s v
  have q : eqX id (.str tx) (.str tx) s = .ok (.bl true) s := eqX_same id (toPy_str _ 19 r2) (toPy_str _ 19 r2)
  unfold sp12
  generalize reprF = R at *
  generalize eqX id = Q at *
  simp [rtn, Md.thn, op2, bnd, callM, aCons, aNil, vr, Md.ret, arg1, r1, q]
/-- both have heard -/
theorem Both.heard {i : Int} {e' : Kn} {ws : Option (List Int)} (h : Both s p m t b k r e (some i) tl) (w : WK e') (nk : ∀ y ∈ e', ∀ d ∈ y.2, nD d) (hx : x ∈ W5) :
    AskAt (((s.set k (.dct false (kv e'))).set b (.dct false (bks k .non (.ref r)))).set r (.lst ((tl ++ [(i, x, ws)]).map telD))) "who" p m t e (some i) tl ∧
    Both (((((((s.set k (.dct false (kv e'))).set b (.dct false (bks k .non (.ref r)))).set r (.lst ((tl ++ [(i, x, ws)]).map telD)))).set m (.dct false (kv e'))).set p (insA "who" m t .non)).set t (.lst ((tl ++ [(i, x, ws)]).map telD))) p m t b k r e' none (tl ++ [(i, x, ws)]) := by
  have n := ne6 h.nd
  have a1 : AskAt (((s.set k (.dct false (kv e'))).set b (.dct false (bks k .non (.ref r)))).set r (.lst ((tl ++ [(i, x, ws)]).map telD))) "who" p m t e (some i) tl :=
    ⟨set_to (set_to (set_to h.a.at_ n.pk.symm) n.pb.symm) n.pr.symm, set_to (set_to (set_to h.a.dct n.mq.symm) n.mb.symm) n.mr.symm, set_to (set_to (set_to h.a.lst n.tk.symm) n.tb.symm) n.tr.symm⟩
  refine ⟨a1, ?_⟩
  have gb : (((s.set k (.dct false (kv e'))).set b (.dct false (bks k .non (.ref r)))).set r (.lst ((tl ++ [(i, x, ws)]).map telD)))[b]? = some (.dct false (bks k .non (.ref r))) := set_to (set_at (set_to h.bo.at_ n.bk.symm)) n.br.symm
  have gk : (((s.set k (.dct false (kv e'))).set b (.dct false (bks k .non (.ref r)))).set r (.lst ((tl ++ [(i, x, ws)]).map telD)))[k]? = some (.dct false (kv e')) := set_to (set_to (set_at h.bo.dct) n.bk) n.kr.symm
  have gr : (((s.set k (.dct false (kv e'))).set b (.dct false (bks k .non (.ref r)))).set r (.lst ((tl ++ [(i, x, ws)]).map telD)))[r]? = some (.lst ((tl ++ [(i, x, ws)]).map telD)) := set_at (set_to (set_to h.li n.kr) n.br)
  generalize ((s.set k (Ob.dct false (kv e'))).set b (.dct false (bks k .non (.ref r)))).set r (.lst ((tl ++ [(i, x, ws)]).map telD)) = s3 at *
  have hr := set_to (i := t) (o := .lst ((tl ++ [(i, x, ws)]).map telD)) (set_to (i := p) (o := insA "who" m t .non) (set_to (i := m) (o := .dct false (kv e')) gr n.mr) n.pr) n.tr
  refine ⟨⟨set_to (set_at (set_to a1.at_ n.pm.symm)) n.pt.symm, set_to (set_to (set_at a1.dct) n.pm) n.mt.symm, set_at (set_to (set_to a1.lst n.mt) n.pt)⟩, ⟨set_to (set_to (set_to gb n.mb) n.pb) n.tb, set_to (set_to (set_to gk n.mq) n.pk) n.tk, ⟨.inr ⟨r, rfl, hr⟩⟩⟩, hr, h.nd, w, nk, fun y hy => ?_⟩
  rcases List.mem_append.mp hy with z | z
  · exact h.wt y z
  · rw [List.mem_singleton.mp z]; exact hx
theorem tail_ok (h : Both s p m t b k r e bz tl) (hp : Pool s P) (hP : P ∉ [p, m, t, b, k, r]) (hx : x ∈ W5) (hk : Kno kn) (nk : ∀ d ∈ kn, nD d) (few : kn.length ≤ 4) (ft : tl.length ≤ 90) :
    ∃ s', seq sp5 (seq sp6 (seq sp7 (seq sp8 (seq sp9 (seq sp10 (seq sp11 sp12)))))) (env3 P p b d x kn none none none none) s = .rt (.bl true) s' ∧ After s s' P p m t b k r e bz tl := by
  have nP : ∀ i ∈ [p, m, t, b, k, r], i ∉ [P] := fun i hi z => hP (by rw [List.mem_singleton.mp z] at hi; exact hi)
  have nb : P ≠ b := fun z => hP (by rw [z]; simp)
  have nk' : P ≠ k := fun z => hP (by rw [z]; simp)
  have nr : P ≠ r := fun z => hP (by rw [z]; simp)
  obtain ⟨s1, i0, c5, p1, k1⟩ := sp5_ok (p := p) (b := b) (d := d) (x := x) (kn := kn) (z6 := none) (z7 := none) (z8 := none) (z9 := none) hp
  have h1 := h.keep k1 nP
  obtain ⟨s2, i, c6, p2, k2⟩ := sp6_ok (p := p) (d := d) (x := x) (kn := kn) (z6 := none) (z8 := none) (z9 := none) p1 h1.bo nb nk' nr h1.li (i := i0)
  have h2 := h1.keep k2 nP
  have lt2 : ∀ q ∈ [P, p, m, t, b, k, r], q < s2.length := by
    intro q hq
    simp only [List.mem_cons, List.not_mem_nil, or_false] at hq
    have f : ∀ {q o}, s2[q]? = some o → q < s2.length := fun z => (List.getElem?_eq_some_iff.mp z).1
    rcases hq with z | z | z | z | z | z | z <;> subst z
    · exact p2.lt
    · exact f h2.a.at_
    · exact f h2.a.dct
    · exact f h2.a.lst
    · exact f h2.bo.at_
    · exact f h2.bo.dct
    · exact f h2.li
  obtain ⟨s3, wd, ws, c7, w3, p3, k3⟩ := sp7_ok (p := p) (b := b) (d := d) (x := x) (kn := kn) (z6 := none) (z7 := some (.int i)) (z8 := none) (z9 := none) p2 (X := [P, p, m, t, b, k, r]) lt2 (by simp)
  have h3 := h2.keep k3 nP
  have c8 := sp8_ok (P := P) (p := p) (d := d) (x := x) (kn := kn) (z6 := none) (z8 := some wd) (z9 := none) h3.bo (i := i)
  have kp3 : Kp [P, p, m, t, b, k, r] s s3 := ((k1.trans k2).trans k3).mono (by simp)
  by_cases due : bz = some i
  · subst due
    rw [decide_eq_true rfl] at c8
    have c9 := sp9_yes (P := P) (d := d) (z9 := none) h3 hx hk few (by omega) w3
    have W := wk_pt h3 hx hk
    have NK := nk_pt (x := x) h3 nk
    obtain ⟨a4, B⟩ := h3.heard (ws := ws) W NK hx
    have kp4 : Kp [P, p, m, t, b, k, r] s3 (((s3.set k (.dct false (kv (pt e x (jn (gt e x) kn))))).set b (.dct false (bks k .non (.ref r)))).set r (.lst ((tl ++ [(i, x, ws)]).map telD))) := ((Kp.set (by simp)).trans (Kp.set (by simp))).trans (Kp.set (by simp))
    have w4 := w3.keep kp4
    have hy := hear_yes a4 h3.w (okW_5 x hx) hk w4.wor (by omega)
    generalize hE : pt e x (jn (gt e x) kn) = e' at *
    generalize hs4 : ((s3.set k (Ob.dct false (kv e'))).set b (.dct false (bks k .non (.ref r)))).set r (.lst ((tl ++ [(i, x, ws)]).map telD)) = s4 at *
    have ap := a4.at_
    have c10 : sp10 (env3 P p b d x kn (some (.bl true)) (some (.int i)) (some wd) none) s4 = .nx (env3 P p b d x kn (some (.bl true)) (some (.int i)) (some wd) (some (.bl true))) (((s4.set m (.dct false (kv e'))).set p (insA "who" m t .non)).set t (.lst ((tl ++ [(i, x, ws)]).map telD))) := by
      have hm : mtM "Asker" "hear" p_Asker_hear [] (vr 1) (aCons (vr 7) (aCons (vr 4) (aCons (vr 8) (aCons (vr 5) (aNil))))) (env3 P p b d x kn (some (.bl true)) (some (.int i)) (some wd) none) s4 = .ok (.bl true) (((s4.set m (.dct false (kv e'))).set p (insA "who" m t .non)).set t (.lst ((tl ++ [(i, x, ws)]).map telD))) := by
        generalize ((s4.set m (Ob.dct false (kv e'))).set p (insA "who" m t .non)).set t (.lst ((tl ++ [(i, x, ws)]).map telD)) = s5 at *
        simp [ap, hy, lu_own, lu_kn, lu_uw, lu_te, ln_known, ln_learn, ln_begin, ln_busy, ln_leave, ln_hear, ln_tell, ln_words, ln_called, ln_twin, ln_state, ln_len, line0, line1, line2, line3, line4, line5, run, endS, seq, asg, drp, rtn, rtN, skp, badS, ifS, Md.thn, cst, Md.ret, Md.bad, tgS, toN, op2, vr, lstE, tupE, aNil, aCons, bnd, toB, andB, orB, notB, andV, orV, notV, callM, mtM, fldM, stF, insOf, get?, opt, arg1, finL, int2, gtI, geI, leI, addD, addI, modI, isiM, tyD, Ty.sub, isiO, isInsO, isN, nonD, ixA, ixD, ixL, ixT, atI, ixN, dctD, lstD, tupD, toSub, setA, keyD, toSeq, toCons, toNil, mthM, kdD, upK, lenA, lenD, lenL, lenKF]
      unfold sp10 asg Md.thn
      rw [hm]
      rfl
    have kp5 : Kp [P, p, m, t, b, k, r] s4 (((s4.set m (.dct false (kv e'))).set p (insA "who" m t .non)).set t (.lst ((tl ++ [(i, x, ws)]).map telD))) := ((Kp.set (by simp)).trans (Kp.set (by simp))).trans (Kp.set (by simp))
    have w5 := w4.keep kp5
    generalize ((s4.set m (Ob.dct false (kv e'))).set p (insA "who" m t .non)).set t (.lst ((tl ++ [(i, x, ws)]).map telD)) = s5 at *
    obtain ⟨s6, c11, e6⟩ := sp11_ok (P := P) (p := p) (b := b) (d := d) (x := x) (kn := kn) (z6 := some (.bl true)) (z7 := some (.int i)) (z9 := some (.bl true)) w5
    have c12 := sp12_ok (s := s6) (P := P) (p := p) (b := b) (d := d) (x := x) (kn := kn) (z7 := some (.int i)) (z8 := some wd) true
    refine ⟨s6, by simp only [seq, c5, c6, c7, c8, c9, c10, c11, c12], ?_⟩
    have fin : Both s6 p m t b k r e' none (tl ++ [(i, x, ws)]) ∧ Kp [P, p, m, t, b, k, r] s s6 := by
      rcases e6 with z | ⟨r', o, nr', gr', z⟩
      · rw [z]
        exact ⟨B, (kp3.trans kp4).trans kp5⟩
      · rw [z]
        have kq : Kp [r'] s5 (s5.set r' o) := Kp.set (by simp)
        refine ⟨B.keep kq fun q hq z2 => nr' (by rw [List.mem_singleton.mp z2] at hq; exact List.mem_cons_of_mem _ hq), ?_⟩
        have ka : Kp [P, p, m, t, b, k, r, r'] s (s5.set r' o) := (((kp3.trans kp4).trans kp5).mono (by simp)).trans (kq.mono (by simp))
        have g2 : s.length ≤ s2.length := (k1.trans k2).len
        refine ka.mono fun q hq => ?_
        simp only [List.mem_cons, List.not_mem_nil, or_false] at hq ⊢
        rcases hq with z3 | z3 | z3 | z3 | z3 | z3 | z3 | z3
        all_goals first | (left; simp only [z3, true_or, or_true]; done) | (right; omega)
    exact ⟨e', none, tl ++ [(i, x, ws)], fin.1, by simp, fin.2, .inl (by simp)⟩
  · rw [decide_eq_false due] at c8
    have c9 := sp9_no (s := s3) (P := P) (p := p) (b := b) (d := d) (x := x) (kn := kn) (z7 := some (.int i)) (z8 := some wd) (z9 := none)
    have hn := hear_no h3.a (x := x) (i := i) due (w := wd) (k := dts kn)
    have ap := h3.a.at_
    have c10 : sp10 (env3 P p b d x kn (some (.bl false)) (some (.int i)) (some wd) none) s3 = .nx (env3 P p b d x kn (some (.bl false)) (some (.int i)) (some wd) (some (.bl false))) s3 := by
      have hm : mtM "Asker" "hear" p_Asker_hear [] (vr 1) (aCons (vr 7) (aCons (vr 4) (aCons (vr 8) (aCons (vr 5) (aNil))))) (env3 P p b d x kn (some (.bl false)) (some (.int i)) (some wd) none) s3 = .ok (.bl false) s3 := by
        simp [ap, hn, lu_own, lu_kn, lu_uw, lu_te, ln_known, ln_learn, ln_begin, ln_busy, ln_leave, ln_hear, ln_tell, ln_words, ln_called, ln_twin, ln_state, ln_len, line0, line1, line2, line3, line4, line5, run, endS, seq, asg, drp, rtn, rtN, skp, badS, ifS, Md.thn, cst, Md.ret, Md.bad, tgS, toN, op2, vr, lstE, tupE, aNil, aCons, bnd, toB, andB, orB, notB, andV, orV, notV, callM, mtM, fldM, stF, insOf, get?, opt, arg1, finL, int2, gtI, geI, leI, addD, addI, modI, isiM, tyD, Ty.sub, isiO, isInsO, isN, nonD, ixA, ixD, ixL, ixT, atI, ixN, dctD, lstD, tupD, toSub, setA, keyD, toSeq, toCons, toNil, mthM, kdD, upK, lenA, lenD, lenL, lenKF]
      unfold sp10 asg Md.thn
      rw [hm]
      rfl
    obtain ⟨s6, c11, e6⟩ := sp11_ok (P := P) (p := p) (b := b) (d := d) (x := x) (kn := kn) (z6 := some (.bl false)) (z7 := some (.int i)) (z9 := some (.bl false)) w3
    have c12 := sp12_ok (s := s6) (P := P) (p := p) (b := b) (d := d) (x := x) (kn := kn) (z7 := some (.int i)) (z8 := some wd) false
    refine ⟨s6, by simp only [seq, c5, c6, c7, c8, c9, c10, c11, c12], ?_⟩
    have fin : Both s6 p m t b k r e bz tl ∧ Kp [P, p, m, t, b, k, r] s s6 := by
      rcases e6 with z | ⟨r', o, nr', gr', z⟩
      · rw [z]
        exact ⟨h3, kp3⟩
      · rw [z]
        have kq : Kp [r'] s3 (s3.set r' o) := Kp.set (by simp)
        refine ⟨h3.keep kq fun q hq z2 => nr' (by rw [List.mem_singleton.mp z2] at hq; exact List.mem_cons_of_mem _ hq), ?_⟩
        have ka : Kp [P, p, m, t, b, k, r, r'] s (s3.set r' o) := (kp3.mono (by simp)).trans (kq.mono (by simp))
        have g2 : s.length ≤ s2.length := (k1.trans k2).len
        refine ka.mono fun q hq => ?_
        simp only [List.mem_cons, List.not_mem_nil, or_false] at hq ⊢
        rcases hq with z3 | z3 | z3 | z3 | z3 | z3 | z3 | z3
        all_goals first | (left; simp only [z3, true_or, or_true]; done) | (right; omega)
    exact ⟨e, bz, tl, fin.1, by omega, fin.2, .inr ⟨rfl, rfl, .inl rfl⟩⟩
/-! ### a step -/
theorem ix5 (s : S) {d : Int} (h0 : 0 ≤ d) (h1 : d < 5) : ∃ x ∈ W5, ixA (.lst (txs W5)) (.int d) s = .ok (.str x) s := by
  have : d = 0 ∨ d = 1 ∨ d = 2 ∨ d = 3 ∨ d = 4 := by omega
  rcases this with e | e | e | e | e <;> subst e
  · exact ⟨"a", by simp, by kernel_rfl⟩
  · exact ⟨"b", by simp, by kernel_rfl⟩
  · exact ⟨"c", by simp, by kernel_rfl⟩
  · exact ⟨"dd", by simp, by kernel_rfl⟩
  · exact ⟨"eeeeee", by simp, by kernel_rfl⟩
theorem step_ok (h : Both s p m t b k r e bz tl) (hp : Pool s P) (hP : P ∉ [p, m, t, b, k, r]) (ft : tl.length ≤ 90) :
    ∃ s', p_l_law_step [.ref P, .ref p, .ref b] s = .ok (.bl true) s' ∧ After s s' P p m t b k r e bz tl := by
  have nP : ∀ i ∈ [p, m, t, b, k, r], i ∉ [P] := fun i hi z => hP (by rw [List.mem_singleton.mp z] at hi; exact hi)
  obtain ⟨s1, d, t1, a1, b1, p1, k1⟩ := take_p hp (m := 7) (by decide) (by decide)
  obtain ⟨s2, j, t2, a2, b2, p2, k2⟩ := take_p p1 (m := 5) (by decide) (by decide)
  obtain ⟨s3, kn, t3, hk, nk, few, p3, k3⟩ := known_draw p2
  obtain ⟨x, hx, i2⟩ := ix5 s2 a2 b2
  have kp := (k1.trans k2).trans k3
  have h3 := h.keep kp nP
  have c0 : sp0 [some (.ref P), some (.ref p), some (.ref b), none, none, none, none, none, none, none] s = .nx [some (.ref P), some (.ref p), some (.ref b), some (.int d), none, none, none, none, none, none] s1 := by
    have ct := call_take (env := [some (.ref P), some (.ref p), some (.ref b), none, none, none, none, none, none, none]) (j := 0) rfl t1
    unfold sp0 asg Md.thn
    rw [ct]
    rfl
  have c1 : sp1 [some (.ref P), some (.ref p), some (.ref b), some (.int d), none, none, none, none, none, none] s1 = .nx (env3 P p b d x kn none none none none) s3 := by
    have ct := call_take (env := [some (.ref P), some (.ref p), some (.ref b), some (.int d), none, none, none, none, none, none]) (j := 0) rfl t2
    have ck : callM p_l_law_known [] (aCons (vr 0) (aNil)) [some (.ref P), some (.ref p), some (.ref b), some (.int d), none, none, none, none, none, none] s2 = .ok (dts kn) s3 := by
      simp [callM, aCons, aNil, vr, bnd, Md.ret, t3]
    have wl : lstE finL (aCons (cst (.str "a")) (aCons (cst (.str "b")) (aCons (cst (.str "c")) (aCons (cst (.str "dd")) (aCons (cst (.str "eeeeee")) (aNil)))))) [some (.ref P), some (.ref p), some (.ref b), some (.int d), none, none, none, none, none, none] s1 = .ok (.lst (txs W5)) s1 := by
      simp [lstE, aCons, aNil, cst, bnd, Md.ret, line5, finL, txs]
    unfold sp1
    generalize lstE finL (aCons (cst (.str "a")) (aCons (cst (.str "b")) (aCons (cst (.str "c")) (aCons (cst (.str "dd")) (aCons (cst (.str "eeeeee")) (aNil)))))) = L5 at *
    generalize callM p_l_law_take [] (aCons (vr 0) (aCons (cst (.int 5)) (aNil))) = C at *
    generalize callM p_l_law_known [] (aCons (vr 0) (aNil)) = K at *
    generalize ixA = I at *
    simp [asg, Md.thn, tupE, aCons, aNil, op2, bnd, wl, ct, i2, ck, Md.ret, line2, tgS, toSeq, tupD, toCons, toNil, toN]
  have go : ∀ {s' : S}, seq sp2 (seq sp3 (seq sp4 (seq sp5 (seq sp6 (seq sp7 (seq sp8 (seq sp9 (seq sp10 (seq sp11 sp12))))))))) (env3 P p b d x kn none none none none) s3 = .rt (.bl true) s' → After s3 s' P p m t b k r e bz tl → ∃ s', p_l_law_step [.ref P, .ref p, .ref b] s = .ok (.bl true) s' ∧ After s s' P p m t b k r e bz tl := by
    intro s' e1 ⟨e', bz', tl', B, l, kq, T⟩
    refine ⟨s', ?_, ⟨e', bz', tl', B, l, (kp.mono (by simp)).trans kq, T⟩⟩
    unfold p_l_law_step run
    rw [sp_eq]
    show endS (seq sp0 (seq sp1 (seq sp2 (seq sp3 (seq sp4 (seq sp5 (seq sp6 (seq sp7 (seq sp8 (seq sp9 (seq sp10 (seq sp11 (sp12)))))))))))) [some (.ref P), some (.ref p), some (.ref b), none, none, none, none, none, none, none] s) = _
    have e2 : seq sp0 (seq sp1 (seq sp2 (seq sp3 (seq sp4 (seq sp5 (seq sp6 (seq sp7 (seq sp8 (seq sp9 (seq sp10 (seq sp11 (sp12)))))))))))) [some (.ref P), some (.ref p), some (.ref b), none, none, none, none, none, none, none] s = .rt (.bl true) s' := by
      rw [← e1]
      generalize seq sp2 (seq sp3 (seq sp4 (seq sp5 (seq sp6 (seq sp7 (seq sp8 (seq sp9 (seq sp10 (seq sp11 sp12))))))))) = R at *
      simp only [seq, c0, c1]
    rw [e2]
    rfl
  by_cases h2 : d < 2
  · obtain ⟨s', e1, A⟩ := sp2_yes (P := P) (z6 := none) (z7 := none) (z8 := none) (z9 := none) h3 h2 hx hk nk few
    exact go (by simp only [seq, e1]) A
  · have n2 := sp2_no (s := s3) (P := P) (p := p) (b := b) (x := x) (kn := kn) (z6 := none) (z7 := none) (z8 := none) (z9 := none) h2
    by_cases h4 : d < 4 ∧ bz = none
    · obtain ⟨h4, rfl⟩ := h4
      obtain ⟨s', e1, A⟩ := sp3_yes (x := x) (kn := kn) (z6 := none) (z7 := none) (z8 := none) (z9 := none) h3 p3 hP h4
      exact go (by simp only [seq, n2, e1]) A
    · have n3 := sp3_no (P := P) (p := p) (x := x) (kn := kn) (z6 := none) (z7 := none) (z8 := none) (z9 := none) h3.bo h4
      by_cases h5 : d = 4 ∧ bz ≠ none
      · obtain ⟨rfl, h5⟩ := h5
        obtain ⟨i, rfl⟩ := Option.ne_none_iff_exists'.mp h5
        obtain ⟨s', e1, A⟩ := sp4_yes (P := P) (x := x) (kn := kn) (z6 := none) (z7 := none) (z8 := none) (z9 := none) h3
        exact go (by simp only [seq, n2, n3, e1]) A
      · have n4 := sp4_no (P := P) (p := p) (x := x) (kn := kn) (z6 := none) (z7 := none) (z8 := none) (z9 := none) h3.bo h5
        obtain ⟨s', e1, A⟩ := tail_ok (d := d) h3 p3 hP hx hk nk few ft
        refine go ?_ A
        rw [← e1]
        generalize seq sp5 (seq sp6 (seq sp7 (seq sp8 (seq sp9 (seq sp10 (seq sp11 sp12)))))) = R
        simp only [seq, n2, n3, n4]
end
end K51
end Md

set_option Elab.async false
set_option linter.all false
set_option maxRecDepth 1000000
set_option maxHeartbeats 4000000
namespace Md
namespace K51
--L lu_own, lu_kn, lu_uw, lu_te, ln_known, ln_learn, ln_begin, ln_busy, ln_leave, ln_hear, ln_tell, ln_words, ln_called, ln_twin, ln_state, ln_len, line0, line1, line2, line3, line4, line5,
open PySem PySem.Spec PyProof.Rows L2
def lb0 : SM := asg (callM p_l_law_pool [] (aCons (vr 0) (aCons (vr 3) (aNil)))) (toN 4)
def lb1 : SM := asg (tupE (aCons (mtM "Asker" "twin" p_Asker_twin [] (vr 1) aNil) (aCons (callM p_l_law_copied [] (aCons (vr 2) (aNil))) (aNil)))) (toSeq 2 (toCons (toN 5) (toCons (toN 6) (toNil))))
def lb2 : SM := ifS (orB (notB (toB (callM p_l_law_step [] (aCons (vr 4) (aCons (vr 1) (aCons (vr 2) (aNil))))))) (orB (notB (toB (callM p_l_law_right [] (aCons (vr 1) (aCons (vr 2) (aNil)))))) (notB (toB (callM p_l_law_right [] (aCons (vr 5) (aCons (vr 6) (aNil)))))))) (rtn (cst (.bl false))) (skp)
def lb3 : SM := ifS (orB (andB (toB (op2 (eqA "Asker" p_Asker_eq not) (vr 5) (vr 1))) (toB (op2 (eqX id) (callM p_l_law_copied [] (aCons (vr 2) (aNil))) (vr 6)))) (orB (toB (op2 (eqA "Asker" p_Asker_eq id) (vr 1) (vr 2))) (orB (toB (op2 (eqA "Asker" p_Asker_eq id) (vr 1) (cst (.str "who")))) (toB (op2 (eqA "Asker" p_Asker_eq id) (vr 1) (cst .non)))))) (rtn (cst (.bl false))) (skp)
def lb4 : SM := drp (mtM "Asker" "learn" p_Asker_learn [] (vr 5) (aCons (cst (.str "a")) (aCons (tupE (aCons (tupE (aCons (cst (.int 9)) (aCons (cst (.str "zz")) (aCons (cst (.int 9)) (aNil))))) (aNil))) (aNil))))
def mkX : Rs → Md.M Md.D := mkM "Asker" p_Asker_init [] (aCons (cst (.str "whom")) (aNil))
def mkY : Rs → Md.M Md.D := mkM "Asker" p_Asker_init [] (aCons (cst (.str "who")) (aNil))
def lb5 : SM := ifS (orB (toB (op2 (eqA "Asker" p_Asker_eq id) (vr 5) (vr 1))) (orB (notB (toB (callM p_l_law_right [] (aCons (vr 1) (aCons (vr 2) (aNil)))))) (toB (op2 (eqA "Asker" p_Asker_eq id) mkX mkY)))) (rtn (cst (.bl false))) (skp)
def lbB : SM := seq lb0 (seq lb1 (seq lb2 (seq lb3 (seq lb4 lb5))))
def lw0 : SM := asg mkY (toN 1)
def lw1 : SM := asg (dispM ((cst (.str "known"), dnewM) :: ((cst (.str "busy"), cst .non) :: ((cst (.str "told"), lstE finM (aNil)) :: ([]))))) (toN 2)
def lw2 : SM := ifS (notB (toB (callM p_l_law_right [] (aCons (vr 1) (aCons (vr 2) (aNil)))))) (rtn (cst (.bl false))) (skp)
def lw3 : SM := forS (itRng2 (aCons (cst (.int 1)) (aCons (callM (maxA) [] (aCons (cst (.int 9)) (aCons (callM (minI) [] (aCons (callM (lenA) [] (aCons (vr 0) (aNil))) (aCons (cst (.int 41)) (aNil)))) (aNil)))) (aNil)))) (toN 3) lbB
def lw4 : SM := rtn (cst (.bl true))
theorem lw_eq : b_law = seq lw0 (seq lw1 (seq lw2 (seq lw3 (lw4)))) := rfl
theorem pool_l : p_l_law_pool = run poolS 2 4 := rfl
/-! ### unlike -/
theorem st_inj {o o2 : Str} {e e2 : Kn} {bz bz2 : Option Int} {tl tl2 : List Tel} (h : stP o e bz tl = stP o2 e2 bz2 tl2) : o = o2 ∧ (wd e).map (prP e) = (wd e2).map (prP e2) := by
  unfold stP at h
  injection h with h
  injection h with h1 h
  injection h with h2 h
  injection h1 with h1
  injection h2 with h2
  exact ⟨h1, h2⟩
theorem not_zD {e e2 : Kn} {bz bz2 : Option Int} {tl tl2 : List Tel} (w : WK e) (nk : ∀ y ∈ e, ∀ d ∈ y.2, nD d) {v : List Dot} (hv : zD ∈ v) : PyData.eqv (stP "who" (pt e2 "a" v) bz2 tl2) (stP "who" e bz tl) = false := by
  cases q : PyData.eqv (stP "who" (pt e2 "a" v) bz2 tl2) (stP "who" e bz tl) with
  | false => rfl
  | true =>
    obtain ⟨_, h⟩ := st_inj (eqv_st q)
    have ha : ("a" : Str) ∈ wd (pt e2 "a" v) := by
      refine isortB_mem.mpr (List.mem_map.mpr ⟨("a", v), List.mem_filter.mpr ⟨lk_some lk_pt_self, ?_⟩, rfl⟩)
      have : v ≠ [] := fun z => by rw [z] at hv; cases hv
      simp [full, this]
    have hm : prP (pt e2 "a" v) "a" ∈ (wd e).map (prP e) := by rw [← h]; exact List.mem_map.mpr ⟨_, ha, rfl⟩
    obtain ⟨y, hy, ey⟩ := List.mem_map.mp hm
    unfold prP at ey
    injection ey with ey
    injection ey with e1 ey
    injection ey with e2' _
    injection e1 with e1
    have e3 := dtsP_inj e2'
    have eg : gt (pt e2 "a" v) "a" = v := by unfold gt; rw [lk_pt_self]; rfl
    rw [eg, e1] at e3
    rw [← e3] at hv
    unfold gt at hv
    cases hl : lk e "a" with
    | none => rw [hl] at hv; cases hv
    | some u =>
      rw [hl] at hv
      exact absurd (nk _ (lk_some hl) zD hv) zD_not
theorem st_refl (s : S) {o : Str} {e : Kn} {bz : Option Int} {tl : List Tel} (wo : okW o) (w : WK e) (wt : WT tl) : PyData.eqv (stP o e bz tl) (stP o e bz tl) = true := PySem.SeqAt.eqv_refl _ (toPy_shape s 20 _ _ (toPy_st (s := s) wo w wt)).1
theorem turn_alike {e e' : Kn} {bz bz' : Option Int} {tl tl' : List Tel} (T : Turn e bz tl e' bz' tl') (w : WK e) (wt : WT tl) (h : (eqE e' e && (PyData.eqv (bzP bz') (bzP bz) && (PyData.eqv (.list (tl'.map telP)) (.list (tl.map telP)) && true))) = true) : PyData.eqv (stP "who" e bz tl) (stP "who" e' bz' tl') = true := by
  rw [Bool.and_eq_true, Bool.and_eq_true] at h
  obtain ⟨h1, h2, _⟩ := h
  have eb := eqv_bz h2
  rcases T with T | ⟨_, et, T⟩
  · exact absurd eb T
  · have ee : e' = e := by
      rcases T with T | ⟨x, v, T⟩
      · exact T
      · rw [T] at h1 ⊢
        exact eqB_pt w h1
    rw [ee, eb, et]
    exact st_refl [] okW_who w wt
abbrev env4 (x : Md.D) (p b : Nat) (z3 z4 z5 z6 : Option Md.D) : Rs := [some x, some (.ref p), some (.ref b), z3, z4, z5, z6]
theorem kno_z : Kno [zD] := ⟨fun d hd => by rw [List.mem_singleton.mp hd]; exact .inr rfl, by simp, List.pairwise_singleton _ _⟩
theorem turn_ok {s : S} {p m t b k r : Nat} {e : Kn} {bz : Option Int} {tl : List Tel} {ns : List Int} (h : Both s p m t b k r e bz tl) (ft : tl.length ≤ 80) (z4 z5 z6 : Option Md.D) (c : Int) (hc : 0 ≤ c) :
    ∃ (s' : S) (y4 y5 y6 : Option Md.D) (e' : Kn) (bz' : Option Int) (tl' : List Tel), lbB (env4 (.wls (ns.map .int)) p b (some (.int c)) z4 z5 z6) s = .nx (env4 (.wls (ns.map .int)) p b (some (.int c)) y4 y5 y6) s' ∧
      Both s' p m t b k r e' bz' tl' ∧ tl'.length ≤ tl.length + 1 := by
  have lt : ∀ q ∈ [p, m, t, b, k, r], q < s.length := by
    intro q hq
    simp only [List.mem_cons, List.not_mem_nil, or_false] at hq
    have f : ∀ {q o}, s[q]? = some o → q < s.length := fun z => (List.getElem?_eq_some_iff.mp z).1
    rcases hq with z | z | z | z | z | z <;> subst z
    · exact f h.a.at_
    · exact f h.a.dct
    · exact f h.a.lst
    · exact f h.bo.at_
    · exact f h.bo.dct
    · exact f h.li
  -- the pool
  obtain ⟨a1, a2, h0, hb⟩ := pool_ok s ns c hc
  rw [← pool_l] at h0
  have c0 : lb0 (env4 (.wls (ns.map .int)) p b (some (.int c)) z4 z5 z6) s = .nx (env4 (.wls (ns.map .int)) p b (some (.int c)) (some (.ref s.length)) z5 z6) (s ++ [.lst [.int a1, .int a2]]) := by
    simp [lb0, asg, Md.thn, tgS, toN, bnd, callM, aCons, aNil, vr, Md.ret, h0]
  have hs1 : Both (s ++ [.lst [.int a1, .int a2]]) p m t b k r e bz tl := h.app
  have P1 : Pool (s ++ [.lst [.int a1, .int a2]]) s.length := ⟨a1, a2, by simp, hb⟩
  have l1 : (s ++ [Ob.lst [.int a1, .int a2]]).length = s.length + 1 := by simp
  generalize s ++ [Ob.lst [.int a1, .int a2]] = s1 at *
  -- the twin, the old book
  have tw := twin_ok hs1.a okW_who
  have hs2 : Both (s1 ++ [insA "who" (s1.length + 3) (s1.length + 4) (bzD bz), .dct false [], .lst [], .dct false (kv e), .lst (tl.map telD)]) p m t b k r e bz tl := hs1.app
  have T2 : AskAt (s1 ++ [insA "who" (s1.length + 3) (s1.length + 4) (bzD bz), .dct false [], .lst [], .dct false (kv e), .lst (tl.map telD)]) "who" s1.length (s1.length + 3) (s1.length + 4) e bz tl :=
    ⟨by simp, by rw [List.getElem?_append_right (by omega)]; simp, by rw [List.getElem?_append_right (by omega)]; simp⟩
  have P2 : Pool (s1 ++ [insA "who" (s1.length + 3) (s1.length + 4) (bzD bz), .dct false [], .lst [], .dct false (kv e), .lst (tl.map telD)]) s.length := P1.app
  have l2 : (s1 ++ [insA "who" (s1.length + 3) (s1.length + 4) (bzD bz), Ob.dct false [], .lst [], .dct false (kv e), .lst (tl.map telD)]).length = s1.length + 5 := by simp
  have ap1 := hs1.a.at_
  have m1 : mtM "Asker" "twin" p_Asker_twin [] (vr 1) aNil (env4 (.wls (ns.map .int)) p b (some (.int c)) (some (.ref s.length)) z5 z6) s1 = .ok (.ref s1.length) (s1 ++ [insA "who" (s1.length + 3) (s1.length + 4) (bzD bz), .dct false [], .lst [], .dct false (kv e), .lst (tl.map telD)]) := by
    simp [ap1, tw, lu_own, lu_kn, lu_uw, lu_te, ln_known, ln_learn, ln_begin, ln_busy, ln_leave, ln_hear, ln_tell, ln_words, ln_called, ln_twin, ln_state, ln_len, line0, line1, line2, line3, line4, line5, run, endS, seq, asg, drp, rtn, rtN, skp, badS, ifS, Md.thn, cst, Md.ret, Md.bad, tgS, toN, op2, vr, lstE, tupE, aNil, aCons, bnd, toB, andB, orB, notB, andV, orV, notV, callM, mtM, fldM, stF, insOf, get?, opt, arg1, finL, int2, gtI, geI, leI, addD, addI, modI, isiM, tyD, Ty.sub, isiO, isInsO, isN, nonD, ixA, ixD, ixL, ixT, atI, ixN, dctD, lstD, tupD, toSub, setA, keyD, toSeq, toCons, toNil, mthM, kdD, upK, lenA, lenD, lenL, lenKF]
  generalize s1 ++ [insA "who" (s1.length + 3) (s1.length + 4) (bzD bz), Ob.dct false [], .lst [], .dct false (kv e), .lst (tl.map telD)] = s2 at *
  have wt0 : WT tl := hs2.wT (by omega)
  have cp := copied_ok hs2.bo wt0
  have hs3 : Both (s2 ++ [.dct false (kv e), .dct false (bks s2.length (bzD bz) (.lst (tl.map telD)))]) p m t b k r e bz tl := hs2.app
  have T3 : AskAt (s2 ++ [.dct false (kv e), .dct false (bks s2.length (bzD bz) (.lst (tl.map telD)))]) "who" s1.length (s1.length + 3) (s1.length + 4) e bz tl := T2.app
  have O3 : BkAt (s2 ++ [.dct false (kv e), .dct false (bks s2.length (bzD bz) (.lst (tl.map telD)))]) (s2.length + 1) s2.length (.lst (tl.map telD)) e bz tl :=
    ⟨by rw [List.getElem?_append_right (by omega)]; simp, by simp, ⟨.inl rfl⟩⟩
  have P3 : Pool (s2 ++ [.dct false (kv e), .dct false (bks s2.length (bzD bz) (.lst (tl.map telD)))]) s.length := P2.app
  have l3 : (s2 ++ [Ob.dct false (kv e), .dct false (bks s2.length (bzD bz) (.lst (tl.map telD)))]).length = s2.length + 2 := by simp
  have c1 : lb1 (env4 (.wls (ns.map .int)) p b (some (.int c)) (some (.ref s.length)) z5 z6) s1 = .nx (env4 (.wls (ns.map .int)) p b (some (.int c)) (some (.ref s.length)) (some (.ref s1.length)) (some (.ref (s2.length + 1)))) (s2 ++ [.dct false (kv e), .dct false (bks s2.length (bzD bz) (.lst (tl.map telD)))]) := by
    have m2 : callM p_l_law_copied [] (aCons (vr 2) (aNil)) (env4 (.wls (ns.map .int)) p b (some (.int c)) (some (.ref s.length)) z5 z6) s2 = .ok (.ref (s2.length + 1)) (s2 ++ [.dct false (kv e), .dct false (bks s2.length (bzD bz) (.lst (tl.map telD)))]) := by
      simp [callM, aCons, aNil, vr, bnd, Md.ret, cp]
    unfold lb1
    generalize mtM "Asker" "twin" p_Asker_twin [] (vr 1) aNil = A at *
    generalize callM p_l_law_copied [] (aCons (vr 2) (aNil)) = B at *
    generalize s2 ++ [Ob.dct false (kv e), .dct false (bks s2.length (bzD bz) (.lst (tl.map telD)))] = s3 at *
    simp [asg, Md.thn, tupE, aCons, aNil, bnd, m1, m2, Md.ret, line2, tgS, toSeq, tupD, toCons, toNil, toN]
  generalize s2 ++ [Ob.dct false (kv e), .dct false (bks s2.length (bzD bz) (.lst (tl.map telD)))] = s3 at *
  -- the step
  have hP : s.length ∉ [p, m, t, b, k, r] := fun z => by have := lt _ z; omega
  obtain ⟨s4, st, af⟩ := step_ok hs3 P3 hP (by omega)
  obtain ⟨e', bz', tl', B4, le4, kp, T⟩ := af.ex
  have out : ∀ {i : Nat}, s.length < i → i ∉ [s.length, p, m, t, b, k, r] := fun {i} hi z => by
    rcases List.mem_cons.mp z with z | z
    · omega
    · have := lt _ z; omega
  have T4 : AskAt s4 "who" s1.length (s1.length + 3) (s1.length + 4) e bz tl := ⟨kp.keep _ _ (out (by omega)) T3.at_, kp.keep _ _ (out (by omega)) T3.dct, kp.keep _ _ (out (by omega)) T3.lst⟩
  have O4 : BkAt s4 (s2.length + 1) s2.length (.lst (tl.map telD)) e bz tl := ⟨kp.keep _ _ (out (by omega)) O3.at_, kp.keep _ _ (out (by omega)) O3.dct, ⟨.inl rfl⟩⟩
  have wt4 : WT tl' := B4.wT (by omega)
  have r1 := right_ok B4.a B4.bo B4.w wt4
  have B5 : Both (s4 ++ [.lst (tl'.map telD ++ [.non]), .lst []]) p m t b k r e' bz' tl' := B4.app
  have T5 : AskAt (s4 ++ [.lst (tl'.map telD ++ [.non]), .lst []]) "who" s1.length (s1.length + 3) (s1.length + 4) e bz tl := T4.app
  have O5 : BkAt (s4 ++ [.lst (tl'.map telD ++ [.non]), .lst []]) (s2.length + 1) s2.length (.lst (tl.map telD)) e bz tl := O4.app
  have l5 : s4.length ≤ (s4 ++ [Ob.lst (tl'.map telD ++ [.non]), .lst []]).length := by simp
  generalize s4 ++ [Ob.lst (tl'.map telD ++ [.non]), .lst []] = s5 at *
  have r2 := right_ok T5 O5 h.w wt0
  have B6 : Both (s5 ++ [.lst (tl.map telD ++ [.non]), .lst []]) p m t b k r e' bz' tl' := B5.app
  have T6 : AskAt (s5 ++ [.lst (tl.map telD ++ [.non]), .lst []]) "who" s1.length (s1.length + 3) (s1.length + 4) e bz tl := T5.app
  have O6 : BkAt (s5 ++ [.lst (tl.map telD ++ [.non]), .lst []]) (s2.length + 1) s2.length (.lst (tl.map telD)) e bz tl := O5.app
  have l6 : s5.length ≤ (s5 ++ [Ob.lst (tl.map telD ++ [.non]), .lst []]).length := by simp
  generalize s5 ++ [Ob.lst (tl.map telD ++ [.non]), .lst []] = s6 at *
  have kl := kp.len
  have c2 : lb2 (env4 (.wls (ns.map .int)) p b (some (.int c)) (some (.ref s.length)) (some (.ref s1.length)) (some (.ref (s2.length + 1)))) s3 = .nx (env4 (.wls (ns.map .int)) p b (some (.int c)) (some (.ref s.length)) (some (.ref s1.length)) (some (.ref (s2.length + 1)))) s6 := by
    have t1 : toB (callM p_l_law_step [] (aCons (vr 4) (aCons (vr 1) (aCons (vr 2) (aNil))))) (env4 (.wls (ns.map .int)) p b (some (.int c)) (some (.ref s.length)) (some (.ref s1.length)) (some (.ref (s2.length + 1)))) s3 = .ok true s4 := by
      simp [toB, callM, aCons, aNil, vr, bnd, Md.ret, st]
    have t2 : toB (callM p_l_law_right [] (aCons (vr 1) (aCons (vr 2) (aNil)))) (env4 (.wls (ns.map .int)) p b (some (.int c)) (some (.ref s.length)) (some (.ref s1.length)) (some (.ref (s2.length + 1)))) s4 = .ok true s5 := by
      simp [toB, callM, aCons, aNil, vr, bnd, Md.ret, r1]
    have t3 : toB (callM p_l_law_right [] (aCons (vr 5) (aCons (vr 6) (aNil)))) (env4 (.wls (ns.map .int)) p b (some (.int c)) (some (.ref s.length)) (some (.ref s1.length)) (some (.ref (s2.length + 1)))) s5 = .ok true s6 := by
      simp [toB, callM, aCons, aNil, vr, bnd, Md.ret, r2]
    unfold lb2 ifS Md.thn orB notB
    simp only [bnd, t1, Md.ret, Bool.not_true, Bool.false_eq_true, if_false, t2, t3]
    rfl
  -- alike?
  have q1 := eqA_ask T6 B6.a okW_who okW_who h.w B6.w wt0 wt4 not
  have B7 : Both (s6 ++ [.lok (txs (wd e)), .lok (txs (wd e'))]) p m t b k r e' bz' tl' := B6.app
  have T7 : AskAt (s6 ++ [.lok (txs (wd e)), .lok (txs (wd e'))]) "who" s1.length (s1.length + 3) (s1.length + 4) e bz tl := T6.app
  have O7 : BkAt (s6 ++ [.lok (txs (wd e)), .lok (txs (wd e'))]) (s2.length + 1) s2.length (.lst (tl.map telD)) e bz tl := O6.app
  have l7 : s6.length ≤ (s6 ++ [Ob.lok (txs (wd e)), .lok (txs (wd e'))]).length := by simp
  generalize s6 ++ [Ob.lok (txs (wd e)), .lok (txs (wd e'))] = s7 at *
  obtain ⟨s8, t1, B8, T8, l8⟩ : ∃ s8, andB (toB (op2 (eqA "Asker" p_Asker_eq not) (vr 5) (vr 1))) (toB (op2 (eqX id) (callM p_l_law_copied [] (aCons (vr 2) (aNil))) (vr 6))) (env4 (.wls (ns.map .int)) p b (some (.int c)) (some (.ref s.length)) (some (.ref s1.length)) (some (.ref (s2.length + 1)))) s6 = .ok false s8 ∧
      Both s8 p m t b k r e' bz' tl' ∧ AskAt s8 "who" s1.length (s1.length + 3) (s1.length + 4) e bz tl ∧ s7.length ≤ s8.length := by
    have u1 : toB (op2 (eqA "Asker" p_Asker_eq not) (vr 5) (vr 1)) (env4 (.wls (ns.map .int)) p b (some (.int c)) (some (.ref s.length)) (some (.ref s1.length)) (some (.ref (s2.length + 1)))) s6 = .ok (!PyData.eqv (stP "who" e bz tl) (stP "who" e' bz' tl')) s7 := by
      generalize PyData.eqv (stP "who" e bz tl) (stP "who" e' bz' tl') = v at *
      generalize eqA "Asker" p_Asker_eq not = Q at *
      simp [toB, op2, vr, bnd, Md.ret, q1]
    cases hv : PyData.eqv (stP "who" e bz tl) (stP "who" e' bz' tl') with
    | true =>
      rw [hv] at u1
      refine ⟨s7, ?_, B7, T7, Nat.le_refl _⟩
      generalize toB (op2 (eqA "Asker" p_Asker_eq not) (vr 5) (vr 1)) = U at *
      simp [andB, bnd, u1, Md.ret]
    | false =>
      rw [hv] at u1
      have cp2 := copied_ok B7.bo wt4
      have B8 : Both (s7 ++ [.dct false (kv e'), .dct false (bks s7.length (bzD bz') (.lst (tl'.map telD)))]) p m t b k r e' bz' tl' := B7.app
      have O8 : BkAt (s7 ++ [.dct false (kv e'), .dct false (bks s7.length (bzD bz') (.lst (tl'.map telD)))]) (s2.length + 1) s2.length (.lst (tl.map telD)) e bz tl := O7.app
      have C8 : BkAt (s7 ++ [.dct false (kv e'), .dct false (bks s7.length (bzD bz') (.lst (tl'.map telD)))]) (s7.length + 1) s7.length (.lst (tl'.map telD)) e' bz' tl' :=
        ⟨by rw [List.getElem?_append_right (by omega)]; simp, by simp, ⟨.inl rfl⟩⟩
      have q2 := eqX_bk C8 O8 B8.w h.w wt4 wt0 (by omega) id
      have qf : (eqE e' e && (PyData.eqv (bzP bz') (bzP bz) && (PyData.eqv (.list (tl'.map telP)) (.list (tl.map telP)) && true))) = false := by
        cases z : (eqE e' e && (PyData.eqv (bzP bz') (bzP bz) && (PyData.eqv (.list (tl'.map telP)) (.list (tl.map telP)) && true))) with
        | false => rfl
        | true =>
          have := turn_alike T h.w wt0 z
          rw [hv] at this
          cases this
      rw [qf] at q2
      refine ⟨_, ?_, B8, T7.app, by simp⟩
      have u2 : toB (op2 (eqX id) (callM p_l_law_copied [] (aCons (vr 2) (aNil))) (vr 6)) (env4 (.wls (ns.map .int)) p b (some (.int c)) (some (.ref s.length)) (some (.ref s1.length)) (some (.ref (s2.length + 1)))) s7 = .ok false (s7 ++ [.dct false (kv e'), .dct false (bks s7.length (bzD bz') (.lst (tl'.map telD)))]) := by
        have m2 : callM p_l_law_copied [] (aCons (vr 2) (aNil)) (env4 (.wls (ns.map .int)) p b (some (.int c)) (some (.ref s.length)) (some (.ref s1.length)) (some (.ref (s2.length + 1)))) s7 = .ok (.ref (s7.length + 1)) (s7 ++ [.dct false (kv e'), .dct false (bks s7.length (bzD bz') (.lst (tl'.map telD)))]) := by
          simp [callM, aCons, aNil, vr, bnd, Md.ret, cp2]
        generalize callM p_l_law_copied [] (aCons (vr 2) (aNil)) = C at *
        generalize eqX id = Q at *
        generalize s7 ++ [Ob.dct false (kv e'), .dct false (bks s7.length (bzD bz') (.lst (tl'.map telD)))] = s8 at *
        simp [toB, op2, bnd, m2, vr, Md.ret, q2]
      generalize toB (op2 (eqA "Asker" p_Asker_eq not) (vr 5) (vr 1)) = U at *
      generalize toB (op2 (eqX id) (callM p_l_law_copied [] (aCons (vr 2) (aNil))) (vr 6)) = V at *
      simp [andB, bnd, u1, u2]
  have q3 := eqA_not B8.a (d := .ref b) (by have g := B8.bo.at_; simp [tyD, g])
  have q4 := eqA_not B8.a (d := .str "who") (by simp [tyD])
  have q5 := eqA_not B8.a (d := .non) (by simp [tyD])
  have c3 : lb3 (env4 (.wls (ns.map .int)) p b (some (.int c)) (some (.ref s.length)) (some (.ref s1.length)) (some (.ref (s2.length + 1)))) s6 = .nx (env4 (.wls (ns.map .int)) p b (some (.int c)) (some (.ref s.length)) (some (.ref s1.length)) (some (.ref (s2.length + 1)))) s8 := by
    have t2 : toB (op2 (eqA "Asker" p_Asker_eq id) (vr 1) (vr 2)) (env4 (.wls (ns.map .int)) p b (some (.int c)) (some (.ref s.length)) (some (.ref s1.length)) (some (.ref (s2.length + 1)))) s8 = .ok false s8 := by
      generalize eqA "Asker" p_Asker_eq id = Q at *
      simp [toB, op2, vr, bnd, Md.ret, q3]
    have t3 : toB (op2 (eqA "Asker" p_Asker_eq id) (vr 1) (cst (.str "who"))) (env4 (.wls (ns.map .int)) p b (some (.int c)) (some (.ref s.length)) (some (.ref s1.length)) (some (.ref (s2.length + 1)))) s8 = .ok false s8 := by
      generalize eqA "Asker" p_Asker_eq id = Q at *
      simp [toB, op2, vr, cst, bnd, Md.ret, q4]
    have t4 : toB (op2 (eqA "Asker" p_Asker_eq id) (vr 1) (cst .non)) (env4 (.wls (ns.map .int)) p b (some (.int c)) (some (.ref s.length)) (some (.ref s1.length)) (some (.ref (s2.length + 1)))) s8 = .ok false s8 := by
      generalize eqA "Asker" p_Asker_eq id = Q at *
      simp [toB, op2, vr, cst, bnd, Md.ret, q5]
    unfold lb3
    generalize andB (toB (op2 (eqA "Asker" p_Asker_eq not) (vr 5) (vr 1))) (toB (op2 (eqX id) (callM p_l_law_copied [] (aCons (vr 2) (aNil))) (vr 6))) = U at *
    unfold ifS Md.thn orB
    simp only [bnd, t1, Bool.false_eq_true, if_false, t2, t3, t4]
    rfl
  -- the twin learns
  have ln := learn_ok T8 h.w okW_a kno_z
  have hz : dts [zD] = .tup [.tup [.int 9, .str "zz", .int 9]] := rfl
  rw [hz] at ln
  have at8 := T8.at_
  have n6 := ne6 h.nd
  have ne : s1.length + 3 ∉ [p, m, t, b, k, r] := fun z => by have := lt _ z; omega
  have B9 : Both (s8.set (s1.length + 3) (.dct false (kv (pt e "a" (jn (gt e "a") [zD]))))) p m t b k r e' bz' tl' := B8.keep (Kp.set (ex := [s1.length + 3]) (by simp)) fun i hi z => ne (by rw [List.mem_singleton.mp z] at hi; exact hi)
  have T9 : AskAt (s8.set (s1.length + 3) (.dct false (kv (pt e "a" (jn (gt e "a") [zD]))))) "who" s1.length (s1.length + 3) (s1.length + 4) (pt e "a" (jn (gt e "a") [zD])) bz tl := ⟨set_to T8.at_ (by omega), set_at T8.dct, set_to T8.lst (by omega)⟩
  have w9 : WK (pt e "a" (jn (gt e "a") [zD])) := h.w.pt (by simp) (jn_kno (h.w.gt _).ok kno_z.ok)
  have c4 : lb4 (env4 (.wls (ns.map .int)) p b (some (.int c)) (some (.ref s.length)) (some (.ref s1.length)) (some (.ref (s2.length + 1)))) s8 = .nx (env4 (.wls (ns.map .int)) p b (some (.int c)) (some (.ref s.length)) (some (.ref s1.length)) (some (.ref (s2.length + 1)))) (s8.set (s1.length + 3) (.dct false (kv (pt e "a" (jn (gt e "a") [zD]))))) := by
    generalize pt e "a" (jn (gt e "a") [zD]) = e9 at *
    generalize (!decide (jn (gt e "a") [zD] = gt e "a")) = v at *
    unfold lb4
    simp [at8, ln, lu_own, lu_kn, lu_uw, lu_te, ln_known, ln_learn, ln_begin, ln_busy, ln_leave, ln_hear, ln_tell, ln_words, ln_called, ln_twin, ln_state, ln_len, line0, line1, line2, line3, line4, line5, run, endS, seq, asg, drp, rtn, rtN, skp, badS, ifS, Md.thn, cst, Md.ret, Md.bad, tgS, toN, op2, vr, lstE, tupE, aNil, aCons, bnd, toB, andB, orB, notB, andV, orV, notV, callM, mtM, fldM, stF, insOf, get?, opt, arg1, finL, int2, gtI, geI, leI, addD, addI, modI, isiM, tyD, Ty.sub, isiO, isInsO, isN, nonD, ixA, ixD, ixL, ixT, atI, ixN, dctD, lstD, tupD, toSub, setA, keyD, toSeq, toCons, toNil, mthM, kdD, upK, lenA, lenD, lenL, lenKF]
  have nz := not_zD (e := e') (e2 := e) (bz := bz') (bz2 := bz) (tl := tl') (tl2 := tl) (v := jn (gt e "a") [zD]) B9.w B9.nk (jn_mem.mpr (.inr (by simp)))
  have q6 := eqA_ask T9 B9.a okW_who okW_who w9 B9.w wt0 wt4 id
  rw [nz] at q6
  generalize pt e "a" (jn (gt e "a") [zD]) = e9 at *
  generalize s8.set (s1.length + 3) (Ob.dct false (kv e9)) = s9 at *
  have B10 : Both (s9 ++ [.lok (txs (wd e9)), .lok (txs (wd e'))]) p m t b k r e' bz' tl' := B9.app
  generalize s9 ++ [Ob.lok (txs (wd e9)), .lok (txs (wd e'))] = s10 at *
  have r3 := right_ok B10.a B10.bo B10.w wt4
  have B11 : Both (s10 ++ [.lst (tl'.map telD ++ [.non]), .lst []]) p m t b k r e' bz' tl' := B10.app
  generalize s10 ++ [Ob.lst (tl'.map telD ++ [.non]), .lst []] = s11 at *
  have mx := mk_ok (s := s11) (o := "whom") (env := env4 (.wls (ns.map .int)) p b (some (.int c)) (some (.ref s.length)) (some (.ref s1.length)) (some (.ref (s2.length + 1)))) (fa := aCons (cst (.str "whom")) (aNil)) (by simp [aCons, aNil, cst, bnd, Md.ret]) okW_whom
  have B12 : Both (s11 ++ [insA "whom" (s11.length + 1) (s11.length + 2) .non, .dct false [], .lst []]) p m t b k r e' bz' tl' := B11.app
  have X12 : AskAt (s11 ++ [insA "whom" (s11.length + 1) (s11.length + 2) .non, .dct false [], .lst []]) "whom" s11.length (s11.length + 1) (s11.length + 2) [] none [] :=
    ⟨by simp [bzD], by rw [List.getElem?_append_right (by omega)]; simp [kv], by rw [List.getElem?_append_right (by omega)]; simp⟩
  generalize s11 ++ [insA "whom" (s11.length + 1) (s11.length + 2) .non, Ob.dct false [], .lst []] = s12 at *
  have my := mk_ok (s := s12) (o := "who") (env := env4 (.wls (ns.map .int)) p b (some (.int c)) (some (.ref s.length)) (some (.ref s1.length)) (some (.ref (s2.length + 1)))) (fa := aCons (cst (.str "who")) (aNil)) (by simp [aCons, aNil, cst, bnd, Md.ret]) okW_who
  have B13 : Both (s12 ++ [insA "who" (s12.length + 1) (s12.length + 2) .non, .dct false [], .lst []]) p m t b k r e' bz' tl' := B12.app
  have X13 : AskAt (s12 ++ [insA "who" (s12.length + 1) (s12.length + 2) .non, .dct false [], .lst []]) "whom" s11.length (s11.length + 1) (s11.length + 2) [] none [] := X12.app
  have Y13 : AskAt (s12 ++ [insA "who" (s12.length + 1) (s12.length + 2) .non, .dct false [], .lst []]) "who" s12.length (s12.length + 1) (s12.length + 2) [] none [] :=
    ⟨by simp [bzD], by rw [List.getElem?_append_right (by omega)]; simp [kv], by rw [List.getElem?_append_right (by omega)]; simp⟩
  generalize s12 ++ [insA "who" (s12.length + 1) (s12.length + 2) .non, Ob.dct false [], .lst []] = s13 at *
  have q7 := eqA_ask X13 Y13 okW_whom okW_who WK.nil WK.nil ⟨fun t ht => (nomatch ht), by simp⟩ ⟨fun t ht => (nomatch ht), by simp⟩ id
  have nw : PyData.eqv (stP "whom" [] none []) (stP "who" [] none []) = false := by
    cases z : PyData.eqv (stP "whom" [] none []) (stP "who" [] none []) with
    | false => rfl
    | true => exact absurd (st_inj (eqv_st z)).1 (by decide +kernel)
  rw [nw] at q7
  refine ⟨s13 ++ [.lok (txs (wd [])), .lok (txs (wd []))], some (.ref s.length), some (.ref s1.length), some (.ref (s2.length + 1)), e', bz', tl', ?_, B13.app, le4⟩
  · have c5 : lb5 (env4 (.wls (ns.map .int)) p b (some (.int c)) (some (.ref s.length)) (some (.ref s1.length)) (some (.ref (s2.length + 1)))) s9 = .nx (env4 (.wls (ns.map .int)) p b (some (.int c)) (some (.ref s.length)) (some (.ref s1.length)) (some (.ref (s2.length + 1)))) (s13 ++ [.lok (txs (wd [])), .lok (txs (wd []))]) := by
      have t1 : toB (op2 (eqA "Asker" p_Asker_eq id) (vr 5) (vr 1)) (env4 (.wls (ns.map .int)) p b (some (.int c)) (some (.ref s.length)) (some (.ref s1.length)) (some (.ref (s2.length + 1)))) s9 = .ok false s10 := by
        generalize eqA "Asker" p_Asker_eq id = Q at *
        simp [toB, op2, vr, bnd, Md.ret, q6]
      have t2 : toB (callM p_l_law_right [] (aCons (vr 1) (aCons (vr 2) (aNil)))) (env4 (.wls (ns.map .int)) p b (some (.int c)) (some (.ref s.length)) (some (.ref s1.length)) (some (.ref (s2.length + 1)))) s10 = .ok true s11 := by
        simp [toB, callM, aCons, aNil, vr, bnd, Md.ret, r3]
      have mx' : mkX (env4 (.wls (ns.map .int)) p b (some (.int c)) (some (.ref s.length)) (some (.ref s1.length)) (some (.ref (s2.length + 1)))) s11 = .ok (.ref s11.length) s12 := mx
      have my' : mkY (env4 (.wls (ns.map .int)) p b (some (.int c)) (some (.ref s.length)) (some (.ref s1.length)) (some (.ref (s2.length + 1)))) s12 = .ok (.ref s12.length) s13 := my
      have t3 : toB (op2 (eqA "Asker" p_Asker_eq id) mkX mkY) (env4 (.wls (ns.map .int)) p b (some (.int c)) (some (.ref s.length)) (some (.ref s1.length)) (some (.ref (s2.length + 1)))) s11 = .ok false (s13 ++ [.lok (txs (wd [])), .lok (txs (wd []))]) := by
        generalize eqA "Asker" p_Asker_eq id = Q at *
        generalize mkX = MX at *
        generalize mkY = MY at *
        simp [toB, op2, bnd, Md.ret, mx', my', q7]
      unfold lb5 ifS Md.thn orB notB
      simp only [bnd, t1, Md.ret, Bool.not_true, Bool.false_eq_true, if_false, t2, t3]
      rfl
    unfold lbB
    simp only [seq, c0, c1, c2, c3, c4, c5]
theorem loop_ok {p m t b k r : Nat} {ns : List Int} : ∀ (ks : List Int) (s : S) (e : Kn) (bz : Option Int) (tl : List Tel) (z3 z4 z5 z6 : Option Md.D), Both s p m t b k r e bz tl → tl.length + ks.length ≤ 80 → (∀ k ∈ ks, 0 ≤ k) →
    ∃ (s' : S) (env' : Rs), forL (fun d => seq (tgS (toN 3) d) lbB) (ks.map .int) (env4 (.wls (ns.map .int)) p b z3 z4 z5 z6) s = .nx env' s'
  | [], s, _, _, _, _, _, _, _, _, _, _ => ⟨s, _, rfl⟩
  | c :: rs, s, e, bz, tl, z3, z4, z5, z6, h, l, h0 => by
    obtain ⟨s1, y4, y5, y6, e1, bz1, tl1, h1, b1, l1⟩ := turn_ok (ns := ns) h (by simp at l; omega) z4 z5 z6 c (h0 c (by simp))
    obtain ⟨s2, env2, h2⟩ := loop_ok (ns := ns) rs s1 e1 bz1 tl1 (some (.int c)) y4 y5 y6 b1 (by simp at l; omega) (fun z hz => h0 z (by simp [hz]))
    refine ⟨s2, env2, ?_⟩
    rw [List.map_cons]
    unfold forL
    have t : seq (tgS (toN 3) (.int c)) lbB (env4 (.wls (ns.map .int)) p b z3 z4 z5 z6) s = lbB (env4 (.wls (ns.map .int)) p b (some (.int c)) z4 z5 z6) s := rfl
    simp only [t, h1]
    exact h2
theorem law_all (ns : List Int) : ∃ s', p_law [.wls (ns.map .int)] [] = .ok (.bl true) s' := by
  have mk := mk_ok (s := []) (o := "who") (env := [some (.wls (ns.map .int)), none, none, none, none, none, none]) (fa := aCons (cst (.str "who")) (aNil)) (by simp [aCons, aNil, cst, bnd, Md.ret]) okW_who
  have c0 : lw0 [some (.wls (ns.map .int)), none, none, none, none, none, none] [] = .nx [some (.wls (ns.map .int)), some (.ref 0), none, none, none, none, none] [insA "who" 1 2 .non, .dct false [], .lst []] := by
    unfold lw0 asg Md.thn mkY
    rw [mk]
    rfl
  have c1 : lw1 [some (.wls (ns.map .int)), some (.ref 0), none, none, none, none, none] [insA "who" 1 2 .non, .dct false [], .lst []] = .nx (env4 (.wls (ns.map .int)) 0 5 none none none none) [insA "who" 1 2 .non, .dct false [], .lst [], .dct false [], .lst [], .dct false (bks 3 .non (.ref 4))] := by
    have md : mergeD [] [(Md.D.str "known", Md.D.ref 3), (.str "busy", .non), (.str "told", .ref 4)] = some (bks 3 .non (.ref 4)) := rfl
    simp [lw1, asg, Md.thn, dispM, dpM, nox, bnd, cst, Md.ret, dnewM, newD, new, lstE, aNil, line0, finM, dispF, md, tgS, toN]
  have b0 : Both [insA "who" 1 2 .non, .dct false [], .lst [], .dct false [], .lst [], .dct false (bks 3 .non (.ref 4))] 0 1 2 5 3 4 [] none [] :=
    ⟨⟨rfl, rfl, rfl⟩, ⟨rfl, rfl, ⟨.inr ⟨4, rfl, rfl⟩⟩⟩, rfl, by decide, WK.nil, fun y hy => (nomatch hy), fun t ht => (nomatch ht)⟩
  have r1 := right_ok b0.a b0.bo b0.w (b0.wT (by simp))
  have b1 : Both ([insA "who" 1 2 .non, .dct false [], .lst [], .dct false [], .lst [], .dct false (bks 3 .non (.ref 4))] ++ [.lst (([] : List Tel).map telD ++ [.non]), .lst []]) 0 1 2 5 3 4 [] none [] := b0.app
  generalize [insA "who" 1 2 .non, Ob.dct false [], .lst [], .dct false [], .lst [], .dct false (bks 3 .non (.ref 4))] = s0 at *
  generalize s0 ++ [.lst (([] : List Tel).map telD ++ [.non]), .lst []] = s6 at *
  have c2 : lw2 (env4 (.wls (ns.map .int)) 0 5 none none none none) s0 = .nx (env4 (.wls (ns.map .int)) 0 5 none none none none) s6 := by
    simp [lw2, ifS, Md.thn, notB, toB, callM, aCons, aNil, vr, bnd, Md.ret, r1, skp]
  obtain ⟨j, hj, ej⟩ : ∃ j : Int, j ≤ 41 ∧ itRng2 (aCons (cst (.int 1)) (aCons (callM (maxA) [] (aCons (cst (.int 9)) (aCons (callM (minI) [] (aCons (callM (lenA) [] (aCons (vr 0) (aNil))) (aCons (cst (.int 41)) (aNil)))) (aNil)))) (aNil))) (env4 (.wls (ns.map .int)) 0 5 none none none none) s6 = .ok (rngD 1 (j - 1).toNat) s6 := by
    have lz : lenA [.wls (ns.map .int)] s6 = .ok (.int ns.length) s6 := by simp [lenA, dctD, lenD, lenL, lstD]
    refine ⟨if (if (41 : Int) < ns.length then (41 : Int) else ns.length) > 9 then (if (41 : Int) < ns.length then (41 : Int) else ns.length) else 9, ?_, ?_⟩
    · split <;> (try split) <;> omega
    · have nb : (0 : Int) ≤ ns.length := Int.natCast_nonneg _
      generalize (ns.length : Int) = N at *
      have a1 : callM (minI) [] (aCons (callM (lenA) [] (aCons (vr 0) (aNil))) (aCons (cst (.int 41)) (aNil))) (env4 (.wls (ns.map .int)) 0 5 none none none none) s6 = .ok (.int (if (41 : Int) < N then (41 : Int) else N)) s6 := by
        generalize lenA = Ln at *
        simp [callM, aCons, aNil, cst, vr, bnd, Md.ret, lz, minI, two2, int2, opt]
      generalize callM (minI) [] (aCons (callM (lenA) [] (aCons (vr 0) (aNil))) (aCons (cst (.int 41)) (aNil))) = C at *
      have hM : (if (41 : Int) < N then (41 : Int) else N) ≤ 41 ∧ 0 ≤ (if (41 : Int) < N then (41 : Int) else N) := by split <;> omega
      generalize (if (41 : Int) < N then (41 : Int) else N) = M at *
      have a3 : aCons (cst (.int 1)) (aCons (callM (maxA) [] (aCons (cst (.int 9)) (aCons C (aNil)))) (aNil)) (env4 (.wls (ns.map .int)) 0 5 none none none none) s6 = .ok [.int 1, .int (if M > 9 then M else 9)] s6 := by
        simp [callM, aCons, aNil, cst, bnd, Md.ret, a1, maxA]
      have hJ : (if M > 9 then M else 9) ≤ 41 ∧ 0 ≤ (if M > 9 then M else 9) := by split <;> omega
      unfold itRng2
      simp only [bnd, a3]
      rw [if_pos ⟨by decide, by decide, by omega, by omega⟩]
      rfl
  have er : rngD 1 (j - 1).toNat = ((List.range (j - 1).toNat).map fun (n : Nat) => 1 + (n : Int)).map .int := by
    unfold rngD
    rw [List.map_map]
    rfl
  obtain ⟨s7, env7, h7⟩ := loop_ok (ns := ns) ((List.range (j - 1).toNat).map fun (n : Nat) => 1 + (n : Int)) s6 [] none [] none none none none b1 (by simp; omega) (fun z hz => by
    obtain ⟨n, _, en⟩ := List.mem_map.mp hz
    omega)
  have c3 : lw3 (env4 (.wls (ns.map .int)) 0 5 none none none none) s6 = .nx env7 s7 := by
    unfold lw3 forS Md.thn
    rw [ej, er]
    exact h7
  refine ⟨s7, ?_⟩
  unfold p_law run
  rw [lw_eq]
  show endS (seq lw0 (seq lw1 (seq lw2 (seq lw3 lw4))) [some (.wls (ns.map .int)), none, none, none, none, none, none] []) = _
  simp only [seq, c0, c1, c2, c3]
  rfl
end K51
end Md

set_option Elab.async false
set_option linter.all false
set_option maxRecDepth 100000
set_option maxHeartbeats 0
namespace Md
namespace K51
open PySem PySem.Spec PyProof.Rows L2
abbrev R : PySem.W.OpenRow := PySem.W.OpenLaw.row PySem.Challenge.rw_heldhints_k51_askers_told
abbrev hk : PySem.W.Hook := hookX 4 fa fb fn
def ob (s : PySem.W.SharedT) : He.AlD := obsXG 4 fa fb fn (HandSHeadRun.getT s)
theorem ob_eq (s : PySem.W.SharedT) : ob s = hk.obs s.abs := obsXG_eq (HandSHeadRun.getT_eq s)
def los : List Str := ["__name__", "MOST_NUMBER", "is_whole", "is_word", "is_dot", "is_known", "together", "HintError", "NoKey", "NoKnown", "NoAsker", "NoAsk", "Busy", "is_key", "Asker", "_law_pool", "_law_take", "_law_known", "_law_learnt", "_law_right", "_law_copied", "_law_step"]
theorem run_eq (w : World) : HandSHeadRun.RunEq R (PySem.W.view R.prog [26]) hk ob 4000 los w := by
  intro os
  kernel_rfl
theorem law_fn {P : Program} {w : World} {K : PySem.W.Frag} {h : Heap} {mg : Str → Option Value} {f : Addr} (X : K.In h) (G : h.Ns mainGlobals mg) (hfa : mg ("law" : Str) = some (.ref f)) (c : SaysX fa fb fn K) :
    ∃ fd : FuncData, (∀ (s : Shared) (v : Value), BindsTo s fd ⟨[v], []⟩ [("_law_script", v)]) ∧ ∀ base : Heap, K.In base → base.Ns mainGlobals mg → FnG P w K mg base (L2.CX P w) 7 f fd ["_law_script"] (spM K mg 1 p_law) := by
  have x : Fx K mg := ⟨h, X, G, c⟩
  obtain ⟨fd, F⟩ := c.d.def_ 27 (d := d_law) rfl
  have e := hfa.symm.trans (gg_law x)
  cases e
  have b := FunD.bindsA (ps := ["_law_script"]) F fun _ _ _ _ _ _ us hl => match us, hl with | [_], _ => rfl
  exact ⟨fd, fun s v => b s [v] rfl, fun base _ _ => fn_bd F s_law (r_law x)⟩
end K51
end Md
open PySem PySem.W PySem.Calls PyProof.Rows
theorem PySem.Challenge.cw_heldhints_k51_askers_told_holds : PySem.Challenge.rw_heldhints_k51_askers_told.Holds := by
  w_on; o_law
  refine HandSHeadRun.head_any (r := OpenLaw.row PySem.Challenge.rw_heldhints_k51_askers_told) (q := view (OpenLaw.row PySem.Challenge.rw_heldhints_k51_askers_told).prog [26]) (H := Md.K51.hk) (ob := Md.K51.ob) (M := 4000) (loose := Md.K51.los) (d := HandSHeadRun.topDef (OpenLaw.row PySem.Challenge.rw_heldhints_k51_askers_told).prog 26) (kwd := []) Md.K51.ob_eq
    (by kernel_rfl) (fun s => by kernel_rfl) Md.K51.run_eq (by kernel_rfl) (by kernel_rfl) (by kernel_rfl) (by rfl) (by first | assumption | decide +kernel) (by decide +kernel) ⟨rfl, rfl, rfl, rfl, rfl, by decide +kernel⟩ ?hw ?hc
  case hw => w_witness2
  case hc =>
    refine Md.walk_md (l := PySem.Challenge.rw_heldhints_k51_askers_told) (n := 63) (k := 7) (x := "_law_script") (CX := fun w => L2.CX (PySem.Challenge.rw_heldhints_k51_askers_told).prog w) rfl (by decide) (by kernel_rfl) ⟨⟨rfl, by decide, by decide⟩, rfl⟩ ?F (fun w H s e s' z => Md.cx_never _ w H s e s' z)
    intro w mg fa h Y G hmg0
    obtain ⟨K, KX, c⟩ := Y
    have hmg : mg ("law" : PySem.Str) = some (.ref fa) := by
      have e : (HandSHeadRun.topDef (OpenLaw.row PySem.Challenge.rw_heldhints_k51_askers_told).prog 26).name = ("law" : PySem.Str) := by kernel_rfl
      rw [← e]
      exact hmg0
    obtain ⟨fd, hb, hF⟩ := Md.K51.law_fn (P := (PySem.Challenge.rw_heldhints_k51_askers_told).prog) (w := w) KX G hmg c
    exact ⟨K, fd, Md.spM K mg 1 Md.K51.p_law, KX, hb, fun H a ns hl hO hS => Md.law_md (n := 63) (fun ns _ => Md.K51.law_all ns) H a ns hl hO hS, hF⟩

